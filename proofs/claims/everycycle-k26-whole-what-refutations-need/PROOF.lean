import PyProof.Rows.All
import Wide.All
import OpenK.AllK
import Wide.FinOn
import HandS.ForMost
import HandS.Deep
import HandS.TupAny
import HandS.IsInst
import KE.GoesNew
import KE.GoesMore
import KE.GoesEnum
import HandS.Strs
import HandS.SetFor
import HandS.SortKw
import KE.SortKeyHeap
import HandS.Lambda
import HandS.ExcCtx
import HandS.ExcInit
import HandS.Style
import KE.KExcSuper
import HandS.Base
import HandS.Call
import HandS.Exc
import HandS.WordsExc
import HandS.Defaults
import HandS.TryMany
import HandS.Wide
import HandS.ExcField
import HandS.EndOwn
import PySem.Challenge.RW_everycycle_k26_whole_what_refutations_ne
set_option Elab.async false
set_option linter.all false
/-! The mathematics, in plain Lean: sorted sets of ints, resolvents, lines, marks, drawn lines. -/
namespace Mi
def ins (n : Int) : List Int → List Int
  | [] => [n]
  | x :: xs => if n < x then n :: x :: xs else if n = x then x :: xs else x :: ins n xs
/-- the members, ascending, each once -/
def sst : List Int → List Int
  | [] => []
  | n :: ns => ins n (sst ns)
theorem mem_ins {n k : Int} : ∀ {l : List Int}, k ∈ ins n l ↔ k = n ∨ k ∈ l
  | [] => by simp [ins]
  | x :: xs => by
    unfold ins
    by_cases h : n < x
    · rw [if_pos h]; simp
    · rw [if_neg h]
      by_cases e : n = x
      · rw [if_pos e]; subst e; simp
      · rw [if_neg e, List.mem_cons, mem_ins (l := xs), List.mem_cons]
        constructor
        · rintro (a | a | a)
          · exact .inr (.inl a)
          · exact .inl a
          · exact .inr (.inr a)
        · rintro (a | a | a)
          · exact .inr (.inl a)
          · exact .inl a
          · exact .inr (.inr a)
theorem asc_ins {n : Int} : ∀ {l : List Int}, l.Pairwise (· < ·) → (ins n l).Pairwise (· < ·)
  | [], _ => List.pairwise_singleton _ _
  | x :: xs, h => by
    rw [List.pairwise_cons] at h
    unfold ins
    by_cases hn : n < x
    · rw [if_pos hn, List.pairwise_cons]
      refine ⟨fun y hy => ?_, by rw [List.pairwise_cons]; exact h⟩
      rcases List.mem_cons.mp hy with rfl | hy
      · exact hn
      · exact Int.lt_trans hn (h.1 y hy)
    · rw [if_neg hn]
      by_cases e : n = x
      · rw [if_pos e, List.pairwise_cons]; exact h
      · rw [if_neg e, List.pairwise_cons]
        refine ⟨fun y hy => ?_, asc_ins h.2⟩
        rcases mem_ins.mp hy with rfl | hy
        · omega
        · exact h.1 y hy
theorem mem_sst {k : Int} : ∀ {l : List Int}, k ∈ sst l ↔ k ∈ l
  | [] => by simp [sst]
  | n :: ns => by
    unfold sst
    rw [mem_ins, mem_sst, List.mem_cons]
theorem asc_sst : ∀ l : List Int, (sst l).Pairwise (· < ·)
  | [] => List.Pairwise.nil
  | n :: ns => asc_ins (asc_sst ns)
/-- ascending lists of the same members are one -/
theorem asc_unique : ∀ {a b : List Int}, a.Pairwise (· < ·) → b.Pairwise (· < ·) → (∀ k, k ∈ a ↔ k ∈ b) → a = b
  | [], [], _, _, _ => rfl
  | [], y :: ys, _, _, h => by have := (h y).mpr List.mem_cons_self; simp at this
  | x :: xs, [], _, _, h => by have := (h x).mp List.mem_cons_self; simp at this
  | x :: xs, y :: ys, ha, hb, h => by
    rw [List.pairwise_cons] at ha hb
    have e : x = y := by
      rcases List.mem_cons.mp ((h x).mp List.mem_cons_self) with e | e
      · exact e
      · rcases List.mem_cons.mp ((h y).mpr List.mem_cons_self) with e2 | e2
        · exact e2.symm
        · have h1 := hb.1 x e
          have h2 := ha.1 y e2
          omega
    subst e
    rw [asc_unique ha.2 hb.2 fun k => ?_]
    constructor
    · intro hk
      rcases List.mem_cons.mp ((h k).mp (List.mem_cons_of_mem _ hk)) with e | e
      · have := ha.1 k hk; omega
      · exact e
    · intro hk
      rcases List.mem_cons.mp ((h k).mpr (List.mem_cons_of_mem _ hk)) with e | e
      · have := hb.1 k hk; omega
      · exact e
theorem sst_of {l a : List Int} (h : a.Pairwise (· < ·)) (m : ∀ k, k ∈ a ↔ k ∈ l) : a = sst l := asc_unique h (asc_sst l) fun k => by rw [m, mem_sst]
/-- by the size of the number, stable -/
def sab (ns : List Int) : List Int := ns.mergeSort fun a b => decide ((if a < 0 then -a else a) ≤ (if b < 0 then -b else b))
theorem mem_sab {k : Int} {l : List Int} : k ∈ sab l ↔ k ∈ l := by
  unfold sab
  exact List.mem_mergeSort
end Mi

set_option Elab.async false
set_option linter.all false
set_option maxRecDepth 100000
set_option maxHeartbeats 1000000
/-! A small logic over the readings: slots hold data (tuples, scalars), lists of a def's own, dicts of a def's own, the pen. -/
namespace Lg
open PySem PySem.Spec PyProof.Rows L2

/-! ### data in the abstract heap -/
mutual
inductive Im (K : PySem.W.Frag) (H : Hp) : V → PyData → Prop
  | non : Im K H .non .none
  | bl (b : Bool) : Im K H (.bl b) (.bool b)
  | int (i : Int) : Im K H (.int i) (.int i)
  | str (x : Str) : Im K H (.str x) (.str x)
  | tup {a : Addr} {xs : List V} {ds : List PyData} : SqT K H a xs → ImA K H xs ds → Im K H (.ref a) (.tuple ds)
inductive ImA (K : PySem.W.Frag) (H : Hp) : List V → List PyData → Prop
  | nil : ImA K H [] []
  | cons {v : V} {vs : List V} {d : PyData} {ds : List PyData} : Im K H v d → ImA K H vs ds → ImA K H (v :: vs) (d :: ds)
end
def isD : HO → Bool
  | .dK _ => true
  | _ => false
abbrev Md := Option (Addr × Addr)
/-- all that was known stays, but the pen -/
def Gx (m : Md) (H H' : Hp) : Prop := ∀ b o, H b = some o → (isD o = true → ∀ c, m ≠ some (b, c)) → H' b = some o
theorem Gx.refl (m : Md) (H : Hp) : Gx m H H := fun _ _ h _ => h
theorem Gx.trans {m : Md} {H H1 H2 : Hp} (a : Gx m H H1) (b : Gx m H1 H2) : Gx m H H2 := fun x o h n => b x o (a x o h n) n
theorem Gx.of {m : Md} {H H' : Hp} (e : ∀ b o, H b = some o → H' b = some o) : Gx m H H' := fun b o h _ => e b o h
theorem Gx.same {H H' : Hp} (g : Gx none H H') : Same H H' := fun b o h => g b o h fun _ _ z => nomatch z
theorem Gx.new {m : Md} {H : Hp} {p : Addr} {o : HO} (h : H p = none) : Gx m H (upd H p o) := .of fun a u e => by
  rw [upd_ne (ne_of_none e h)]
  exact e
theorem Gx.t {m : Md} {K : PySem.W.Frag} {H H' : Hp} {a : Addr} {xs : List V} (g : Gx m H H') (h : SqT K H a xs) : SqT K H' a xs := by
  rcases h with (h | ⟨o, h⟩) | h
  · exact .inl (.inl (g _ _ h fun z => nomatch z))
  · exact .inl (.inr ⟨o, g _ _ h fun z => nomatch z⟩)
  · exact .inr h
theorem Gx.l {m : Md} {H H' : Hp} {a : Addr} {xs : List V} (g : Gx m H H') (h : H a = some (.lst xs)) : H' a = some (.lst xs) := g _ _ h fun z => nomatch z
/-- what keeps tuples keeps data -/
def TKeep (H H' : Hp) : Prop := ∀ a o, H a = some o → (∃ xs, o = .tup xs) ∨ (∃ ob u, o = .frz ob u) → H' a = some o
theorem TKeep.t {K : PySem.W.Frag} {H H' : Hp} {a : Addr} {xs : List V} (g : TKeep H H') (h : SqT K H a xs) : SqT K H' a xs := by
  rcases h with (h | ⟨o, h⟩) | h
  · exact .inl (.inl (g _ _ h (.inl ⟨_, rfl⟩)))
  · exact .inl (.inr ⟨o, g _ _ h (.inr ⟨_, _, rfl⟩)⟩)
  · exact .inr h
theorem TKeep.trans {H H1 H2 : Hp} (a : TKeep H H1) (b : TKeep H1 H2) : TKeep H H2 := fun x o h k => b x o (a x o h k) k
theorem Gx.keep {m : Md} {H H' : Hp} (g : Gx m H H') : TKeep H H' := fun a o h k => g a o h fun z => by
  rcases k with ⟨xs, rfl⟩ | ⟨ob, u, rfl⟩ <;> exact absurd (show false = true from z) Bool.false_ne_true
mutual
theorem Im.keep {K : PySem.W.Frag} {H H' : Hp} (g : TKeep H H') : ∀ (d : PyData) (v : V), Im K H v d → Im K H' v d
  | .none, _, h => by cases h; exact .non
  | .bool b, _, h => by cases h; exact .bl b
  | .int i, _, h => by cases h; exact .int i
  | .str x, _, h => by cases h; exact .str x
  | .list ds, _, h => by cases h
  | .dict ds, _, h => by cases h
  | .tuple ds, _, h => by
    cases h with
    | tup hs ha => exact .tup (g.t hs) (ImA.keep g ds _ ha)
theorem ImA.keep {K : PySem.W.Frag} {H H' : Hp} (g : TKeep H H') : ∀ (ds : List PyData) (vs : List V), ImA K H vs ds → ImA K H' vs ds
  | [], _, h => by cases h; exact .nil
  | d :: ds, _, h => by
    cases h with
    | cons h1 h2 => exact .cons (Im.keep g d _ h1) (ImA.keep g ds _ h2)
end
theorem Im.mono {m : Md} {K : PySem.W.Frag} {H H' : Hp} {v : V} {d : PyData} (h : Im K H v d) (g : Gx m H H') : Im K H' v d := Im.keep g.keep d v h
theorem ImA.mono {m : Md} {K : PySem.W.Frag} {H H' : Hp} {v : List V} {d : List PyData} (h : ImA K H v d) (g : Gx m H H') : ImA K H' v d := ImA.keep g.keep d v h
theorem ImA.length {K : PySem.W.Frag} {H : Hp} : ∀ {vs : List V} {ds : List PyData}, ImA K H vs ds → vs.length = ds.length
  | _, _, .nil => rfl
  | _, _, .cons _ t => congrArg (· + 1) (ImA.length t)
theorem ImA.get {K : PySem.W.Frag} {H : Hp} : ∀ {vs : List V} {ds : List PyData} {i : Nat} {d : PyData}, ImA K H vs ds → ds[i]? = some d → ∃ v, vs[i]? = some v ∧ Im K H v d
  | _, _, _, _, .nil, e => by simp at e
  | _, _, 0, _, .cons r _, e => by simp at e; subst e; exact ⟨_, rfl, r⟩
  | _, _, i + 1, d, .cons _ t, e => by
    obtain ⟨u, h1, h2⟩ := ImA.get (i := i) (d := d) t (by simpa using e)
    exact ⟨u, by simpa using h1, h2⟩
theorem ImA.get' {K : PySem.W.Frag} {H : Hp} : ∀ {vs : List V} {ds : List PyData} {i : Nat} {v : V}, ImA K H vs ds → vs[i]? = some v → ∃ d, ds[i]? = some d ∧ Im K H v d
  | _, _, _, _, .nil, e => by simp at e
  | _, _, 0, _, .cons r _, e => by simp at e; subst e; exact ⟨_, rfl, r⟩
  | _, _, i + 1, d, .cons _ t, e => by
    obtain ⟨u, h1, h2⟩ := ImA.get' (i := i) (v := d) t (by simpa using e)
    exact ⟨u, by simpa using h1, h2⟩
theorem ImA.snoc {K : PySem.W.Frag} {H : Hp} {v : V} {d : PyData} (h : Im K H v d) : ∀ {vs : List V} {ds : List PyData}, ImA K H vs ds → ImA K H (vs ++ [v]) (ds ++ [d])
  | _, _, .nil => .cons h .nil
  | _, _, .cons r t => .cons r (ImA.snoc h t)
theorem ImA.app {K : PySem.W.Frag} {H : Hp} {us : List V} {es : List PyData} (h : ImA K H us es) : ∀ {vs : List V} {ds : List PyData}, ImA K H vs ds → ImA K H (vs ++ us) (ds ++ es)
  | _, _, .nil => h
  | _, _, .cons r t => .cons r (ImA.app h t)
theorem ImA.set {K : PySem.W.Frag} {H : Hp} {v : V} {d : PyData} (h : Im K H v d) : ∀ {vs : List V} {ds : List PyData} (i : Nat), ImA K H vs ds → ImA K H (vs.set i v) (ds.set i d)
  | _, _, _, .nil => .nil
  | _, _, 0, .cons _ t => .cons h t
  | _, _, i + 1, .cons r t => .cons r (ImA.set h i t)
theorem ImA.take {K : PySem.W.Frag} {H : Hp} : ∀ {vs : List V} {ds : List PyData} (i : Nat), ImA K H vs ds → ImA K H (vs.take i) (ds.take i)
  | _, _, 0, _ => by simpa using .nil
  | _, _, _ + 1, .nil => .nil
  | _, _, i + 1, .cons r t => .cons r (ImA.take i t)
theorem ImA.rep {K : PySem.W.Frag} {H : Hp} {v : V} {d : PyData} (h : Im K H v d) : ∀ n, ImA K H (List.replicate n v) (List.replicate n d)
  | 0 => .nil
  | n + 1 => .cons h (ImA.rep h n)
theorem ImA.ints {K : PySem.W.Frag} {H : Hp} : ∀ (ns : List Int), ImA K H (ns.map V.int) (ns.map PyData.int)
  | [] => .nil
  | n :: ns => .cons (.int n) (ImA.ints ns)
theorem ImA.ints_inv {K : PySem.W.Frag} {H : Hp} : ∀ {ns : List Int} {vs : List V}, ImA K H vs (ns.map PyData.int) → vs = ns.map V.int
  | [], _, h => by cases h; rfl
  | n :: ns, _, h => by
    cases h with
    | cons h1 h2 =>
      cases h1
      rw [ImA.ints_inv h2]
      rfl
theorem ImA.bls_inv {K : PySem.W.Frag} {H : Hp} : ∀ {ns : List Bool} {vs : List V}, ImA K H vs (ns.map PyData.bool) → vs = ns.map V.bl
  | [], _, h => by cases h; rfl
  | n :: ns, _, h => by
    cases h with
    | cons h1 h2 =>
      cases h1
      rw [ImA.bls_inv h2]
      rfl
/-- what can be read as data now -/
def Dat (K : PySem.W.Frag) (H : Hp) (v : V) (d : PyData) : Prop := Im K H v d ∨ ∃ l xs ds, v = .ref l ∧ d = .list ds ∧ H l = some (.lst xs) ∧ ImA K H xs ds
theorem Dat.mono {m : Md} {K : PySem.W.Frag} {H H' : Hp} {v : V} {d : PyData} (h : Dat K H v d) (g : Gx m H H') : Dat K H' v d := by
  rcases h with h | ⟨l, xs, ds, e1, e2, e3, e4⟩
  · exact .inl (h.mono g)
  · exact .inr ⟨l, xs, ds, e1, e2, g.l e3, e4.mono g⟩
theorem Dat.int {K : PySem.W.Frag} {H : Hp} {v : V} {i : Int} (h : Dat K H v (.int i)) : v = .int i := by
  rcases h with h | ⟨l, xs, ds, _, e, _⟩
  · cases h; rfl
  · cases e
theorem Dat.bool {K : PySem.W.Frag} {H : Hp} {v : V} {i : Bool} (h : Dat K H v (.bool i)) : v = .bl i := by
  rcases h with h | ⟨l, xs, ds, _, e, _⟩
  · cases h; rfl
  · cases e
theorem Dat.str {K : PySem.W.Frag} {H : Hp} {v : V} {i : Str} (h : Dat K H v (.str i)) : v = .str i := by
  rcases h with h | ⟨l, xs, ds, _, e, _⟩
  · cases h; rfl
  · cases e
theorem Dat.non {K : PySem.W.Frag} {H : Hp} {v : V} (h : Dat K H v .none) : v = .non := by
  rcases h with h | ⟨l, xs, ds, _, e, _⟩
  · cases h; rfl
  · cases e
theorem Dat.tup {K : PySem.W.Frag} {H : Hp} {v : V} {ds : List PyData} (h : Dat K H v (.tuple ds)) : ∃ a xs, v = .ref a ∧ SqT K H a xs ∧ ImA K H xs ds := by
  rcases h with h | ⟨l, xs, ds, _, e, _⟩
  · cases h with
    | tup h1 h2 => exact ⟨_, _, rfl, h1, h2⟩
  · cases e
theorem Dat.lst {K : PySem.W.Frag} {H : Hp} {v : V} {ds : List PyData} (h : Dat K H v (.list ds)) : ∃ a xs, v = .ref a ∧ H a = some (.lst xs) ∧ ImA K H xs ds := by
  rcases h with h | ⟨l, xs, ds', e1, e, e3, e4⟩
  · cases h
  · cases e
    exact ⟨_, _, e1, e3, e4⟩
mutual
theorem Im.dp {K : PySem.W.Frag} {H : Hp} : ∀ (d : PyData) (v : V), Im K H v d → Dp K H v d
  | .none, _, h => by cases h; exact .non
  | .bool b, _, h => by cases h; exact .bl b
  | .int i, _, h => by cases h; exact .int i
  | .str x, _, h => by cases h; exact .str x
  | .list ds, _, h => by cases h
  | .dict ds, _, h => by cases h
  | .tuple ds, _, h => by
    cases h with
    | tup hs ha => exact .tup hs (ImA.dp ds _ ha)
theorem ImA.dp {K : PySem.W.Frag} {H : Hp} : ∀ (ds : List PyData) (vs : List V), ImA K H vs ds → DpAll K H vs ds
  | [], _, h => by cases h; exact .nil
  | d :: ds, _, h => by
    cases h with
    | cons h1 h2 => exact .cons (Im.dp d _ h1) (ImA.dp ds _ h2)
end
theorem Dat.dp {K : PySem.W.Frag} {H : Hp} {v : V} {d : PyData} (h : Dat K H v d) : Dp K H v d := by
  rcases h with h | ⟨l, xs, ds, rfl, rfl, e3, e4⟩
  · exact Im.dp d v h
  · exact .lst (SqL.of e3) (ImA.dp ds xs e4)

/-! ### the pen: a dict with the cells (at c), at, digits, count, fold. B: so many draws may still come -/
def cap : Nat := 1099511627776
def PenOk (H : Hp) (p c : Addr) (B : Nat) : Prop := ∃ (cells : List Int) (at_ dig cnt fold : Int) (kvs : List (Key × V)),
  H c = some (.lst (cells.map V.int)) ∧ cells.length ≤ 63 ∧ True ∧ H p = some (.dK kvs) ∧
  valV kvs (Sum.inr "cells") = some (.ref c) ∧ valV kvs (Sum.inr "at") = some (.int at_) ∧ valV kvs (Sum.inr "digits") = some (.int dig) ∧ valV kvs (Sum.inr "count") = some (.int cnt) ∧ valV kvs (Sum.inr "fold") = some (.int fold) ∧
  kvs.length ≤ 5 ∧ 0 ≤ at_ ∧ 0 ≤ dig ∧ True ∧ 0 ≤ cnt ∧ cnt + (B : Int) ≤ (cap : Int) ∧ 0 ≤ fold ∧ fold < 2147483648
theorem PenOk.le {H : Hp} {p c : Addr} {B B' : Nat} (h : PenOk H p c B) (hb : B' ≤ B) : PenOk H p c B' := by
  obtain ⟨cells, at_, dig, cnt, fold, kvs, h1, h2, h3, h4, h5, h6, h7, h8, h9, h10, h11, h12, h13, h14, h15, h16⟩ := h
  exact ⟨cells, at_, dig, cnt, fold, kvs, h1, h2, h3, h4, h5, h6, h7, h8, h9, h10, h11, h12, h13, h14, by omega, h16⟩
theorem PenOk.keep {H H' : Hp} {p c : Addr} {B : Nat} (h : PenOk H p c B) (hp : ∀ o, H p = some o → H' p = some o) (hc : ∀ o, H c = some o → H' c = some o) : PenOk H' p c B := by
  obtain ⟨cells, at_, dig, cnt, fold, kvs, h1, h2, h3, h4, hr⟩ := h
  exact ⟨cells, at_, dig, cnt, fold, kvs, hc _ h1, h2, h3, hp _ h4, hr⟩

/-! ### what the slots hold -/
inductive En where
  | un
  | im (d : PyData)
  | ro (d : PyData)
  | own (ds : List PyData)
  | at_ (l : Addr) (ds : List PyData)
  | dc (kvs : List (Int × Int))
  | pen
def dkv (kvs : List (Int × Int)) : List (Key × V) := kvs.map fun p => (Sum.inl p.1, V.int p.2)
def SlOk (K : PySem.W.Frag) (m : Md) (H0 H : Hp) (σ : L2.St) (i : Nat) : En → Prop
  | .un => True
  | .im d => ∃ v, σ[i]? = some (some v) ∧ Im K H v d
  | .ro d => ∃ v, σ[i]? = some (some v) ∧ (Im K H v d ∨ ∃ l xs ds, v = .ref l ∧ d = .list ds ∧ H0 l ≠ none ∧ H l = some (.lst xs) ∧ ImA K H xs ds)
  | .own ds => ∃ l xs, σ[i]? = some (some (.ref l)) ∧ H0 l = none ∧ H l = some (.lst xs) ∧ ImA K H xs ds
  | .at_ l ds => ∃ xs, σ[i]? = some (some (.ref l)) ∧ H0 l = none ∧ H l = some (.lst xs) ∧ ImA K H xs ds
  | .dc kvs => ∃ l, σ[i]? = some (some (.ref l)) ∧ H0 l = none ∧ H l = some (.dK (dkv kvs))
  | .pen => ∃ p c, σ[i]? = some (some (.ref p)) ∧ m = some (p, c)
def OwnE : En → Bool
  | .own _ => true
  | .at_ _ _ => true
  | .dc _ => true
  | _ => false
def OwnAt (Γ : List En) (σ : L2.St) (i : Nat) (a : Addr) : Prop := (∃ e, Γ[i]? = some e ∧ OwnE e = true) ∧ σ[i]? = some (some (.ref a))
abbrev Pn := Hp × List (Addr × List V)
structure Ok (K : PySem.W.Frag) (m : Md) (H0 : Hp) (P : Pn) (H : Hp) (σ : L2.St) (Γ : List En) (B : Nat) : Prop where
  len : σ.length = Γ.length
  fr : Gx m H0 H
  pen : ∀ p c, m = some (p, c) → H0 c ≠ none ∧ H0 p ≠ none ∧ PenOk H p c B
  sl : ∀ i e, Γ[i]? = some e → SlOk K m H0 H σ i e
  dis : ∀ i j a, OwnAt Γ σ i a → OwnAt Γ σ j a → i = j
  pin : ∀ q ∈ P.2, H q.1 = some (.lst q.2) ∧ ∀ i, ¬ OwnAt Γ σ i q.1
  tk : TKeep P.1 H
section
variable {K : PySem.W.Frag} {m : Md} {H0 H H' : Hp} {P : Pn} {σ : L2.St} {Γ : List En} {B B' : Nat}
theorem Ok.le (o : Ok K m H0 P H σ Γ B) (h : B' ≤ B) : Ok K m H0 P H σ Γ B' := ⟨o.len, o.fr, fun p c e => ⟨(o.pen p c e).1, (o.pen p c e).2.1, (o.pen p c e).2.2.le h⟩, o.sl, o.dis, o.pin, o.tk⟩
theorem Ok.own_new (o : Ok K m H0 P H σ Γ B) {i : Nat} {a : Addr} (h : OwnAt Γ σ i a) : H0 a = none ∧ (H a ≠ none) := by
  obtain ⟨⟨e, he, ho⟩, hs⟩ := h
  have q := o.sl i e he
  cases e with
  | own ds =>
    obtain ⟨l, xs, e1, e2, e3, _⟩ := q
    rw [e1] at hs
    cases hs
    exact ⟨e2, by rw [e3]; simp⟩
  | at_ l ds =>
    obtain ⟨xs, e1, e2, e3, _⟩ := q
    rw [e1] at hs
    cases hs
    exact ⟨e2, by rw [e3]; simp⟩
  | dc kvs =>
    obtain ⟨l, e1, e2, e3⟩ := q
    rw [e1] at hs
    cases hs
    exact ⟨e2, by rw [e3]; simp⟩
  | _ => exact absurd (show false = true from ho) Bool.false_ne_true
/-- the heap grows -/
theorem Ok.grow (o : Ok K m H0 P H σ Γ B) (g : Gx m H H') (hp : ∀ p c, m = some (p, c) → PenOk H' p c B') : Ok K m H0 P H' σ Γ B' := by
  refine ⟨o.len, o.fr.trans g, fun p c e => ⟨(o.pen p c e).1, (o.pen p c e).2.1, hp p c e⟩, fun i e he => ?_, o.dis, fun q hq => ⟨g.l (o.pin q hq).1, (o.pin q hq).2⟩, o.tk.trans g.keep⟩
  have q := o.sl i e he
  cases e with
  | un => exact True.intro
  | im d =>
    obtain ⟨v, h1, h2⟩ := q
    exact ⟨v, h1, h2.mono g⟩
  | ro d =>
    obtain ⟨v, h1, h2⟩ := q
    refine ⟨v, h1, ?_⟩
    rcases h2 with h2 | ⟨l, xs, ds, e1, e2, h2, h3, h4⟩
    · exact .inl (h2.mono g)
    · exact .inr ⟨l, xs, ds, e1, e2, h2, g.l h3, h4.mono g⟩
  | own ds =>
    obtain ⟨l, xs, h1, h2, h3, h4⟩ := q
    exact ⟨l, xs, h1, h2, g.l h3, h4.mono g⟩
  | at_ l ds =>
    obtain ⟨xs, h1, h2, h3, h4⟩ := q
    exact ⟨xs, h1, h2, g.l h3, h4.mono g⟩
  | dc kvs =>
    obtain ⟨l, h1, h2, h3⟩ := q
    refine ⟨l, h1, h2, g _ _ h3 fun _ c z => ?_⟩
    exact (o.pen l c z).2.1 h2
  | pen => exact q
theorem Ok.same (o : Ok K m H0 P H σ Γ B) (g : Same H H') : Ok K m H0 P H' σ Γ B :=
  o.grow (.of g) fun p c e => (o.pen p c e).2.2.keep (fun _ h => g _ _ h) fun _ h => g _ _ h
theorem get_set_eq {α : Type} {l : List α} {i : Nat} {a : α} (h : i < l.length) : (l.set i a)[i]? = some a := by simp [h]
theorem get_set_ne {α : Type} {l : List α} {i j : Nat} {a : α} (h : i ≠ j) : (l.set i a)[j]? = l[j]? := by simp [List.getElem?_set_ne h]
/-- a slot takes a new entry that owns nothing, the value at hand -/
theorem Ok.put (o : Ok K m H0 P H σ Γ B) {i : Nat} {x : Option V} {e : En} (hi : i < Γ.length) (hn : OwnE e = false) (h : SlOk K m H0 H (σ.set i x) i e) : Ok K m H0 P H (σ.set i x) (Γ.set i e) B := by
  have key : ∀ j a, OwnAt (Γ.set i e) (σ.set i x) j a → OwnAt Γ σ j a := fun j a ⟨⟨e', h1, h2⟩, h3⟩ => by
    by_cases hj : i = j
    · subst hj
      rw [get_set_eq hi] at h1
      cases h1
      rw [hn] at h2
      cases h2
    · rw [get_set_ne hj] at h1 h3
      exact ⟨⟨e', h1, h2⟩, h3⟩
  refine ⟨by rw [List.length_set, List.length_set]; exact o.len, o.fr, o.pen, fun j e' he => ?_, fun j k a h1 h2 => o.dis j k a (key j a h1) (key k a h2), fun q hq => ⟨(o.pin q hq).1, fun j z => (o.pin q hq).2 j (key j _ z)⟩, o.tk⟩
  by_cases hj : i = j
  · subst hj
    rw [get_set_eq hi] at he
    cases he
    exact h
  · rw [get_set_ne hj] at he
    have q := o.sl j e' he
    have e1 : (σ.set i x)[j]? = σ[j]? := get_set_ne hj
    cases e' <;> simp only [SlOk, e1] at q ⊢ <;> exact q
theorem Ok.putIm (o : Ok K m H0 P H σ Γ B) {i : Nat} {v : V} {d : PyData} (hi : i < Γ.length) (h : Im K H v d) : Ok K m H0 P H (σ.set i (some v)) (Γ.set i (.im d)) B :=
  o.put hi rfl ⟨v, get_set_eq (by rw [o.len]; exact hi), h⟩
theorem Ok.putUn (o : Ok K m H0 P H σ Γ B) {i : Nat} {x : Option V} (hi : i < Γ.length) : Ok K m H0 P H (σ.set i x) (Γ.set i .un) B := o.put hi rfl True.intro
/-- a slot takes a new list or dict of the def's own -/
theorem Ok.putOwn (o : Ok K m H0 P H σ Γ B) {i : Nat} {l : Addr} {e : En} (hi : i < Γ.length) (h : SlOk K m H0 H (σ.set i (some (.ref l))) i e) (hf : ∀ j, ¬ OwnAt Γ σ j l) (hp : ∀ q ∈ P.2, q.1 ≠ l) : Ok K m H0 P H (σ.set i (some (.ref l))) (Γ.set i e) B := by
  have hs : i < σ.length := by rw [o.len]; exact hi
  have key : ∀ j a, OwnAt (Γ.set i e) (σ.set i (some (.ref l))) j a → (i ≠ j ∧ OwnAt Γ σ j a) ∨ (i = j ∧ a = l) := fun j a ⟨⟨e', h1, h2⟩, h3⟩ => by
    by_cases hj : i = j
    · subst hj
      rw [get_set_eq hs] at h3
      cases h3
      exact .inr ⟨rfl, rfl⟩
    · rw [get_set_ne hj] at h1 h3
      exact .inl ⟨hj, ⟨e', h1, h2⟩, h3⟩
  refine ⟨by rw [List.length_set, List.length_set]; exact o.len, o.fr, o.pen, fun j e' he => ?_, fun j k a h1 h2 => ?_, fun q hq => ⟨(o.pin q hq).1, fun j z => ?_⟩, o.tk⟩
  · by_cases hj : i = j
    · subst hj
      rw [get_set_eq hi] at he
      cases he
      exact h
    · rw [get_set_ne hj] at he
      have q := o.sl j e' he
      have e1 : (σ.set i (some (.ref l)))[j]? = σ[j]? := get_set_ne hj
      cases e' <;> simp only [SlOk, e1] at q ⊢ <;> exact q
  · rcases key j a h1 with ⟨n1, z1⟩ | ⟨n1, z1⟩ <;> rcases key k a h2 with ⟨n2, z2⟩ | ⟨n2, z2⟩
    · exact o.dis j k a z1 z2
    · subst z2
      exact absurd z1 (hf j)
    · subst z1
      exact absurd z2 (hf k)
    · exact n1.symm.trans n2
  · rcases key j _ z with ⟨_, z1⟩ | ⟨_, z1⟩
    · exact (o.pin q hq).2 j z1
    · exact hp q hq z1
theorem Ok.putNew (o : Ok K m H0 P H σ Γ B) (o' : Ok K m H0 P H' σ Γ B') {i : Nat} {l : Addr} {xs : List V} {ds : List PyData} (hi : i < Γ.length) (hn : H l = none) (hl : H' l = some (.lst xs)) (ha : ImA K H' xs ds) :
    Ok K m H0 P H' (σ.set i (some (.ref l))) (Γ.set i (.own ds)) B' := by
  refine o'.putOwn hi ⟨l, xs, get_set_eq (by rw [o'.len]; exact hi), ?_, hl, ha⟩ (fun j z => (o.own_new z).2 hn) fun q hq z => ?_
  · cases e : H0 l with
    | none => rfl
    | some u =>
      by_cases hd : isD u = true ∧ ∃ c, m = some (l, c)
      · obtain ⟨_, c, hm⟩ := hd
        obtain ⟨_, _, cells, _, _, _, _, kvs, _, _, _, h4, _⟩ := o.pen l c hm
        rw [hn] at h4
        cases h4
      · have z := o.fr l u e fun h1 c h2 => hd ⟨h1, c, h2⟩
        rw [hn] at z
        cases z
  · have y := (o.pin q hq).1
    rw [z, hn] at y
    cases y
theorem fr_none (o : Ok K m H0 P H σ Γ B) {l : Addr} (hn : H l = none) : H0 l = none := by
  cases e : H0 l with
  | none => rfl
  | some u =>
    by_cases hd : isD u = true ∧ ∃ c, m = some (l, c)
    · obtain ⟨_, c, hm⟩ := hd
      obtain ⟨_, _, cells, _, _, _, _, kvs, _, _, _, h4, _⟩ := o.pen l c hm
      rw [hn] at h4
      cases h4
    · have z := o.fr l u e fun h1 c h2 => hd ⟨h1, c, h2⟩
      rw [hn] at z
      cases z
theorem Ok.putNewD (o : Ok K m H0 P H σ Γ B) {i : Nat} {l : Addr} (hi : i < Γ.length) (hn : H l = none) : Ok K m H0 P (upd H l (.dK [])) (σ.set i (some (.ref l))) (Γ.set i (.dc [])) B := by
  have o' : Ok K m H0 P (upd H l (.dK [])) σ Γ B := o.same fun b u z => by rw [upd_ne (ne_of_none z hn)]; exact z
  refine o'.putOwn hi ⟨l, get_set_eq (by rw [o'.len]; exact hi), fr_none o hn, upd_same⟩ (fun j z => (o.own_new z).2 hn) fun q hq z => ?_
  have y := (o.pin q hq).1
  rw [z, hn] at y
  cases y
/-- an own list or dict is written -/
theorem Ok.write (o : Ok K m H0 P H σ Γ B) {i : Nat} {l : Addr} {u u' : HO} {e e' : En} (he : Γ[i]? = some e) (ho : OwnE e = true) (hs : σ[i]? = some (some (.ref l))) (hl : H l = some u) (hu : (∃ xs, u = .lst xs) ∨ ∃ k, u = .dK k)
    (h : SlOk K m H0 (upd H l u') σ i e') (ho' : OwnE e' = true) : Ok K m H0 P (upd H l u') σ (Γ.set i e') B := by
  have hi : i < Γ.length := (List.getElem?_eq_some_iff.mp he).1
  have hw : OwnAt Γ σ i l := ⟨⟨e, he, ho⟩, hs⟩
  have hn0 : H0 l = none := (o.own_new hw).1
  have key : ∀ j a, OwnAt (Γ.set i e') σ j a → OwnAt Γ σ j a := fun j a ⟨⟨e2, h1, h2⟩, h3⟩ => by
    by_cases hj : i = j
    · subst hj
      exact ⟨⟨e, he, ho⟩, h3⟩
    · rw [get_set_ne hj] at h1
      exact ⟨⟨e2, h1, h2⟩, h3⟩
  have tk : TKeep H (upd H l u') := fun a o2 h1 h2 => by
    have : a ≠ l := fun z => by
      rw [z, hl] at h1
      cases h1
      rcases h2 with ⟨xs, rfl⟩ | ⟨ob, v, rfl⟩ <;> rcases hu with ⟨_, z⟩ | ⟨_, z⟩ <;> cases z
    rw [upd_ne this]
    exact h1
  refine ⟨by rw [List.length_set]; exact o.len, fun b u2 h1 h2 => ?_, fun p c hm => ?_, fun j e2 h2 => ?_, fun j k a h1 h2 => o.dis j k a (key j a h1) (key k a h2), fun q hq => ⟨?_, fun j z => (o.pin q hq).2 j (key j _ z)⟩, o.tk.trans tk⟩
  · rw [upd_ne (fun z => by rw [z, hn0] at h1; cases h1)]
    exact o.fr b u2 h1 h2
  · obtain ⟨h1, h2, h3⟩ := o.pen p c hm
    refine ⟨h1, h2, h3.keep (fun w hw => ?_) fun w hw => ?_⟩
    · rw [upd_ne (fun z => h2 (by rw [z]; exact hn0))]
      exact hw
    · rw [upd_ne (fun z => h1 (by rw [z]; exact hn0))]
      exact hw
  · by_cases hj : i = j
    · subst hj
      rw [get_set_eq hi] at h2
      cases h2
      exact h
    · rw [get_set_ne hj] at h2
      have q := o.sl j e2 h2
      cases e2 with
      | un => exact True.intro
      | im d =>
        obtain ⟨v, q1, q2⟩ := q
        exact ⟨v, q1, Im.keep tk _ _ q2⟩
      | ro d =>
        obtain ⟨v, q1, q2⟩ := q
        refine ⟨v, q1, ?_⟩
        rcases q2 with q2 | ⟨l2, xs, ds, e1, e2, q2, q3, q4⟩
        · exact .inl (Im.keep tk _ _ q2)
        · exact .inr ⟨l2, xs, ds, e1, e2, q2, by rw [upd_ne (fun z => q2 (by rw [z]; exact hn0))]; exact q3, ImA.keep tk _ _ q4⟩
      | own ds =>
        obtain ⟨l2, xs, q1, q2, q3, q4⟩ := q
        have hne : l2 ≠ l := fun z => hj (o.dis i j l hw ⟨⟨_, h2, rfl⟩, by rw [← z]; exact q1⟩)
        exact ⟨l2, xs, q1, q2, by rw [upd_ne hne]; exact q3, ImA.keep tk _ _ q4⟩
      | at_ l2 ds =>
        obtain ⟨xs, q1, q2, q3, q4⟩ := q
        have hne : l2 ≠ l := fun z => hj (o.dis i j l hw ⟨⟨_, h2, rfl⟩, by rw [← z]; exact q1⟩)
        exact ⟨xs, q1, q2, by rw [upd_ne hne]; exact q3, ImA.keep tk _ _ q4⟩
      | dc kvs =>
        obtain ⟨l2, q1, q2, q3⟩ := q
        have hne : l2 ≠ l := fun z => hj (o.dis i j l hw ⟨⟨_, h2, rfl⟩, by rw [← z]; exact q1⟩)
        exact ⟨l2, q1, q2, by rw [upd_ne hne]; exact q3⟩
      | pen => exact q
  · have y := o.pin q hq
    rw [upd_ne (fun z => y.2 i (by rw [z]; exact hw))]
    exact y.1
theorem Ok.writeL (o : Ok K m H0 P H σ Γ B) {i : Nat} {l : Addr} {xs xs' : List V} {ds ds' : List PyData} (he : Γ[i]? = some (.own ds)) (hs : σ[i]? = some (some (.ref l))) (hl : H l = some (.lst xs)) (ha : ImA K H xs' ds') :
    Ok K m H0 P (upd H l (.lst xs')) σ (Γ.set i (.own ds')) B := by
  have hw : OwnAt Γ σ i l := ⟨⟨_, he, rfl⟩, hs⟩
  refine o.write he rfl hs hl (.inl ⟨_, rfl⟩) ⟨l, xs', hs, (o.own_new hw).1, upd_same, ImA.keep (fun a o2 h1 h2 => ?_) _ _ ha⟩ rfl
  rw [upd_ne (fun z => ?_)]
  · exact h1
  · rw [z, hl] at h1
    cases h1
    rcases h2 with ⟨_, z⟩ | ⟨_, _, z⟩ <;> cases z
theorem Ok.writeA (o : Ok K m H0 P H σ Γ B) {i : Nat} {l : Addr} {xs xs' : List V} {ds ds' : List PyData} (he : Γ[i]? = some (.at_ l ds)) (hl : H l = some (.lst xs)) (ha : ImA K H xs' ds') :
    Ok K m H0 P (upd H l (.lst xs')) σ (Γ.set i (.at_ l ds')) B := by
  obtain ⟨_, hs, _⟩ := o.sl i _ he
  have hw : OwnAt Γ σ i l := ⟨⟨_, he, rfl⟩, hs⟩
  refine o.write he rfl hs hl (.inl ⟨_, rfl⟩) ⟨xs', hs, (o.own_new hw).1, upd_same, ImA.keep (fun a o2 h1 h2 => ?_) _ _ ha⟩ rfl
  rw [upd_ne (fun z => ?_)]
  · exact h1
  · rw [z, hl] at h1
    cases h1
    rcases h2 with ⟨_, z⟩ | ⟨_, _, z⟩ <;> cases z
/-- a list of ours was written by a callee -/
theorem mut_heap {K : PySem.W.Frag} {H H' : Hp} {l : Addr} {xs xs' : List V} {ds' : List PyData} (hl : H l = some (.lst xs)) (hk : ∀ b o, b ≠ l → H b = some o → H' b = some o) (hl' : H' l = some (.lst xs')) (ha : ImA K H' xs' ds') :
    ∃ H1, Same H H1 ∧ H1 l = some (.lst xs) ∧ ImA K H1 xs' ds' ∧ upd H1 l (.lst xs') = H' := by
  refine ⟨upd H' l (.lst xs), fun b o h => ?_, upd_same, ImA.keep (fun a o2 h1 h2 => ?_) _ _ ha, ?_⟩
  · by_cases hb : b = l
    · subst hb
      rw [upd_same, ← hl]
      exact h
    · rw [upd_ne hb]
      exact hk b o hb h
  · rw [upd_ne (fun z => ?_)]
    · exact h1
    · rw [z, hl'] at h1
      cases h1
      rcases h2 with ⟨_, z⟩ | ⟨_, _, z⟩ <;> cases z
  · funext b
    by_cases hb : b = l
    · subst hb
      rw [upd_same, hl']
    · rw [upd_ne hb, upd_ne hb]
theorem Ok.writeD (o : Ok K m H0 P H σ Γ B) {i : Nat} {l : Addr} {kvs kvs' : List (Int × Int)} (he : Γ[i]? = some (.dc kvs)) (hs : σ[i]? = some (some (.ref l))) (hl : H l = some (.dK (dkv kvs))) :
    Ok K m H0 P (upd H l (.dK (dkv kvs'))) σ (Γ.set i (.dc kvs')) B := by
  have hw : OwnAt Γ σ i l := ⟨⟨_, he, rfl⟩, hs⟩
  exact o.write he rfl hs hl (.inr ⟨_, rfl⟩) ⟨l, hs, (o.own_new hw).1, upd_same⟩ rfl
end
end Lg

set_option Elab.async false
set_option linter.all false
set_option maxRecDepth 100000
set_option maxHeartbeats 1000000
/-! Expressions: what they give, at what cost of draws. -/
namespace Lg
open PySem PySem.Spec PyProof.Rows L2
inductive Kd where
  | im | nw | da
def Res (K : PySem.W.Frag) (k : Kd) (H H' : Hp) (v : V) (d : PyData) : Prop := match k with
  | .im => Im K H' v d
  | .nw => ∃ l xs ds, v = .ref l ∧ d = .list ds ∧ H l = none ∧ H' l = some (.lst xs) ∧ ImA K H' xs ds
  | .da => Dat K H' v d
theorem Res.dat {K : PySem.W.Frag} {k : Kd} {H H' : Hp} {v : V} {d : PyData} (h : Res K k H H' v d) : Dat K H' v d := by
  cases k with
  | im => exact .inl h
  | nw =>
    obtain ⟨l, xs, ds, e1, e2, _, e3, e4⟩ := h
    exact .inr ⟨l, xs, ds, e1, e2, e3, e4⟩
  | da => exact h
def Is {α : Type} (a : α) : α → Prop := fun b => b = a
def Ev (K : PySem.W.Frag) (m : Md) (k : Kd) (te : TE) (Γ : List En) (c : Nat) (R : PyData → Prop) : Prop := ∀ H0 P H σ B, Ok K m H0 P H σ Γ (B + c) →
  ∀ Q : VK, (∀ v H' d, Ok K m H0 P H' σ Γ B → Gx m H H' → R d → Res K k H H' v d → Q v H') → te σ H Q
def ET (K : PySem.W.Frag) (m : Md) (tt : TT) (Γ : List En) (c : Nat) (R : Bool → Prop) : Prop := ∀ H0 P H σ B, Ok K m H0 P H σ Γ (B + c) →
  ∀ Q : Bool → Hp → Prop, (∀ b H', Ok K m H0 P H' σ Γ B → Gx m H H' → R b → Q b H') → tt σ H Q
inductive DatA (K : PySem.W.Frag) (H : Hp) : List V → List PyData → Prop
  | nil : DatA K H [] []
  | cons {v : V} {vs : List V} {d : PyData} {ds : List PyData} : Dat K H v d → DatA K H vs ds → DatA K H (v :: vs) (d :: ds)
def ResA (K : PySem.W.Frag) (k : Kd) (H' : Hp) (vs : List V) (ds : List PyData) : Prop := match k with
  | .im => ImA K H' vs ds
  | _ => DatA K H' vs ds
def EA (K : PySem.W.Frag) (m : Md) (k : Kd) (ta : TA) (Γ : List En) (c : Nat) (R : List PyData → Prop) : Prop := ∀ H0 P H σ B, Ok K m H0 P H σ Γ (B + c) →
  ∀ Q : List V → Hp → Prop, (∀ vs H' ds, Ok K m H0 P H' σ Γ B → Gx m H H' → R ds → ResA K k H' vs ds → Q vs H') → ta σ H Q
section
variable {K : PySem.W.Frag} {m : Md} {k k1 k2 k3 : Kd} {te ta tb tc : TE} {tt tu : TT} {Γ : List En} {c c1 c2 c3 : Nat} {R S1 S2 S3 : PyData → Prop}
theorem Ev.imp (h : Ev K m k te Γ c R) (q : ∀ d, R d → S1 d) : Ev K m k te Γ c S1 := fun H0 P H σ B o Q hq => h H0 P H σ B o Q fun v H' d o' g r e => hq v H' d o' g (q d r) e
theorem Ev.da (h : Ev K m k te Γ c R) : Ev K m .da te Γ c R := fun H0 P H σ B o Q hq => h H0 P H σ B o Q fun v H' d o' g r e => hq v H' d o' g r e.dat
theorem Ev.le (h : Ev K m k te Γ c R) (l : c ≤ c1) : Ev K m k te Γ c1 R := fun H0 P H σ B o Q hq => h H0 P H σ B (o.le (by omega)) Q hq
theorem Ev.to {d d' : PyData} (h : Ev K m k te Γ c (Is d)) (e : d = d') : Ev K m k te Γ c (Is d') := e ▸ h
theorem ET.imp {R S1 : Bool → Prop} (h : ET K m tt Γ c R) (q : ∀ d, R d → S1 d) : ET K m tt Γ c S1 := fun H0 P H σ B o Q hq => h H0 P H σ B o Q fun v H' o' g r => hq v H' o' g (q v r)
theorem ET.to {b b' : Bool} (h : ET K m tt Γ c (Is b)) (e : b = b') : ET K m tt Γ c (Is b') := e ▸ h
theorem ET.le {R : Bool → Prop} (h : ET K m tt Γ c R) (l : c ≤ c1) : ET K m tt Γ c1 R := fun H0 P H σ B o Q hq => h H0 P H σ B (o.le (by omega)) Q hq
/-! names, constants -/
theorem ev_im {i : Nat} {d : PyData} (h : Γ[i]? = some (.im d)) : Ev K m .im (tVar i) Γ 0 (Is d) := fun H0 P H σ B o Q q => by
  obtain ⟨v, e, r⟩ := o.sl i _ h
  exact ⟨v, e, q v H d o (Gx.refl _ _) rfl r⟩
theorem ev_ro {i : Nat} {d : PyData} (h : Γ[i]? = some (.ro d)) : Ev K m .da (tVar i) Γ 0 (Is d) := fun H0 P H σ B o Q q => by
  obtain ⟨v, e, r⟩ := o.sl i _ h
  refine ⟨_, e, q _ H _ o (Gx.refl _ _) rfl ?_⟩
  rcases r with r | ⟨l, xs, ds, e1, e2, _, r1, r2⟩
  · exact .inl r
  · exact .inr ⟨l, xs, ds, e1, e2, r1, r2⟩
theorem ev_own {i : Nat} {ds : List PyData} (h : Γ[i]? = some (.own ds)) : Ev K m .da (tVar i) Γ 0 (Is (.list ds)) := fun H0 P H σ B o Q q => by
  obtain ⟨l, xs, e, _, r1, r2⟩ := o.sl i _ h
  exact ⟨_, e, q _ H _ o (Gx.refl _ _) rfl (.inr ⟨l, xs, ds, rfl, rfl, r1, r2⟩)⟩
theorem ev_int {i : Int} : Ev K m .im (tC (.int i)) Γ 0 (Is (.int i)) := fun H0 P H σ B o Q q => q _ H _ o (Gx.refl _ _) rfl (.int i)
theorem ev_str {i : Str} : Ev K m .im (tC (.str i)) Γ 0 (Is (.str i)) := fun H0 P H σ B o Q q => q _ H _ o (Gx.refl _ _) rfl (.str i)
theorem ev_bl {i : Bool} : Ev K m .im (tC (.bl i)) Γ 0 (Is (.bool i)) := fun H0 P H σ B o Q q => q _ H _ o (Gx.refl _ _) rfl (.bl i)
theorem ev_non : Ev K m .im (tC .non) Γ 0 (Is .none) := fun H0 P H σ B o Q q => q _ H _ o (Gx.refl _ _) rfl .non
/-! operators: the general forms -/
theorem ev_op {r : R2} (ha : Ev K m k1 ta Γ c1 S1) (hb : Ev K m k2 tb Γ c2 S2)
    (hr : ∀ H x y d1 d2, S1 d1 → S2 d2 → Dat K H x d1 → Dat K H y d2 → ∀ Q : VK, (∀ z d, R d → Im K H z d → Q z H) → r x y H Q) : Ev K m .im (tOp r ta tb) Γ (c1 + c2) R := fun H0 P H σ B o Q q => by
  refine ha H0 P H σ (B + c2) (o.le (by omega)) _ fun x H1 d1 o1 g1 r1 e1 => ?_
  refine hb H0 P H1 σ B o1 _ fun y H2 d2 o2 g2 r2 e2 => ?_
  exact hr H2 x y d1 d2 r1 r2 (e1.dat.mono g2) e2.dat Q fun z d h1 h2 => q z H2 d o2 (g1.trans g2) h1 h2
/-- an operator that makes a new object -/
theorem ev_opN {r : R2} {k : Kd} (ha : Ev K m k1 ta Γ c1 S1) (hb : Ev K m k2 tb Γ c2 S2)
    (hr : ∀ H x y d1 d2, S1 d1 → S2 d2 → Dat K H x d1 → Dat K H y d2 → ∀ Q : VK, (∀ z H' d, Same H H' → R d → Res K k H H' z d → Q z H') → r x y H Q) : Ev K m k (tOp r ta tb) Γ (c1 + c2) R := fun H0 P H σ B o Q q => by
  refine ha H0 P H σ (B + c2) (o.le (by omega)) _ fun x H1 d1 o1 g1 r1 e1 => ?_
  refine hb H0 P H1 σ B o1 _ fun y H2 d2 o2 g2 r2 e2 => ?_
  refine hr H2 x y d1 d2 r1 r2 (e1.dat.mono g2) e2.dat Q fun z H3 d h0 h1 h2 => q z H3 d (o2.same h0) ((g1.trans g2).trans (.of h0)) h1 ?_
  cases k with
  | im => exact h2
  | da => exact h2
  | nw =>
    obtain ⟨l, xs, ds, e1, e2, e3, e4, e5⟩ := h2
    refine ⟨l, xs, ds, e1, e2, ?_, e4, e5⟩
    -- fresh behind is fresh ahead: all that was known stays known
    cases z : H l with
    | none => rfl
    | some u =>
      by_cases hd : isD u = true ∧ ∃ c, m = some (l, c)
      · obtain ⟨_, c, hm⟩ := hd
        obtain ⟨_, _, _, _, _, _, _, kvs, _, _, _, h4, _⟩ := o2.pen l c hm
        rw [e3] at h4
        cases h4
      · have y := (g1.trans g2) l u z fun a b w => hd ⟨a, b, w⟩
        rw [e3] at y
        cases y
theorem fresh_back {H0 H H' : Hp} {P P' : Pn} {σ : L2.St} {B : Nat} {l : Addr} (o : Ok K m H0 P H' σ Γ B) (g : Gx m H H') (h : H' l = none) : H l = none := by
  cases z : H l with
  | none => rfl
  | some u =>
    by_cases hd : isD u = true ∧ ∃ c, m = some (l, c)
    · obtain ⟨_, c, hm⟩ := hd
      obtain ⟨_, _, _, _, _, _, _, kvs, _, _, _, h4, _⟩ := o.pen l c hm
      rw [h] at h4
      cases h4
    · have y := g l u z fun a b w => hd ⟨a, b, w⟩
      rw [h] at y
      cases y
/-! ints -/
theorem ev_i0 {g : Int → Int → V} {f : PyData} {i j : Int} (ha : Ev K m k1 ta Γ c1 (Is (.int i))) (hb : Ev K m k2 tb Γ c2 (Is (.int j))) (hf : ∀ H, Im K H (g i j) f) : Ev K m .im (tOp (rI0 g) ta tb) Γ (c1 + c2) (Is f) :=
  ev_op ha hb fun H x y d1 d2 e1 e2 h1 h2 Q q => by
    subst e1 e2
    rw [h1.int, h2.int]
    exact ⟨i, j, rfl, rfl, q _ _ rfl (hf H)⟩
theorem ev_iC {C : Int → Int → Prop} {g : Int → Int → V} {f : PyData} {i j : Int} (ha : Ev K m k1 ta Γ c1 (Is (.int i))) (hb : Ev K m k2 tb Γ c2 (Is (.int j))) (hc : C i j) (hf : ∀ H, Im K H (g i j) f) : Ev K m .im (tOp (rI C g) ta tb) Γ (c1 + c2) (Is f) :=
  ev_op ha hb fun H x y d1 d2 e1 e2 h1 h2 Q q => by
    subst e1 e2
    rw [h1.int, h2.int]
    exact ⟨i, j, rfl, rfl, hc, q _ _ rfl (hf H)⟩
theorem ev_add {i j : Int} (ha : Ev K m k1 ta Γ c1 (Is (.int i))) (hb : Ev K m k2 tb Γ c2 (Is (.int j))) : Ev K m .im (tOp (rI0 fun i j => .int (i + j)) ta tb) Γ (c1 + c2) (Is (.int (i + j))) := ev_i0 ha hb fun _ => .int _
theorem ev_sub {i j : Int} (ha : Ev K m k1 ta Γ c1 (Is (.int i))) (hb : Ev K m k2 tb Γ c2 (Is (.int j))) : Ev K m .im (tOp (rI0 fun i j => .int (i - j)) ta tb) Γ (c1 + c2) (Is (.int (i - j))) := ev_i0 ha hb fun _ => .int _
theorem ev_lt {i j : Int} (ha : Ev K m k1 ta Γ c1 (Is (.int i))) (hb : Ev K m k2 tb Γ c2 (Is (.int j))) : Ev K m .im (tOp (rI0 fun i j => .bl (decide (i < j))) ta tb) Γ (c1 + c2) (Is (.bool (decide (i < j)))) := ev_i0 ha hb fun _ => .bl _
theorem ev_le {i j : Int} (ha : Ev K m k1 ta Γ c1 (Is (.int i))) (hb : Ev K m k2 tb Γ c2 (Is (.int j))) : Ev K m .im (tOp (rI0 fun i j => .bl (decide (i ≤ j))) ta tb) Γ (c1 + c2) (Is (.bool (decide (i ≤ j)))) := ev_i0 ha hb fun _ => .bl _
theorem ev_gt {i j : Int} (ha : Ev K m k1 ta Γ c1 (Is (.int i))) (hb : Ev K m k2 tb Γ c2 (Is (.int j))) : Ev K m .im (tOp (rI0 fun i j => .bl (decide (j < i))) ta tb) Γ (c1 + c2) (Is (.bool (decide (j < i)))) := ev_i0 ha hb fun _ => .bl _
theorem ev_ge {i j : Int} (ha : Ev K m k1 ta Γ c1 (Is (.int i))) (hb : Ev K m k2 tb Γ c2 (Is (.int j))) : Ev K m .im (tOp (rI0 fun i j => .bl (decide (j ≤ i))) ta tb) Γ (c1 + c2) (Is (.bool (decide (j ≤ i)))) := ev_i0 ha hb fun _ => .bl _
theorem ev_neg {i : Int} (ha : Ev K m k1 ta Γ c1 (Is (.int i))) : Ev K m .im (tUn (rU fun i => .int (-i)) ta) Γ c1 (Is (.int (-i))) := fun H0 P H σ B o Q q => by
  refine ha H0 P H σ B o _ fun x H1 d1 o1 g1 r1 e1 => ?_
  subst r1
  rw [e1.dat.int]
  exact ⟨i, rfl, q _ H1 _ o1 g1 rfl (.int _)⟩
/-! == and != of scalars; of data; is None -/
def sc : PyData → Bool
  | .none => true
  | .bool _ => true
  | .int _ => true
  | .str _ => true
  | _ => false
theorem ev_eqI {i j : Int} (ha : Ev K m k1 ta Γ c1 (Is (.int i))) (hb : Ev K m k2 tb Γ c2 (Is (.int j))) : Ev K m .im (tOp rEq ta tb) Γ (c1 + c2) (Is (.bool (decide (i = j)))) :=
  ev_op ha hb fun H x y d1 d2 e1 e2 h1 h2 Q q => by
    subst e1 e2
    rw [h1.int, h2.int]
    refine ⟨rfl, ?_⟩
    have e : decide (V.int i = V.int j) = decide (i = j) := by simp
    rw [e]
    exact q _ _ rfl (.bl _)
theorem ev_neI {i j : Int} (ha : Ev K m k1 ta Γ c1 (Is (.int i))) (hb : Ev K m k2 tb Γ c2 (Is (.int j))) : Ev K m .im (tOp rNe ta tb) Γ (c1 + c2) (Is (.bool (!decide (i = j)))) :=
  ev_op ha hb fun H x y d1 d2 e1 e2 h1 h2 Q q => by
    subst e1 e2
    rw [h1.int, h2.int]
    refine ⟨rfl, ?_⟩
    have e : decide (V.int i = V.int j) = decide (i = j) := by simp
    rw [e]
    exact q _ _ rfl (.bl _)
theorem ev_eqS {i j : Str} (ha : Ev K m k1 ta Γ c1 (Is (.str i))) (hb : Ev K m k2 tb Γ c2 (Is (.str j))) : Ev K m .im (tOp rEq ta tb) Γ (c1 + c2) (Is (.bool (decide (i = j)))) :=
  ev_op ha hb fun H x y d1 d2 e1 e2 h1 h2 Q q => by
    subst e1 e2
    rw [h1.str, h2.str]
    refine ⟨rfl, ?_⟩
    have e : decide (V.str i = V.str j) = decide (i = j) := by simp
    rw [e]
    exact q _ _ rfl (.bl _)
theorem ev_eqB {i j : Bool} (ha : Ev K m k1 ta Γ c1 (Is (.bool i))) (hb : Ev K m k2 tb Γ c2 (Is (.bool j))) : Ev K m .im (tOp rNe ta tb) Γ (c1 + c2) (Is (.bool (!decide (i = j)))) :=
  ev_op ha hb fun H x y d1 d2 e1 e2 h1 h2 Q q => by
    subst e1 e2
    rw [h1.bool, h2.bool]
    refine ⟨rfl, ?_⟩
    have e : decide (V.bl i = V.bl j) = decide (i = j) := by simp
    rw [e]
    exact q _ _ rfl (.bl _)
theorem ev_eqD {d e : PyData} (ha : Ev K m k1 ta Γ c1 (Is d)) (hb : Ev K m k2 tb Γ c2 (Is e)) (hd : SeqAt.shaped d = true) (he : SeqAt.shaped e = true) : Ev K m .im (tOp (rEqD K) ta tb) Γ (c1 + c2) (Is (.bool (PyData.eqv d e))) :=
  ev_op ha hb fun H x y d1 d2 e1 e2 h1 h2 Q q => by
    subst e1 e2
    exact ⟨_, _, h1.dp, h2.dp, hd, he, q _ _ rfl (.bl _)⟩
theorem ev_neD {d e : PyData} (ha : Ev K m k1 ta Γ c1 (Is d)) (hb : Ev K m k2 tb Γ c2 (Is e)) (hd : SeqAt.shaped d = true) (he : SeqAt.shaped e = true) : Ev K m .im (tOp (rNeD K) ta tb) Γ (c1 + c2) (Is (.bool (!PyData.eqv d e))) :=
  ev_op ha hb fun H x y d1 d2 e1 e2 h1 h2 Q q => by
    subst e1 e2
    exact ⟨_, _, h1.dp, h2.dp, hd, he, q _ _ rfl (.bl _)⟩
def isNon : PyData → Bool
  | .none => true
  | _ => false
theorem Dat.isNon {H : Hp} {v : V} {d : PyData} (h : Dat K H v d) : decide (v = .non) = isNon d := by
  rcases h with h | ⟨l, xs, ds, rfl, rfl, _, _⟩
  · cases h <;> simp [Lg.isNon]
  · simp [Lg.isNon]
theorem ev_isN {d : PyData} (ha : Ev K m k1 ta Γ c1 (Is d)) : Ev K m .im (tOp (fun x y H Q => y = .non ∧ Q (.bl (decide (x = .non))) H) ta (tC .non)) Γ c1 (Is (.bool (isNon d))) := (ev_op ha ev_non fun H x y d1 d2 e1 e2 h1 h2 Q q => by
    subst e1 e2
    rw [h1.isNon]
    exact ⟨h2.non, q _ _ rfl (.bl _)⟩)
theorem ev_notN {d : PyData} (ha : Ev K m k1 ta Γ c1 (Is d)) : Ev K m .im (tOp (fun x y H Q => y = .non ∧ Q (.bl (!decide (x = .non))) H) ta (tC .non)) Γ c1 (Is (.bool (!isNon d))) := (ev_op ha ev_non fun H x y d1 d2 e1 e2 h1 h2 Q q => by
    subst e1 e2
    rw [h1.isNon]
    exact ⟨h2.non, q _ _ rfl (.bl _)⟩)
/-! tests -/
theorem et_test {b : Bool} (h : Ev K m k te Γ c (Is (.bool b))) : ET K m (tTest te) Γ c (Is b) := fun H0 P H σ B o Q q => h H0 P H σ B o _ fun v H' d o' g r e => by
  subst r
  exact ⟨b, e.dat.bool, q b H' o' g rfl⟩
theorem et_B {b : Bool} (h : Ev K m k te Γ c (Is (.bool b))) : ET K m (tB te) Γ c (Is b) := fun H0 P H σ B o Q q => h H0 P H σ B o _ fun v H' d o' g r e => by
  subst r
  exact ⟨b, e.dat.bool, q b H' o' g rfl⟩
theorem et_and {a b : Bool} (h1 : ET K m tt Γ c1 (Is a)) (h2 : a = true → ET K m tu Γ c2 (Is b)) : ET K m (tAnd tt tu) Γ (c1 + c2) (Is (a && b)) := fun H0 P H σ B o Q q => by
  refine h1 H0 P H σ (B + c2) (o.le (by omega)) _ fun a' H1 o1 g1 r1 => ?_
  subst r1
  cases a' with
  | true =>
    show tu σ H1 Q
    exact h2 rfl H0 P H1 σ B o1 Q fun b' H2 o2 g2 r2 => by
      subst r2
      exact q _ H2 o2 (g1.trans g2) rfl
  | false =>
    show Q false H1
    exact q _ H1 (o1.le (by omega)) g1 rfl
theorem et_or {a b : Bool} (h1 : ET K m tt Γ c1 (Is a)) (h2 : a = false → ET K m tu Γ c2 (Is b)) : ET K m (tOr tt tu) Γ (c1 + c2) (Is (a || b)) := fun H0 P H σ B o Q q => by
  refine h1 H0 P H σ (B + c2) (o.le (by omega)) _ fun a' H1 o1 g1 r1 => ?_
  subst r1
  cases a' with
  | false =>
    show tu σ H1 Q
    exact h2 rfl H0 P H1 σ B o1 Q fun b' H2 o2 g2 r2 => by
      subst r2
      exact q _ H2 o2 (g1.trans g2) rfl
  | true =>
    show Q true H1
    exact q _ H1 (o1.le (by omega)) g1 rfl
theorem et_not {a : Bool} (h1 : ET K m tt Γ c1 (Is a)) : ET K m (tNot tt) Γ c1 (Is (!a)) := fun H0 P H σ B o Q q => h1 H0 P H σ B o _ fun a' H1 o1 g1 r1 => by
  subst r1
  exact q _ H1 o1 g1 rfl
theorem ev_andV {a b : Bool} (h1 : Ev K m k1 ta Γ c1 (Is (.bool a))) (h2 : a = true → Ev K m k2 tb Γ c2 (Is (.bool b))) : Ev K m .im (tAndV ta tb) Γ (c1 + c2) (Is (.bool (a && b))) := fun H0 P H σ B o Q q => by
  refine h1 H0 P H σ (B + c2) (o.le (by omega)) _ fun v H1 d o1 g1 r1 e1 => ?_
  subst r1
  refine ⟨a, e1.dat.bool, ?_⟩
  cases a with
  | true =>
    show tb σ H1 Q
    exact h2 rfl H0 P H1 σ B o1 Q fun v2 H2 d2 o2 g2 r2 e2 => by
      subst r2
      have z := e2.dat.bool
      subst z
      exact q _ H2 _ o2 (g1.trans g2) rfl (.bl _)
  | false =>
    show Q (.bl false) H1
    exact q _ H1 _ (o1.le (by omega)) g1 rfl (.bl _)
theorem ev_orV {a b : Bool} (h1 : Ev K m k1 ta Γ c1 (Is (.bool a))) (h2 : a = false → Ev K m k2 tb Γ c2 (Is (.bool b))) : Ev K m .im (tOrV ta tb) Γ (c1 + c2) (Is (.bool (a || b))) := fun H0 P H σ B o Q q => by
  refine h1 H0 P H σ (B + c2) (o.le (by omega)) _ fun v H1 d o1 g1 r1 e1 => ?_
  subst r1
  refine ⟨a, e1.dat.bool, ?_⟩
  cases a with
  | false =>
    show tb σ H1 Q
    exact h2 rfl H0 P H1 σ B o1 Q fun v2 H2 d2 o2 g2 r2 e2 => by
      subst r2
      have z := e2.dat.bool
      subst z
      exact q _ H2 _ o2 (g1.trans g2) rfl (.bl _)
  | true =>
    show Q (.bl true) H1
    exact q _ H1 _ (o1.le (by omega)) g1 rfl (.bl _)
theorem ev_notV {a : Bool} (h1 : Ev K m k1 ta Γ c1 (Is (.bool a))) : Ev K m .im (tNotV ta) Γ c1 (Is (.bool (!a))) := fun H0 P H σ B o Q q => h1 H0 P H σ B o _ fun v H1 d o1 g1 r1 e1 => by
  subst r1
  exact ⟨a, e1.dat.bool, q _ H1 _ o1 g1 rfl (.bl _)⟩
/-- a if t else b -/
theorem ev_if {b : Bool} {k : Kd} (h : ET K m tt Γ c1 (Is b)) (h1 : b = true → Ev K m k ta Γ c2 R) (h2 : b = false → Ev K m k tb Γ c2 R) : Ev K m k (tIf tt ta tb) Γ (c1 + c2) R := fun H0 P H σ B o Q q => by
  refine h H0 P H σ (B + c2) (o.le (by omega)) _ fun a' H1 o1 g1 r1 => ?_
  subst r1
  have back : ∀ {H2 : Hp} {v : V} {d : PyData}, Ok K m H0 P H2 σ Γ B → Res K k H1 H2 v d → Res K k H H2 v d := fun {H2 v d} o2 r => by
    cases k with
    | im => exact r
    | da => exact r
    | nw =>
      obtain ⟨l, xs, ds, e1, e2, e3, e4, e5⟩ := r
      exact ⟨l, xs, ds, e1, e2, fresh_back (P' := P) o1 g1 e3, e4, e5⟩
  cases a' with
  | true =>
    show ta σ H1 Q
    exact h1 rfl H0 P H1 σ B o1 Q fun v H2 d o2 g2 r2 e2 => q v H2 d o2 (g1.trans g2) r2 (back o2 e2)
  | false =>
    show tb σ H1 Q
    exact h2 rfl H0 P H1 σ B o1 Q fun v H2 d o2 g2 r2 e2 => q v H2 d o2 (g1.trans g2) r2 (back o2 e2)
/-! places -/
theorem ev_ixT {ds : List PyData} {j : Nat} {i : Int} {d : PyData} (ha : Ev K m k1 ta Γ c1 (Is (.tuple ds))) (hb : Ev K m k2 tb Γ c2 (Is (.int i))) (hi : i = (j : Int)) (h : ds[j]? = some d) : Ev K m .im (tOp (rIxT K) ta tb) Γ (c1 + c2) (Is d) :=
  ev_op ha hb fun H x y d1 d2 e1 e2 h1 h2 Q q => by
    subst e1 e2
    obtain ⟨a, xs, rfl, s, r⟩ := h1.tup
    rw [h2.int]
    obtain ⟨v, e, hv⟩ := r.get h
    exact ⟨a, xs, i, v, rfl, rfl, s, by rw [hi]; exact atI_nat e, q _ _ rfl hv⟩
theorem ev_ixL {ds : List PyData} {j : Nat} {i : Int} {d : PyData} (ha : Ev K m k1 ta Γ c1 (Is (.list ds))) (hb : Ev K m k2 tb Γ c2 (Is (.int i))) (hi : i = (j : Int)) (h : ds[j]? = some d) : Ev K m .im (tOp (rIxL K) ta tb) Γ (c1 + c2) (Is d) :=
  ev_op ha hb fun H x y d1 d2 e1 e2 h1 h2 Q q => by
    subst e1 e2
    obtain ⟨a, xs, rfl, s, r⟩ := h1.lst
    rw [h2.int]
    obtain ⟨v, e, hv⟩ := r.get h
    exact ⟨a, xs, i, v, rfl, rfl, SqL.of s, by rw [hi]; exact atI_nat e, q _ _ rfl hv⟩
/-- the last one: xs[-1] -/
theorem atI_neg1 {α : Type} {xs : List α} {v : α} (h : xs[xs.length - 1]? = some v) : atI xs (-1) = some v := by
  have h1 := (List.getElem?_eq_some_iff.mp h).1
  have e : ixN xs.length (-1) = some (xs.length - 1) := by
    unfold ixN
    rw [if_neg (by decide), if_pos (by omega)]
    congr 1
    omega
  unfold atI
  rw [e]
  exact h
theorem ev_lastT {ds : List PyData} {d : PyData} (ha : Ev K m k1 ta Γ c1 (Is (.tuple ds))) (hb : Ev K m k2 tb Γ c2 (Is (.int (-1)))) (h : ds[ds.length - 1]? = some d) : Ev K m .im (tOp (rIxT K) ta tb) Γ (c1 + c2) (Is d) :=
  ev_op ha hb fun H x y d1 d2 e1 e2 h1 h2 Q q => by
    subst e1 e2
    obtain ⟨a, xs, rfl, s, r⟩ := h1.tup
    rw [h2.int]
    obtain ⟨v, e, hv⟩ := r.get h
    exact ⟨a, xs, -1, v, rfl, rfl, s, atI_neg1 (by rw [r.length]; exact e), q _ _ rfl hv⟩
theorem ev_lastL {ds : List PyData} {d : PyData} (ha : Ev K m k1 ta Γ c1 (Is (.list ds))) (hb : Ev K m k2 tb Γ c2 (Is (.int (-1)))) (h : ds[ds.length - 1]? = some d) : Ev K m .im (tOp (rIxL K) ta tb) Γ (c1 + c2) (Is d) :=
  ev_op ha hb fun H x y d1 d2 e1 e2 h1 h2 Q q => by
    subst e1 e2
    obtain ⟨a, xs, rfl, s, r⟩ := h1.lst
    rw [h2.int]
    obtain ⟨v, e, hv⟩ := r.get h
    exact ⟨a, xs, -1, v, rfl, rfl, SqL.of s, atI_neg1 (by rw [r.length]; exact e), q _ _ rfl hv⟩
/-- a row: a tuple or a list -/
def Row (d : PyData) (ds : List PyData) : Prop := d = .tuple ds ∨ d = .list ds
theorem ev_ixR {r : PyData} {ds : List PyData} {j : Nat} {i : Int} {d : PyData} (ha : Ev K m k1 ta Γ c1 (Is r)) (hr : Row r ds) (hb : Ev K m k2 tb Γ c2 (Is (.int i))) (hi : i = (j : Int)) (h : ds[j]? = some d) : Ev K m .im (tOp (rIx K) ta tb) Γ (c1 + c2) (Is d) :=
  ev_op ha hb fun H x y d1 d2 e1 e2 h1 h2 Q q => by
    subst e1 e2
    rcases hr with rfl | rfl
    · obtain ⟨a, xs, rfl, s, r⟩ := h1.tup
      rw [h2.int]
      obtain ⟨v, e, hv⟩ := r.get h
      exact .inr (.inl ⟨a, xs, i, v, rfl, rfl, s, by rw [hi]; exact atI_nat e, q _ _ rfl hv⟩)
    · obtain ⟨a, xs, rfl, s, r⟩ := h1.lst
      rw [h2.int]
      obtain ⟨v, e, hv⟩ := r.get h
      exact .inl ⟨a, xs, i, v, rfl, rfl, SqL.of s, by rw [hi]; exact atI_nat e, q _ _ rfl hv⟩
/-! arguments -/
theorem ea_nil : EA K m k tNil Γ 0 (Is []) := fun H0 P H σ B o Q q => q [] H [] o (Gx.refl _ _) rfl (by cases k <;> first | exact ImA.nil | exact DatA.nil)
theorem DatA.mono {H H' : Hp} {vs : List V} {ds : List PyData} (h : DatA K H vs ds) (g : Gx m H H') : DatA K H' vs ds := by
  induction h with
  | nil => exact .nil
  | cons h1 _ ih => exact .cons (h1.mono g) ih
theorem ResA.mono {H H' : Hp} {vs : List V} {ds : List PyData} (h : ResA K k H vs ds) (g : Gx m H H') : ResA K k H' vs ds := by
  cases k with
  | im => exact ImA.mono h g
  | nw => exact DatA.mono h g
  | da => exact DatA.mono h g
theorem ea_consR {tr : TA} {RA RB : List PyData → Prop} (h : Ev K m k1 ta Γ c1 R) (hr : EA K m .da tr Γ c2 RA) (hi : ∀ d r, R d → RA r → RB (d :: r)) : EA K m .da (tCons ta tr) Γ (c1 + c2) RB := fun H0 P H σ B o Q q => by
  refine h H0 P H σ (B + c2) (o.le (by omega)) _ fun x H1 d1 o1 g1 r1 e1 => ?_
  refine hr H0 P H1 σ B o1 _ fun vs H2 ds o2 g2 r2 e2 => ?_
  exact q _ H2 _ o2 (g1.trans g2) (hi _ _ r1 r2) (.cons (e1.dat.mono g2) e2)
theorem ea_cons {tr : TA} {d : PyData} {ds : List PyData} (h : Ev K m k1 ta Γ c1 (Is d)) (hr : EA K m .da tr Γ c2 (Is ds)) : EA K m .da (tCons ta tr) Γ (c1 + c2) (Is (d :: ds)) := ea_consR h hr fun _ _ e1 e2 => by
  subst e1 e2
  rfl
theorem ei_consR {tr : TA} {RA RB : List PyData → Prop} (h : Ev K m .im ta Γ c1 R) (hr : EA K m .im tr Γ c2 RA) (hi : ∀ d r, R d → RA r → RB (d :: r)) : EA K m .im (tCons ta tr) Γ (c1 + c2) RB := fun H0 P H σ B o Q q => by
  refine h H0 P H σ (B + c2) (o.le (by omega)) _ fun x H1 d1 o1 g1 r1 e1 => ?_
  refine hr H0 P H1 σ B o1 _ fun vs H2 ds o2 g2 r2 e2 => ?_
  exact q _ H2 _ o2 (g1.trans g2) (hi _ _ r1 r2) (.cons (Im.mono e1 g2) e2)
theorem ei_cons {tr : TA} {d : PyData} {ds : List PyData} (h : Ev K m .im ta Γ c1 (Is d)) (hr : EA K m .im tr Γ c2 (Is ds)) : EA K m .im (tCons ta tr) Γ (c1 + c2) (Is (d :: ds)) := ei_consR h hr fun _ _ e1 e2 => by
  subst e1 e2
  rfl
theorem z_of {n : Nat} (h : n ≤ 100000) : n ≤ sizeLine := Nat.le_trans h (by decide)
theorem z_lt {n : Nat} (h : n < 100000) : n < sizeLine := Nat.lt_of_lt_of_le h (by decide)
theorem ev_tupR {t : TA} {RA : List PyData → Prop} (h : EA K m .im t Γ c RA) (hl : ∀ ds, RA ds → ds.length ≤ 100000) : Ev K m .im (tTup t) Γ c (fun d => ∃ ds, d = .tuple ds ∧ RA ds) := fun H0 P H σ B o Q q => by
  refine h H0 P H σ B o _ fun vs H1 ds o1 g1 r1 e1 => ?_
  refine ⟨by rw [ImA.length e1]; exact z_of (hl ds r1), fun p hp => ?_⟩
  have s : Same H1 (upd H1 p (.tup vs)) := fun a u z => by rw [upd_ne (ne_of_none z hp)]; exact z
  exact q _ _ _ (o1.same s) (g1.trans (.of s)) ⟨ds, rfl, r1⟩ (.tup (SqT.of upd_same) (ImA.mono e1 (m := none) (.of s)))
theorem ev_tup {t : TA} {ds : List PyData} (h : EA K m .im t Γ c (Is ds)) (hl : ds.length ≤ 100000 := by exact Nat.le_of_ble_eq_true rfl) : Ev K m .im (tTup t) Γ c (Is (.tuple ds)) := (ev_tupR h fun _ e => by subst e; exact hl).imp fun d ⟨_, e1, e2⟩ => by
  subst e2
  exact e1
theorem ev_lstR {t : TA} {RA : List PyData → Prop} (h : EA K m .im t Γ c RA) (hl : ∀ ds, RA ds → ds.length ≤ 100000) : Ev K m .nw (tLst t) Γ c (fun d => ∃ ds, d = .list ds ∧ RA ds) := fun H0 P H σ B o Q q => by
  refine h H0 P H σ B o _ fun vs H1 ds o1 g1 r1 e1 => ?_
  refine ⟨by rw [ImA.length e1]; exact z_of (hl ds r1), fun p hp => ?_⟩
  have s : Same H1 (upd H1 p (.lst vs)) := fun a u z => by rw [upd_ne (ne_of_none z hp)]; exact z
  exact q _ _ _ (o1.same s) (g1.trans (.of s)) ⟨ds, rfl, r1⟩ ⟨p, vs, ds, rfl, rfl, fresh_back (P' := P) o1 g1 hp, upd_same, ImA.mono e1 (m := none) (.of s)⟩
theorem ev_lst {t : TA} {ds : List PyData} (h : EA K m .im t Γ c (Is ds)) (hl : ds.length ≤ 100000 := by exact Nat.le_of_ble_eq_true rfl) : Ev K m .nw (tLst t) Γ c (Is (.list ds)) := (ev_lstR h fun _ e => by subst e; exact hl).imp fun d ⟨_, e1, e2⟩ => by
  subst e2
  exact e1
/-! lists: +, *; tuples: + -/
theorem ev_cat {ds es : List PyData} (ha : Ev K m k1 ta Γ c1 (Is (.list ds))) (hb : Ev K m k2 tb Γ c2 (Is (.list es))) (hl : ds.length + es.length ≤ 100000) : Ev K m .nw (tOp rCat ta tb) Γ (c1 + c2) (Is (.list (ds ++ es))) :=
  ev_opN ha hb fun H x y d1 d2 e1 e2 h1 h2 Q q => by
    subst e1 e2
    obtain ⟨a, xs, rfl, s1, r1⟩ := h1.lst
    obtain ⟨b, ys, rfl, s2, r2⟩ := h2.lst
    refine ⟨a, b, xs, ys, rfl, rfl, s1, s2, by rw [r1.length, r2.length]; exact z_of hl, fun p hp => ?_⟩
    have s : Same H (upd H p (.lst (xs ++ ys))) := fun a u z => by rw [upd_ne (ne_of_none z hp)]; exact z
    exact q _ _ _ s rfl ⟨p, _, _, rfl, rfl, hp, upd_same, (ImA.app r2 r1).mono (m := none) (.of s)⟩
theorem ev_rep {d : PyData} {n : Nat} (ha : Ev K m k1 ta Γ c1 (Is (.list [d]))) (hb : Ev K m k2 tb Γ c2 (Is (.int (n : Int)))) (hl : n ≤ 100000) : Ev K m .nw (tOp rRep ta tb) Γ (c1 + c2) (Is (.list (List.replicate n d))) :=
  ev_opN ha hb fun H x y d1 d2 e1 e2 h1 h2 Q q => by
    subst e1 e2
    obtain ⟨a, xs, rfl, s1, r1⟩ := h1.lst
    rw [h2.int]
    have e0 : (n : Int).toNat = n := Int.toNat_natCast n
    cases r1 with
    | @cons v0 _ _ _ r0 rn =>
      cases rn
      refine ⟨a, (n : Int), _, rfl, rfl, s1, by omega, by omega, by rw [e0]; exact z_of (by simp; omega), fun p hp => ?_⟩
      have s : Same H (upd H p (.lst (List.flatten (List.replicate (n : Int).toNat [v0])))) := fun a u z => by rw [upd_ne (ne_of_none z hp)]; exact z
      refine q _ _ _ s rfl ⟨p, _, _, rfl, rfl, hp, upd_same, ?_⟩
      rw [e0]
      have ef : ∀ (w : V) k, List.flatten (List.replicate k [w]) = List.replicate k w := fun w k => by
        induction k with
        | zero => rfl
        | succ k ih => rw [List.replicate_succ, List.flatten_cons, ih]; rfl
      rw [ef]
      rw [e0, ef] at s
      exact (ImA.rep r0 n).mono (m := none) (.of s)
theorem ev_catT {ds es : List PyData} (ha : Ev K m k1 ta Γ c1 (Is (.tuple ds))) (hb : Ev K m k2 tb Γ c2 (Is (.tuple es))) (hl : ds.length + es.length ≤ 100000) : Ev K m .im (tOp (rCatA K) ta tb) Γ (c1 + c2) (Is (.tuple (ds ++ es))) :=
  ev_opN ha hb fun H x y d1 d2 e1 e2 h1 h2 Q q => by
    subst e1 e2
    obtain ⟨a, xs, rfl, s1, r1⟩ := h1.tup
    obtain ⟨b, ys, rfl, s2, r2⟩ := h2.tup
    refine ⟨a, b, xs, ys, rfl, rfl, s1, s2, by rw [r1.length, r2.length]; exact z_of hl, fun e => ?_, fun _ e => ?_, fun _ _ p hp => ?_⟩
    · subst e
      cases r1
      exact q _ _ _ (Same.refl _) rfl (Im.tup s2 r2)
    · subst e
      cases r2
      exact q _ _ _ (Same.refl _) (by rw [List.append_nil]; rfl) (Im.tup s1 r1)
    · have s : Same H (upd H p (.tup (xs ++ ys))) := fun a u z => by rw [upd_ne (ne_of_none z hp)]; exact z
      exact q _ _ _ s rfl (Im.tup (SqT.of upd_same) ((ImA.app r2 r1).mono (m := none) (.of s)))
end
end Lg

set_option Elab.async false
set_option linter.all false
set_option maxRecDepth 100000
set_option maxHeartbeats 1000000
/-! Expressions, further: in, len, tuple, isinstance, any, all, abs, slices. -/
namespace Lg
open PySem PySem.Spec PyProof.Rows L2
section
variable {K : PySem.W.Frag} {m : Md} {k k1 k2 k3 : Kd} {te ta tb tc : TE} {tt tu : TT} {Γ : List En} {c c1 c2 c3 : Nat} {R S1 S2 S3 : PyData → Prop}
/-! in -/
def inD (d : PyData) (ds : List PyData) : Bool := ds.any fun z => PyData.eqv z d
theorem sc_flat {H : Hp} {v : V} {d : PyData} (h : Im K H v d) (s : sc d = true) : flatV v = true := by
  cases h <;> first | rfl | exact absurd (show false = true from s) Bool.false_ne_true
theorem eqV_eqv {H : Hp} {v w : V} {d e : PyData} (h : Im K H v d) (g : Im K H w e) (s : sc d = true) (t : sc e = true) : eqV v w = PyData.eqv d e := by
  cases h <;> cases g <;> first
    | rfl
    | exact absurd (show false = true from s) Bool.false_ne_true
    | exact absurd (show false = true from t) Bool.false_ne_true
    | (simp only [eqV, PyData.eqv])
theorem Dat.im {H : Hp} {v : V} {d : PyData} (h : Dat K H v d) (s : sc d = true) : Im K H v d := by
  rcases h with h | ⟨l, xs, ds, rfl, rfl, _, _⟩
  · exact h
  · exact absurd (show false = true from s) Bool.false_ne_true
theorem all_flat {H : Hp} : ∀ {vs : List V} {ds : List PyData}, ImA K H vs ds → ds.all sc = true → vs.all flatV = true
  | _, _, .nil, _ => rfl
  | _, _, .cons r t, h => by
    rw [List.all_cons, Bool.and_eq_true] at h
    rw [List.all_cons, sc_flat r h.1, all_flat t h.2]
    rfl
theorem inV_inD {H : Hp} {v : V} {d : PyData} (h : Im K H v d) (s : sc d = true) : ∀ {vs : List V} {ds : List PyData}, ImA K H vs ds → ds.all sc = true → inV v vs = inD d ds
  | _, _, .nil, _ => rfl
  | _, _, .cons r t, g => by
    rw [List.all_cons, Bool.and_eq_true] at g
    have ih := inV_inD h s t g.2
    unfold inV inD at ih ⊢
    rw [List.any_cons, List.any_cons, ih, eqV_eqv r h g.1 s]
theorem ev_in {neg : Bool} {d r : PyData} {ds : List PyData} (ha : Ev K m k1 ta Γ c1 (Is d)) (hb : Ev K m k2 tb Γ c2 (Is r)) (hr : Row r ds) (s : sc d = true) (g : ds.all sc = true) :
    Ev K m .im (tOp (rIn K neg) ta tb) Γ (c1 + c2) (Is (.bool (if neg then !inD d ds else inD d ds))) :=
  ev_op ha hb fun H x y d1 d2 e1 e2 h1 h2 Q q => by
    subst e1 e2
    have i1 := h1.im s
    rcases hr with rfl | rfl
    · obtain ⟨a, xs, rfl, s2, r2⟩ := h2.tup
      refine ⟨a, xs, rfl, .inr s2, sc_flat i1 s, all_flat r2 g, ?_⟩
      rw [inV_inD i1 s r2 g]
      exact q _ _ rfl (.bl _)
    · obtain ⟨a, xs, rfl, s2, r2⟩ := h2.lst
      refine ⟨a, xs, rfl, .inl (SqL.of s2), sc_flat i1 s, all_flat r2 g, ?_⟩
      rw [inV_inD i1 s r2 g]
      exact q _ _ rfl (.bl _)
theorem sc_ints (ns : List Int) : (ns.map PyData.int).all sc = true := by
  rw [List.all_eq_true]
  intro x hx
  obtain ⟨n, _, rfl⟩ := List.mem_map.mp hx
  rfl
theorem inD_ints (n : Int) (ns : List Int) : inD (.int n) (ns.map PyData.int) = decide (n ∈ ns) := by
  induction ns with
  | nil => rfl
  | cons x xs ih =>
    unfold inD at ih ⊢
    rw [List.map_cons, List.any_cons, ih]
    show (x == n || decide (n ∈ xs)) = _
    by_cases h : x = n
    · subst h; simp
    · have h1 : (x == n) = false := by simpa using h
      have h2 : ¬ n = x := fun z => h z.symm
      rw [h1, Bool.false_or]
      simp [h2]
theorem ev_inI {n : Int} {ns : List Int} {r : PyData} (ha : Ev K m k1 ta Γ c1 (Is (.int n))) (hb : Ev K m k2 tb Γ c2 (Is r)) (hr : Row r (ns.map .int)) : Ev K m .im (tOp (rIn K false) ta tb) Γ (c1 + c2) (Is (.bool (decide (n ∈ ns)))) :=
  (ev_in ha hb hr rfl (sc_ints ns)).to (by rw [inD_ints]; rfl)
theorem ev_niI {n : Int} {ns : List Int} {r : PyData} (ha : Ev K m k1 ta Γ c1 (Is (.int n))) (hb : Ev K m k2 tb Γ c2 (Is r)) (hr : Row r (ns.map .int)) : Ev K m .im (tOp (rIn K true) ta tb) Γ (c1 + c2) (Is (.bool (!decide (n ∈ ns)))) :=
  (ev_in ha hb hr rfl (sc_ints ns)).to (by rw [inD_ints]; rfl)
/-- x in l, items of any depth -/
theorem ev_inD {d : PyData} {ds : List PyData} (ha : Ev K m k1 ta Γ c1 (Is d)) (hb : Ev K m k2 tb Γ c2 (Is (.list ds))) (s : SeqAt.shaped d = true) (g : SeqAt.shaped (.list ds) = true) :
    Ev K m .im (tOp (rInD K) ta tb) Γ (c1 + c2) (Is (.bool (inD d ds))) :=
  ev_op ha hb fun H x y d1 d2 e1 e2 h1 h2 Q q => by
    subst e1 e2
    exact ⟨_, _, h1.dp, h2.dp, s, g, q _ _ rfl (.bl _)⟩
/-- l.index(x) -/
theorem ev_indexD {d z : PyData} {ds : List PyData} {j : Nat} (ha : Ev K m .da ta Γ c1 (Is (.list ds))) (hb : Ev K m k2 tb Γ c2 (Is d)) (s : SeqAt.shaped d = true) (g : SeqAt.shaped (.list ds) = true)
    (hz : ds[j]? = some z) (he : PyData.eqv z d = true) (hn : ∀ (i : Nat) (z' : PyData), i < j → ds[i]? = some z' → PyData.eqv z' d = false) :
    Ev K m .im (tBM K "list" (rIndexD K) ta (tCons tb tNil)) Γ (c1 + c2) (Is (.int (j : Nat))) := fun H0 P H σ B o Q q => by
  refine ha H0 P H σ (B + c2) (o.le (by omega)) _ fun x H1 d1 o1 g1 r1 e1 => ?_
  subst r1
  have e1' : Dat K H1 x (.list ds) := e1.dat
  obtain ⟨a, xs, rfl, s1, q1⟩ := e1'.lst
  refine ⟨.inl ⟨rfl, _, SqL.of s1⟩, ?_⟩
  refine hb H0 P H1 σ B o1 _ fun y H2 d2 o2 g2 r2 e2 => ?_
  subst r2
  exact ⟨a, y, _, ds, j, z, rfl, rfl, (e1'.mono g2).dp, e2.dat.dp, g, s, hz, he, hn, q _ H2 _ o2 (g1.trans g2) rfl (.int _)⟩
/-! calls of built-ins -/
def rLen1 (K : PySem.W.Frag) : List V → Hp → VK → Prop := fun xs H Q => ∃ p ys, xs = [.ref p] ∧ (SqL K H p ys ∨ SqT K H p ys) ∧ Q (.int ys.length) H
theorem ev_len {r : PyData} {ds : List PyData} (ha : Ev K m k1 ta Γ c1 (Is r)) (hr : Row r ds) : Ev K m .im (tCB (rLen1 K) (tCons ta tNil)) Γ c1 (Is (.int (ds.length : Int))) := fun H0 P H σ B o Q q => by
  refine ha H0 P H σ B o _ fun x H1 d1 o1 g1 r1 e1 => ?_
  subst r1
  rcases hr with rfl | rfl
  · obtain ⟨a, xs, rfl, s1, q1⟩ := e1.dat.tup
    exact ⟨a, xs, rfl, .inr s1, by rw [q1.length]; exact q _ H1 _ o1 g1 rfl (.int _)⟩
  · obtain ⟨a, xs, rfl, s1, q1⟩ := e1.dat.lst
    exact ⟨a, xs, rfl, .inl (SqL.of s1), by rw [q1.length]; exact q _ H1 _ o1 g1 rfl (.int _)⟩
def rTup1 (K : PySem.W.Frag) : List V → Hp → VK → Prop := fun xs H Q => ∃ p ys, xs = [.ref p] ∧ ((SqL K H p ys ∧ ∀ l, H l = none → Q (.ref l) (upd H l (.tup ys))) ∨ (SqT K H p ys ∧ Q (.ref p) H))
theorem ev_tupleR (ha : Ev K m k1 ta Γ c1 R) (hr : ∀ d, R d → ∃ ds, Row d ds ∧ S1 (.tuple ds)) : Ev K m .im (tCB (rTup1 K) (tCons ta tNil)) Γ c1 S1 := fun H0 P H σ B o Q q => by
  refine ha H0 P H σ B o _ fun x H1 d1 o1 g1 r1 e1 => ?_
  obtain ⟨ds, hd, hs⟩ := hr _ r1
  rcases hd with rfl | rfl
  · obtain ⟨a, xs, rfl, s1, q1⟩ := e1.dat.tup
    exact ⟨a, xs, rfl, .inr ⟨s1, q _ H1 _ o1 g1 hs (.tup s1 q1)⟩⟩
  · obtain ⟨a, xs, rfl, s1, q1⟩ := e1.dat.lst
    refine ⟨a, xs, rfl, .inl ⟨SqL.of s1, fun l hl => ?_⟩⟩
    have s : Same H1 (upd H1 l (.tup xs)) := fun a u z => by rw [upd_ne (ne_of_none z hl)]; exact z
    exact q _ _ _ (o1.same s) (g1.trans (.of s)) hs (.tup (SqT.of upd_same) (ImA.mono q1 (m := none) (.of s)))
theorem ev_tuple {r : PyData} {ds : List PyData} (ha : Ev K m k1 ta Γ c1 (Is r)) (hr : Row r ds) : Ev K m .im (tCB (rTup1 K) (tCons ta tNil)) Γ c1 (Is (.tuple ds)) := ev_tupleR ha fun d e => by
  subst e
  exact ⟨ds, hr, rfl⟩
def rLst1 (K : PySem.W.Frag) : List V → Hp → VK → Prop := fun xs H Q => ∃ p ys, xs = [.ref p] ∧ (SqL K H p ys ∨ SqT K H p ys) ∧ ∀ l, H l = none → Q (.ref l) (upd H l (.lst ys))
theorem ev_list {r : PyData} {ds : List PyData} (ha : Ev K m k1 ta Γ c1 (Is r)) (hr : Row r ds) : Ev K m .nw (tCB (rLst1 K) (tCons ta tNil)) Γ c1 (Is (.list ds)) := fun H0 P H σ B o Q q => by
  refine ha H0 P H σ B o _ fun x H1 d1 o1 g1 r1 e1 => ?_
  subst r1
  have fin : ∀ {xs : List V}, ImA K H1 xs ds → ∀ l, H1 l = none → Q (.ref l) (upd H1 l (.lst xs)) := fun {xs} q1 l hl => by
    have s : Same H1 (upd H1 l (.lst xs)) := fun a u z => by rw [upd_ne (ne_of_none z hl)]; exact z
    exact q _ _ _ (o1.same s) (g1.trans (.of s)) rfl ⟨l, xs, ds, rfl, rfl, fresh_back (P' := P) o1 g1 hl, upd_same, q1.mono (m := none) (.of s)⟩
  rcases hr with rfl | rfl
  · obtain ⟨a, xs, rfl, s1, q1⟩ := e1.dat.tup
    exact ⟨a, xs, rfl, .inr s1, fin q1⟩
  · obtain ⟨a, xs, rfl, s1, q1⟩ := e1.dat.lst
    exact ⟨a, xs, rfl, .inl (SqL.of s1), fin q1⟩
/-- isinstance -/
def tyN : PyData → String
  | .none => "NoneType"
  | .bool _ => "bool"
  | .int _ => "int"
  | .str _ => "str"
  | .list _ => "list"
  | .tuple _ => "tuple"
  | .dict _ => "dict"
theorem Dat.ty {H : Hp} {v : V} {d : PyData} (h : Dat K H v d) : TyX K H v (.type (tyN d)) := by
  rcases h with h | ⟨l, xs, ds, rfl, rfl, e, _⟩
  · cases h with
    | non => exact .base .non
    | bl b => exact .base (.bl b)
    | int i => exact .base (.int i)
    | str x => exact .base (.str x)
    | tup s _ =>
      rcases s with (s | ⟨o, s⟩) | ⟨o, its, n, e, c, _⟩
      · exact .base (.tup s)
      · exact .fTuple s
      · exact .kTuple e c
  · exact .base (.lst e)
theorem ev_isi {T : String} {d : PyData} {b : Bool} (ha : Ev K m k1 ta Γ c1 (Is d)) (h : kitB (tyN d) T = some b) : Ev K m .im (tCB (rIsi K) (tCons ta (tCons (tC (.ty T)) tNil))) Γ c1 (Is (.bool b)) := fun H0 P H σ B o Q q => by
  refine ha H0 P H σ B o _ fun x H1 d1 o1 g1 r1 e1 => ?_
  subst r1
  exact ⟨x, .ty T, _, _, b, rfl, .ty T, e1.dat.ty, kit_ty h, q _ H1 _ o1 g1 rfl (.bl _)⟩
theorem ev_isi2 {T U : String} {d : PyData} {a b : Bool} (ha : Ev K m k1 ta Γ c1 (Is d)) (h : kitB (tyN d) T = some a) (g : kitB (tyN d) U = some b) :
    Ev K m .im (tCB (rIsiT K) (tCons ta (tCons (tTup (tCons (tC (.ty T)) (tCons (tC (.ty U)) tNil))) tNil))) Γ c1 (Is (.bool (a || b))) := fun H0 P H σ B o Q q => by
  refine ha H0 P H σ B o _ fun x H1 d1 o1 g1 r1 e1 => ?_
  subst r1
  refine ⟨by show 2 ≤ sizeLine; decide, fun p hp => ?_⟩
  have s : Same H1 (upd H1 p (.tup [.ty T, .ty U])) := fun a u z => by rw [upd_ne (ne_of_none z hp)]; exact z
  refine ⟨x, p, _, _, _, a || b, rfl, upd_same, .cons (.ty T) (.cons (.ty U) .nil), (e1.dat.mono (m := none) (.of s)).ty, ?_, q _ _ _ (o1.same s) (g1.trans (.of s)) rfl (.bl _)⟩
  refine kitAny_cons (kit_ty h) (fun e => ?_) fun e => by rw [e]; rfl
  subst e
  exact kitAny_cons (kit_ty g) (fun e => by subst e; exact kitAny_nil) fun e => by rw [e]; rfl
theorem ev_any {bs : List Bool} (ha : Ev K m k1 ta Γ c1 (Is (.list (bs.map .bool)))) : Ev K m .im (tCB (rAny K) (tCons ta tNil)) Γ c1 (Is (.bool (bs.any id))) := fun H0 P H σ B o Q q => by
  refine ha H0 P H σ B o _ fun x H1 d1 o1 g1 r1 e1 => ?_
  subst r1
  obtain ⟨a, xs, rfl, s1, q1⟩ := e1.dat.lst
  rw [ImA.bls_inv q1] at s1
  exact ⟨a, bs, rfl, SqL.of s1, q _ H1 _ o1 g1 rfl (.bl _)⟩
theorem ev_all {bs : List Bool} (ha : Ev K m k1 ta Γ c1 (Is (.list (bs.map .bool)))) : Ev K m .im (tCB (rAll K) (tCons ta tNil)) Γ c1 (Is (.bool (bs.all id))) := fun H0 P H σ B o Q q => by
  refine ha H0 P H σ B o _ fun x H1 d1 o1 g1 r1 e1 => ?_
  subst r1
  obtain ⟨a, xs, rfl, s1, q1⟩ := e1.dat.lst
  rw [ImA.bls_inv q1] at s1
  exact ⟨a, bs, rfl, SqL.of s1, q _ H1 _ o1 g1 rfl (.bl _)⟩
def rAbs1 : List V → Hp → VK → Prop := fun xs H Q => ∃ i, xs = [.int i] ∧ Q (.int (if i < 0 then -i else i)) H
def iabs (i : Int) : Int := if i < 0 then -i else i
theorem ev_abs {i : Int} (ha : Ev K m k1 ta Γ c1 (Is (.int i))) : Ev K m .im (tCB rAbs1 (tCons ta tNil)) Γ c1 (Is (.int (iabs i))) := fun H0 P H σ B o Q q => by
  refine ha H0 P H σ B o _ fun x H1 d1 o1 g1 r1 e1 => ?_
  subst r1
  rw [e1.dat.int]
  exact ⟨i, rfl, q _ H1 _ o1 g1 rfl (.int _)⟩
def rInt1 : List V → Hp → VK → Prop := fun xs H Q => (∃ i, xs = [.int i] ∧ Q (.int i) H) ∨ ∃ k, xs = [.bl k] ∧ Q (.int (if k then 1 else 0)) H
theorem ev_intB {b : Bool} (ha : Ev K m k1 ta Γ c1 (Is (.bool b))) : Ev K m .im (tCB rInt1 (tCons ta tNil)) Γ c1 (Is (.int (if b then 1 else 0))) := fun H0 P H σ B o Q q => by
  refine ha H0 P H σ B o _ fun x H1 d1 o1 g1 r1 e1 => ?_
  subst r1
  rw [e1.dat.bool]
  exact .inr ⟨b, rfl, q _ H1 _ o1 g1 rfl (.int _)⟩
/-- a call of a def: its promise told by what it gives -/
theorem ev_call {sp : Sp} {dvs : List V} {E : XK} {t : TA} {RA : List PyData → Prop} (ha : EA K m k1 t Γ c1 RA)
    (h : ∀ H0 P H σ B, Ok K m H0 P H σ Γ (B + c2) → ∀ vs ds, RA ds → ResA K k1 H vs ds → ∀ Q : VK, (∀ v H' d, Ok K m H0 P H' σ Γ B → Gx m H H' → R d → Res K k H H' v d → Q v H') → sp (vs ++ dvs) H Q E) :
    Ev K m k (tCall sp dvs E t) Γ (c1 + c2) R := fun H0 P H σ B o Q q => by
  refine ha H0 P H σ (B + c2) (o.le (by omega)) _ fun vs H1 ds o1 g1 r1 e1 => ?_
  refine h H0 P H1 σ B o1 vs ds r1 e1 Q fun v H2 d o2 g2 r2 e2 => q v H2 d o2 (g1.trans g2) r2 ?_
  cases k with
  | im => exact e2
  | da => exact e2
  | nw =>
    obtain ⟨l, xs, ds, z1, z2, z3, z4, z5⟩ := e2
    exact ⟨l, xs, ds, z1, z2, fresh_back (P' := P) o1 g1 z3, z4, z5⟩
end
end Lg

set_option Elab.async false
set_option linter.all false
set_option maxRecDepth 100000
set_option maxHeartbeats 1000000
/-! Statements over slots of data; loops; comprehensions; a def's promise. -/
namespace Lg
open PySem PySem.Spec PyProof.Rows L2
abbrev Po := List En → Prop
def no : Po := fun _ => False
def Sg (K : PySem.W.Frag) (m : Md) (t : TS) (Γ : List En) (c : Nat) (N Bk Ct : Po) (Rt : Kd → PyData → List En → Prop) : Prop := ∀ H0 P H σ B (D : Ends), Ok K m H0 P H σ Γ (B + c) →
  (∀ σ' H' Γ', N Γ' → Ok K m H0 P H' σ' Γ' B → D.nx σ' H') → (∀ σ' H' Γ', Bk Γ' → Ok K m H0 P H' σ' Γ' B → D.bk σ' H') → (∀ σ' H' Γ', Ct Γ' → Ok K m H0 P H' σ' Γ' B → D.ct σ' H') →
  (∀ v H' σ' Γ' k d, Rt k d Γ' → Ok K m H0 P H' σ' Γ' B → Res K k H0 H' v d → D.rt v H') → t D σ H
section
variable {K : PySem.W.Frag} {m : Md} {k k1 k2 k3 : Kd} {te ta tb tc tv : TE} {tt : TT} {t u w : TS} {Γ : List En} {c c0 c1 c2 c3 : Nat} {R S1 : PyData → Prop} {N N1 Bk Ct : Po} {Rt : Kd → PyData → List En → Prop}
theorem Sg.imp {N' Bk' Ct' : Po} {Rt' : Kd → PyData → List En → Prop} (h : Sg K m t Γ c N Bk Ct Rt) (h1 : ∀ Γ', N Γ' → N' Γ') (h2 : ∀ Γ', Bk Γ' → Bk' Γ') (h3 : ∀ Γ', Ct Γ' → Ct' Γ') (h4 : ∀ k d Γ', Rt k d Γ' → Rt' k d Γ') : Sg K m t Γ c N' Bk' Ct' Rt' :=
  fun H0 P H σ B D o q1 q2 q3 q4 => h H0 P H σ B D o (fun _ _ _ a => q1 _ _ _ (h1 _ a)) (fun _ _ _ a => q2 _ _ _ (h2 _ a)) (fun _ _ _ a => q3 _ _ _ (h3 _ a)) fun _ _ _ _ _ _ a => q4 _ _ _ _ _ _ (h4 _ _ _ a)
theorem Sg.le (h : Sg K m t Γ c N Bk Ct Rt) (l : c ≤ c1) : Sg K m t Γ c1 N Bk Ct Rt := fun H0 P H σ B D o => h H0 P H σ B D (o.le (by omega))
theorem sg_seq (h1 : Sg K m t Γ c1 N1 Bk Ct Rt) (h2 : ∀ Γ', N1 Γ' → Sg K m u Γ' c2 N Bk Ct Rt) : Sg K m (tSeq t u) Γ (c1 + c2) N Bk Ct Rt := fun H0 P H σ B D o q1 q2 q3 q4 =>
  h1 H0 P H σ (B + c2) { D with nx := u D } (o.le (by omega)) (fun σ' H' Γ' a o' => h2 Γ' a H0 P H' σ' B D o' q1 q2 q3 q4) (fun σ' H' Γ' a o' => q2 σ' H' Γ' a (o'.le (by omega))) (fun σ' H' Γ' a o' => q3 σ' H' Γ' a (o'.le (by omega)))
    fun v H' σ' Γ' k d a o' r => q4 v H' σ' Γ' k d a (o'.le (by omega)) r
theorem sg_next (h : N Γ) : Sg K m tNext Γ 0 N Bk Ct Rt := fun H0 P H σ B D o q1 _ _ _ => q1 _ _ _ h o
theorem sg_cont (h : Ct Γ) : Sg K m tCont Γ 0 N Bk Ct Rt := fun H0 P H σ B D o _ _ q3 _ => q3 _ _ _ h o
theorem sg_brk (h : Bk Γ) : Sg K m tBreak Γ 0 N Bk Ct Rt := fun H0 P H σ B D o _ q2 _ _ => q2 _ _ _ h o
theorem Ok.rt {H0 : Hp} {P : Pn} {H : Hp} {σ : L2.St} {B : Nat} (o : Ok K m H0 P H σ Γ B) : ∀ p c, m = some (p, c) → PenOk H p c B := fun p c e => (o.pen p c e).2.2
theorem res_back {H0 : Hp} {P : Pn} {H H' : Hp} {σ : L2.St} {B : Nat} {v : V} {d : PyData} (o : Ok K m H0 P H σ Γ B) (r : Res K k H H' v d) : Res K k H0 H' v d := by
  cases k with
  | im => exact r
  | da => exact r
  | nw =>
    obtain ⟨l, xs, ds, e1, e2, e3, e4, e5⟩ := r
    exact ⟨l, xs, ds, e1, e2, fr_none o e3, e4, e5⟩
theorem sg_ret (he : Ev K m k te Γ c R) (h : ∀ d, R d → Rt k d Γ) : Sg K m (tRet te) Γ c N Bk Ct Rt := fun H0 P H σ B D o _ _ _ q4 =>
  he H0 P H σ B o _ fun v H' d o' g r e => q4 v H' σ Γ k d (h d r) o' (res_back o e)
theorem sg_retD {d : PyData} (he : Ev K m k te Γ c (Is d)) (h : Rt k d Γ) : Sg K m (tRet te) Γ c N Bk Ct Rt := sg_ret he fun _ e => e ▸ h
theorem sg_retN (h : Rt .im .none Γ) : Sg K m tRetN Γ 0 N Bk Ct Rt := fun H0 P H σ B D o _ _ _ q4 => q4 .non H σ Γ .im .none h o .non
/-- return of an own list -/
theorem sg_retOwn {i : Nat} {ds : List PyData} (h : Γ[i]? = some (.own ds)) (hr : Rt .nw (.list ds) Γ) : Sg K m (tRet (tVar i)) Γ 0 N Bk Ct Rt := fun H0 P H σ B D o _ _ _ q4 => by
  obtain ⟨l, xs, e1, e2, e3, e4⟩ := o.sl i _ h
  exact ⟨_, e1, q4 _ H σ Γ .nw _ hr o ⟨l, xs, ds, rfl, rfl, e2, e3, e4⟩⟩
theorem sg_if {b : Bool} (h : ET K m tt Γ c1 (Is b)) (h1 : b = true → Sg K m t Γ c2 N Bk Ct Rt) (h2 : b = false → Sg K m u Γ c2 N Bk Ct Rt) : Sg K m (tIfS tt t u) Γ (c1 + c2) N Bk Ct Rt := fun H0 P H σ B D o q1 q2 q3 q4 => by
  refine h H0 P H σ (B + c2) (o.le (by omega)) _ fun b' H1 o1 g r => ?_
  subst r
  cases b' with
  | true => exact h1 rfl H0 P H1 σ B D o1 q1 q2 q3 q4
  | false => exact h2 rfl H0 P H1 σ B D o1 q1 q2 q3 q4
theorem sg_ifR {Rb : Bool → Prop} (h : ET K m tt Γ c1 Rb) (h1 : Rb true → Sg K m t Γ c2 N Bk Ct Rt) (h2 : Rb false → Sg K m u Γ c2 N Bk Ct Rt) : Sg K m (tIfS tt t u) Γ (c1 + c2) N Bk Ct Rt := fun H0 P H σ B D o q1 q2 q3 q4 => by
  refine h H0 P H σ (B + c2) (o.le (by omega)) _ fun b' H1 o1 g r => ?_
  cases b' with
  | true => exact h1 r H0 P H1 σ B D o1 q1 q2 q3 q4
  | false => exact h2 r H0 P H1 σ B D o1 q1 q2 q3 q4
/-- x = e -/
theorem sg_asg {i : Nat} (he : Ev K m .im te Γ c R) (hi : i < Γ.length) (h : ∀ d, R d → N (Γ.set i (.im d))) : Sg K m (tAsg te (gName i)) Γ c N Bk Ct Rt := fun H0 P H σ B D o q1 _ _ _ =>
  he H0 P H σ B o _ fun v H' d o' g r e => q1 _ _ _ (h d r) (o'.putIm hi e)
theorem sg_asgN {i : Nat} (he : Ev K m .nw te Γ c R) (hi : i < Γ.length) (h : ∀ ds, R (.list ds) → N (Γ.set i (.own ds))) : Sg K m (tAsg te (gName i)) Γ c N Bk Ct Rt := fun H0 P H σ B D o q1 _ _ _ =>
  he H0 P H σ B o _ fun v H' d o' g r e => by
    obtain ⟨l, xs, ds, rfl, rfl, e3, e4, e5⟩ := e
    exact q1 _ _ _ (h ds r) (o.putNew o' hi e3 e4 e5)
theorem sg_asgD {i : Nat} (hi : i < Γ.length) (h : N (Γ.set i (.dc []))) : Sg K m (tAsg tDNewK (gName i)) Γ 0 N Bk Ct Rt := fun H0 P H σ B D o q1 _ _ _ p hp => q1 _ _ _ h (o.putNewD hi hp)
/-- the same with what follows -/
theorem q_asg {i : Nat} (he : Ev K m .im te Γ c1 R) (hi : i < Γ.length) (h : ∀ d, R d → Sg K m u (Γ.set i (.im d)) c2 N Bk Ct Rt) : Sg K m (tSeq (tAsg te (gName i)) u) Γ (c1 + c2) N Bk Ct Rt :=
  sg_seq (N1 := fun Γ' => ∃ d, R d ∧ Γ' = Γ.set i (.im d)) (sg_asg he hi fun d r => ⟨d, r, rfl⟩) fun Γ' ⟨d, r, e⟩ => by
    subst e
    exact h d r
theorem q_asgN {i : Nat} (he : Ev K m .nw te Γ c1 R) (hi : i < Γ.length) (h : ∀ ds, R (.list ds) → Sg K m u (Γ.set i (.own ds)) c2 N Bk Ct Rt) : Sg K m (tSeq (tAsg te (gName i)) u) Γ (c1 + c2) N Bk Ct Rt :=
  sg_seq (N1 := fun Γ' => ∃ d, R (.list d) ∧ Γ' = Γ.set i (.own d)) (sg_asgN he hi fun d r => ⟨d, r, rfl⟩) fun Γ' ⟨d, r, e⟩ => by
    subst e
    exact h d r
/-- deterministic forms -/
theorem q_set {i : Nat} {d : PyData} (he : Ev K m .im te Γ c1 (Is d)) (hi : i < Γ.length) (h : Sg K m u (Γ.set i (.im d)) c2 N Bk Ct Rt) : Sg K m (tSeq (tAsg te (gName i)) u) Γ (c1 + c2) N Bk Ct Rt := q_asg he hi fun _ e => e ▸ h
theorem q_setN {i : Nat} {ds : List PyData} (he : Ev K m .nw te Γ c1 (Is (.list ds))) (hi : i < Γ.length) (h : Sg K m u (Γ.set i (.own ds)) c2 N Bk Ct Rt) : Sg K m (tSeq (tAsg te (gName i)) u) Γ (c1 + c2) N Bk Ct Rt := q_asgN he hi fun ds' e => by
  cases e
  exact h
theorem sg_set {i : Nat} {d : PyData} (he : Ev K m .im te Γ c (Is d)) (hi : i < Γ.length) (h : N (Γ.set i (.im d))) : Sg K m (tAsg te (gName i)) Γ c N Bk Ct Rt := sg_asg he hi fun _ e => e ▸ h
theorem sg_setN {i : Nat} {ds : List PyData} (he : Ev K m .nw te Γ c (Is (.list ds))) (hi : i < Γ.length) (h : N (Γ.set i (.own ds))) : Sg K m (tAsg te (gName i)) Γ c N Bk Ct Rt := sg_asgN he hi fun ds' e => by
  cases e
  exact h
theorem q_if {b : Bool} (h : ET K m tt Γ c1 (Is b)) (h1 : b = true → Sg K m (tSeq t w) Γ c2 N Bk Ct Rt) (h2 : b = false → Sg K m (tSeq u w) Γ c2 N Bk Ct Rt) : Sg K m (tSeq (tIfS tt t u) w) Γ (c1 + c2) N Bk Ct Rt := fun H0 P H σ B D o q1 q2 q3 q4 => by
  refine h H0 P H σ (B + c2) (o.le (by omega)) _ fun b' H1 o1 g r => ?_
  subst r
  cases b' with
  | true => exact h1 rfl H0 P H1 σ B D o1 q1 q2 q3 q4
  | false => exact h2 rfl H0 P H1 σ B D o1 q1 q2 q3 q4
/-- an if without else -/
theorem q_when {b : Bool} (h : ET K m tt Γ c1 (Is b)) (h1 : b = true → Sg K m (tSeq t w) Γ c2 N Bk Ct Rt) (h2 : b = false → Sg K m w Γ c2 N Bk Ct Rt) : Sg K m (tSeq (tIfS tt t tNext) w) Γ (c1 + c2) N Bk Ct Rt :=
  q_if h h1 fun e => fun H0 P H σ B D o q1 q2 q3 q4 => h2 e H0 P H σ B D o q1 q2 q3 q4
/-- a block that ends (return, continue): what stands behind it is not come to -/
theorem q_end (h : Sg K m t Γ c no Bk Ct Rt) : Sg K m (tSeq t w) Γ c N Bk Ct Rt := fun H0 P H σ B D o q1 q2 q3 q4 => h H0 P H σ B _ o (fun _ _ _ z _ => z.elim) q2 q3 q4
theorem q_one {N' : Po} (h : Sg K m t Γ c N' Bk Ct Rt) (hs : ∀ Γ', N' Γ' → Sg K m w Γ' 0 N Bk Ct Rt) : Sg K m (tSeq t w) Γ c N Bk Ct Rt := by
  have z := sg_seq h hs
  exact z
/-- found.append(e) -/
theorem sg_app {i : Nat} {ds : List PyData} (hi : Γ[i]? = some (.own ds)) (he : Ev K m .im te Γ c R) (hl : ds.length < 100000) (h : ∀ d, R d → N (Γ.set i (.own (ds ++ [d])))) : Sg K m (tDrop (tBM K "list" rAppend (tVar i) (tCons te tNil))) Γ c N Bk Ct Rt := fun H0 P H σ B D o q1 _ _ _ => by
  obtain ⟨l, xs, e1, e2, e3, e4⟩ := o.sl i _ hi
  refine ⟨_, e1, .inl ⟨rfl, _, SqL.of e3⟩, ?_⟩
  refine he H0 P H σ B o _ fun v H' d o' g r e => ?_
  have hl' : H' l = some (.lst xs) := g.l e3
  exact ⟨l, xs, v, rfl, rfl, hl', by rw [e4.length]; exact z_lt hl, q1 _ _ _ (h d r) (o'.writeL hi e1 hl' (ImA.snoc e (e4.mono g)))⟩
theorem q_app {i : Nat} {ds : List PyData} {d : PyData} (hi : Γ[i]? = some (.own ds)) (he : Ev K m .im te Γ c1 (Is d)) (hl : ds.length < 100000) (h : Sg K m u (Γ.set i (.own (ds ++ [d]))) c2 N Bk Ct Rt) :
    Sg K m (tSeq (tDrop (tBM K "list" rAppend (tVar i) (tCons te tNil))) u) Γ (c1 + c2) N Bk Ct Rt :=
  sg_seq (N1 := fun Γ' => Γ' = Γ.set i (.own (ds ++ [d]))) (sg_app hi he hl fun _ e => by subst e; rfl) fun _ e => by subst e; exact h
theorem s_app {i : Nat} {ds : List PyData} {d : PyData} (hi : Γ[i]? = some (.own ds)) (he : Ev K m .im te Γ c (Is d)) (hl : ds.length < 100000) (h : N (Γ.set i (.own (ds ++ [d])))) :
    Sg K m (tDrop (tBM K "list" rAppend (tVar i) (tCons te tNil))) Γ c N Bk Ct Rt := sg_app hi he hl fun _ e => by subst e; exact h
/-- xs[j] = e -/
theorem sg_put {i j : Nat} {z : Int} {ds : List PyData} {d : PyData} (hi : Γ[i]? = some (.own ds)) (he : Ev K m .im te Γ c1 (Is d)) (hj : Ev K m k2 tb Γ c2 (Is (.int z))) (hz : ixN ds.length z = some j) (h : N (Γ.set i (.own (ds.set j d)))) :
    Sg K m (tAsg te (gSub (tVar i) tb rSetL)) Γ (c1 + c2) N Bk Ct Rt := fun H0 P H σ B D o q1 _ _ _ => by
  refine he H0 P H σ (B + c2) (o.le (by omega)) _ fun v H1 d1 o1 g1 r1 e1 => ?_
  subst r1
  obtain ⟨l, xs, e3, e4, e5, e6⟩ := o1.sl i _ hi
  refine ⟨_, e3, ?_⟩
  refine hj H0 P H1 σ B o1 _ fun v2 H2 d2 o2 g2 r2 e2 => ?_
  subst r2
  rw [e2.dat.int]
  have hl' : H2 l = some (.lst xs) := g2.l e5
  exact ⟨l, xs, z, j, rfl, rfl, hl', by rw [e6.length]; exact hz, q1 _ _ _ h (o2.writeL hi e3 hl' (ImA.set (Im.mono e1 g2) j (e6.mono g2)))⟩
/-- d[k] = v, an own dict of ints -/
def putI (kvs : List (Int × Int)) (k v : Int) : List (Int × Int) := if kvs.any (fun kv => decide (kv.1 = k)) then kvs.map fun kv => if kv.1 = k then (kv.1, v) else kv else kvs ++ [(k, v)]
def getI (kvs : List (Int × Int)) (k : Int) : Option Int := (kvs.find? fun kv => decide (kv.1 = k)).map (·.2)
theorem key_dec (a b : Int) : decide ((Sum.inl a : Key) = Sum.inl b) = decide (a = b) := by
  by_cases h : a = b
  · subst h; simp
  · rw [decide_eq_false h, decide_eq_false fun z => h (Sum.inl.inj z)]
theorem dkv_get (kvs : List (Int × Int)) (k : Int) : valV (dkv kvs) (Sum.inl k) = (getI kvs k).map V.int := by
  induction kvs with
  | nil => rfl
  | cons p r ih =>
    by_cases h : p.1 = k
    · have e1 : getI (p :: r) k = some p.2 := by simp [getI, List.find?_cons, h]
      rw [e1]
      exact valV_pos (p := (Sum.inl p.1, V.int p.2)) (by rw [h])
    · have e1 : getI (p :: r) k = getI r k := by simp [getI, List.find?_cons, h]
      rw [e1, ← ih]
      exact valV_neg (p := (Sum.inl p.1, V.int p.2)) fun z => h (Sum.inl.inj z)
theorem dkv_put (kvs : List (Int × Int)) (k v : Int) : putK (dkv kvs) (Sum.inl k) (V.int v) = dkv (putI kvs k v) := by
  have e : (dkv kvs).any (fun kv => decide (kv.1 = Sum.inl k)) = kvs.any (fun kv => decide (kv.1 = k)) := by
    unfold dkv
    rw [List.any_map]
    refine congrArg (fun f => kvs.any f) (funext fun p => key_dec p.1 k)
  unfold putK putI
  rw [e]
  by_cases h : kvs.any (fun kv => decide (kv.1 = k)) = true
  · rw [if_pos h, if_pos h]
    unfold dkv
    rw [List.map_map, List.map_map]
    refine List.map_congr_left fun p _ => ?_
    show (if (Sum.inl p.1 : Key) = Sum.inl k then _ else _) = _
    by_cases hp : p.1 = k
    · rw [if_pos (by rw [hp])]
      show _ = ((Sum.inl (if p.1 = k then (p.1, v) else p).1 : Key), V.int (if p.1 = k then (p.1, v) else p).2)
      rw [if_pos hp]
    · rw [if_neg fun z => hp (Sum.inl.inj z)]
      show _ = ((Sum.inl (if p.1 = k then (p.1, v) else p).1 : Key), V.int (if p.1 = k then (p.1, v) else p).2)
      rw [if_neg hp]
  · rw [if_neg h, if_neg h]
    unfold dkv
    rw [List.map_append]
    rfl
theorem sg_dput {i : Nat} {kvs : List (Int × Int)} {x z : Int} (hi : Γ[i]? = some (.dc kvs)) (he : Ev K m k1 tv Γ c1 (Is (.int x))) (hj : Ev K m k2 tb Γ c2 (Is (.int z))) (hl : kvs.length < 100000) (h : N (Γ.set i (.dc (putI kvs z x)))) :
    Sg K m (sDPut (tVar i) tb tv) Γ (c1 + c2) N Bk Ct Rt := fun H0 P H σ B D o q1 _ _ _ => by
  refine he H0 P H σ (B + c2) (o.le (by omega)) _ fun v H1 d1 o1 g1 r1 e1 => ?_
  subst r1
  obtain ⟨l, e3, e4, e5⟩ := o1.sl i _ hi
  refine ⟨_, e3, ?_⟩
  refine hj H0 P H1 σ B o1 _ fun v2 H2 d2 o2 g2 r2 e2 => ?_
  subst r2
  rw [e1.dat.int, e2.dat.int]
  obtain ⟨l', e3', e4', hl'⟩ := o2.sl i _ hi
  rw [e3] at e3'
  cases e3'
  refine ⟨l, _, rfl, DPut.k (k := Sum.inl z) hl' (by unfold dkv; rw [List.length_map]; exact z_lt hl), ?_⟩
  rw [dkv_put]
  exact q1 _ _ _ h (o2.writeD hi e3 hl')
/-- d[k] of an own dict, k in d -/
theorem ev_dget {i : Nat} {kvs : List (Int × Int)} {x z : Int} (hi : Γ[i]? = some (.dc kvs)) (hj : Ev K m k2 tb Γ c (Is (.int z))) (hx : getI kvs z = some x) : Ev K m .im (tDGet (tVar i) tb) Γ c (Is (.int x)) := fun H0 P H σ B o Q q => by
  obtain ⟨l, e3, e4, e5⟩ := o.sl i _ hi
  refine ⟨_, e3, ?_⟩
  refine hj H0 P H σ B o _ fun v2 H2 d2 o2 g2 r2 e2 => ?_
  subst r2
  rw [e2.dat.int]
  obtain ⟨l', e3', e4', hl'⟩ := o2.sl i _ hi
  rw [e3] at e3'
  cases e3'
  refine ⟨l, .int x, rfl, ?_, q _ H2 _ o2 g2 rfl (.int _)⟩
  have d := DGet.k (k := Sum.inl z) hl'
  rw [dkv_get, hx] at d
  exact d
theorem ev_din {i : Nat} {kvs : List (Int × Int)} {z : Int} (hi : Γ[i]? = some (.dc kvs)) (hj : Ev K m k2 tb Γ c (Is (.int z))) : Ev K m .im (tDIn tb (tVar i)) Γ c (Is (.bool (getI kvs z).isSome)) := fun H0 P H σ B o Q q => by
  refine hj H0 P H σ B o _ fun v2 H2 d2 o2 g2 r2 e2 => ?_
  subst r2
  rw [e2.dat.int]
  obtain ⟨l', e3', e4', hl'⟩ := o2.sl i _ hi
  refine ⟨_, e3', ?_⟩
  have d := DGet.k (k := Sum.inl z) hl'
  rw [dkv_get] at d
  refine ⟨l', _, rfl, d, ?_⟩
  rw [Option.isSome_map]
  exact q _ H2 _ o2 g2 rfl (.bl _)
/-! a, b = e (e a tuple) -/
theorem sg_asg2 {i j : Nat} (he : Ev K m .im te Γ c R) (hi : i < Γ.length) (hj : j < Γ.length) (h : ∀ d, R d → ∃ x y, d = .tuple [x, y] ∧ N ((Γ.set i (.im x)).set j (.im y))) : Sg K m (tAsg te (gTup K 2 (gCons (gName i) (gCons (gName j) gNil)))) Γ c N Bk Ct Rt := fun H0 P H σ B D o q1 _ _ _ =>
  he H0 P H σ B o _ fun v H' d o' g r e => by
    obtain ⟨x, y, rfl, hn⟩ := h d r
    obtain ⟨a, xs, rfl, s, q⟩ := (show Dat K H' v _ from .inl e).tup
    cases q with
    | cons q1' q2 =>
      cases q2 with
      | cons q2' q3 =>
        cases q3
        refine ⟨a, _, rfl, s, rfl, _, _, rfl, _, _, rfl, rfl, ?_⟩
        exact q1 _ _ _ hn ((o'.putIm hi q1').putIm (by rw [List.length_set]; exact hj) q2')
/-! pins -/
theorem Ok.pinNew {H0 : Hp} {P : Pn} {H H' : Hp} {σ : L2.St} {B B' : Nat} {l : Addr} {xs : List V} (o : Ok K m H0 P H σ Γ B) (o' : Ok K m H0 P H' σ Γ B') (hn : H l = none) (hl : H' l = some (.lst xs)) : Ok K m H0 (P.1, (l, xs) :: P.2) H' σ Γ B' :=
  ⟨o'.len, o'.fr, o'.pen, o'.sl, o'.dis, fun q hq => by
    rcases List.mem_cons.mp hq with rfl | hq
    · exact ⟨hl, fun i z => (o.own_new z).2 hn⟩
    · exact o'.pin q hq, o'.tk⟩
theorem Ok.unpin {H0 : Hp} {P : Pn} {H : Hp} {σ : L2.St} {B : Nat} {q : Addr × List V} (o : Ok K m H0 (P.1, q :: P.2) H σ Γ B) : Ok K m H0 P H σ Γ B :=
  ⟨o.len, o.fr, o.pen, o.sl, o.dis, fun r hr => o.pin r (List.mem_cons_of_mem _ hr), o.tk⟩
/-- the tuples that stand now -/
theorem Ok.now {H0 : Hp} {P : Pn} {H : Hp} {σ : L2.St} {B : Nat} (o : Ok K m H0 P H σ Γ B) : Ok K m H0 (H, P.2) H σ Γ B := ⟨o.len, o.fr, o.pen, o.sl, o.dis, o.pin, fun _ _ z _ => z⟩
theorem Ok.then {H0 : Hp} {P : Pn} {H H1 : Hp} {σ σ' : L2.St} {Γ' : List En} {B B' : Nat} (o : Ok K m H0 P H1 σ Γ B) (o' : Ok K m H0 (H1, P.2) H σ' Γ' B') : Ok K m H0 P H σ' Γ' B' := ⟨o'.len, o'.fr, o'.pen, o'.sl, o'.dis, o'.pin, o.tk.trans o'.tk⟩
/-! for -/
theorem ImA.at {H : Hp} {vs : List V} {ds : List PyData} {i : Nat} {v : V} (h : ImA K H vs ds) (e : vs[i]? = some v) : ∃ d, ds[i]? = some d ∧ Im K H v d := ImA.get' h e
/-- for x in t (a tuple) -/
theorem sg_forT {j : Nat} {ds : List PyData} (he : Ev K m k te Γ c0 (Is (.tuple ds))) (I : Nat → Po) (cb : Nat) (h0 : I 0 Γ)
    (hs : ∀ i d Γ', ds[i]? = some d → I i Γ' → j < Γ'.length ∧ Sg K m t (Γ'.set j (.im d)) cb (I (i + 1)) N (I (i + 1)) Rt) (hd : ∀ Γ', I ds.length Γ' → N Γ') :
    Sg K m (tFor (iTup K te) (gName j) t) Γ (c0 + ds.length * cb) N Bk Ct Rt := fun H0 P H σ B D o q1 q2 q3 q4 => by
  refine he H0 P H σ (B + ds.length * cb) (o.le (by omega)) _ fun v H1 d o1 g r e => ?_
  subst r
  obtain ⟨a, xs, rfl, s, q⟩ := e.dat.tup
  have hlen := q.length
  refine ⟨a, rfl, ⟨xs, s⟩, for_tup (K := K) (a := a) (xs := xs) (fun i σ' H' => ∃ Γ', I i Γ' ∧ Ok K m H0 (H1, P.2) H' σ' Γ' (B + (ds.length - i) * cb)) ⟨Γ, h0, by simpa using o1.now⟩ (fun i σ' H' _ ⟨_, _, o'⟩ => o'.tk.t s) ?_ ?_⟩
  · rintro i x σ' H' hx ⟨Γ', hI, o'⟩
    obtain ⟨d, hd', hx'⟩ := q.at hx
    have hi : i < ds.length := (List.getElem?_eq_some_iff.mp hd').1
    obtain ⟨hjl, sb⟩ := hs i d Γ' hd' hI
    have ec : (ds.length - i) * cb = (ds.length - (i + 1)) * cb + cb := by
      have : ds.length - i = (ds.length - (i + 1)) + 1 := by omega
      rw [this, Nat.add_mul, Nat.one_mul]
    rw [ec, ← Nat.add_assoc] at o'
    have o2 := o'.putIm hjl (Im.keep o'.tk _ _ hx')
    exact sb H0 (H1, P.2) H' (σ'.set j (some x)) (B + (ds.length - (i + 1)) * cb) _ o2 (fun σ2 H2 Γ2 a2 o3 => ⟨Γ2, a2, o3⟩) (fun σ2 H2 Γ2 a2 o3 => q1 σ2 H2 Γ2 a2 ((o1.then o3).le (by omega))) (fun σ2 H2 Γ2 a2 o3 => ⟨Γ2, a2, o3⟩)
      fun v2 H2 σ2 Γ2 k2 d2 a2 o3 r2 => q4 v2 H2 σ2 Γ2 k2 d2 a2 ((o1.then o3).le (by omega)) r2
  · rintro σ' H' ⟨Γ', hI, o'⟩
    rw [hlen] at hI o'
    exact q1 σ' H' Γ' (hd Γ' hI) ((o1.then o').le (by omega))
/-- for x in l: a list that is made on the way -/
theorem sg_forN {j : Nat} {ds : List PyData} (he : Ev K m .nw te Γ c0 (Is (.list ds))) (I : Nat → Po) (cb : Nat) (h0 : I 0 Γ)
    (hs : ∀ i d Γ', ds[i]? = some d → I i Γ' → j < Γ'.length ∧ Sg K m t (Γ'.set j (.im d)) cb (I (i + 1)) N (I (i + 1)) Rt) (hd : ∀ Γ', I ds.length Γ' → N Γ') :
    Sg K m (tFor (iList K te) (gName j) t) Γ (c0 + ds.length * cb) N Bk Ct Rt := fun H0 P H σ B D o q1 q2 q3 q4 => by
  refine he H0 P H σ (B + ds.length * cb) (o.le (by omega)) _ fun v H1 d o1 g r e => ?_
  subst r
  obtain ⟨a, xs, ds', rfl, e2, hn, s, q⟩ := e
  cases e2
  have hlen := q.length
  refine ⟨a, rfl, ⟨xs, SqL.of s⟩, for_list (K := K) (a := a) (xs := xs) (fun i σ' H' => ∃ Γ', I i Γ' ∧ Ok K m H0 (H1, (a, xs) :: P.2) H' σ' Γ' (B + (ds.length - i) * cb)) ⟨Γ, h0, by simpa using (o.pinNew o1 hn s).now⟩ (fun i σ' H' _ ⟨_, _, o'⟩ => SqL.of (o'.pin (a, xs) List.mem_cons_self).1) ?_ ?_⟩
  · rintro i x σ' H' hx ⟨Γ', hI, o'⟩
    obtain ⟨d, hd', hx'⟩ := q.at hx
    have hi : i < ds.length := (List.getElem?_eq_some_iff.mp hd').1
    obtain ⟨hjl, sb⟩ := hs i d Γ' hd' hI
    have ec : (ds.length - i) * cb = (ds.length - (i + 1)) * cb + cb := by
      have : ds.length - i = (ds.length - (i + 1)) + 1 := by omega
      rw [this, Nat.add_mul, Nat.one_mul]
    rw [ec, ← Nat.add_assoc] at o'
    have o2 := o'.putIm hjl (Im.keep o'.tk _ _ hx')
    exact sb H0 (H1, (a, xs) :: P.2) H' (σ'.set j (some x)) (B + (ds.length - (i + 1)) * cb) _ o2 (fun σ2 H2 Γ2 a2 o3 => ⟨Γ2, a2, o3⟩) (fun σ2 H2 Γ2 a2 o3 => q1 σ2 H2 Γ2 a2 ((o1.then o3.unpin).le (by omega))) (fun σ2 H2 Γ2 a2 o3 => ⟨Γ2, a2, o3⟩)
      fun v2 H2 σ2 Γ2 k2 d2 a2 o3 r2 => q4 v2 H2 σ2 Γ2 k2 d2 a2 ((o1.then o3.unpin).le (by omega)) r2
  · rintro σ' H' ⟨Γ', hI, o'⟩
    rw [hlen] at hI o'
    exact q1 σ' H' Γ' (hd Γ' hI) ((o1.then o'.unpin).le (by omega))
/-- for x in l: a list that the def was given (a name) -/
theorem sg_forP {i0 j : Nat} {ds : List PyData} (hi0 : Γ[i0]? = some (.ro (.list ds))) (I : Nat → Po) (cb : Nat) (h0 : I 0 Γ) (hst : ∀ i Γ', I i Γ' → Γ'[i0]? = some (.ro (.list ds)))
    (hs : ∀ i d Γ', ds[i]? = some d → I i Γ' → j < Γ'.length ∧ Sg K m t (Γ'.set j (.im d)) cb (I (i + 1)) N (I (i + 1)) Rt) (hd : ∀ Γ', I ds.length Γ' → N Γ') :
    Sg K m (tFor (iList K (tVar i0)) (gName j) t) Γ (ds.length * cb) N Bk Ct Rt := fun H0 P H σ B D o q1 q2 q3 q4 => by
  obtain ⟨v, e1, e2⟩ := o.sl i0 _ hi0
  obtain ⟨a, xs, rfl, hn0, s, q⟩ : ∃ a xs, v = .ref a ∧ H0 a ≠ none ∧ H a = some (.lst xs) ∧ ImA K H xs ds := by
    rcases e2 with e2 | ⟨l, xs, ds', r1, r2, r3, r4, r5⟩
    · cases e2
    · cases r2
      exact ⟨l, xs, r1, r3, r4, r5⟩
  have hlen := q.length
  have o1 : Ok K m H0 (P.1, (a, xs) :: P.2) H σ Γ (B + ds.length * cb) := ⟨o.len, o.fr, o.pen, o.sl, o.dis, fun r hr => by
    rcases List.mem_cons.mp hr with rfl | hr
    · exact ⟨s, fun i z => hn0 (o.own_new z).1⟩
    · exact o.pin r hr, o.tk⟩
  refine ⟨_, e1, a, rfl, ⟨xs, SqL.of s⟩, for_list (K := K) (a := a) (xs := xs) (fun i σ' H' => ∃ Γ', I i Γ' ∧ Ok K m H0 (H, (a, xs) :: P.2) H' σ' Γ' (B + (ds.length - i) * cb)) ⟨Γ, h0, by simpa using o1.now⟩ (fun i σ' H' _ ⟨_, _, o'⟩ => SqL.of (o'.pin (a, xs) List.mem_cons_self).1) ?_ ?_⟩
  · rintro i x σ' H' hx ⟨Γ', hI, o'⟩
    obtain ⟨d, hd', hx'⟩ := q.at hx
    have hi : i < ds.length := (List.getElem?_eq_some_iff.mp hd').1
    obtain ⟨hjl, sb⟩ := hs i d Γ' hd' hI
    have ec : (ds.length - i) * cb = (ds.length - (i + 1)) * cb + cb := by
      have : ds.length - i = (ds.length - (i + 1)) + 1 := by omega
      rw [this, Nat.add_mul, Nat.one_mul]
    rw [ec, ← Nat.add_assoc] at o'
    have o2 := o'.putIm hjl (Im.keep o'.tk _ _ hx')
    exact sb H0 (H, (a, xs) :: P.2) H' (σ'.set j (some x)) (B + (ds.length - (i + 1)) * cb) _ o2 (fun σ2 H2 Γ2 a2 o3 => ⟨Γ2, a2, o3⟩) (fun σ2 H2 Γ2 a2 o3 => q1 σ2 H2 Γ2 a2 ((o.then o3.unpin).le (by omega))) (fun σ2 H2 Γ2 a2 o3 => ⟨Γ2, a2, o3⟩)
      fun v2 H2 σ2 Γ2 k2 d2 a2 o3 r2 => q4 v2 H2 σ2 Γ2 k2 d2 a2 ((o.then o3.unpin).le (by omega)) r2
  · rintro σ' H' ⟨Γ', hI, o'⟩
    rw [hlen] at hI o'
    exact q1 σ' H' Γ' (hd Γ' hI) ((o.then o'.unpin).le (by omega))
/-- for x in range(n), range(lo, hi) -/
theorem forR_core {j n : Nat} {lo : Int} {H0 : Hp} {P : Pn} {H1 : Hp} {σ : L2.St} {B : Nat} {D : Ends} (I : Nat → Po) (cb : Nat) (o1 : Ok K m H0 P H1 σ Γ (B + n * cb)) (h0 : I 0 Γ)
    (hs : ∀ i Γ', i < n → I i Γ' → j < Γ'.length ∧ Sg K m t (Γ'.set j (.im (.int (lo + (i : Int))))) cb (I (i + 1)) N (I (i + 1)) Rt) (hd : ∀ Γ', I n Γ' → N Γ')
    (q1 : ∀ σ' H' Γ', N Γ' → Ok K m H0 P H' σ' Γ' B → D.nx σ' H')
    (q4 : ∀ v H' σ' Γ' k d, Rt k d Γ' → Ok K m H0 P H' σ' Γ' B → Res K k H0 H' v d → D.rt v H') :
    ∃ W : Nat → Nat → L2.St → Hp → Prop, (∃ m, W 0 m σ H1) ∧ ∀ i m σ H, W i m σ H →
      ((Itr lo n).stop i H ∧ D.nx σ H) ∨ ((Itr lo n).go i H ∧ ∃ N : L2.St → Hp → Prop, (∀ σ' H', N σ' H' → ∃ m', m' < m ∧ W (i + 1) m' σ' H') ∧ ∀ x H', (Itr lo n).yld i H x H' → gName j x σ H' fun σ2 H2 => t { D with nx := N, ct := N, bk := D.nx } σ2 H2) := by
  refine for_range (lo := lo) (n := n) (fun i σ' H' => ∃ Γ', I i Γ' ∧ Ok K m H0 P H' σ' Γ' (B + (n - i) * cb)) ⟨Γ, h0, by simpa using o1⟩ ?_ ?_
  · rintro i σ' H' hi ⟨Γ', hI, o'⟩
    obtain ⟨hjl, sb⟩ := hs i Γ' hi hI
    have ec : (n - i) * cb = (n - (i + 1)) * cb + cb := by
      have : n - i = (n - (i + 1)) + 1 := by omega
      rw [this, Nat.add_mul, Nat.one_mul]
    rw [ec, ← Nat.add_assoc] at o'
    have o2 := o'.putIm hjl (v := .int (lo + (i : Int))) (.int _)
    exact sb H0 P H' _ (B + (n - (i + 1)) * cb) _ o2 (fun σ2 H2 Γ2 a2 o3 => ⟨Γ2, a2, o3⟩) (fun σ2 H2 Γ2 a2 o3 => q1 σ2 H2 Γ2 a2 (o3.le (by omega))) (fun σ2 H2 Γ2 a2 o3 => ⟨Γ2, a2, o3⟩)
      fun v2 H2 σ2 Γ2 k2 d2 a2 o3 r2 => q4 v2 H2 σ2 Γ2 k2 d2 a2 (o3.le (by omega)) r2
  · rintro σ' H' ⟨Γ', hI, o'⟩
    exact q1 σ' H' Γ' (hd Γ' hI) (o'.le (by omega))
theorem sg_forR1R {j n : Nat} {RA : List PyData → Prop} {ta : TA} (he : EA K m .da ta Γ c0 RA) (hr : ∀ ds, RA ds → ∃ z : Nat, ds = [.int (z : Int)] ∧ z ≤ n) (hn : n ≤ 100000) (I : Nat → Nat → Po) (cb : Nat) (h0 : ∀ z, z ≤ n → I z 0 Γ)
    (hs : ∀ z i Γ', z ≤ n → i < z → I z i Γ' → j < Γ'.length ∧ Sg K m t (Γ'.set j (.im (.int (0 + (i : Int))))) cb (I z (i + 1)) N (I z (i + 1)) Rt) (hd : ∀ z Γ', z ≤ n → I z z Γ' → N Γ') :
    Sg K m (tFor (iRng1 ta) (gName j) t) Γ (c0 + n * cb) N Bk Ct Rt := fun H0 P H σ B D o q1 q2 q3 q4 => by
  refine he H0 P H σ (B + n * cb) (o.le (by omega)) _ fun vs H1 ds o1 g r e => ?_
  obtain ⟨z, rfl, hz⟩ := hr ds r
  cases e with
  | cons e1 e2 =>
    cases e2
    rw [e1.int]
    have hc : z * cb ≤ n * cb := Nat.mul_le_mul_right _ hz
    refine ⟨(z : Int), rfl, by omega, by omega, ?_⟩
    have e0 : ((z : Int)).toNat = z := Int.toNat_natCast z
    rw [e0]
    exact forR_core (I z) cb (o1.le (by omega)) (h0 z hz) (fun i Γ' hi hI => hs z i Γ' hz hi hI) (fun Γ' hI => hd z Γ' hz hI) q1 q4
theorem sg_forR1 {j n : Nat} {tr : TA} (he : EA K m .da tr Γ c0 (Is [.int (n : Int)])) (hn : n ≤ 100000) (I : Nat → Po) (cb : Nat) (h0 : I 0 Γ)
    (hs : ∀ i Γ', i < n → I i Γ' → j < Γ'.length ∧ Sg K m t (Γ'.set j (.im (.int (0 + (i : Int))))) cb (I (i + 1)) N (I (i + 1)) Rt) (hd : ∀ Γ', I n Γ' → N Γ') :
    Sg K m (tFor (iRng1 tr) (gName j) t) Γ (c0 + n * cb) N Bk Ct Rt := fun H0 P H σ B D o q1 q2 q3 q4 => by
  refine he H0 P H σ (B + n * cb) (o.le (by omega)) _ fun vs H1 ds o1 g r e => ?_
  subst r
  cases e with
  | cons e1 e2 =>
    cases e2
    rw [e1.int]
    refine ⟨(n : Int), rfl, by omega, by omega, ?_⟩
    have e0 : ((n : Int)).toNat = n := Int.toNat_natCast n
    rw [e0]
    exact forR_core I cb o1 h0 hs hd q1 q4
/-- for k in range(n - 1, -1, -1) -/
theorem rgC_down (n : Nat) (hn : n ≤ 100000) : RgC ((n : Int) - 1) (-1) (-1) n := by
  have h := RgC.neg (i := (n : Int) - 1) (j := -1) (by omega) (by omega) (by omega) (by omega)
  have e : ((n : Int) - 1 - -1).toNat = n := by omega
  rw [e] at h
  exact h
theorem sg_forDown {j n : Nat} {tr : TA} (he : EA K m .da tr Γ c0 (Is [.int ((n : Int) - 1), .int (-1), .int (-1)])) (hn : n ≤ 100000) (I : Nat → Po) (cb : Nat) (h0 : I 0 Γ)
    (hs : ∀ i Γ', i < n → I i Γ' → j < Γ'.length ∧ Sg K m t (Γ'.set j (.im (.int ((n - 1 - i : Nat) : Int)))) cb (I (i + 1)) N (I (i + 1)) Rt) (hd : ∀ Γ', I n Γ' → N Γ') :
    Sg K m (tFor (iRng3 tr) (gName j) t) Γ (c0 + n * cb) N Bk Ct Rt := fun H0 P H σ B D o q1 q2 q3 q4 => by
  refine he H0 P H σ (B + n * cb) (o.le (by omega)) _ fun vs H1 ds o1 g r e => ?_
  subst r
  cases e with
  | cons e1 e2 =>
    cases e2 with
    | cons e2 e3 =>
      cases e3 with
      | cons e3 e4 =>
        cases e4
        rw [e1.int, e2.int, e3.int]
        refine ⟨(n : Int) - 1, -1, -1, n, rfl, rgC_down n hn, ?_⟩
        refine for_rangeC (lo := (n : Int) - 1) (c := -1) (n := n) (fun i σ' H' => ∃ Γ', I i Γ' ∧ Ok K m H0 P H' σ' Γ' (B + (n - i) * cb)) ⟨Γ, h0, by simpa using o1⟩ ?_ ?_
        · rintro i σ' H' hi ⟨Γ', hI, o'⟩
          obtain ⟨hjl, sb⟩ := hs i Γ' hi hI
          have ec : (n - i) * cb = (n - (i + 1)) * cb + cb := by
            have : n - i = (n - (i + 1)) + 1 := by omega
            rw [this, Nat.add_mul, Nat.one_mul]
          rw [ec, ← Nat.add_assoc] at o'
          have ei : (n : Int) - 1 + (i : Int) * -1 = ((n - 1 - i : Nat) : Int) := by omega
          rw [ei]
          have o2 := o'.putIm hjl (v := .int ((n - 1 - i : Nat) : Int)) (.int _)
          exact sb H0 P H' _ (B + (n - (i + 1)) * cb) _ o2 (fun σ2 H2 Γ2 a2 o3 => ⟨Γ2, a2, o3⟩) (fun σ2 H2 Γ2 a2 o3 => q1 σ2 H2 Γ2 a2 (o3.le (by omega))) (fun σ2 H2 Γ2 a2 o3 => ⟨Γ2, a2, o3⟩)
            fun v2 H2 σ2 Γ2 k2 d2 a2 o3 r2 => q4 v2 H2 σ2 Γ2 k2 d2 a2 (o3.le (by omega)) r2
        · rintro σ' H' ⟨Γ', hI, o'⟩
          exact q1 σ' H' Γ' (hd Γ' hI) (o'.le (by omega))
end
end Lg

set_option Elab.async false
set_option linter.all false
set_option maxRecDepth 100000
set_option maxHeartbeats 1000000
/-! enumerate(a tuple), zip(a tuple, a list), walked. -/
namespace Zp
open PySem PySem.Spec PyProof.Rows L2
theorem in1_calm {A : Around} (h : A.handled = none) : A.in1.handled = none := by simp [h]
section
variable {prog : Program} {w : World} {A : Around} {E : Value → Shared → Prop} {s : Shared}
/-- what enumerate(t) lays -/
theorem lays_enumT (a : Addr) (its : Array Value) :
    Meets (Builtin.«enumerate.__new__» ⟨[.type "enumerate", .ref a], []⟩) (fun _ R s => s.heap.IsTuple a its ∧
      R (.ok (.ret (.ref (s.heap.push { cls := .type "tuple_iterator", data := .fields #[.ref a, .int 0 0] }).objs.size)))
        { s with heap := (s.heap.push { cls := .type "tuple_iterator", data := .fields #[.ref a, .int 0 0] }).push { cls := .type "enumerate", data := .fields #[.none, .bool false, .ref s.heap.objs.size, rawInt 0, .none, .none] } }) :=
  .of_wp fun prog w A R s hyp => by
    obtain ⟨hp, gs, dr, tk, os⟩ := s
    obtain ⟨hT, q⟩ := hyp
    obtain ⟨oT, hoT, hcT, nT, hdT⟩ := id hT
    have sub := sub_enumerate
    have hT' : Heap.IsTuple (Shared.heap ⟨hp, gs, dr, tk, os⟩) a its := hT
    wp_walk
    refine wpAny_stack_any fun st => wpAny_pure ?_
    split
    · rename_i c _ _ _ _ _
      cases (c == Value.type "enumerate") <;> (wp_walk using wpAny_pyIter_tuple hT'; exact ⟨_, rfl, q⟩)
    · wp_walk using wpAny_pyIter_tuple hT'
      exact ⟨_, rfl, q⟩
theorem call_enumT {a : Addr} {its : Array Value} {Q : Value → Shared → Prop} (hT : s.heap.IsTuple a its)
    (q : ∀ g, IsEnum g (s.heap.objs.size + 1) s.heap.objs.size 0 .none → g.IsTupleIter s.heap.objs.size a 0 → (∀ b o, s.heap.get? b = some o → g.get? b = some o) → Q (.ref (s.heap.objs.size + 1)) { s with heap := g }) :
    wpAny (model prog w) A (call (.type "enumerate") [.ref a]) Q E s := by
  have z1 : (s.heap.push { cls := .type "tuple_iterator", data := .fields #[.ref a, .int 0 0] }).objs.size = s.heap.objs.size + 1 := Heap.size_push ..
  refine callType_new F.called_enumerate (by decide) (F.typeCall_enumerate_1 _) (F.newCall_enumerate_1 _) (fun obj => F.args_object_init_2 obj _) F.entry_enumerate_new (lays_enumT a its) ⟨hT, ?_⟩
  show _ ∧ _
  have e1 := Heap.get?_push_size (s.heap.push { cls := .type "tuple_iterator", data := .fields #[.ref a, .int 0 0] }) (o := { cls := .type "enumerate", data := .fields #[.none, .bool false, .ref s.heap.objs.size, rawInt 0, .none, .none] }) rfl
  rw [z1] at e1 ⊢
  exact ⟨⟨_, e1, rfl⟩, q _ e1 ⟨_, Heap.get?_push_of_some _ (Heap.get?_push_size _ rfl), rfl, rfl⟩ fun b o x => Heap.get?_push_of_some _ (Heap.get?_push_of_some _ x)⟩
end
/-- the pairs (i, item) of the tuple at a -/
def ItT (K : PySem.W.Frag) (a : Addr) : It :=
  ⟨fun i H => ∃ xs x, SqT K H a xs ∧ xs[i]? = some x, fun i H v H' => ∃ T x, v = .ref T ∧ H T = none ∧ H' = upd H T (.tup [.int (i : Nat), x]) ∧ ∀ xs, SqT K H a xs → xs[i]? = some x, fun i H => ∃ xs, SqT K H a xs ∧ xs.length = i⟩
theorem iter_lt {h : Heap} {it a : Addr} {i : Nat} (x : h.IsTupleIter it a i) : it < h.objs.size := by
  obtain ⟨_, e, _⟩ := x
  exact Heap.lt_size e
theorem litr_lt {h : Heap} {it a : Addr} {i : Nat} (x : h.IsListIter it a i) : it < h.objs.size := by
  obtain ⟨_, e, _⟩ := x
  exact Heap.lt_size e
theorem no_cell {h : Heap} {it a : Addr} {i : Nat} (x : h.IsTupleIter it a i) : ∃ o, h.get? it = some o ∧ ∀ v, o.data ≠ .cell v := by
  obtain ⟨o, e, _, d⟩ := x
  exact ⟨o, e, fun v z => by rw [d] at z; cases z⟩
theorem no_cellL {h : Heap} {it a : Addr} {i : Nat} (x : h.IsListIter it a i) : ∃ o, h.get? it = some o ∧ ∀ v, o.data ≠ .cell v := by
  obtain ⟨o, e, _, d⟩ := x
  exact ⟨o, e, fun v z => by rw [d] at z; cases z⟩
theorem turn_enumT {P : Program} {w : World} {K : PySem.W.Frag} {elts : List Expr} {kk : Nat} {tpos : Pos} (a e it : Addr) (hea : e ≠ a) (hita : it ≠ a) :
    Turn P w K (.Tuple elts kk tpos) (ItT K a) [e, it] e (fun i h => (∃ old, IsEnum h e it (i : Nat) old) ∧ h.IsTupleIter it a i ∧ e ≠ it) where
  mem := List.mem_cons_self
  obj := fun i h st b hb => by
    obtain ⟨⟨old, he⟩, hi, _⟩ := st
    rcases List.mem_cons.mp hb with rfl | hb
    · exact ⟨_, he, fun v q => nomatch q⟩
    · rw [List.mem_singleton.mp hb]
      exact no_cell hi
  keep := fun i h h' st k => ⟨⟨_, k e List.mem_cons_self _ st.1.choose_spec⟩, st.2.1.at fun o q => k it (List.mem_cons_of_mem _ List.mem_cons_self) o q, st.2.2⟩
  item := by
    intro X hP hw hK hc i pins s σ H E I hf st hg
    subst hP hw hK
    obtain ⟨⟨old, he⟩, hit, hne⟩ := st
    obtain ⟨xs, x, hq, hx⟩ := hg
    obtain ⟨its, rv, p, hz⟩ := I.tuple hq
    have hl := rv.length
    have hi : i < its.toArray.size := by
      have := (List.getElem?_eq_some_iff.mp hx).1
      rw [List.size_toArray]
      omega
    have W := GoesN.enumFrom (prog := X.prog) (w := X.w) (A := X.A) (elts := elts) (x1 := kk) (pos := tpos) 0 (Draws.tuple (in1_calm (I.ok.hd hc)) it a (Ne.symm hita) its.toArray) e hne (by simp [hne, hea]) List.mem_cons_self
    have e0 : (0 : Int) + (i : Int) = (i : Int) := Int.zero_add _
    refine W.goes i s _ E hi ⟨⟨old, by rw [e0]; exact he⟩, hit, p⟩ fun v g tk hY st2 hk htk => ?_
    obtain ⟨T, t, y, rfl, hT, hy, hTt⟩ := hY
    rw [e0] at hTt
    obtain ⟨u, hu, ru⟩ := rv.get hx
    have ey : y = u := by
      have : its.toArray[i]? = some u := by simpa using hu
      rw [this] at hy
      exact (Option.some.inj hy).symm
    subst ey
    have new : ObjOk X.prog X.w (upd H T (.tup [.int (i : Nat), x])) g T (.tup [.int (i : Nat), x]) := ⟨by show 2 ≤ sizeLine; decide, [.int (i : Nat) t, y], .cons ⟨_, rfl⟩ (.cons ru .nil), hTt⟩
    have J : Inv X pins σ (upd H T (.tup [.int (i : Nat), x])) { s with heap := g, toks := tk } := I.turnedNew (ch := [e, it]) hk hf hT new
    obtain ⟨⟨old2, he2⟩, hit2, _⟩ := st2
    have e1 : (0 : Int) + ((i + 1 : Nat) : Int) = ((i + 1 : Nat) : Int) := Int.zero_add _
    rw [e1] at he2
    refine ⟨.ref T, _, J, rfl, ⟨T, x, rfl, I.hok.fresh hT, rfl, fun ys hy => by rw [I.tuple_inj hy hq]; exact hx⟩, ⟨⟨old2, he2⟩, hit2, hne⟩, fun b hb => ?_⟩
    have lt : b < s.heap.objs.size := by
      rcases List.mem_cons.mp hb with rfl | hb
      · exact Heap.lt_size he
      · rw [List.mem_singleton.mp hb]
        exact iter_lt hit
    rw [upd_ne (Nat.ne_of_lt (Nat.lt_of_lt_of_le lt hT))]
    exact (hf b hb).1
  done := by
    intro X hP hw hK hc i pins s σ H E I hf st hg
    subst hP hw hK
    obtain ⟨⟨old, he⟩, hit, hne⟩ := st
    obtain ⟨xs, hq, hx⟩ := hg
    obtain ⟨its, rv, p, hz⟩ := I.tuple hq
    have hl := rv.length
    have W := GoesN.enumFrom (prog := X.prog) (w := X.w) (A := X.A) (elts := elts) (x1 := kk) (pos := tpos) 0 (Draws.tuple (in1_calm (I.ok.hd hc)) it a (Ne.symm hita) its.toArray) e hne (by simp [hne, hea]) List.mem_cons_self
    have en : its.toArray.size = i := by rw [List.size_toArray]; omega
    have e0 : (0 : Int) + (i : Int) = (i : Int) := Int.zero_add _
    rw [en] at W
    exact W.stops s _ E ⟨⟨old, by rw [e0]; exact he⟩, hit, p⟩ fun g tk hk _ => I.turnedL (ch := [e, it]) hk hf
  self := fun A i s Q E st h => wpAny_pyIter_enum st.1.choose_spec h
def iEnumT (K : PySem.W.Frag) (ta : TA) : TI := fun σ H R => ta σ H fun vs H1 => ∃ a xs, vs = [.ref a] ∧ SqT K H1 a xs ∧ R (ItT K a) H1
theorem pi_enumT {X : Cx} {e : Expr} {ta : TA} {p pos tpos : Pos} {elts : List Expr} {kk : Nat} (hg : Gl X "enumerate") (hm : X.mg "enumerate" = none) (ha : PA X [e] ta) (hs : starEach [e] X.env = [(false, eval e X.env)] := by rfl) :
    PI X (.Tuple elts kk tpos) (.Call (.Name "enumerate" p) [e] [] pos) (iEnumT X.K ta) := ⟨fun pins s σ H R I h => by
  refine Call_ (ld_blt I hg hm boot_enumerate (PyProof.Rows.callWith_type1 (thn (ha.run pos pins s σ H _ I h) fun us s1 ⟨vs, H1, I1, r1, a, xs, ex, hq, q⟩ => ?_) hs rfl))
  subst ex
  cases r1 with
  | cons r rr =>
    cases rr
    cases r
    obtain ⟨its, rv, pt, _⟩ := I1.tuple hq
    have la : a < s1.heap.objs.size := by
      obtain ⟨_, z, _⟩ := pt
      exact Heap.lt_size z
    refine call_enumT pt fun g he hit hk => wpAny_pyIter_enum he ?_
    refine ⟨s1.heap.objs.size + 1, [s1.heap.objs.size + 1, s1.heap.objs.size], _, _, H1, rfl, I1.kept (t' := s1.toks) hk, turn_enumT a (s1.heap.objs.size + 1) s1.heap.objs.size (Nat.ne_of_gt (Nat.lt_succ_of_lt la)) (Nat.ne_of_gt la), ⟨⟨.none, he⟩, hit, Nat.succ_ne_self _⟩, fun b hb => ?_, q⟩
    have ge : s1.heap.objs.size ≤ b := by
      rcases List.mem_cons.mp hb with rfl | hb
      · exact Nat.le_succ _
      · rw [List.mem_singleton.mp hb]
        exact Nat.le_refl _
    exact I1.fpOk ge (I1.hok.fresh ge)⟩
/-- the pairs of the items of the tuple at a and the list at b, of one length -/
def ItM (K : PySem.W.Frag) (a b : Addr) : It :=
  ⟨fun i H => ∃ xs ys x y, SqT K H a xs ∧ SqL K H b ys ∧ xs[i]? = some x ∧ ys[i]? = some y, fun i H v H' => ∃ T x y, v = .ref T ∧ H T = none ∧ H' = upd H T (.tup [x, y]) ∧ (∀ xs, SqT K H a xs → xs[i]? = some x) ∧ ∀ ys, SqL K H b ys → ys[i]? = some y,
    fun i H => ∃ xs ys, SqT K H a xs ∧ SqL K H b ys ∧ xs.length = i ∧ ys.length = i⟩
theorem turn_zipM {P : Program} {w : World} {K : PySem.W.Frag} {elts : List Expr} {kk : Nat} {tpos : Pos} {n a b : Addr} (ha : a < n) (hb : b < n) :
    Turn P w K (.Tuple elts kk tpos) (ItM K a b) [n + 4, n + 2, n + 3, n, n + 1] (n + 4) (fun i h => IsZip h (n + 4) (n + 2) (n + 3) .none ∧ IsTupOf2 h (n + 2) (.ref n) (.ref (n + 1)) ∧ (∃ x y, IsTupOf2 h (n + 3) x y) ∧ h.IsTupleIter n a i ∧ h.IsListIter (n + 1) b i) where
  mem := List.mem_cons_self
  obj := fun i h st c hc => by
    obtain ⟨h1, h2, ⟨x, y, h3⟩, h4, h5⟩ := st
    simp only [List.mem_cons, List.not_mem_nil, or_false] at hc
    rcases hc with rfl | rfl | rfl | rfl | rfl
    · exact ⟨_, h1, fun v q => nomatch q⟩
    · exact ⟨_, h2, fun v q => nomatch q⟩
    · exact ⟨_, h3, fun v q => nomatch q⟩
    · exact no_cell h4
    · exact no_cellL h5
  keep := fun i h h' st k => by
    obtain ⟨h1, h2, ⟨x, y, h3⟩, h4, h5⟩ := st
    exact ⟨k _ (by simp) _ h1, k _ (by simp) _ h2, ⟨x, y, k _ (by simp) _ h3⟩, h4.at fun o q => k _ (by simp) o q, h5.at fun o q => k _ (by simp) o q⟩
  item := by
    intro X hP hw hK hc i pins s σ H E I hf st hg
    subst hP hw hK
    obtain ⟨xs, ys, x, y, hqx, hqy, hx, hy⟩ := hg
    obtain ⟨its, rv, p, _⟩ := I.tuple hqx
    obtain ⟨jts, rw', p2, _⟩ := I.list hqy
    obtain ⟨u, hu, ru⟩ := rv.get hx
    obtain ⟨u2, hu2, ru2⟩ := rw'.get hy
    have hh := in1_calm (I.ok.hd hc)
    have W := GoesN.zip2 (prog := X.prog) (w := X.w) (A := X.A) (elts := elts) (x1 := kk) (pos := tpos) (zip_sep2 (N := n) (fp1 := [a]) (fp2 := [b]) (by simpa using ha) (by simpa using hb)) (Draws.tuple hh n a (Nat.ne_of_lt ha) its.toArray) (Draws.list hh (n + 1) b (Nat.ne_of_lt (Nat.lt_succ_of_lt hb)) jts.toArray)
    have hi : i < min its.toArray.size jts.toArray.size := by
      have z1 := (List.getElem?_eq_some_iff.mp hu).1
      have z2 := (List.getElem?_eq_some_iff.mp hu2).1
      simp only [List.size_toArray]
      omega
    obtain ⟨h1, h2, ⟨x0, y0, h3⟩, h4, h5⟩ := st
    have hf' : ∀ c ∈ [n + 4, n + 3, n, n + 1], FpOk X pins H c := fun c hc' => hf c (by simp only [List.mem_cons, List.not_mem_nil, or_false] at hc' ⊢; rcases hc' with h | h | h | h <;> simp [h])
    refine W.goes i s _ E hi ⟨h1, h2, ⟨x0, y0, h3⟩, ⟨h4, p⟩, h5, p2.isList⟩ fun v g tk hY st2 hk htk => ?_
    obtain ⟨T, z, z', rfl, hT, hz, hz', hTt⟩ := hY
    have ez : z = u := by
      have : its.toArray[i]? = some u := by simpa using hu
      rw [this] at hz
      exact (Option.some.inj hz).symm
    have ez' : z' = u2 := by
      have : jts.toArray[i]? = some u2 := by simpa using hu2
      rw [this] at hz'
      exact (Option.some.inj hz').symm
    subst ez ez'
    have new : ObjOk X.prog X.w (upd H T (.tup [x, y])) g T (.tup [x, y]) := ⟨by show 2 ≤ sizeLine; decide, [z, z'], .cons ru (.cons ru2 .nil), hTt⟩
    have J : Inv X pins σ (upd H T (.tup [x, y])) { s with heap := g, toks := tk } := I.turnedNew (ch := [n + 4, n + 3, n, n + 1]) hk hf' hT new
    obtain ⟨g1, g2, g3, ⟨g4, _⟩, g5, _⟩ := st2
    refine ⟨.ref T, _, J, rfl, ⟨T, x, y, rfl, I.hok.fresh hT, rfl, fun l hl => by rw [I.tuple_inj hl hqx]; exact hx, fun l hl => by rw [I.list_inj hl hqy]; exact hy⟩, ⟨g1, g2, g3, g4, g5⟩, fun c hc' => ?_⟩
    have lt : c < s.heap.objs.size := by
      simp only [List.mem_cons, List.not_mem_nil, or_false] at hc'
      rcases hc' with rfl | rfl | rfl | rfl | rfl
      · exact Heap.lt_size h1
      · exact Heap.lt_size h2
      · exact Heap.lt_size h3
      · exact iter_lt h4
      · exact litr_lt h5
    rw [upd_ne (Nat.ne_of_lt (Nat.lt_of_lt_of_le lt hT))]
    exact (hf c hc').1
  done := by
    intro X hP hw hK hc i pins s σ H E I hf st hg
    subst hP hw hK
    obtain ⟨xs, ys, hqx, hqy, e1, e2⟩ := hg
    obtain ⟨its, rv, p, _⟩ := I.tuple hqx
    obtain ⟨jts, rw', p2, _⟩ := I.list hqy
    have l1 := rv.length
    have l2 := rw'.length
    have hh := in1_calm (I.ok.hd hc)
    have W := GoesN.zip2 (prog := X.prog) (w := X.w) (A := X.A) (elts := elts) (x1 := kk) (pos := tpos) (zip_sep2 (N := n) (fp1 := [a]) (fp2 := [b]) (by simpa using ha) (by simpa using hb)) (Draws.tuple hh n a (Nat.ne_of_lt ha) its.toArray) (Draws.list hh (n + 1) b (Nat.ne_of_lt (Nat.lt_succ_of_lt hb)) jts.toArray)
    have en : min its.toArray.size jts.toArray.size = i := by simp only [List.size_toArray]; omega
    rw [en] at W
    obtain ⟨h1, h2, h3, h4, h5⟩ := st
    have hf' : ∀ c ∈ [n + 4, n + 3, n, n + 1], FpOk X pins H c := fun c hc' => hf c (by simp only [List.mem_cons, List.not_mem_nil, or_false] at hc' ⊢; rcases hc' with h | h | h | h <;> simp [h])
    exact W.stops s _ E ⟨h1, h2, h3, ⟨h4, p⟩, h5, p2.isList⟩ fun g tk hk _ => I.turnedL (ch := [n + 4, n + 3, n, n + 1]) hk hf'
  self := fun A i s Q E st h => wpAny_pyIter_zip st.1 h
def iZipM (K : PySem.W.Frag) (ta : TA) : TI := fun σ H R => ta σ H fun vs H1 => ∃ a b xs ys, vs = [.ref a, .ref b] ∧ SqT K H1 a xs ∧ SqL K H1 b ys ∧ R (ItM K a b) H1
theorem pi_zipM {X : Cx} {e e2 : Expr} {ta : TA} {p pos tpos : Pos} {elts : List Expr} {kk : Nat} (hg : Gl X "zip") (hm : X.mg "zip" = none) (ha : PA X [e, e2] ta)
    (hs : starEach [e, e2] X.env = (false, eval e X.env) :: starEach [e2] X.env := by rfl) (hpl : (backTo pos (starEach [e2] X.env)).any (·.1) = false := by rfl) :
    PI X (.Tuple elts kk tpos) (.Call (.Name "zip" p) [e, e2] [] pos) (iZipM X.K ta) := ⟨fun pins s σ H R I h => by
  refine Call_ (ld_blt I hg hm PyProof.Rows.boot_zip (PyProof.Rows.callWith_type1 (thn (ha.run pos pins s σ H _ I h) fun us s1 ⟨vs, H1, I1, r1, a, b, xs, ys, ex, hqx, hqy, q⟩ => ?_) hs hpl))
  subst ex
  cases r1 with
  | cons r rr =>
    cases rr with
    | cons r' rr =>
      cases rr
      cases r
      cases r'
      obtain ⟨its, rv, p1, _⟩ := I1.tuple hqx
      obtain ⟨jts, rw', p2, _⟩ := I1.list hqy
      have la : a < s1.heap.objs.size := by
        obtain ⟨_, z, _⟩ := p1
        exact Heap.lt_size z
      refine zip_begins2 (begins_tuple a its.toArray) (begins_list b jts.toArray) p1 p2.isList fun g z1 z2 z3 z4 z5 _ hk => wpAny_pyIter_zip z1 ?_
      refine ⟨s1.heap.objs.size + 4, [s1.heap.objs.size + 4, s1.heap.objs.size + 2, s1.heap.objs.size + 3, s1.heap.objs.size, s1.heap.objs.size + 1], _, _, H1, rfl, I1.kept (t' := s1.toks) hk, turn_zipM la p2.lt, ⟨z1, z2, ⟨_, _, z3⟩, ⟨_, z4, rfl, rfl⟩, ⟨_, z5, rfl, rfl⟩⟩, fun c hc' => ?_, q⟩
      have ge : s1.heap.objs.size ≤ c := by
        simp only [List.mem_cons, List.not_mem_nil, or_false] at hc'
        rcases hc' with rfl | rfl | rfl | rfl | rfl
        · exact Nat.le_add_right _ _
        · exact Nat.le_add_right _ _
        · exact Nat.le_add_right _ _
        · exact Nat.le_refl _
        · exact Nat.le_add_right _ _
      exact I1.fpOk ge (I1.hok.fresh ge)⟩
end Zp

set_option Elab.async false
set_option linter.all false
set_option maxRecDepth 100000
set_option maxHeartbeats 3200000
/-! set(a list of ints), as a value; sorted(ints, key=abs). -/
namespace Srt2
open PySem PySem.Spec PyProof.Rows L2
section
variable {P : Program} {w : World} {A : Around} {E : Value → Shared → Prop} {s : Shared}
/-- the new empty set -/
abbrev set0 (w : World) : Obj := { cls := .type "set", dict := none, data := .set #[] 0 (.fresh 0 0 (!w.params.followText "set-order")) }
theorem init_setL {l : Addr} {its : Array Value} {ns : List Int} (hh : A.handled = none) (hl : s.heap.IsList l its) (hi : IntsAre its.toList ns) (hb : ns.length + 1 < scanBound) {R : Result → Shared → Prop}
    (q : ∀ h' tk c, SetR w h' s.heap.objs.size (fun j => decide (j ∈ ns)) c → c ≤ ns.length → (∀ b o, s.heap.get? b = some o → h'.get? b = some o) → R (.ok (.ret .none)) { s with heap := h', toks := tk }) :
    codeAny (model P w) A (.call (.builtin "set.__init__") ⟨[.ref s.heap.objs.size, .ref l], []⟩) R { s with heap := s.heap.push (set0 w) } := by
  have en : its.size = ns.length := by
    have z := IntsAre.length hi
    rwa [Array.length_toList] at z
  have hS : (s.heap.push (set0 w)).get? s.heap.objs.size = some (set0 w) := Heap.get?_push_size _ rfl
  have hl1 : (s.heap.push (set0 w)).IsList l its := hl.push _
  have hlS : l < s.heap.objs.size := by
    obtain ⟨_, z, _⟩ := hl
    exact Heap.lt_size z
  have hz : (s.heap.push (set0 w)).objs.size = s.heap.objs.size + 1 := Heap.size_push ..
  refine codeAny_call_builtin F.called_set.init.plain F.entry_set_init (check_set_init_1 ⟨_, hS, rfl⟩ ?_)
  obtain ⟨ol, hol, hcl, nl, hdl⟩ := id hl1
  obtain ⟨ocls, odict, odata, oslots⟩ := ol
  simp only at hcl hdl
  subst hcl hdl
  have n1 := F.sub_list_set
  have n2 := F.sub_list_frozenset
  have n3 : (Value.type "list" == Value.type "dict") = false := by decide
  unfold Builtin.«set.__init__» noKeywords Builtin.Frozenset.updateFrom
  generalize hPI : pyIter = PI
  wp_walk
  subst hPI
  refine wpAny_pyIter_list hl1 (wpAny_bind (wpAny_runValue ?_))
  have h3 : A.in1.in1.handled = none := by simp [hh]
  have val : ∀ (i : Nat) (v : Value), its[i]? = some v → ∃ k t, ns[i]? = some k ∧ v = .int k t := fun i v hv => by
    obtain ⟨t, e⟩ := PyProof.Rows.IntsAre.int_at hi i v (by rw [Array.getElem?_toList]; exact hv)
    have hlt : i < ns.length := by rw [← en]; exact (Array.getElem?_eq_some_iff.mp hv).1
    exact ⟨ns[i], t, List.getElem?_eq_getElem hlt, by rw [e, List.getD_eq_getElem?_getD, List.getElem?_eq_getElem hlt] <;> rfl⟩
  refine set_update_ints ((Walks.list h3 (s.heap.push (set0 w)).objs.size l (by rw [hz]; exact Nat.ne_of_lt (Nat.lt_succ_of_lt hlS)) its).toS) s.heap.objs.size
    (by rw [hz]; simp only [List.mem_cons, List.not_mem_nil, or_false, not_or]; exact ⟨Nat.ne_of_lt (Nat.lt_succ_self _), Nat.ne_of_gt hlS⟩) ns en hb val _ 0 _ rfl (Nat.zero_le _)
    ⟨⟨_, Heap.get?_push_size _ rfl, rfl, rfl⟩, hl1.push _⟩ ⟨0, Nat.le_refl 0, setR_new_at (Heap.get?_push_of_some _ hS)⟩ fun s' c' hm hc' hS' => ?_
  obtain ⟨h', g2, d', tk', os'⟩ := s'
  have eg : g2 = s.gens := hm.gens
  have ed : d' = s.drawn := hm.drawn
  have eo : os' = s.os := hm.os
  subst eg ed eo
  show wpAny _ _ _ _ _ _
  refine wpAny_pure ?_
  show wpAny _ _ (ret Value.none) _ _ _
  refine wpAny_pure (q h' tk' c' hS' (by rw [en] at hc'; exact hc') fun b o e => ?_)
  have lt : b < s.heap.objs.size := Heap.lt_size e
  refine hm.heap b o ?_ (Heap.get?_push_of_some _ (Heap.get?_push_of_some _ e))
  rw [hz]
  simp only [List.mem_cons, List.not_mem_nil, or_false, not_or]
  exact ⟨Nat.ne_of_lt lt, Nat.ne_of_lt (Nat.lt_succ_of_lt lt)⟩
theorem call_setL {l : Addr} {its : Array Value} {ns : List Int} (hh : A.handled = none) (hl : s.heap.IsList l its) (hi : IntsAre its.toList ns) (hb : ns.length + 1 < scanBound) {Q : Value → Shared → Prop}
    (q : ∀ h' tk c, SetR w h' s.heap.objs.size (fun j => decide (j ∈ ns)) c → c ≤ ns.length → (∀ b o, s.heap.get? b = some o → h'.get? b = some o) → Q (.ref s.heap.objs.size) { s with heap := h', toks := tk }) :
    wpAny (model P w) A (call (.type "set") [.ref l]) Q E s := by
  obtain ⟨c, tl, hmro⟩ := F.called_set.mro
  have f1 := F.called_set.made
  have f2 := F.called_set.sub
  have f3 := F.called_set.notType
  have f4 := F.called_set.canCreate
  have f5 := F.typeCall_set_1 (.ref l)
  refine wpAny_call (codeAny_of_tree ?_)
  show wpAny _ _ (callAny (.type "set") _) _ _ _
  refine wpAny_pure ⟨Code.quiet_builtin _ (by decide +kernel), codeAny_builtin F.entry_type_call ?_⟩
  rw [Around.under_plain (weight_type_call_type "set" [.ref l] []) rfl]
  repeat (any_goals (first | assumption | wp_step))
  refine codeAny_mono (code_set_led1 (.ref l) (E := E) (Q₁ := fun v s1 => v = .ref s.heap.objs.size ∧ s1 = { s with heap := s.heap.push (set0 w) }) ⟨rfl, rfl⟩) fun r s1 hr => ?_
  cases r with
  | error e => exact hr
  | ok fl =>
    cases fl with
    | ret v =>
      obtain ⟨rfl, rfl⟩ := hr
      have hT : Shared.TypeIs { s with heap := s.heap.push (set0 w) } (.ref s.heap.objs.size) "set" := ⟨_, Heap.get?_push_size _ rfl, rfl⟩
      have g1 := F.called_set.init.lookup
      have g2 := F.called_set.init.bind (.ref s.heap.objs.size)
      repeat (any_goals (first | assumption | wp_step))
      refine codeAny_mono (init_setL (R := fun r s2 => r = .ok (.ret .none) ∧ ∃ h' tk c, s2 = { s with heap := h', toks := tk } ∧ SetR w h' s.heap.objs.size (fun j => decide (j ∈ ns)) c ∧ c ≤ ns.length ∧ ∀ b o, s.heap.get? b = some o → h'.get? b = some o)
        (by simp [hh]) hl hi hb fun h' tk c a b k => ⟨rfl, h', tk, c, rfl, a, b, k⟩) fun r2 s2 hr2 => ?_
      obtain ⟨rfl, h', tk, c', rfl, a, b, k⟩ := hr2
      repeat (any_goals (first | assumption | wp_step))
      exact q _ _ _ a b k
    | _ => exact hr.elim
end
section
variable {X : Cx}
/-- set(l), l a list of ints -/
def rSetL (w : World) : List V → Hp → VK → Prop := fun xs H Q => ∃ (a : Addr) (ns : List Int), xs = [.ref a] ∧ H a = some (.lst (ns.map V.int)) ∧ ns.length + 1 < scanBound ∧ ∀ p c, H p = none → c ≤ ns.length → Q (.ref p) (upd H p (SetO w p (fun j => decide (j ∈ ns)) c))
theorem cr_setL (hc : X.calm = true) : CallR X (.type "set") (rSetL X.w) := by
  intro pins s σ H xs us Q I r h
  obtain ⟨a, ns, rfl, ha, hb, q⟩ := h
  rw [Vals.ref1 r]
  obtain ⟨its, rv, pl, _⟩ := I.list (SqL.of ha)
  refine call_setL (I.ok.hd hc) pl.isList rv.ints hb fun h' tk c hS hc' hk => ?_
  exact ⟨.ref _, _, I.laid (t' := tk) hk (Nat.le_refl _) (setO_new hS), rfl, q _ c (I.hok.fresh (Nat.le_refl _)) hc'⟩
theorem depth_lt {n : Nat} {i : Int} (h : n + 64 < cLine) : n + 2 + (PyData.int i).depth < cLine := by
  have e : (PyData.int i).depth = 0 := by simp [PyData.depth]
  omega
theorem each_ints : ∀ {us : List Value} {ns : List Int}, Vals (ns.map V.int) us → PySem.W.EachIs (fun (v : Value) (i : Int) => ∃ t, v = .int i t) us ns
  | [], [], _ => .nil
  | [], _ :: _, h => by cases h
  | _ :: _, [], h => by cases h
  | _ :: _, _ :: _, h => by
    cases h with
    | cons h1 h2 => exact .cons h1 (each_ints h2)
theorem of_each : ∀ {us : List Value} {ns : List Int}, PySem.W.EachIs (fun (v : Value) (i : Int) => ∃ t, v = .int i t) us ns → Vals (ns.map V.int) us
  | _, _, .nil => .nil
  | _, _, .cons h1 h2 => .cons h1 (of_each h2)
/-- sorted(l, key=abs), l a list of ints -/
def tSab (ta : TA) : TE := fun σ H Q => ta σ H fun vs H1 => ∃ (a : Addr) (ns : List Int), vs = [.ref a] ∧ H1 a = some (.lst (ns.map V.int)) ∧ ∀ p, H1 p = none → Q (.ref p) (upd H1 p (.lst ((Mi.sab ns).map V.int)))
theorem pe_sab {p q pos kpos : Pos} {e : Expr} {ta : TA} (hu : X.A.units + 64 < cLine) (hg : Gl X "sorted") (hm : X.mg "sorted" = none) (hg2 : Gl X "abs") (hm2 : X.mg "abs" = none) (ha : PA X [e] ta)
    (he : backTo pos (starEach [e] X.env) = (false, eval e X.env) :: backTo pos (starEach [] X.env) := by rfl) (hpl : (backTo pos (starEach [e] X.env)).any (·.1) = false := by rfl)
    (hk : backToKw pos (keywordEach [⟨some "key", .Name "abs" q, kpos⟩] X.env) = [(some (Str.ofString "key"), (do let v ← eval (.Name "abs" q) X.env; standAt pos; pure v : Sem Value))] := by rfl) :
    PE X (.Call (.Name "sorted" p) [e] [⟨some "key", .Name "abs" q, kpos⟩] pos) (tSab ta) := by
  refine ⟨fun pins s σ H Q I h => ?_⟩
  refine wpAny_Call_Name_kw (ld_blt I hg hm (by decide +kernel : bootBuiltins "sorted" = some (.builtin "sorted")) ?_)
  refine PyProof.Rows.callWith_kw (thn (ha.run pos pins s σ H _ I h) fun us s1 ⟨vs, H1, I1, r1, a, ns, ev, hl, hq⟩ => ?_) he hpl (by rw [hk]; rfl) (by rw [hk]; rfl)
  rw [hk]
  subst ev
  refine wpAny_evalAll_cons (wpAny_bind (ld_blt I1 hg2 hm2 (by decide +kernel : bootBuiltins "abs" = some (.builtin "abs")) (wpAny_bind (wpAny_standAt (wpAny_pure (wpAny_evalAll_nil ?_))))))
  rw [Vals.ref1 r1]
  obtain ⟨its, rv, pl, hz⟩ := I1.list (SqL.of hl)
  have ei := each_ints rv
  show wpAny _ _ (call (.builtin "sorted") [.ref a] [(Str.ofString "key", .builtin "abs")]) _ _ s1
  refine PySem.W.sorted_key_data (b := false) (fun i : Int => PyData.int (if i < 0 then -i else i)) pl.isList ei (PySem.W.AllAlike.of fun _ _ => by simp [PySem.W.alike]) (PySem.W.Sortable.others fun b => ⟨(fun z => nomatch z), fun _ z => nomatch z⟩)
    (by rw [List.length_map] at hz; exact hz) (fun i _ => depth_lt hu) (PyProof.Rows.ksk_s1 _ _) (fun _ => PyProof.Rows.ksk_l1 _ _) (fun _ => PyProof.Rows.ksk_t4 _ _) ?_ fun out c h' tk kp hn hD _ eo => ?_
  · rintro v i ⟨t, rfl⟩ _ g k _
    exact PyProof.Rows.call_abs_int fun u tk => ⟨_, _, rfl, fun _ _ z => z, Reads.int _ _⟩
  · rw [PySem.W.dataLe_int] at eo
    have rv' : Vals ((Mi.sab ns).map V.int) out := of_each eo
    have hlen : ((Mi.sab ns).map V.int).length ≤ sizeLine := by
      rw [List.length_map] at hz ⊢
      unfold Mi.sab
      rw [List.length_mergeSort]
      exact hz
    exact ⟨.ref (s1.heap.objs.size + 1), upd H1 (s1.heap.objs.size + 1) (.lst ((Mi.sab ns).map V.int)), I1.laid (t' := tk) (a := s1.heap.objs.size + 1) (o := .lst ((Mi.sab ns).map V.int)) kp (Nat.le_succ _) ⟨hlen, out, c, rv', hD⟩, rfl, hq _ (I1.hok.fresh (Nat.le_succ _))⟩
end
end Srt2

set_option Elab.async false
set_option linter.all false
set_option maxRecDepth 100000
set_option maxHeartbeats 1000000
/-! A def's promise over data; calls of such defs. -/
namespace Lg
open PySem PySem.Spec PyProof.Rows L2
/-- f: what the arguments' data give -/
def SpF (K : PySem.W.Frag) (f : List PyData → Kd → PyData → Prop) : Sp := fun vs H Q _ => ∃ ds k d, DatA K H vs ds ∧ f ds k d ∧ ∀ v H', Same H H' → Res K k H H' v d → Q v H'
/-- what a parameter's slot may be taken for -/
inductive Par : PyData → En → Prop
  | ro (d : PyData) : Par d (.ro d)
  | un (d : PyData) : Par d .un
  | int (i : Int) : Par (.int i) (.im (.int i))
  | str (i : Str) : Par (.str i) (.im (.str i))
  | non : Par .none (.im .none)
  | bool (i : Bool) : Par (.bool i) (.im (.bool i))
  | tup (ds : List PyData) : Par (.tuple ds) (.im (.tuple ds))
inductive Pars : List PyData → List En → Prop
  | nil : Pars [] []
  | cons {d : PyData} {ds : List PyData} {e : En} {es : List En} : Par d e → Pars ds es → Pars (d :: ds) (e :: es)
section
variable {K : PySem.W.Frag}
theorem DatA.length {H : Hp} {vs : List V} {ds : List PyData} (h : DatA K H vs ds) : vs.length = ds.length := by
  induction h with
  | nil => rfl
  | cons _ _ ih => exact congrArg (· + 1) ih
theorem DatA.get {H : Hp} : ∀ {vs : List V} {ds : List PyData} {i : Nat} {d : PyData}, DatA K H vs ds → ds[i]? = some d → ∃ v, vs[i]? = some v ∧ Dat K H v d
  | _, _, _, _, .nil, e => by simp at e
  | _, _, 0, _, .cons r _, e => by simp at e; subst e; exact ⟨_, rfl, r⟩
  | _, _, i + 1, d, .cons _ t, e => by
    obtain ⟨u, h1, h2⟩ := DatA.get (i := i) (d := d) t (by simpa using e)
    exact ⟨u, by simpa using h1, h2⟩
theorem Pars.length {ds : List PyData} {es : List En} (h : Pars ds es) : ds.length = es.length := by
  induction h with
  | nil => rfl
  | cons _ _ ih => exact congrArg (· + 1) ih
theorem Pars.get : ∀ {ds : List PyData} {es : List En} {i : Nat} {e : En}, Pars ds es → es[i]? = some e → ∃ d, ds[i]? = some d ∧ Par d e
  | _, _, _, _, .nil, e => by simp at e
  | _, _, 0, _, .cons r _, e => by simp at e; subst e; exact ⟨_, rfl, r⟩
  | _, _, i + 1, d, .cons _ t, e => by
    obtain ⟨u, h1, h2⟩ := Pars.get (i := i) (e := d) t (by simpa using e)
    exact ⟨u, by simpa using h1, h2⟩
theorem Par.sl {m : Md} {H : Hp} {σ : L2.St} {i : Nat} {v : V} {d : PyData} {e : En} (p : Par d e) (h : Dat K H v d) (hs : σ[i]? = some (some v)) : SlOk K m H H σ i e ∧ OwnE e = false := by
  cases p with
  | ro d =>
    refine ⟨⟨v, hs, ?_⟩, rfl⟩
    rcases h with h | ⟨l, xs, ds, e1, e2, e3, e4⟩
    · exact .inl h
    · exact .inr ⟨l, xs, ds, e1, e2, by rw [e3]; simp, e3, e4⟩
  | un d => exact ⟨True.intro, rfl⟩
  | int i => exact ⟨⟨v, hs, h.im rfl⟩, rfl⟩
  | str i => exact ⟨⟨v, hs, h.im rfl⟩, rfl⟩
  | non => exact ⟨⟨v, hs, h.im rfl⟩, rfl⟩
  | bool i => exact ⟨⟨v, hs, h.im rfl⟩, rfl⟩
  | tup ds =>
    obtain ⟨a, xs, rfl, s, r⟩ := h.tup
    exact ⟨⟨_, hs, .tup s r⟩, rfl⟩
theorem start_get {N : List Str} {vs : List V} {i : Nat} {v : V} (h : vs[i]? = some v) : (L2.start N vs)[i]? = some (some v) := by
  unfold L2.start
  have hi := (List.getElem?_eq_some_iff.mp h).1
  rw [List.getElem?_append_left (by simpa using hi), List.getElem?_map, h]
  rfl
theorem Ok.start {H : Hp} {N : List Str} {vs : List V} {ds : List PyData} {es : List En} {n B : Nat} (hd : DatA K H vs ds) (hp : Pars ds es) (hn : N.length = es.length + n) : Ok K none H (H, []) H (L2.start N vs) (es ++ List.replicate n .un) B := by
  have l1 := hd.length
  have l2 := hp.length
  have key : ∀ i e, (es ++ List.replicate n En.un)[i]? = some e → SlOk K none H H (L2.start N vs) i e ∧ OwnE e = false := fun i e he => by
    by_cases hi : i < es.length
    · rw [List.getElem?_append_left hi] at he
      obtain ⟨d, h1, h2⟩ := hp.get he
      obtain ⟨v, h3, h4⟩ := hd.get h1
      exact h2.sl h4 (start_get h3)
    · rw [List.getElem?_append_right (Nat.le_of_not_lt hi), List.getElem?_replicate] at he
      split at he
      · cases he
        exact ⟨True.intro, rfl⟩
      · cases he
  refine ⟨?_, Gx.refl _ _, (fun _ _ z => nomatch z), fun i e he => (key i e he).1, fun i j a ⟨⟨e, h1, h2⟩, _⟩ _ => ?_, fun _ z => by simp at z, fun _ _ z _ => z⟩
  · unfold L2.start
    rw [List.length_append, List.length_map, List.length_replicate, List.length_append, List.length_replicate]
    omega
  · have z := (key i e h1).2
    rw [h2] at z
    cases z
end
/-- a def that stands in the module under its name and keeps a promise -/
structure Cal (P : Program) (w : World) (K : PySem.W.Frag) (mg : Str → Option Value) (base : Heap) (k : Nat) (x : Str) (ps : List Str) (sp : Sp) : Prop where
  ex : ∃ f fd, FnOk P w K mg base CX0 k f fd ps sp ∧ mg x = some (.ref f) ∧ PySem.W.keepIn K (.ref f) = true ∧ Binds K fd ps []
theorem pe_def {X : Cx} {k j : Nat} {x : Str} {ps : List Str} {sp : Sp} {e : Expr} {es : List Expr} {t : TA} {p pos : Pos} (C : Cal X.prog X.w X.K X.mg X.base k x ps sp) (hr : Room j X.A) (ha : PA X (e :: es) t) (hj : k ≤ j := by decide) (hg : Gl X x := by rfl)
    (hdb : (x == ("__debug__" : Str)) = false := by decide) (he : starEach (e :: es) X.env = (false, eval e X.env) :: starEach es X.env := by rfl) (hpl : (backTo pos (starEach es X.env)).any (·.1) = false := by rfl) :
    PE X (.Call (.Name x p) (e :: es) [] pos) (tCall sp [] L2.E0 t) := by
  obtain ⟨f, fd, G, hm, hk, hb⟩ := C.ex
  exact pe_call G (hr.mono hj) hg hm hk hb .nil pass0 ha hdb he hpl
theorem ev_def {K : PySem.W.Frag} {m : Md} {Γ : List En} {c : Nat} {k : Kd} {t : TA} {f : List PyData → Kd → PyData → Prop} {ds : List PyData} {d : PyData} {E : XK} (ha : EA K m .da t Γ c (Is ds)) (hf : f ds k d) : Ev K m k (tCall (SpF K f) [] E t) Γ c (Is d) :=
  ev_call (c2 := 0) ha fun H0 P H σ B o vs ds' e1 e2 Q q => by
    subst e1
    rw [List.append_nil]
    exact ⟨_, k, d, e2, hf, fun v H' s r => q v H' d (o.same s) (.of s) rfl r⟩
/-- the block gives d (of the kind k), whatever it costs -/
def SgN (K : PySem.W.Frag) (t : TS) (Γ : List En) (k : Kd) (d : PyData) : Prop := ∃ c, Sg K none t Γ c (fun _ => k = .im ∧ d = .none) no no (fun k' d' _ => k' = k ∧ d' = d)
theorem sgN {K : PySem.W.Frag} {t : TS} {Γ : List En} {k : Kd} {d : PyData} {c : Nat} (h : Sg K none t Γ c (fun _ => k = .im ∧ d = .none) no no (fun k' d' _ => k' = k ∧ d' = d)) : SgN K t Γ k d := ⟨c, h⟩
/-- the rule for a def -/
theorem fn_pure {P : Program} {w : World} {K : PySem.W.Frag} {mg : Str → Option Value} {base : Heap} {x : Str} {st : Stmt} {f : Addr} {fd : FuncData} {N ps : List Str} {j : Nat} {g : List PyData → Kd → PyData → Prop} (F : Fun K x x st f fd) (S : FnScope N ps (defScope st))
    (hlen : ∀ ds k d, g ds k d → ds.length = ps.length)
    (hb : ∀ (cdv : Value) (A : Around) (outer : List Env) (s : Shared) (H : Hp) (E : XK), Room j (A.deeper (envOfC x (defScope st) s.heap.objs.size f cdv)) → ∀ ds k d, g ds k d →
      ∃ t, PSs (cxOf CX0 P w K mg base N x (defScope st) f cdv A outer s H E).nox (defBody st) t ∧ ∃ es n, Pars ds es ∧ N.length = es.length + n ∧ SgN K t (es ++ List.replicate n .un) k d) :
    FnOk P w K mg base CX0 (j + 1) f fd ps (SpF K g) := by
  refine F.ok S (fun vs H Q E ⟨ds, k, d, h1, h2, _⟩ => by rw [h1.length]; exact hlen _ _ _ h2) fun cdv A outer s H vs Q E hr ⟨ds, k, d, h1, h2, q⟩ => ?_
  obtain ⟨t, ht, es, n, hp, hn, c, sg⟩ := hb cdv A outer s H E hr ds k d h2
  refine ⟨t, ht, sg H (H, []) H _ 0 _ (Ok.start h1 hp hn) (fun σ' H' Γ' ⟨e1, e2⟩ o => ?_) (fun _ _ _ z _ => z.elim) (fun _ _ _ z _ => z.elim) fun v H' σ' Γ' k' d' ⟨e1, e2⟩ o r => ?_⟩
  · subst e1 e2
    exact q .non H' o.fr.same .non
  · subst e1 e2
    exact q v H' o.fr.same r
end Lg

set_option Elab.async false
set_option linter.all false
set_option maxRecDepth 100000
set_option maxHeartbeats 1000000
/-! Comprehensions over slots of data; for over enumerate of a tuple. -/
namespace Lg
open PySem PySem.Spec PyProof.Rows L2
theorem wipe_get (σ : L2.St) (i : Nat) : ∀ vs : List Nat, (wipe σ vs)[i]? = if i ∈ vs then (σ[i]?).map (fun _ => none) else σ[i]?
  | [] => by simp [wipe]
  | v :: vs => by
    have ih := wipe_get σ i vs
    unfold wipe
    by_cases h : v = i
    · subst h
      rw [if_pos List.mem_cons_self, List.getElem?_set_self']
      rw [ih]
      by_cases hv : v ∈ vs
      · rw [if_pos hv]
        cases σ[v]? <;> rfl
      · rw [if_neg hv]
        cases σ[v]? <;> rfl
    · rw [List.getElem?_set_ne h, ih]
      have e : (i ∈ v :: vs) = (i ∈ vs) := by simp [Ne.symm h]
      by_cases hv : i ∈ vs
      · rw [if_pos hv, if_pos (by rw [e]; exact hv)]
      · rw [if_neg hv, if_neg (by rw [e]; exact hv)]
theorem wipe_set {σ : L2.St} {vs : List Nat} {j : Nat} {x : Option V} (h : j ∈ vs) : wipe (σ.set j x) vs = wipe σ vs := by
  apply List.ext_getElem?
  intro i
  rw [wipe_get, wipe_get]
  by_cases hi : i ∈ vs
  · rw [if_pos hi, if_pos hi]
    by_cases hj : j = i
    · subst hj
      rw [List.getElem?_set_self']
      cases σ[j]? <;> rfl
    · rw [List.getElem?_set_ne hj]
  · rw [if_neg hi, if_neg hi, List.getElem?_set_ne (fun z => hi (by rw [← z]; exact h))]
theorem wipe_wipe {σ : L2.St} {vs : List Nat} : wipe (wipe σ vs) vs = wipe σ vs := by
  apply List.ext_getElem?
  intro i
  rw [wipe_get, wipe_get]
  by_cases hi : i ∈ vs
  · rw [if_pos hi, if_pos hi]
    cases σ[i]? <;> rfl
  · rw [if_neg hi, if_neg hi]
/-- the slots of the block's own names are no longer known -/
def wipeG (Γ : List En) : List Nat → List En
  | [] => Γ
  | v :: vs => (wipeG Γ vs).set v .un
theorem wipeG_len (Γ : List En) : ∀ vs, (wipeG Γ vs).length = Γ.length
  | [] => rfl
  | v :: vs => by unfold wipeG; rw [List.length_set, wipeG_len Γ vs]
section
variable {K : PySem.W.Frag} {m : Md} {k k1 k2 k3 : Kd} {te ta tb tc tv : TE} {tt : TT} {Γ Γ2 : List En} {c c0 c1 c2 ct ce : Nat}
theorem Ok.wipe {H0 : Hp} {P : Pn} {H : Hp} {σ : L2.St} {B : Nat} (o : Ok K m H0 P H σ Γ B) : ∀ vs : List Nat, Ok K m H0 P H (L2.wipe σ vs) (wipeG Γ vs) B
  | [] => o
  | v :: vs => by
    have ih := Ok.wipe o vs
    unfold L2.wipe wipeG
    by_cases hv : v < (wipeG Γ vs).length
    · exact ih.putUn hv
    · rw [List.set_eq_of_length_le (by rw [ih.len]; exact Nat.le_of_not_lt hv), List.set_eq_of_length_le (Nat.le_of_not_lt hv)]
      exact ih
/-- what stands between two turns -/
def LcI (K : PySem.W.Frag) (m : Md) (H1 : Hp) (D : Addr) (I : List PyData → Prop) (n B : Nat) (H' : Hp) : Prop :=
  Gx m H1 H' ∧ (∀ p c, m = some (p, c) → PenOk H' p c B) ∧ ∃ acc ds, H' D = some (.lst acc) ∧ ImA K H' acc ds ∧ I ds ∧ ds.length ≤ n
theorem lc_body {Tb : Bool → Prop} {Re : PyData → Prop} {I I' : List PyData → Prop} {H0 H1 H' : Hp} {P : Pn} {σ2 : L2.St} {D : Addr} {n B : Nat} (ht : ET K m tt Γ2 ct Tb) (he : Tb true → Ev K m .im te Γ2 ce Re) (h0 : ∀ ds, I ds → Tb false → I' ds) (h1 : ∀ ds e, I ds → Tb true → Re e → I' (ds ++ [e]))
    (hD : H1 D = none) (hp : ∀ p c, m = some (p, c) → H1 p ≠ none ∧ H1 c ≠ none) (o2 : Ok K m H0 P H' σ2 Γ2 (B + (ct + ce))) (inv : ∃ B', LcI K m H1 D I n B' H') (hn : n < 100000) :
    tt σ2 H' fun b H3 => if b = true then te σ2 H3 fun y H4 => ∃ acc, H4 D = some (.lst acc) ∧ acc.length < sizeLine ∧ LcI K m H1 D I' (n + 1) B (upd H4 D (.lst (acc ++ [y]))) else LcI K m H1 D I' (n + 1) B H3 := by
  obtain ⟨B', g, _, acc, ds, e1, e2, e3, e4⟩ := inv
  refine ht H0 P H' σ2 (B + ce) (o2.le (by omega)) _ fun b H3 o3 g3 r3 => ?_
  cases b with
  | false =>
    show LcI K m H1 D I' (n + 1) B H3
    exact ⟨g.trans g3, (o3.le (by omega)).rt, acc, ds, g3.l e1, e2.mono g3, h0 ds e3 r3, Nat.le_succ_of_le e4⟩
  | true =>
    show te σ2 H3 fun y H4 => ∃ acc, H4 D = some (.lst acc) ∧ acc.length < sizeLine ∧ LcI K m H1 D I' (n + 1) B (upd H4 D (.lst (acc ++ [y])))
    refine he r3 H0 P H3 σ2 B o3 _ fun y H4 d o4 g4 r4 i4 => ?_
    have g34 := g3.trans g4
    have eD := g34.l e1
    have tk : TKeep H4 (upd H4 D (.lst (acc ++ [y]))) := fun a u z w => by
      rw [upd_ne (fun q => ?_)]
      · exact z
      · rw [q, eD] at z
        cases z
        rcases w with ⟨_, w⟩ | ⟨_, _, w⟩ <;> cases w
    refine ⟨acc, eD, by rw [e2.length]; exact z_lt (by omega), fun b u z w => ?_, fun p c hm => ?_, _, ds ++ [d], upd_same, ImA.keep tk _ _ (ImA.snoc i4 (e2.mono g34)), h1 ds d e3 r3 r4, by rw [List.length_append]; show ds.length + 1 ≤ n + 1; omega⟩
    · rw [upd_ne (ne_of_none z hD)]
      exact (g.trans g34) b u z w
    · obtain ⟨hp1, hp2⟩ := hp p c hm
      refine (o4.rt p c hm).keep (fun w hw => ?_) fun w hw => ?_
      · rw [upd_ne fun z => hp1 (by rw [z]; exact hD)]
        exact hw
      · rw [upd_ne fun z => hp2 (by rw [z]; exact hD)]
        exact hw
theorem Ok.penAt {H0 : Hp} {P : Pn} {H : Hp} {σ : L2.St} {B : Nat} (o : Ok K m H0 P H σ Γ B) : ∀ p c, m = some (p, c) → H p ≠ none ∧ H c ≠ none := fun p c e => by
  obtain ⟨cells, _, _, _, _, kvs, h1, _, _, h4, _⟩ := o.rt p c e
  exact ⟨by rw [h4]; simp, by rw [h1]; simp⟩
theorem LcI.start {H1 : Hp} {D : Addr} {I : List PyData → Prop} {B : Nat} (hD : H1 D = none) (hp : ∀ p c, m = some (p, c) → PenOk H1 p c B) (hI : I []) : LcI K m H1 D I 0 B (upd H1 D (.lst [])) :=
  ⟨Gx.new hD, fun p c e => (hp p c e).keep (fun o h => by rw [upd_ne (ne_of_none h hD)]; exact h) fun o h => by rw [upd_ne (ne_of_none h hD)]; exact h, [], [], upd_same, .nil, hI, Nat.le_refl _⟩
theorem bud {n i c B : Nat} (h : i < n) : B + (n - i) * c = B + (n - (i + 1)) * c + c := by
  have : n - i = (n - (i + 1)) + 1 := by omega
  rw [this, Nat.add_mul, Nat.one_mul, Nat.add_assoc]
/-- [e for x in t if ..], t a tuple -/
theorem ev_lcT {j : Nat} {vs : List Nat} {ds : List PyData} (hs : Ev K m k1 ta Γ c0 (Is (.tuple ds))) (hl : ds.length ≤ 100000) (hj : j ∈ vs) (hjl : j < Γ.length) (I : Nat → List PyData → Prop) (Tb : Nat → PyData → Bool → Prop) (Re : Nat → PyData → PyData → Prop) (hI : I 0 [])
    (ht : ∀ i d, ds[i]? = some d → ET K m tt ((wipeG Γ vs).set j (.im d)) ct (Tb i d)) (he : ∀ i d, ds[i]? = some d → Tb i d true → Ev K m .im te ((wipeG Γ vs).set j (.im d)) ce (Re i d))
    (h0 : ∀ i d es, ds[i]? = some d → I i es → Tb i d false → I (i + 1) es) (h1 : ∀ i d es e, ds[i]? = some d → I i es → Tb i d true → Re i d e → I (i + 1) (es ++ [e])) :
    Ev K m .nw (tLc (iTup K ta) (gName j) tt te vs) Γ (c0 + ds.length * (ct + ce)) (fun d => ∃ es, d = .list es ∧ I ds.length es) := fun H0 P H σ B o Q q => by
  refine hs H0 P H σ (B + ds.length * (ct + ce)) (o.le (by omega)) _ fun v H1 d o1 g r e => ?_
  subst r
  obtain ⟨a, xs, rfl, s, r⟩ := e.dat.tup
  have hlen := r.length
  refine ⟨a, rfl, ⟨xs, s⟩, fun D hD => lc_tup (K := K) (a := a) (xs := xs) (fun i H' => LcI K m H1 D (I i) i (B + (ds.length - i) * (ct + ce)) H') (LcI.start hD (by simpa using o1.rt) hI) (fun i H' _ h => h.1.t s) ?_ ?_⟩
  · intro i x H' hx hI'
    obtain ⟨d, hd, ix⟩ := r.at hx
    have hi : i < ds.length := (List.getElem?_eq_some_iff.mp hd).1
    show L2.wipe ((L2.wipe σ vs).set j (some x)) vs = L2.wipe σ vs ∧ _
    refine ⟨by rw [wipe_set hj, wipe_wipe], ?_⟩
    have o2 := ((o1.grow hI'.1 hI'.2.1).wipe vs).putIm (i := j) (by rw [wipeG_len]; exact hjl) (ix.mono hI'.1)
    rw [bud hi] at o2
    exact lc_body (ht i d hd) (he i d hd) (fun es => h0 i d es hd) (fun es e' => h1 i d es e' hd) hD o1.penAt o2 ⟨_, hI'⟩ (by omega)
  · intro H' hI'
    obtain ⟨g', p', acc, es, e1, e2, e3, _⟩ := hI'
    rw [hlen] at p' e3
    exact q _ H' _ (o1.grow g' fun p c hm => (p' p c hm).le (by omega)) (g.trans g') ⟨es, rfl, e3⟩ ⟨D, acc, es, rfl, rfl, fresh_back (P' := P) o1 g hD, e1, e2⟩
/-- over a list -/
theorem ev_lcL {j : Nat} {vs : List Nat} {ds : List PyData} (hs : Ev K m k1 ta Γ c0 (Is (.list ds))) (hl : ds.length ≤ 100000) (hj : j ∈ vs) (hjl : j < Γ.length) (I : Nat → List PyData → Prop) (Tb : Nat → PyData → Bool → Prop) (Re : Nat → PyData → PyData → Prop) (hI : I 0 [])
    (ht : ∀ i d, ds[i]? = some d → ET K m tt ((wipeG Γ vs).set j (.im d)) ct (Tb i d)) (he : ∀ i d, ds[i]? = some d → Tb i d true → Ev K m .im te ((wipeG Γ vs).set j (.im d)) ce (Re i d))
    (h0 : ∀ i d es, ds[i]? = some d → I i es → Tb i d false → I (i + 1) es) (h1 : ∀ i d es e, ds[i]? = some d → I i es → Tb i d true → Re i d e → I (i + 1) (es ++ [e])) :
    Ev K m .nw (tLc (iList K ta) (gName j) tt te vs) Γ (c0 + ds.length * (ct + ce)) (fun d => ∃ es, d = .list es ∧ I ds.length es) := fun H0 P H σ B o Q q => by
  refine hs H0 P H σ (B + ds.length * (ct + ce)) (o.le (by omega)) _ fun v H1 d o1 g r e => ?_
  subst r
  obtain ⟨a, xs, rfl, s, r⟩ := e.dat.lst
  have hlen := r.length
  refine ⟨a, rfl, ⟨xs, SqL.of s⟩, fun D hD => lc_list (K := K) (a := a) (xs := xs) (fun i H' => LcI K m H1 D (I i) i (B + (ds.length - i) * (ct + ce)) H') (LcI.start hD (by simpa using o1.rt) hI) (fun i H' _ h => SqL.of (h.1.l s)) ?_ ?_⟩
  · intro i x H' hx hI'
    obtain ⟨d, hd, ix⟩ := r.at hx
    have hi : i < ds.length := (List.getElem?_eq_some_iff.mp hd).1
    show L2.wipe ((L2.wipe σ vs).set j (some x)) vs = L2.wipe σ vs ∧ _
    refine ⟨by rw [wipe_set hj, wipe_wipe], ?_⟩
    have o2 := ((o1.grow hI'.1 hI'.2.1).wipe vs).putIm (i := j) (by rw [wipeG_len]; exact hjl) (ix.mono hI'.1)
    rw [bud hi] at o2
    exact lc_body (ht i d hd) (he i d hd) (fun es => h0 i d es hd) (fun es e' => h1 i d es e' hd) hD o1.penAt o2 ⟨_, hI'⟩ (by omega)
  · intro H' hI'
    obtain ⟨g', p', acc, es, e1, e2, e3, _⟩ := hI'
    rw [hlen] at p' e3
    exact q _ H' _ (o1.grow g' fun p c hm => (p' p c hm).le (by omega)) (g.trans g') ⟨es, rfl, e3⟩ ⟨D, acc, es, rfl, rfl, fresh_back (P' := P) o1 g hD, e1, e2⟩
theorem lcR_core {j n : Nat} {lo : Int} {vs : List Nat} {H0 H H1 : Hp} {P : Pn} {σ : L2.St} {B : Nat} {Q : VK} {R : PyData → Prop} (hl : n ≤ 100000) (hj : j ∈ vs) (hjl : j < Γ.length) (I : Nat → List PyData → Prop) (Tb : Nat → Bool → Prop) (Re : Nat → PyData → Prop) (hI : I 0 [])
    (ht : ∀ i, i < n → ET K m tt ((wipeG Γ vs).set j (.im (.int (lo + (i : Int))))) ct (Tb i)) (he : ∀ i, i < n → Tb i true → Ev K m .im te ((wipeG Γ vs).set j (.im (.int (lo + (i : Int))))) ce (Re i))
    (h0 : ∀ i es, i < n → I i es → Tb i false → I (i + 1) es) (h1 : ∀ i es e, i < n → I i es → Tb i true → Re i e → I (i + 1) (es ++ [e])) (hR : ∀ es, I n es → R (.list es))
    (o1 : Ok K m H0 P H1 σ Γ (B + n * (ct + ce))) (g : Gx m H H1) (q : ∀ v H' d, Ok K m H0 P H' σ Γ B → Gx m H H' → R d → Res K .nw H H' v d → Q v H') (D : Addr) (hD : H1 D = none) :
    ∃ W : Nat → Nat → Hp → Prop, (∃ m, W 0 m (upd H1 D (.lst []))) ∧ ∀ i m H, W i m H →
      ((Itr lo n).stop i H ∧ Q (.ref D) H) ∨ ((Itr lo n).go i H ∧ ∃ Nx : Hp → Prop, (∀ H', Nx H' → ∃ m', m' < m ∧ W (i + 1) m' H') ∧ ∀ x H', (Itr lo n).yld i H x H' → gName j x (L2.wipe σ vs) H' fun σ2 H2 => L2.wipe σ2 vs = L2.wipe σ vs ∧ tt σ2 H2 fun b H3 =>
        if b = true then te σ2 H3 fun y H4 => ∃ acc, H4 D = some (.lst acc) ∧ acc.length < sizeLine ∧ Nx (upd H4 D (.lst (acc ++ [y]))) else Nx H3) := by
  refine lc_range (lo := lo) (n := n) (fun i H' => LcI K m H1 D (I i) i (B + (n - i) * (ct + ce)) H') (LcI.start hD (by simpa using o1.rt) hI) ?_ ?_
  · intro i H' hi hI'
    show L2.wipe ((L2.wipe σ vs).set j (some (.int (lo + (i : Int))))) vs = L2.wipe σ vs ∧ _
    refine ⟨by rw [wipe_set hj, wipe_wipe], ?_⟩
    have o2 := ((o1.grow hI'.1 hI'.2.1).wipe vs).putIm (i := j) (v := .int (lo + (i : Int))) (by rw [wipeG_len]; exact hjl) (.int _)
    rw [bud hi] at o2
    exact lc_body (ht i hi) (he i hi) (fun es => h0 i es hi) (fun es e' => h1 i es e' hi) hD o1.penAt o2 ⟨_, hI'⟩ (by omega)
  · intro H' hI'
    obtain ⟨g', p', acc, es, e1, e2, e3, _⟩ := hI'
    exact q _ H' _ (o1.grow g' fun p c hm => (p' p c hm).le (by omega)) (g.trans g') (hR es e3) ⟨D, acc, es, rfl, rfl, fresh_back (P' := P) o1 g hD, e1, e2⟩
/-- over range(n) -/
theorem ev_lcR1 {j n : Nat} {vs : List Nat} {tr : TA} (hs : EA K m .da tr Γ c0 (Is [.int (n : Int)])) (hl : n ≤ 100000) (hj : j ∈ vs) (hjl : j < Γ.length) (I : Nat → List PyData → Prop) (Tb : Nat → Bool → Prop) (Re : Nat → PyData → Prop) (hI : I 0 [])
    (ht : ∀ i, i < n → ET K m tt ((wipeG Γ vs).set j (.im (.int (0 + (i : Int))))) ct (Tb i)) (he : ∀ i, i < n → Tb i true → Ev K m .im te ((wipeG Γ vs).set j (.im (.int (0 + (i : Int))))) ce (Re i))
    (h0 : ∀ i es, i < n → I i es → Tb i false → I (i + 1) es) (h1 : ∀ i es e, i < n → I i es → Tb i true → Re i e → I (i + 1) (es ++ [e])) :
    Ev K m .nw (tLc (iRng1 tr) (gName j) tt te vs) Γ (c0 + n * (ct + ce)) (fun d => ∃ es, d = .list es ∧ I n es) := fun H0 P H σ B o Q q => by
  refine hs H0 P H σ (B + n * (ct + ce)) (o.le (by omega)) _ fun v H1 d o1 g r e => ?_
  subst r
  cases e with
  | cons e1 e2 =>
    cases e2
    rw [e1.int]
    refine ⟨(n : Int), rfl, by omega, by omega, fun D hD => ?_⟩
    rw [Int.toNat_natCast n]
    exact lcR_core hl hj hjl I Tb Re hI ht he h0 h1 (R := fun d => ∃ es, d = .list es ∧ I n es) (fun es h => ⟨es, rfl, h⟩) o1 g q D hD
/-- over range(1, n + 1) -/
theorem ev_lcR2 {j n : Nat} {vs : List Nat} {tr : TA} (hs : EA K m .da tr Γ c0 (Is [.int 1, .int ((n : Int) + 1)])) (hl : n ≤ 100000) (hj : j ∈ vs) (hjl : j < Γ.length) (I : Nat → List PyData → Prop) (Tb : Nat → Bool → Prop) (Re : Nat → PyData → Prop) (hI : I 0 [])
    (ht : ∀ i, i < n → ET K m tt ((wipeG Γ vs).set j (.im (.int (1 + (i : Int))))) ct (Tb i)) (he : ∀ i, i < n → Tb i true → Ev K m .im te ((wipeG Γ vs).set j (.im (.int (1 + (i : Int))))) ce (Re i))
    (h0 : ∀ i es, i < n → I i es → Tb i false → I (i + 1) es) (h1 : ∀ i es e, i < n → I i es → Tb i true → Re i e → I (i + 1) (es ++ [e])) :
    Ev K m .nw (tLc (iRng2 tr) (gName j) tt te vs) Γ (c0 + n * (ct + ce)) (fun d => ∃ es, d = .list es ∧ I n es) := fun H0 P H σ B o Q q => by
  refine hs H0 P H σ (B + n * (ct + ce)) (o.le (by omega)) _ fun v H1 d o1 g r e => ?_
  subst r
  cases e with
  | cons e1 e2 =>
    cases e2 with
    | cons e2 e3 =>
      cases e3
      rw [e1.int, e2.int]
      refine ⟨1, (n : Int) + 1, rfl, ⟨by decide, by decide, by omega, by omega⟩, fun D hD => ?_⟩
      have en : (((n : Int) + 1) - 1).toNat = n := by omega
      rw [en]
      exact lcR_core hl hj hjl I Tb Re hI ht he h0 h1 (R := fun d => ∃ es, d = .list es ∧ I n es) (fun es h => ⟨es, rfl, h⟩) o1 g q D hD
/-- the target a, b -/
theorem put2 {H0 : Hp} {P : Pn} {H : Hp} {σ : L2.St} {B i j : Nat} {x y : V} {d e : PyData} (o : Ok K m H0 P H σ Γ B) (hi : i < Γ.length) (hj : j < Γ.length) (hx : Im K H x d) (hy : Im K H y e) :
    Ok K m H0 P H ((σ.set i (some x)).set j (some y)) ((Γ.set i (.im d)).set j (.im e)) B := (o.putIm hi hx).putIm (by rw [List.length_set]; exact hj) hy
/-- [e for a, b in t if ..], t a tuple of pairs -/
theorem ev_lcT2 {j l : Nat} {vs : List Nat} {ps : List (PyData × PyData)} (hs : Ev K m k1 ta Γ c0 (Is (.tuple (ps.map fun p => .tuple [p.1, p.2])))) (hl : ps.length ≤ 100000) (hj : j ∈ vs) (hl' : l ∈ vs) (hjl : j < Γ.length) (hll : l < Γ.length) (I : Nat → List PyData → Prop) (Tb : Nat → PyData → PyData → Bool → Prop) (Re : Nat → PyData → PyData → PyData → Prop) (hI : I 0 [])
    (ht : ∀ i x y, ps[i]? = some (x, y) → ET K m tt (((wipeG Γ vs).set j (.im x)).set l (.im y)) ct (Tb i x y)) (he : ∀ i x y, ps[i]? = some (x, y) → Tb i x y true → Ev K m .im te (((wipeG Γ vs).set j (.im x)).set l (.im y)) ce (Re i x y))
    (h0 : ∀ i x y es, ps[i]? = some (x, y) → I i es → Tb i x y false → I (i + 1) es) (h1 : ∀ i x y es e, ps[i]? = some (x, y) → I i es → Tb i x y true → Re i x y e → I (i + 1) (es ++ [e])) :
    Ev K m .nw (tLc (iTup K ta) (gTup K 2 (gCons (gName j) (gCons (gName l) gNil))) tt te vs) Γ (c0 + ps.length * (ct + ce)) (fun d => ∃ es, d = .list es ∧ I ps.length es) := fun H0 P H σ B o Q q => by
  refine hs H0 P H σ (B + ps.length * (ct + ce)) (o.le (by omega)) _ fun v H1 d o1 g r e => ?_
  subst r
  obtain ⟨a, xs, rfl, s, r⟩ := e.dat.tup
  have hlen := r.length
  rw [List.length_map] at hlen
  refine ⟨a, rfl, ⟨xs, s⟩, fun D hD => lc_tup (K := K) (a := a) (xs := xs) (fun i H' => LcI K m H1 D (I i) i (B + (ps.length - i) * (ct + ce)) H') (LcI.start hD (by simpa using o1.rt) hI) (fun i H' _ h => h.1.t s) ?_ ?_⟩
  · intro i x H' hx hI'
    obtain ⟨d, hd, ix⟩ := r.at hx
    rw [List.getElem?_map] at hd
    obtain ⟨⟨u, w⟩, hp, rfl⟩ := Option.map_eq_some_iff.mp hd
    have hi : i < ps.length := (List.getElem?_eq_some_iff.mp hp).1
    obtain ⟨b, ys, rfl, s2, r2⟩ := (show Dat K H' x _ from .inl (ix.mono hI'.1)).tup
    cases r2 with
    | @cons x1 _ _ _ i1 r2 =>
      cases r2 with
      | @cons x2 _ _ _ i2 r2 =>
        cases r2
        refine ⟨b, _, rfl, s2, rfl, _, _, rfl, _, _, rfl, rfl, ?_⟩
        refine ⟨by rw [wipe_set hl', wipe_set hj, wipe_wipe], ?_⟩
        have o2 := put2 ((o1.grow hI'.1 hI'.2.1).wipe vs) (i := j) (j := l) (by rw [wipeG_len]; exact hjl) (by rw [wipeG_len]; exact hll) i1 i2
        rw [bud hi] at o2
        exact lc_body (ht i u w hp) (he i u w hp) (fun es => h0 i u w es hp) (fun es e' => h1 i u w es e' hp) hD o1.penAt o2 ⟨_, hI'⟩ (by omega)
  · intro H' hI'
    obtain ⟨g', p', acc, es, e1, e2, e3, _⟩ := hI'
    rw [hlen] at p' e3
    exact q _ H' _ (o1.grow g' fun p c hm => (p' p c hm).le (by omega)) (g.trans g') ⟨es, rfl, e3⟩ ⟨D, acc, es, rfl, rfl, fresh_back (P' := P) o1 g hD, e1, e2⟩
end
end Lg

set_option Elab.async false
set_option linter.all false
set_option maxRecDepth 100000
set_option maxHeartbeats 1000000
/-! zip and enumerate of rows; sorts; several targets. -/
namespace Lg
open PySem PySem.Spec PyProof.Rows L2
section
variable {K : PySem.W.Frag} {m : Md} {k k1 k2 k3 : Kd} {te ta tb tc tv : TE} {tt : TT} {t u : TS} {Γ Γ2 : List En} {c c0 c1 c2 ct ce : Nat} {N Bk Ct : Po} {Rt : Kd → PyData → List En → Prop}
theorem same_new {H : Hp} {p : Addr} {o : HO} (h : H p = none) : Same H (upd H p o) := fun a u z => by rw [upd_ne (ne_of_none z h)]; exact z
/-- [e for a, b in zip(t, l) if ..], t a tuple, l a list of as many -/
theorem ev_lcZ {j l : Nat} {vs : List Nat} {ds es : List PyData} {tr : TA} (hs : EA K m .da tr Γ c0 (Is [.tuple ds, .list es])) (hn : ds.length = es.length) (hl : ds.length ≤ 100000) (hj : j ∈ vs) (hl' : l ∈ vs) (hjl : j < Γ.length) (hll : l < Γ.length) (I : Nat → List PyData → Prop) (Tb : Nat → PyData → PyData → Bool → Prop) (Re : Nat → PyData → PyData → PyData → Prop) (hI : I 0 [])
    (ht : ∀ i x y, ds[i]? = some x → es[i]? = some y → ET K m tt (((wipeG Γ vs).set j (.im x)).set l (.im y)) ct (Tb i x y)) (he : ∀ i x y, ds[i]? = some x → es[i]? = some y → Tb i x y true → Ev K m .im te (((wipeG Γ vs).set j (.im x)).set l (.im y)) ce (Re i x y))
    (h0 : ∀ i x y acc, ds[i]? = some x → es[i]? = some y → I i acc → Tb i x y false → I (i + 1) acc) (h1 : ∀ i x y acc e, ds[i]? = some x → es[i]? = some y → I i acc → Tb i x y true → Re i x y e → I (i + 1) (acc ++ [e])) :
    Ev K m .nw (tLc (Zp.iZipM K tr) (gTup K 2 (gCons (gName j) (gCons (gName l) gNil))) tt te vs) Γ (c0 + ds.length * (ct + ce)) (fun d => ∃ acc, d = .list acc ∧ I ds.length acc) := fun H0 P H σ B o Q q => by
  refine hs H0 P H σ (B + ds.length * (ct + ce)) (o.le (by omega)) _ fun us H1 dd o1 g r e => ?_
  subst r
  cases e with
  | @cons v1 _ _ _ e1 e2 =>
    cases e2 with
    | @cons v2 _ _ _ e2 e3 =>
      cases e3
      obtain ⟨a, xs, rfl, s1, r1⟩ := e1.tup
      obtain ⟨b, ys, rfl, s2, r2⟩ := e2.lst
      have hx := r1.length
      have hy := r2.length
      refine ⟨a, b, xs, ys, rfl, s1, SqL.of s2, fun D hD => ⟨fun i w H' => w = ds.length - i ∧ i ≤ ds.length ∧ LcI K m H1 D (I i) i (B + (ds.length - i) * (ct + ce)) H', ⟨ds.length, rfl, Nat.zero_le _, LcI.start hD (by simpa using o1.rt) hI⟩, ?_⟩⟩
      rintro i w H' ⟨rfl, hi, hI'⟩
      by_cases hlt : i < ds.length
      · have x1 : xs[i]? = some xs[i] := List.getElem?_eq_getElem (by omega)
        have y1 : ys[i]? = some ys[i] := List.getElem?_eq_getElem (by omega)
        refine .inr ⟨⟨xs, ys, _, _, hI'.1.t s1, SqL.of (hI'.1.l s2), x1, y1⟩, LcI K m H1 D (I (i + 1)) (i + 1) (B + (ds.length - (i + 1)) * (ct + ce)), fun H2 z => ⟨ds.length - (i + 1), by omega, rfl, hlt, z⟩, ?_⟩
        rintro v H2 ⟨T, x, y, rfl, hT, rfl, fx, fy⟩
        obtain ⟨dx, hdx, ix⟩ := r1.at (fx xs (hI'.1.t s1))
        obtain ⟨dy, hdy, iy⟩ := r2.at (fy ys (SqL.of (hI'.1.l s2)))
        have g2 : Gx m H1 (upd H' T (.tup [x, y])) := hI'.1.trans (.of (same_new hT))
        refine ⟨T, _, rfl, SqT.of upd_same, rfl, _, _, rfl, _, _, rfl, rfl, ?_⟩
        refine ⟨by rw [wipe_set hl', wipe_set hj, wipe_wipe], ?_⟩
        have pk : ∀ p c, m = some (p, c) → PenOk (upd H' T (.tup [x, y])) p c (B + (ds.length - i) * (ct + ce)) := fun p c hm => (hI'.2.1 p c hm).keep (fun _ z => same_new hT _ _ z) fun _ z => same_new hT _ _ z
        have o2 := put2 ((o1.grow g2 pk).wipe vs) (i := j) (j := l) (by rw [wipeG_len]; exact hjl) (by rw [wipeG_len]; exact hll) (ix.mono g2) (iy.mono g2)
        rw [bud hlt] at o2
        refine lc_body (ht i dx dy hdx hdy) (he i dx dy hdx hdy) (fun acc => h0 i dx dy acc hdx hdy) (fun acc e' => h1 i dx dy acc e' hdx hdy) hD o1.penAt o2 ⟨B + (ds.length - i) * (ct + ce), g2, pk, ?_⟩ (by omega)
        obtain ⟨acc, es', a1, a2, a3, a4⟩ := hI'.2.2
        exact ⟨acc, es', same_new hT _ _ a1, a2.mono (m := none) (.of (same_new hT)), a3, a4⟩
      · have ei : i = ds.length := by omega
        subst ei
        obtain ⟨g', p', acc, es', a1, a2, a3, _⟩ := hI'
        refine .inl ⟨⟨xs, ys, g'.t s1, SqL.of (g'.l s2), hx, by omega⟩, ?_⟩
        exact q _ H' _ (o1.grow g' fun p c hm => (p' p c hm).le (by omega)) (g.trans g') ⟨es', rfl, a3⟩ ⟨D, acc, es', rfl, rfl, fresh_back (P' := P) o1 g hD, a1, a2⟩
/-- for i, x in enumerate(t) -/
theorem sg_forE {j l : Nat} {ds : List PyData} {tr : TA} (he : EA K m .da tr Γ c0 (Is [.tuple ds])) (I : Nat → Po) (cb : Nat) (h0 : I 0 Γ)
    (hs : ∀ i d Γ', ds[i]? = some d → I i Γ' → j < Γ'.length ∧ l < Γ'.length ∧ Sg K m t ((Γ'.set j (.im (.int (i : Nat)))).set l (.im d)) cb (I (i + 1)) N (I (i + 1)) Rt) (hd : ∀ Γ', I ds.length Γ' → N Γ') :
    Sg K m (tFor (Zp.iEnumT K tr) (gTup K 2 (gCons (gName j) (gCons (gName l) gNil))) t) Γ (c0 + ds.length * cb) N Bk Ct Rt := fun H0 P H σ B D o q1 q2 q3 q4 => by
  refine he H0 P H σ (B + ds.length * cb) (o.le (by omega)) _ fun v H1 d o1 g r e => ?_
  subst r
  cases e with
  | @cons v1 _ _ _ e1 e2 =>
    cases e2
    obtain ⟨a, xs, rfl, s, r⟩ := e1.tup
    have hlen := r.length
    refine ⟨a, xs, rfl, s, fun i w σ' H' => w = ds.length - i ∧ i ≤ ds.length ∧ ∃ Γ', I i Γ' ∧ Ok K m H0 (H1, P.2) H' σ' Γ' (B + (ds.length - i) * cb), ⟨ds.length, rfl, Nat.zero_le _, Γ, h0, by simpa using o1.now⟩, ?_⟩
    rintro i w σ' H' ⟨rfl, hi, Γ', hI, o'⟩
    by_cases hlt : i < ds.length
    · have x1 : xs[i]? = some xs[i] := List.getElem?_eq_getElem (by omega)
      refine .inr ⟨⟨xs, _, o'.tk.t s, x1⟩, fun σ2 H2 => ∃ Γ', I (i + 1) Γ' ∧ Ok K m H0 (H1, P.2) H2 σ2 Γ' (B + (ds.length - (i + 1)) * cb), fun σ2 H2 z => ⟨ds.length - (i + 1), by omega, rfl, hlt, z⟩, ?_⟩
      rintro v H2 ⟨T, x, rfl, hT, rfl, fx⟩
      obtain ⟨dx, hdx, ix⟩ := r.at (fx xs (o'.tk.t s))
      obtain ⟨hj, hl, sb⟩ := hs i dx Γ' hdx hI
      refine ⟨T, _, rfl, SqT.of upd_same, rfl, _, _, rfl, _, _, rfl, rfl, ?_⟩
      have o2 := put2 (o'.same (same_new (o := .tup [.int (i : Nat), x]) hT)) (i := j) (j := l) hj hl (.int (i : Nat)) ((Im.keep o'.tk _ _ ix).mono (m := none) (.of (same_new hT)))
      rw [bud hlt] at o2
      exact sb H0 (H1, P.2) _ _ (B + (ds.length - (i + 1)) * cb) _ o2 (fun σ2 H2 Γ2 a2 o3 => ⟨Γ2, a2, o3⟩) (fun σ2 H2 Γ2 a2 o3 => q1 σ2 H2 Γ2 a2 ((o1.then o3).le (by omega))) (fun σ2 H2 Γ2 a2 o3 => ⟨Γ2, a2, o3⟩)
        fun v2 H2 σ2 Γ2 k2 d2 a2 o3 r2 => q4 v2 H2 σ2 Γ2 k2 d2 a2 ((o1.then o3).le (by omega)) r2
    · have ei : i = ds.length := by omega
      subst ei
      exact .inl ⟨⟨xs, o'.tk.t s, hlen⟩, q1 σ' H' Γ' (hd Γ' hI) ((o1.then o').le (by omega))⟩
/-! sorts -/
theorem ev_setSorted {w : World} {ns : List Int} (ha : Ev K m k1 ta Γ c (Is (.list (ns.map .int)))) (hl : ns.length < 64) : Ev K m .nw (tCB (rSortedSet w) (tCons (tCB (Srt2.rSetL w) (tCons ta tNil)) tNil)) Γ c (Is (.list ((Mi.sst ns).map .int))) := fun H0 P H σ B o Q q => by
  refine ha H0 P H σ B o _ fun v H1 d o1 g r e => ?_
  subst r
  obtain ⟨a, xs, rfl, s, r⟩ := e.dat.lst
  rw [ImA.ints_inv r] at s
  refine ⟨a, ns, rfl, s, Nat.lt_trans (Nat.succ_lt_succ hl) (by decide), fun p n hp hn => ?_⟩
  refine ⟨p, _, n, rfl, upd_same, Nat.lt_of_le_of_lt hn hl, fun ks l h1 h2 _ hl' => ?_⟩
  have z : ks = Mi.sst ns := Mi.sst_of h1 fun k' => by rw [h2, decide_eq_true_eq]
  subst z
  have s1 := same_new (o := SetO w p (fun j => decide (j ∈ ns)) n) hp
  have s2 := same_new (o := .lst ((Mi.sst ns).map V.int)) hl'
  exact q _ _ _ ((o1.same s1).same s2) (g.trans (.of (s1.trans s2))) rfl ⟨l, _, _, rfl, rfl, fresh_back (P' := P) o1 g (s1.free hl'), upd_same, ImA.ints _⟩
theorem ev_sab {ns : List Int} (ha : Ev K m k1 ta Γ c (Is (.list (ns.map .int)))) : Ev K m .nw (Srt2.tSab (tCons ta tNil)) Γ c (Is (.list ((Mi.sab ns).map .int))) := fun H0 P H σ B o Q q => by
  refine ha H0 P H σ B o _ fun v H1 d o1 g r e => ?_
  subst r
  obtain ⟨a, xs, rfl, s, r⟩ := e.dat.lst
  rw [ImA.ints_inv r] at s
  refine ⟨a, ns, rfl, s, fun l hl' => ?_⟩
  have s2 := same_new (o := .lst ((Mi.sab ns).map V.int)) hl'
  exact q _ _ _ (o1.same s2) (g.trans (.of s2)) rfl ⟨l, _, _, rfl, rfl, fresh_back (P' := P) o1 g hl', upd_same, ImA.ints _⟩
/-- x, y = e, f: two plain names -/
theorem sg_par {i j : Nat} {d e : PyData} (h1 : Ev K m .im ta Γ c1 (Is d)) (h2 : Ev K m .im tb Γ c2 (Is e)) (hi : i < Γ.length) (hj : j < Γ.length) (h : N ((Γ.set i (.im d)).set j (.im e))) : Sg K m (tPar i j (tCons ta (tCons tb tNil))) Γ (c1 + c2) N Bk Ct Rt := fun H0 P H σ B D o q1 _ _ _ => by
  refine h1 H0 P H σ (B + c2) (o.le (by omega)) _ fun x H1 d1 o1 g1 r1 e1 => ?_
  subst r1
  refine h2 H0 P H1 σ B o1 _ fun y H2 d2 o2 g2 r2 e2 => ?_
  subst r2
  exact ⟨x, y, rfl, q1 _ _ _ h (put2 o2 hi hj (Im.mono e1 g2) e2)⟩
/-- l[:n] of a list -/
theorem ev_take {ds : List PyData} {n : Nat} {z : Int} (ha : Ev K m k1 ta Γ c1 (Is (.list ds))) (hb : Ev K m k2 tb Γ c2 (Is (.int z))) (hz : z = (n : Int)) (hn : n ≤ ds.length) : Ev K m .nw (tSl (rSlL K) ta tNoPart (tPart tb)) Γ (c1 + c2) (Is (.list (ds.take n))) := fun H0 P H σ B o Q q => by
  subst hz
  refine ha H0 P H σ (B + c2) (o.le (by omega)) _ fun v H1 d o1 g r e => ?_
  subst r
  obtain ⟨a, xs, rfl, s, r⟩ := e.dat.lst
  refine hb H0 P H1 σ B o1 _ fun v2 H2 d2 o2 g2 r2 e2 => ?_
  subst r2
  refine ⟨(n : Int), e2.dat.int, a, xs, rfl, SqL.of (g2.l s), fun l hl' => ?_⟩
  have s2 := same_new (o := .lst (cutV xs none (some (n : Int)))) hl'
  have ec : cutV xs none (some (n : Int)) = xs.take n := by
    have hx := r.length
    show (xs.drop 0).take (HT.sIx xs.length xs.length (some (n : Int)) - 0) = xs.take n
    have : HT.sIx xs.length xs.length (some (n : Int)) = n := by
      unfold HT.sIx
      simp only
      split <;> omega
    rw [List.drop_zero, this, Nat.sub_zero]
  refine q _ _ _ (o2.same s2) ((g.trans g2).trans (.of s2)) rfl ⟨l, _, _, rfl, rfl, fresh_back (P' := P) o2 (g.trans g2) hl', upd_same, ?_⟩
  have r3 := (r.mono g2).mono (m := none) (.of s2)
  rw [ec]
  rw [ec] at r3
  exact ImA.take n r3
end
end Lg

set_option Elab.async false
set_option linter.all false
set_option maxRecDepth 100000
set_option maxHeartbeats 1000000
/-! Comprehensions that give one thing; loops told by a state. -/
namespace Lg
open PySem PySem.Spec PyProof.Rows L2
section
variable {K : PySem.W.Frag} {m : Md} {k k1 k2 k3 : Kd} {te ta tb tc tv : TE} {tt tu : TT} {t u w : TS} {Γ : List En} {c c0 c1 c2 c3 ct ce : Nat} {N Bk Ct : Po} {Rt : Kd → PyData → List En → Prop} {α : Type}
theorem ln {a b : Nat} (h : Nat.blt a b = true) : a < b := Nat.le_of_ble_eq_true h
theorem take_filt {β : Type} {l : List α} {p : α → Bool} {g : α → β} {i : Nat} {x : α} (h : l[i]? = some x) : ((l.take (i + 1)).filter p).map g = ((l.take i).filter p).map g ++ (if p x then [g x] else []) := by
  rw [List.take_add_one, h]
  simp only [Option.toList_some, List.filter_append, List.map_append]
  cases e : p x <;> simp [e]
theorem ev_lcTd {j : Nat} {vs : List Nat} {l : List α} {enc g : α → PyData} {p : α → Bool} (hs : Ev K m k1 ta Γ c0 (Is (.tuple (l.map enc)))) (hl : l.length ≤ 100000) (hj : j ∈ vs) (hjl : j < Γ.length)
    (ht : ∀ (i : Nat) x, l[i]? = some x → ET K m tt ((wipeG Γ vs).set j (.im (enc x))) ct (Is (p x))) (he : ∀ (i : Nat) x, l[i]? = some x → p x = true → Ev K m .im te ((wipeG Γ vs).set j (.im (enc x))) ce (Is (g x))) :
    Ev K m .nw (tLc (iTup K ta) (gName j) tt te vs) Γ (c0 + l.length * (ct + ce)) (Is (.list ((l.filter p).map g))) := by
  have h := ev_lcT (te := te) (tt := tt) (ct := ct) (ce := ce) hs (by rw [List.length_map]; exact hl) hj hjl (fun i es => es = ((l.take i).filter p).map g) (fun i d b => ∃ x, l[i]? = some x ∧ d = enc x ∧ b = p x) (fun i d e => ∃ x, l[i]? = some x ∧ d = enc x ∧ e = g x) rfl
    (fun i d hd => by
      rw [List.getElem?_map] at hd
      obtain ⟨x, hx, rfl⟩ := Option.map_eq_some_iff.mp hd
      exact (ht i x hx).imp fun b e => ⟨x, hx, rfl, e⟩)
    (fun i d hd ⟨x, hx, e1, e2⟩ => by
      subst e1
      exact (he i x hx e2.symm).imp fun b e => ⟨x, hx, rfl, e⟩)
    (fun i d es hd h1 ⟨x, hx, e1, e2⟩ => by rw [take_filt hx, ← e2, h1]; simp)
    (fun i d es e hd h1 ⟨x, hx, e1, e2⟩ ⟨y, hy, e3, e4⟩ => by
      rw [hx] at hy
      cases hy
      rw [take_filt hx, ← e2, h1, e4]; simp)
  rw [List.length_map] at h
  exact h.imp fun d ⟨es, e1, e2⟩ => by rw [e1, e2, List.take_length]; rfl
theorem ev_lcLd {j : Nat} {vs : List Nat} {l : List α} {enc g : α → PyData} {p : α → Bool} (hs : Ev K m k1 ta Γ c0 (Is (.list (l.map enc)))) (hl : l.length ≤ 100000) (hj : j ∈ vs) (hjl : j < Γ.length)
    (ht : ∀ (i : Nat) x, l[i]? = some x → ET K m tt ((wipeG Γ vs).set j (.im (enc x))) ct (Is (p x))) (he : ∀ (i : Nat) x, l[i]? = some x → p x = true → Ev K m .im te ((wipeG Γ vs).set j (.im (enc x))) ce (Is (g x))) :
    Ev K m .nw (tLc (iList K ta) (gName j) tt te vs) Γ (c0 + l.length * (ct + ce)) (Is (.list ((l.filter p).map g))) := by
  have h := ev_lcL (te := te) (tt := tt) (ct := ct) (ce := ce) hs (by rw [List.length_map]; exact hl) hj hjl (fun i es => es = ((l.take i).filter p).map g) (fun i d b => ∃ x, l[i]? = some x ∧ d = enc x ∧ b = p x) (fun i d e => ∃ x, l[i]? = some x ∧ d = enc x ∧ e = g x) rfl
    (fun i d hd => by
      rw [List.getElem?_map] at hd
      obtain ⟨x, hx, rfl⟩ := Option.map_eq_some_iff.mp hd
      exact (ht i x hx).imp fun b e => ⟨x, hx, rfl, e⟩)
    (fun i d hd ⟨x, hx, e1, e2⟩ => by
      subst e1
      exact (he i x hx e2.symm).imp fun b e => ⟨x, hx, rfl, e⟩)
    (fun i d es hd h1 ⟨x, hx, e1, e2⟩ => by rw [take_filt hx, ← e2, h1]; simp)
    (fun i d es e hd h1 ⟨x, hx, e1, e2⟩ ⟨y, hy, e3, e4⟩ => by
      rw [hx] at hy
      cases hy
      rw [take_filt hx, ← e2, h1, e4]; simp)
  rw [List.length_map] at h
  exact h.imp fun d ⟨es, e1, e2⟩ => by rw [e1, e2, List.take_length]; rfl
theorem range_get {n i : Nat} (h : i < n) : (List.range n)[i]? = some i := by rw [List.getElem?_range h]
theorem ev_lcR1d {j n : Nat} {vs : List Nat} {tr : TA} {g : Nat → PyData} {p : Nat → Bool} (hs : EA K m .da tr Γ c0 (Is [.int (n : Int)])) (hl : n ≤ 100000) (hj : j ∈ vs) (hjl : j < Γ.length)
    (ht : ∀ i, i < n → ET K m tt ((wipeG Γ vs).set j (.im (.int (0 + (i : Int))))) ct (Is (p i))) (he : ∀ i, i < n → p i = true → Ev K m .im te ((wipeG Γ vs).set j (.im (.int (0 + (i : Int))))) ce (Is (g i))) :
    Ev K m .nw (tLc (iRng1 tr) (gName j) tt te vs) Γ (c0 + n * (ct + ce)) (Is (.list (((List.range n).filter p).map g))) := by
  have h := ev_lcR1 (te := te) (tt := tt) (ct := ct) (ce := ce) hs hl hj hjl (fun i es => es = (((List.range n).take i).filter p).map g) (fun i => Is (p i)) (fun i => Is (g i)) rfl (fun i hi => ht i hi) (fun i hi e => he i hi e.symm)
    (fun i es hi h1 e2 => by rw [take_filt (range_get hi), ← e2, h1]; simp) (fun i es e hi h1 e2 e3 => by rw [take_filt (range_get hi), ← e2, h1, e3]; simp)
  exact h.imp fun d ⟨es, e1, e2⟩ => by
    rw [e1, e2]
    have : (List.range n).take n = List.range n := List.take_of_length_le (by simp)
    rw [this]
    rfl
theorem ev_lcR2d {j n : Nat} {vs : List Nat} {tr : TA} {g : Nat → PyData} {p : Nat → Bool} (hs : EA K m .da tr Γ c0 (Is [.int 1, .int ((n : Int) + 1)])) (hl : n ≤ 100000) (hj : j ∈ vs) (hjl : j < Γ.length)
    (ht : ∀ i, i < n → ET K m tt ((wipeG Γ vs).set j (.im (.int (1 + (i : Int))))) ct (Is (p i))) (he : ∀ i, i < n → p i = true → Ev K m .im te ((wipeG Γ vs).set j (.im (.int (1 + (i : Int))))) ce (Is (g i))) :
    Ev K m .nw (tLc (iRng2 tr) (gName j) tt te vs) Γ (c0 + n * (ct + ce)) (Is (.list (((List.range n).filter p).map g))) := by
  have h := ev_lcR2 (te := te) (tt := tt) (ct := ct) (ce := ce) hs hl hj hjl (fun i es => es = (((List.range n).take i).filter p).map g) (fun i => Is (p i)) (fun i => Is (g i)) rfl (fun i hi => ht i hi) (fun i hi e => he i hi e.symm)
    (fun i es hi h1 e2 => by rw [take_filt (range_get hi), ← e2, h1]; simp) (fun i es e hi h1 e2 e3 => by rw [take_filt (range_get hi), ← e2, h1, e3]; simp)
  exact h.imp fun d ⟨es, e1, e2⟩ => by
    rw [e1, e2]
    have : (List.range n).take n = List.range n := List.take_of_length_le (by simp)
    rw [this]
    rfl
/-- over a tuple of pairs -/
theorem ev_lcT2d {j l : Nat} {vs : List Nat} {xs : List α} {e1 e2 g : α → PyData} {p : α → Bool} (hs : Ev K m k1 ta Γ c0 (Is (.tuple (xs.map fun x => .tuple [e1 x, e2 x])))) (hl : xs.length ≤ 100000) (hj : j ∈ vs) (hl' : l ∈ vs) (hjl : j < Γ.length) (hll : l < Γ.length)
    (ht : ∀ (i : Nat) x, xs[i]? = some x → ET K m tt (((wipeG Γ vs).set j (.im (e1 x))).set l (.im (e2 x))) ct (Is (p x))) (he : ∀ (i : Nat) x, xs[i]? = some x → p x = true → Ev K m .im te (((wipeG Γ vs).set j (.im (e1 x))).set l (.im (e2 x))) ce (Is (g x))) :
    Ev K m .nw (tLc (iTup K ta) (gTup K 2 (gCons (gName j) (gCons (gName l) gNil))) tt te vs) Γ (c0 + xs.length * (ct + ce)) (Is (.list ((xs.filter p).map g))) := by
  have gi : ∀ {i : Nat} {x y : PyData}, (xs.map fun x => (e1 x, e2 x))[i]? = some (x, y) → ∃ z, xs[i]? = some z ∧ x = e1 z ∧ y = e2 z := fun {i x y} hd => by
    rw [List.getElem?_map] at hd
    obtain ⟨z, hz, h⟩ := Option.map_eq_some_iff.mp hd
    cases h
    exact ⟨z, hz, rfl, rfl⟩
  have h := ev_lcT2 (te := te) (tt := tt) (ct := ct) (ce := ce) (ps := xs.map fun x => (e1 x, e2 x)) (j := j) (l := l) (vs := vs) (k1 := k1) (ta := ta) (Γ := Γ) (c0 := c0) (by rw [List.map_map]; exact hs) (by rw [List.length_map]; exact hl) hj hl' hjl hll (fun i es => es = ((xs.take i).filter p).map g) (fun i _ _ b => ∃ x, xs[i]? = some x ∧ b = p x) (fun i _ _ e => ∃ x, xs[i]? = some x ∧ e = g x) rfl
    (fun i x y hd => by
      obtain ⟨z, hz, ex, ey⟩ := gi hd; subst ex ey
      exact (ht i z hz).imp fun b e => ⟨z, hz, e⟩)
    (fun i x y hd ⟨w, hw, e⟩ => by
      obtain ⟨z, hz, ex, ey⟩ := gi hd; subst ex ey
      have ew : z = w := Option.some.inj (hz.symm.trans hw)
      subst ew
      exact (he i z hz e.symm).imp fun b e => ⟨z, hz, e⟩)
    (fun i x y es hd h1 ⟨w, hw, e⟩ => by rw [take_filt hw, ← e, h1]; simp)
    (fun i x y es e hd h1 ⟨w, hw, e⟩ ⟨w2, hw2, e2⟩ => by
      rw [hw] at hw2
      cases hw2
      rw [take_filt hw, ← e, h1, e2]; simp)
  rw [List.length_map] at h
  exact h.imp fun d ⟨es, e1, e2⟩ => by rw [e1, e2, List.take_length]; rfl
/-! loops by a state -/
variable {S : Type}
theorem drop_cons {l : List α} {i : Nat} {x : α} (h : l[i]? = some x) : l.drop i = x :: l.drop (i + 1) := by
  obtain ⟨h1, h2⟩ := List.getElem?_eq_some_iff.mp h
  rw [List.drop_eq_getElem_cons h1, h2]
theorem sg_forTs {j : Nat} {l : List α} {enc : α → PyData} (G : S → En → List En) (J : S → List α → Prop) (he : Ev K m k te Γ c0 (Is (.tuple (l.map enc)))) (cb : Nat) {s0 : S} {e0 : En} (h0 : Γ = G s0 e0) (hJ : J s0 l) (hG : ∀ s e e', j < (G s e).length ∧ (G s e).set j e' = G s e')
    (hs : ∀ s x r, J s (x :: r) → Sg K m t (G s (.im (enc x))) cb (fun Γ' => ∃ s' e, J s' r ∧ Γ' = G s' e) N (fun Γ' => ∃ s' e, J s' r ∧ Γ' = G s' e) Rt) (hd : ∀ s e, J s [] → N (G s e)) :
    Sg K m (tFor (iTup K te) (gName j) t) Γ (c0 + l.length * cb) N Bk Ct Rt := by
  have h := sg_forT (t := t) (j := j) (N := N) (Bk := Bk) (Ct := Ct) (Rt := Rt) he (fun i Γ' => ∃ s e, J s (l.drop i) ∧ Γ' = G s e) cb ⟨s0, e0, hJ, h0⟩ (fun i d Γ' hd ⟨s, e, h1, h2⟩ => by
    rw [List.getElem?_map] at hd
    obtain ⟨x, hx, rfl⟩ := Option.map_eq_some_iff.mp hd
    rw [drop_cons hx] at h1
    subst h2
    refine ⟨(hG s e e).1, ?_⟩
    rw [(hG s e (.im (enc x))).2]
    exact hs s x _ h1) (fun Γ' ⟨s, e, h1, h2⟩ => by
    subst h2
    rw [List.length_map, List.drop_length] at h1
    exact hd s e h1)
  rw [List.length_map] at h
  exact h
theorem sg_forNs {j : Nat} {l : List α} {enc : α → PyData} (G : S → En → List En) (J : S → List α → Prop) (he : Ev K m .nw te Γ c0 (Is (.list (l.map enc)))) (cb : Nat) {s0 : S} {e0 : En} (h0 : Γ = G s0 e0) (hJ : J s0 l) (hG : ∀ s e e', j < (G s e).length ∧ (G s e).set j e' = G s e')
    (hs : ∀ s x r, J s (x :: r) → Sg K m t (G s (.im (enc x))) cb (fun Γ' => ∃ s' e, J s' r ∧ Γ' = G s' e) N (fun Γ' => ∃ s' e, J s' r ∧ Γ' = G s' e) Rt) (hd : ∀ s e, J s [] → N (G s e)) :
    Sg K m (tFor (iList K te) (gName j) t) Γ (c0 + l.length * cb) N Bk Ct Rt := by
  have h := sg_forN (t := t) (j := j) (N := N) (Bk := Bk) (Ct := Ct) (Rt := Rt) he (fun i Γ' => ∃ s e, J s (l.drop i) ∧ Γ' = G s e) cb ⟨s0, e0, hJ, h0⟩ (fun i d Γ' hd ⟨s, e, h1, h2⟩ => by
    rw [List.getElem?_map] at hd
    obtain ⟨x, hx, rfl⟩ := Option.map_eq_some_iff.mp hd
    rw [drop_cons hx] at h1
    subst h2
    refine ⟨(hG s e e).1, ?_⟩
    rw [(hG s e (.im (enc x))).2]
    exact hs s x _ h1) (fun Γ' ⟨s, e, h1, h2⟩ => by
    subst h2
    rw [List.length_map, List.drop_length] at h1
    exact hd s e h1)
  rw [List.length_map] at h
  exact h
theorem sg_forPs {i0 j : Nat} {l : List α} {enc : α → PyData} (G : S → En → List En) (J : S → List α → Prop) (hst : ∀ s e, (G s e)[i0]? = some (.ro (.list (l.map enc)))) (cb : Nat) {s0 : S} {e0 : En} (h0 : Γ = G s0 e0) (hJ : J s0 l) (hG : ∀ s e e', j < (G s e).length ∧ (G s e).set j e' = G s e')
    (hs : ∀ s x r, J s (x :: r) → Sg K m t (G s (.im (enc x))) cb (fun Γ' => ∃ s' e, J s' r ∧ Γ' = G s' e) N (fun Γ' => ∃ s' e, J s' r ∧ Γ' = G s' e) Rt) (hd : ∀ s e, J s [] → N (G s e)) :
    Sg K m (tFor (iList K (tVar i0)) (gName j) t) Γ (l.length * cb) N Bk Ct Rt := by
  have h := sg_forP (t := t) (i0 := i0) (j := j) (N := N) (Bk := Bk) (Ct := Ct) (Rt := Rt) (K := K) (m := m) (Γ := Γ) (ds := l.map enc) (by rw [h0]; exact hst _ _) (fun i Γ' => ∃ s e, J s (l.drop i) ∧ Γ' = G s e) cb ⟨s0, e0, hJ, h0⟩ (fun i Γ' ⟨s, e, h1, h2⟩ => by rw [h2]; exact hst _ _) (fun i d Γ' hd ⟨s, e, h1, h2⟩ => by
    rw [List.getElem?_map] at hd
    obtain ⟨x, hx, rfl⟩ := Option.map_eq_some_iff.mp hd
    rw [drop_cons hx] at h1
    subst h2
    refine ⟨(hG s e e).1, ?_⟩
    rw [(hG s e (.im (enc x))).2]
    exact hs s x _ h1) (fun Γ' ⟨s, e, h1, h2⟩ => by
    subst h2
    rw [List.length_map, List.drop_length] at h1
    exact hd s e h1)
  rw [List.length_map] at h
  exact h
theorem sg_forEs {j b : Nat} {l : List α} {enc : α → PyData} {tr : TA} (G : S → En → En → List En) (J : S → Nat → List α → Prop) (he : EA K m .da tr Γ c0 (Is [.tuple (l.map enc)])) (cb : Nat) {s0 : S} {e0 f0 : En} (h0 : Γ = G s0 e0 f0) (hJ : J s0 0 l) (hG : ∀ s e f e' f', j < (G s e f).length ∧ b < (G s e f).length ∧ ((G s e f).set j e').set b f' = G s e' f')
    (hs : ∀ s i x r, i + (r.length + 1) = l.length → J s i (x :: r) → Sg K m t (G s (.im (.int (i : Nat))) (.im (enc x))) cb (fun Γ' => ∃ s' e f, J s' (i + 1) r ∧ Γ' = G s' e f) N (fun Γ' => ∃ s' e f, J s' (i + 1) r ∧ Γ' = G s' e f) Rt) (hd : ∀ s e f, J s l.length [] → N (G s e f)) :
    Sg K m (tFor (Zp.iEnumT K tr) (gTup K 2 (gCons (gName j) (gCons (gName b) gNil))) t) Γ (c0 + l.length * cb) N Bk Ct Rt := by
  have h := sg_forE (t := t) (j := j) (l := b) (N := N) (Bk := Bk) (Ct := Ct) (Rt := Rt) he (fun i Γ' => ∃ s e f, J s i (l.drop i) ∧ Γ' = G s e f) cb ⟨s0, e0, f0, hJ, h0⟩ (fun i d Γ' hd ⟨s, e, f, h1, h2⟩ => by
    rw [List.getElem?_map] at hd
    obtain ⟨x, hx, rfl⟩ := Option.map_eq_some_iff.mp hd
    have hi := (List.getElem?_eq_some_iff.mp hx).1
    rw [drop_cons hx] at h1
    subst h2
    refine ⟨(hG s e f e f).1, (hG s e f e f).2.1, ?_⟩
    rw [(hG s e f (.im (.int (i : Nat))) (.im (enc x))).2.2]
    exact hs s i x _ (by rw [List.length_drop]; omega) h1) (fun Γ' ⟨s, e, f, h1, h2⟩ => by
    subst h2
    rw [List.length_map, List.drop_length] at h1
    exact hd s e f h1)
  rw [List.length_map] at h
  exact h
theorem sg_forR1s {j n : Nat} {tr : TA} (G : S → En → List En) (J : S → Nat → Prop) (he : EA K m .da tr Γ c0 (Is [.int (n : Int)])) (hn : n ≤ 100000) (cb : Nat) {s0 : S} {e0 : En} (h0 : Γ = G s0 e0) (hJ : J s0 0) (hG : ∀ s e e', j < (G s e).length ∧ (G s e).set j e' = G s e')
    (hs : ∀ s i, i < n → J s i → Sg K m t (G s (.im (.int (0 + (i : Int))))) cb (fun Γ' => ∃ s' e, J s' (i + 1) ∧ Γ' = G s' e) N (fun Γ' => ∃ s' e, J s' (i + 1) ∧ Γ' = G s' e) Rt) (hd : ∀ s e, J s n → N (G s e)) :
    Sg K m (tFor (iRng1 tr) (gName j) t) Γ (c0 + n * cb) N Bk Ct Rt :=
  sg_forR1 he hn (fun i Γ' => ∃ s e, J s i ∧ Γ' = G s e) cb ⟨s0, e0, hJ, h0⟩ (fun i Γ' hi ⟨s, e, h1, h2⟩ => by
    subst h2
    refine ⟨(hG s e e).1, ?_⟩
    rw [(hG s e (.im (.int (0 + (i : Int))))).2]
    exact hs s i hi h1) fun Γ' ⟨s, e, h1, h2⟩ => by
    subst h2
    exact hd s e h1
theorem sg_forDs {j n : Nat} {tr : TA} (G : S → En → List En) (J : S → Nat → Prop) (he : EA K m .da tr Γ c0 (Is [.int ((n : Int) - 1), .int (-1), .int (-1)])) (hn : n ≤ 100000) (cb : Nat) {s0 : S} {e0 : En} (h0 : Γ = G s0 e0) (hJ : J s0 0) (hG : ∀ s e e', j < (G s e).length ∧ (G s e).set j e' = G s e')
    (hs : ∀ s i, i < n → J s i → Sg K m t (G s (.im (.int ((n - 1 - i : Nat) : Int)))) cb (fun Γ' => ∃ s' e, J s' (i + 1) ∧ Γ' = G s' e) N (fun Γ' => ∃ s' e, J s' (i + 1) ∧ Γ' = G s' e) Rt) (hd : ∀ s e, J s n → N (G s e)) :
    Sg K m (tFor (iRng3 tr) (gName j) t) Γ (c0 + n * cb) N Bk Ct Rt :=
  sg_forDown he hn (fun i Γ' => ∃ s e, J s i ∧ Γ' = G s e) cb ⟨s0, e0, hJ, h0⟩ (fun i Γ' hi ⟨s, e, h1, h2⟩ => by
    subst h2
    refine ⟨(hG s e e).1, ?_⟩
    rw [(hG s e (.im (.int ((n - 1 - i : Nat) : Int)))).2]
    exact hs s i hi h1) fun Γ' ⟨s, e, h1, h2⟩ => by
    subst h2
    exact hd s e h1
/-! with no pen the costs say nothing -/
theorem Ok.free {H0 : Hp} {P : Pn} {H : Hp} {σ : L2.St} {B B' : Nat} (o : Ok K none H0 P H σ Γ B) : Ok K none H0 P H σ Γ B' := ⟨o.len, o.fr, (fun _ _ z => nomatch z), o.sl, o.dis, o.pin, o.tk⟩
theorem Ev.z {R : PyData → Prop} (h : Ev K none k te Γ c R) : Ev K none k te Γ c1 R := fun H0 P H σ B o Q q => h H0 P H σ B o.free Q q
theorem ET.z {R : Bool → Prop} (h : ET K none tt Γ c R) : ET K none tt Γ c1 R := fun H0 P H σ B o Q q => h H0 P H σ B o.free Q q
theorem Sg.z (h : Sg K none t Γ c N Bk Ct Rt) : Sg K none t Γ c1 N Bk Ct Rt := fun H0 P H σ B D o => h H0 P H σ B D o.free
theorem p_if {b : Bool} (h : ET K none tt Γ c1 (Is b)) (h1 : b = true → Sg K none t Γ 0 N Bk Ct Rt) (h2 : b = false → Sg K none u Γ 0 N Bk Ct Rt) : Sg K none (tIfS tt t u) Γ 0 N Bk Ct Rt := (sg_if h h1 h2).z
theorem p_qif {b : Bool} (h : ET K none tt Γ c1 (Is b)) (h1 : b = true → Sg K none (tSeq t w) Γ 0 N Bk Ct Rt) (h2 : b = false → Sg K none (tSeq u w) Γ 0 N Bk Ct Rt) : Sg K none (tSeq (tIfS tt t u) w) Γ 0 N Bk Ct Rt := (q_if h h1 h2).z
theorem p_when {b : Bool} (h : ET K none tt Γ c1 (Is b)) (h1 : b = true → Sg K none (tSeq t w) Γ 0 N Bk Ct Rt) (h2 : b = false → Sg K none w Γ 0 N Bk Ct Rt) : Sg K none (tSeq (tIfS tt t tNext) w) Γ 0 N Bk Ct Rt := (q_when h h1 h2).z
theorem evp_if {R : PyData → Prop} {b : Bool} {k : Kd} (h : ET K none tt Γ c1 (Is b)) (h1 : b = true → Ev K none k ta Γ 0 R) (h2 : b = false → Ev K none k tb Γ 0 R) : Ev K none k (tIf tt ta tb) Γ 0 R := (ev_if h h1 h2).z
theorem p_seq {N1 : Po} (h1 : Sg K none t Γ 0 N1 Bk Ct Rt) (h2 : ∀ Γ', N1 Γ' → Sg K none u Γ' 0 N Bk Ct Rt) : Sg K none (tSeq t u) Γ 0 N Bk Ct Rt := (sg_seq h1 h2).z
theorem p_ret {d : PyData} (he : Ev K none k te Γ c (Is d)) (h : Rt k d Γ) : Sg K none (tRet te) Γ 0 N Bk Ct Rt := (sg_retD he h).z
theorem p_endRet {d : PyData} (he : Ev K none k te Γ c (Is d)) (h : Rt k d Γ) : Sg K none (tSeq (tRet te) w) Γ 0 N Bk Ct Rt := (q_end (sg_retD he h)).z
theorem p_asg2 {i j : Nat} {x y : PyData} (he : Ev K none .im te Γ c (Is (.tuple [x, y]))) (hi : i < Γ.length) (hj : j < Γ.length) (h : N ((Γ.set i (.im x)).set j (.im y))) : Sg K none (tAsg te (gTup K 2 (gCons (gName i) (gCons (gName j) gNil)))) Γ 0 N Bk Ct Rt := (sg_asg2 he hi hj fun d e => ⟨x, y, e, h⟩).z
theorem p_set {i : Nat} {d : PyData} (he : Ev K none .im te Γ c (Is d)) (hi : i < Γ.length) (h : N (Γ.set i (.im d))) : Sg K none (tAsg te (gName i)) Γ 0 N Bk Ct Rt := (sg_set he hi h).z
theorem p_setN {i : Nat} {ds : List PyData} (he : Ev K none .nw te Γ c (Is (.list ds))) (hi : i < Γ.length) (h : N (Γ.set i (.own ds))) : Sg K none (tAsg te (gName i)) Γ 0 N Bk Ct Rt := (sg_setN he hi h).z
theorem pq_set {i : Nat} {d : PyData} (he : Ev K none .im te Γ c1 (Is d)) (hi : i < Γ.length) (h : Sg K none u (Γ.set i (.im d)) 0 N Bk Ct Rt) : Sg K none (tSeq (tAsg te (gName i)) u) Γ 0 N Bk Ct Rt := (q_set he hi h).z
theorem pq_setN {i : Nat} {ds : List PyData} (he : Ev K none .nw te Γ c1 (Is (.list ds))) (hi : i < Γ.length) (h : Sg K none u (Γ.set i (.own ds)) 0 N Bk Ct Rt) : Sg K none (tSeq (tAsg te (gName i)) u) Γ 0 N Bk Ct Rt := (q_setN he hi h).z
theorem pq_setD {i : Nat} (hi : i < Γ.length) (h : Sg K none u (Γ.set i (.dc [])) 0 N Bk Ct Rt) : Sg K none (tSeq (tAsg tDNewK (gName i)) u) Γ 0 N Bk Ct Rt := p_seq (N1 := fun Γ' => Γ' = Γ.set i (.dc [])) (sg_asgD hi rfl) fun _ e => by subst e; exact h
theorem p_app {i : Nat} {ds : List PyData} {d : PyData} (hi : Γ[i]? = some (.own ds)) (he : Ev K none .im te Γ c (Is d)) (hl : ds.length < 100000) (h : N (Γ.set i (.own (ds ++ [d])))) : Sg K none (tDrop (tBM K "list" rAppend (tVar i) (tCons te tNil))) Γ 0 N Bk Ct Rt := (s_app hi he hl h).z
theorem pq_app {i : Nat} {ds : List PyData} {d : PyData} (hi : Γ[i]? = some (.own ds)) (he : Ev K none .im te Γ c1 (Is d)) (hl : ds.length < 100000) (h : Sg K none u (Γ.set i (.own (ds ++ [d]))) 0 N Bk Ct Rt) : Sg K none (tSeq (tDrop (tBM K "list" rAppend (tVar i) (tCons te tNil))) u) Γ 0 N Bk Ct Rt := (q_app hi he hl h).z
theorem p_put {i j : Nat} {z : Int} {ds : List PyData} {d : PyData} (hi : Γ[i]? = some (.own ds)) (he : Ev K none .im te Γ c1 (Is d)) (hj : Ev K none k2 tb Γ c2 (Is (.int z))) (hz : ixN ds.length z = some j) (h : N (Γ.set i (.own (ds.set j d)))) : Sg K none (tAsg te (gSub (tVar i) tb rSetL)) Γ 0 N Bk Ct Rt := (sg_put hi he hj hz h).z
theorem p_dput {i : Nat} {kvs : List (Int × Int)} {x z : Int} (hi : Γ[i]? = some (.dc kvs)) (he : Ev K none k1 tv Γ c1 (Is (.int x))) (hj : Ev K none k2 tb Γ c2 (Is (.int z))) (hl : kvs.length < 100000) (h : N (Γ.set i (.dc (putI kvs z x)))) : Sg K none (sDPut (tVar i) tb tv) Γ 0 N Bk Ct Rt := (sg_dput hi he hj hl h).z
theorem p_par {i j : Nat} {d e : PyData} (h1 : Ev K none .im ta Γ c1 (Is d)) (h2 : Ev K none .im tb Γ c2 (Is e)) (hi : i < Γ.length) (hj : j < Γ.length) (h : N ((Γ.set i (.im d)).set j (.im e))) : Sg K none (tPar i j (tCons ta (tCons tb tNil))) Γ 0 N Bk Ct Rt := (sg_par h1 h2 hi hj h).z
theorem filt_all {β : Type} {l : List α} {g : α → β} : (l.filter fun _ => true).map g = l.map g := by rw [List.filter_eq_self.mpr fun _ _ => rfl]
theorem p_forT {j : Nat} {l : List α} {enc : α → PyData} (G : S → En → List En) (J : S → List α → Prop) (he : Ev K none k te Γ c0 (Is (.tuple (l.map enc)))) {s0 : S} {e0 : En} (h0 : Γ = G s0 e0) (hJ : J s0 l) (hG : ∀ s e e', j < (G s e).length ∧ (G s e).set j e' = G s e')
    (hs : ∀ s x r, J s (x :: r) → Sg K none t (G s (.im (enc x))) 0 (fun Γ' => ∃ s' e, J s' r ∧ Γ' = G s' e) N (fun Γ' => ∃ s' e, J s' r ∧ Γ' = G s' e) Rt) (hd : ∀ s e, J s [] → N (G s e)) :
    Sg K none (tFor (iTup K te) (gName j) t) Γ 0 N Bk Ct Rt := (sg_forTs G J he 0 h0 hJ hG hs hd).z
theorem p_forN {j : Nat} {l : List α} {enc : α → PyData} (G : S → En → List En) (J : S → List α → Prop) (he : Ev K none .nw te Γ c0 (Is (.list (l.map enc)))) {s0 : S} {e0 : En} (h0 : Γ = G s0 e0) (hJ : J s0 l) (hG : ∀ s e e', j < (G s e).length ∧ (G s e).set j e' = G s e')
    (hs : ∀ s x r, J s (x :: r) → Sg K none t (G s (.im (enc x))) 0 (fun Γ' => ∃ s' e, J s' r ∧ Γ' = G s' e) N (fun Γ' => ∃ s' e, J s' r ∧ Γ' = G s' e) Rt) (hd : ∀ s e, J s [] → N (G s e)) :
    Sg K none (tFor (iList K te) (gName j) t) Γ 0 N Bk Ct Rt := (sg_forNs G J he 0 h0 hJ hG hs hd).z
theorem p_forP {i0 j : Nat} {l : List α} {enc : α → PyData} (G : S → En → List En) (J : S → List α → Prop) (hst : ∀ s e, (G s e)[i0]? = some (.ro (.list (l.map enc)))) {s0 : S} {e0 : En} (h0 : Γ = G s0 e0) (hJ : J s0 l) (hG : ∀ s e e', j < (G s e).length ∧ (G s e).set j e' = G s e')
    (hs : ∀ s x r, J s (x :: r) → Sg K none t (G s (.im (enc x))) 0 (fun Γ' => ∃ s' e, J s' r ∧ Γ' = G s' e) N (fun Γ' => ∃ s' e, J s' r ∧ Γ' = G s' e) Rt) (hd : ∀ s e, J s [] → N (G s e)) :
    Sg K none (tFor (iList K (tVar i0)) (gName j) t) Γ 0 N Bk Ct Rt := (sg_forPs G J hst 0 h0 hJ hG hs hd).z
theorem p_forE {j b : Nat} {l : List α} {enc : α → PyData} {tr : TA} (G : S → En → En → List En) (J : S → Nat → List α → Prop) (he : EA K none .da tr Γ c0 (Is [.tuple (l.map enc)])) {s0 : S} {e0 f0 : En} (h0 : Γ = G s0 e0 f0) (hJ : J s0 0 l) (hG : ∀ s e f e' f', j < (G s e f).length ∧ b < (G s e f).length ∧ ((G s e f).set j e').set b f' = G s e' f')
    (hs : ∀ s i x r, i + (r.length + 1) = l.length → J s i (x :: r) → Sg K none t (G s (.im (.int (i : Nat))) (.im (enc x))) 0 (fun Γ' => ∃ s' e f, J s' (i + 1) r ∧ Γ' = G s' e f) N (fun Γ' => ∃ s' e f, J s' (i + 1) r ∧ Γ' = G s' e f) Rt) (hd : ∀ s e f, J s l.length [] → N (G s e f)) :
    Sg K none (tFor (Zp.iEnumT K tr) (gTup K 2 (gCons (gName j) (gCons (gName b) gNil))) t) Γ 0 N Bk Ct Rt := (sg_forEs G J he 0 h0 hJ hG hs hd).z
theorem p_forR1 {j n : Nat} {tr : TA} (G : S → En → List En) (J : S → Nat → Prop) (he : EA K none .da tr Γ c0 (Is [.int (n : Int)])) (hn : n ≤ 100000) {s0 : S} {e0 : En} (h0 : Γ = G s0 e0) (hJ : J s0 0) (hG : ∀ s e e', j < (G s e).length ∧ (G s e).set j e' = G s e')
    (hs : ∀ s i, i < n → J s i → Sg K none t (G s (.im (.int (0 + (i : Int))))) 0 (fun Γ' => ∃ s' e, J s' (i + 1) ∧ Γ' = G s' e) N (fun Γ' => ∃ s' e, J s' (i + 1) ∧ Γ' = G s' e) Rt) (hd : ∀ s e, J s n → N (G s e)) :
    Sg K none (tFor (iRng1 tr) (gName j) t) Γ 0 N Bk Ct Rt := (sg_forR1s G J he hn 0 h0 hJ hG hs hd).z
theorem p_forD {j n : Nat} {tr : TA} (G : S → En → List En) (J : S → Nat → Prop) (he : EA K none .da tr Γ c0 (Is [.int ((n : Int) - 1), .int (-1), .int (-1)])) (hn : n ≤ 100000) {s0 : S} {e0 : En} (h0 : Γ = G s0 e0) (hJ : J s0 0) (hG : ∀ s e e', j < (G s e).length ∧ (G s e).set j e' = G s e')
    (hs : ∀ s i, i < n → J s i → Sg K none t (G s (.im (.int ((n - 1 - i : Nat) : Int)))) 0 (fun Γ' => ∃ s' e, J s' (i + 1) ∧ Γ' = G s' e) N (fun Γ' => ∃ s' e, J s' (i + 1) ∧ Γ' = G s' e) Rt) (hd : ∀ s e, J s n → N (G s e)) :
    Sg K none (tFor (iRng3 tr) (gName j) t) Γ 0 N Bk Ct Rt := (sg_forDs G J he hn 0 h0 hJ hG hs hd).z
theorem et_or1 (h1 : ET K m tt Γ c1 (Is true)) : ET K m (tOr tt tu) Γ c1 (Is true) := (et_or (c2 := 0) (b := true) h1 fun e => absurd e (by decide)).to rfl
theorem et_and0 (h1 : ET K m tt Γ c1 (Is false)) : ET K m (tAnd tt tu) Γ c1 (Is false) := (et_and (c2 := 0) (b := false) h1 fun e => absurd e (by decide)).to rfl
theorem et_yes : ET K m tYes Γ 0 (Is true) := fun H0 P H σ B o Q q => q true H o (Gx.refl _ _) rfl
end
end Lg

set_option linter.all false
/-! The program's defs in plain Lean. -/
namespace Mi
/-- a line of told lines; odd: what is no line -/
inductive Line where
  | given (n : Nat)
  | chain (f : Nat) (ss : List (Nat × Nat))
  | odd (i : Option Int)
def fin (l : List Int) : Option (List Int) := if l.any (fun n => decide (-n ∈ l)) then none else some (sab (sst l))
def resv (a b : List Int) (v : Int) : Option (List Int) :=
  if v ∈ a ∧ -v ∈ b then fin (a.filter (fun x => !decide (x = v)) ++ b.filter (fun x => !decide (x = -v)))
  else if -v ∈ a ∧ v ∈ b then fin (a.filter (fun x => !decide (x = -v)) ++ b.filter (fun x => !decide (x = v))) else none
def steps (ahead : List (List Int)) : List Int → List (Nat × Nat) → Option (List Int)
  | c, [] => some c
  | c, (v, k) :: r => if v = 0 then none else match ahead[k]? with
    | none => none
    | some b => match resv c b v with
      | none => none
      | some c' => steps ahead c' r
def lineC (clauses ahead : List (List Int)) : Line → Option (List Int)
  | .given n => clauses[n]?
  | .chain f ss => match ahead[f]? with
    | none => none
    | some c => if ss = [] then none else steps ahead c ss
  | .odd _ => none
def allF (clauses : List (List Int)) : List (List Int) → List Line → Option (List (List Int))
  | acc, [] => some acc
  | acc, l :: r => match lineC clauses acc l with
    | none => none
    | some c => allF clauses (acc ++ [c]) r
def allC (clauses : List (List Int)) (ls : List Line) : Option (List (List Int)) := allF clauses [] ls
/-- literals of many variables, no more than 11 -/
def Gd (m : Nat) (c : List Int) : Prop := (∀ x ∈ c, x ≠ 0 ∧ x.natAbs ≤ m) ∧ c.length ≤ 11
theorem len_asc : ∀ {l : List Int} {lo hi : Int}, l.Pairwise (· < ·) → (∀ x ∈ l, lo ≤ x ∧ x ≤ hi) → lo ≤ hi + 1 → (l.length : Int) ≤ hi - lo + 1
  | [], lo, hi, _, _, h => by simp; omega
  | x :: xs, lo, hi, h, b, _ => by
    rw [List.pairwise_cons] at h
    have hx := b x List.mem_cons_self
    have := len_asc (l := xs) (lo := x + 1) (hi := hi) h.2 (fun y hy => ⟨by have := h.1 y hy; omega, (b y (List.mem_cons_of_mem _ hy)).2⟩) (by omega)
    rw [List.length_cons]
    omega
theorem fin_gd {m : Nat} {l c : List Int} (hm : m ≤ 5) (h : ∀ x ∈ l, x ≠ 0 ∧ x.natAbs ≤ m) (e : fin l = some c) : Gd m c := by
  unfold fin at e
  split at e
  · cases e
  · cases e
    refine ⟨fun x hx => h x (mem_sst.mp (mem_sab.mp hx)), ?_⟩
    have := len_asc (asc_sst l) (lo := -5) (hi := 5) (fun x hx => by have := (h x (mem_sst.mp hx)).2; omega) (by omega)
    unfold sab
    rw [List.length_mergeSort]
    omega
theorem resv_gd {m : Nat} {a b c : List Int} {v : Int} (hm : m ≤ 5) (ha : Gd m a) (hb : Gd m b) (e : resv a b v = some c) : Gd m c := by
  have key : ∀ u w : Int, fin (a.filter (fun x => !decide (x = u)) ++ b.filter (fun x => !decide (x = w))) = some c → Gd m c := fun u w e => fin_gd hm (fun x hx => by
    rcases List.mem_append.mp hx with hx | hx
    · exact ha.1 x (List.mem_filter.mp hx).1
    · exact hb.1 x (List.mem_filter.mp hx).1) e
  unfold resv at e
  split at e
  · exact key _ _ e
  · split at e
    · exact key _ _ e
    · cases e
theorem steps_gd {m : Nat} (hm : m ≤ 5) {ahead : List (List Int)} (ha : ∀ c ∈ ahead, Gd m c) : ∀ {ss : List (Nat × Nat)} {c d : List Int}, Gd m c → steps ahead c ss = some d → Gd m d
  | [], c, d, hc, e => by
    unfold steps at e
    cases e
    exact hc
  | (v, k) :: r, c, d, hc, e => by
    unfold steps at e
    split at e
    · cases e
    · split at e
      · cases e
      · rename_i b hb
        split at e
        · cases e
        · rename_i c' hc'
          exact steps_gd hm ha (resv_gd hm hc (ha b (List.mem_of_getElem? hb)) hc') e
theorem line_gd {m : Nat} (hm : m ≤ 5) {clauses ahead : List (List Int)} (hc : ∀ c ∈ clauses, Gd m c) (ha : ∀ c ∈ ahead, Gd m c) {l : Line} {d : List Int} (e : lineC clauses ahead l = some d) : Gd m d := by
  cases l with
  | given n => exact hc d (List.mem_of_getElem? e)
  | chain f ss =>
    simp only [lineC] at e
    split at e
    · cases e
    · rename_i c hf
      split at e
      · cases e
      · exact steps_gd hm ha (ha c (List.mem_of_getElem? hf)) e
  | odd i => simp [lineC] at e
theorem allF_gd {m : Nat} (hm : m ≤ 5) {clauses : List (List Int)} (hc : ∀ c ∈ clauses, Gd m c) : ∀ {ls : List Line} {acc ds : List (List Int)}, (∀ c ∈ acc, Gd m c) → allF clauses acc ls = some ds → ∀ c ∈ ds, Gd m c
  | [], acc, ds, ha, e => by
    unfold allF at e
    cases e
    exact ha
  | l :: r, acc, ds, ha, e => by
    unfold allF at e
    split at e
    · cases e
    · rename_i c h
      exact allF_gd hm hc (fun x hx => by
        rcases List.mem_append.mp hx with hx | hx
        · exact ha x hx
        · rw [List.mem_singleton] at hx
          subst hx
          exact line_gd hm hc ha h) e
theorem allF_len {clauses : List (List Int)} : ∀ {ls : List Line} {acc ds : List (List Int)}, allF clauses acc ls = some ds → ds.length = acc.length + ls.length
  | [], acc, ds, e => by
    unfold allF at e
    cases e
    rfl
  | l :: r, acc, ds, e => by
    unfold allF at e
    split at e
    · cases e
    · rw [allF_len e, List.length_append, List.length_cons]
      simp
      omega
/-! marks -/
def asked : Line → List Nat
  | .given _ => []
  | .chain f ss => f :: ss.map (·.2)
  | .odd _ => []
def setAll : List Bool → List Nat → List Bool
  | m, [] => m
  | m, i :: r => setAll (m.set i true) r
def markAt (ls : List Line) (m : List Bool) (k : Nat) : List Bool := if m[k]? = some true then setAll m (((ls[k]?).map asked).getD []) else m
/-- lap by lap from the last line -/
def marksN (ls : List Line) : Nat → List Bool
  | 0 => (List.replicate ls.length false).set (ls.length - 1) true
  | i + 1 => markAt ls (marksN ls i) (ls.length - 1 - i)
def marks (ls : List Line) : List Bool := marksN ls ls.length
theorem setAll_len : ∀ {ns : List Nat} {m : List Bool}, (setAll m ns).length = m.length
  | [], _ => rfl
  | i :: r, m => by
    unfold setAll
    rw [setAll_len, List.length_set]
theorem marksN_len (ls : List Line) : ∀ i, (marksN ls i).length = ls.length
  | 0 => by simp [marksN]
  | i + 1 => by
    unfold marksN markAt
    split
    · rw [setAll_len, marksN_len]
    · exact marksN_len ls i
end Mi
namespace Mi
/-- what a line asks for lies ahead of it -/
def Lv (k : Nat) (l : Line) : Prop := (∀ i, l ≠ .odd i) ∧ (∀ i ∈ asked l, i < k) ∧ (asked l).length ≤ 50000
def Ls (ls : List Line) : Prop := 0 < ls.length ∧ ls.length ≤ 50000 ∧ ∀ (k : Nat) l, ls[k]? = some l → Lv k l
theorem set_end {n : Nat} (h : 0 < n) : (List.replicate n false).set (n - 1) true = List.replicate (n - 1) false ++ [true] := by
  obtain ⟨m, rfl⟩ : ∃ m, n = m + 1 := ⟨n - 1, by omega⟩
  rw [Nat.add_sub_cancel]
  induction m with
  | zero => rfl
  | succ m ih =>
    rw [List.replicate_succ, List.set_cons_succ, ih (Nat.succ_pos _), List.replicate_succ, List.cons_append]
end Mi

set_option linter.all false
/-! marks and drawn lines, in plain Lean -/
namespace Mi
theorem setAll_get : ∀ {ns : List Nat} {m : List Bool} {i : Nat}, m[i]? = some true → (setAll m ns)[i]? = some true
  | [], m, i, h => h
  | n :: r, m, i, h => by
    unfold setAll
    refine setAll_get ?_
    have hi := (List.getElem?_eq_some_iff.mp h).1
    by_cases e : n = i
    · subst e
      rw [List.getElem?_set_self hi]
    · rw [List.getElem?_set_ne e]
      exact h
theorem setAll_mem : ∀ {ns : List Nat} {m : List Bool} {i : Nat}, i ∈ ns → i < m.length → (setAll m ns)[i]? = some true
  | n :: r, m, i, h, hl => by
    unfold setAll
    rcases List.mem_cons.mp h with rfl | h
    · exact setAll_get (by rw [List.getElem?_set_self hl])
    · exact setAll_mem h (by rw [List.length_set]; exact hl)
theorem setAll_other : ∀ {ns : List Nat} {m : List Bool} {i : Nat}, i ∉ ns → (setAll m ns)[i]? = m[i]?
  | [], m, i, h => rfl
  | n :: r, m, i, h => by
    rw [List.mem_cons, not_or] at h
    unfold setAll
    rw [setAll_other h.2, List.getElem?_set_ne (fun e => h.1 e.symm)]
theorem markAt_mono {ls : List Line} {m : List Bool} {k i : Nat} (h : m[i]? = some true) : (markAt ls m k)[i]? = some true := by
  unfold markAt
  split
  · exact setAll_get h
  · exact h
theorem markAt_keep {ls : List Line} (hv : ∀ (k : Nat) l, ls[k]? = some l → Lv k l) {m : List Bool} {k i : Nat} (h : k ≤ i) : (markAt ls m k)[i]? = m[i]? := by
  unfold markAt
  split
  · refine setAll_other fun hm => ?_
    cases hl : ls[k]? with
    | none => rw [hl] at hm; simp at hm
    | some l =>
      rw [hl] at hm
      have := (hv k l hl).2.1 i (by simpa using hm)
      omega
  · rfl
theorem marksN_mono {ls : List Line} {i j : Nat} : ∀ {d : Nat}, (marksN ls i)[j]? = some true → (marksN ls (i + d))[j]? = some true
  | 0, h => h
  | d + 1, h => markAt_mono (marksN_mono (d := d) h)
/-- laps from i on leave alone what lies at or behind n - 1 - i -/
theorem marksN_keep {ls : List Line} (hv : ∀ (k : Nat) l, ls[k]? = some l → Lv k l) {i j : Nat} (hj : ls.length - 1 - i ≤ j) : ∀ {d : Nat}, (marksN ls (i + d))[j]? = (marksN ls i)[j]?
  | 0 => rfl
  | d + 1 => by
    show (markAt ls (marksN ls (i + d)) (ls.length - 1 - (i + d)))[j]? = _
    rw [markAt_keep hv (by omega), marksN_keep hv hj]
theorem marks_len (ls : List Line) : (marks ls).length = ls.length := marksN_len ls _
theorem marks_closed {ls : List Line} (h : Ls ls) {k : Nat} {l : Line} (hl : ls[k]? = some l) (hm : (marks ls)[k]? = some true) {i : Nat} (hi : i ∈ asked l) : (marks ls)[i]? = some true := by
  obtain ⟨h0, _, hv⟩ := h
  have hk := (List.getElem?_eq_some_iff.mp hl).1
  obtain ⟨lap, e⟩ : ∃ lap, ls.length = lap + 1 + k := ⟨ls.length - 1 - k, by omega⟩
  have ek : ls.length - 1 - lap = k := by omega
  have e1 : (marksN ls lap)[k]? = some true := by
    have z := marksN_keep hv (i := lap) (j := k) (by omega) (d := ls.length - lap)
    rw [show lap + (ls.length - lap) = ls.length by omega] at z
    rw [← z]
    exact hm
  have e2 : (marksN ls (lap + 1))[i]? = some true := by
    show (markAt ls (marksN ls lap) (ls.length - 1 - lap))[i]? = some true
    rw [ek]
    unfold markAt
    rw [if_pos e1, hl]
    refine setAll_mem (by simpa using hi) ?_
    have := (hv k l hl).2.1 i hi
    rw [marksN_len]
    omega
  have z := marksN_mono (d := ls.length - (lap + 1)) e2
  rw [show lap + 1 + (ls.length - (lap + 1)) = ls.length by omega] at z
  exact z
theorem marks_last {ls : List Line} (h : 0 < ls.length) : (marks ls)[ls.length - 1]? = some true := by
  have z : (marksN ls 0)[ls.length - 1]? = some true := by
    unfold marksN
    rw [List.getElem?_set_self (by simpa using by omega)]
  have := marksN_mono (d := ls.length) z
  rw [Nat.zero_add] at this
  exact this
/-! drawn lines -/
def isG (n : Nat) : Line → Bool
  | .given k => decide (k = n)
  | _ => false
def gidx (found : List Line) (n : Nat) : Option Nat := found.findIdx? (isG n)
def getN (pl : List (Nat × Nat)) (k : Nat) : Option Nat := (pl.find? fun p => decide (p.1 = k)).map (·.2)
def getD (pl : List (Nat × Nat)) (k : Nat) : Nat := (getN pl k).getD 0
def dstep (s : List Line × List (Nat × Nat)) (k : Nat) : Line → List Line × List (Nat × Nat)
  | .given n => match gidx s.1 n with
    | some p => (s.1, s.2 ++ [(k, p)])
    | none => (s.1 ++ [.given n], s.2 ++ [(k, s.1.length)])
  | .chain f ss => (s.1 ++ [.chain (getD s.2 f) (ss.map fun p => (p.1, getD s.2 p.2))], s.2 ++ [(k, s.1.length)])
  | .odd _ => s
def dgo (ms : List Bool) : List Line × List (Nat × Nat) → Nat → List Line → List Line × List (Nat × Nat)
  | s, _, [] => s
  | s, k, l :: r => dgo ms (if ms[k]? = some true then dstep s k l else s) (k + 1) r
def drawnL (ls : List Line) : List Line := (dgo (marks ls) ([], []) 0 ls).1
def gvn : List (Line × Bool) → List Nat
  | [] => []
  | (.given n, true) :: r => n :: gvn r
  | _ :: r => gvn r
def rootsL (ls : List Line) : List Int := sst ((gvn (ls.zip (marks ls))).map Int.ofNat)
theorem getN_app {pl : List (Nat × Nat)} {k x j : Nat} : getN (pl ++ [(k, x)]) j = match getN pl j with
    | some y => some y
    | none => if k = j then some x else none := by
  unfold getN
  rw [List.find?_append]
  cases h : pl.find? fun p => decide (p.1 = j) with
  | some y => rfl
  | none =>
    by_cases e : k = j
    · simp [e]
    · simp [e]
theorem getN_old {pl : List (Nat × Nat)} {k x j : Nat} (h : j ≠ k) : getN (pl ++ [(k, x)]) j = getN pl j := by
  rw [getN_app]
  cases getN pl j with
  | some y => rfl
  | none => exact if_neg fun e => h e.symm
theorem gidx_app {found : List Line} {l : Line} {n : Nat} : gidx (found ++ [l]) n = match gidx found n with
    | some p => some p
    | none => if isG n l then some found.length else none := by
  unfold gidx
  rw [List.findIdx?_append]
  cases found.findIdx? (isG n) with
  | some p => rfl
  | none =>
    cases h : isG n l <;> simp [h]
/-- the keys of places: the marked lines so far -/
def Kp (ms : List Bool) (k : Nat) (pl : List (Nat × Nat)) : Prop := (∀ j, j < k → ms[j]? = some true → (getN pl j).isSome = true) ∧ (∀ j, (getN pl j).isSome = true → j < k)
theorem Kp.step {ms : List Bool} {k : Nat} {s : List Line × List (Nat × Nat)} (h : Kp ms k s.2) {l : Line} (hl : ∀ i, l ≠ .odd i) : Kp ms (k + 1) (dstep s k l).2 := by
  have key : ∀ x, Kp ms (k + 1) (s.2 ++ [(k, x)]) := by
    intro x
    constructor
    · intro j hj hm
      rw [getN_app]
      cases e : getN s.2 j with
      | some y => rfl
      | none =>
        by_cases hk : k = j
        · simp [hk]
        · have z := h.1 j (by omega) hm
          rw [e] at z
          cases z
    · intro j hj
      rw [getN_app] at hj
      cases e : getN s.2 j with
      | some y =>
        have := h.2 j (by rw [e]; rfl)
        omega
      | none =>
        rw [e] at hj
        by_cases hk : k = j
        · omega
        · simp [hk] at hj
  cases l with
  | odd i => exact absurd rfl (hl i)
  | given n =>
    simp only [dstep]
    cases e : gidx s.1 n with
    | some p => exact key p
    | none => exact key _
  | chain f ss => exact key _
theorem Kp.skip {ms : List Bool} {k : Nat} {pl : List (Nat × Nat)} (h : Kp ms k pl) (hm : ms[k]? ≠ some true) : Kp ms (k + 1) pl :=
  ⟨fun j hj e => by
    by_cases hk : j = k
    · subst hk
      exact absurd e hm
    · exact h.1 j (by omega) e, fun j hj => by have := h.2 j hj; omega⟩
end Mi

set_option linter.all false
/-! assignments, models; the next variable -/
namespace Mi
def longer (m : Nat) (rows : List (List Nat)) : List (List Nat) := rows.flatMap fun r => (List.range m).map fun i => r ++ [i]
def rowsL : Nat → List (List Nat)
  | 0 => [[]]
  | n + 1 => longer 2 (rowsL n)
def fits (bs : List Nat) (c : List Int) : Bool := c.any fun n => decide ((((bs[n.natAbs - 1]?).getD 0 : Nat) : Int) = if decide (0 < n) = true then 1 else 0)
def modelsL (m : Nat) (cls : List (List Int)) (asm : List Int) : List (List Nat) := (rowsL m).filter fun bs => cls.all (fits bs) && asm.all fun n => fits bs [n]
theorem longer_len (rows : List (List Nat)) : (longer 2 rows).length = 2 * rows.length := by
  unfold longer
  rw [List.length_flatMap]
  induction rows with
  | nil => rfl
  | cons r rs ih =>
    rw [List.map_cons, List.sum_cons, ih, List.length_map, List.length_range, List.length_cons]
    omega
theorem rowsL_len : ∀ n, (rowsL n).length = 2 ^ n
  | 0 => rfl
  | n + 1 => by
    unfold rowsL
    rw [longer_len, rowsL_len, Nat.pow_succ, Nat.mul_comm]
theorem rowsL_mem : ∀ {n : Nat} {r : List Nat}, r ∈ rowsL n → r.length = n ∧ ∀ x ∈ r, x < 2
  | 0, r, h => by
    have e : r = [] := by simpa [rowsL] using h
    subst e
    exact ⟨rfl, fun x hx => by cases hx⟩
  | n + 1, r, h => by
    unfold rowsL longer at h
    obtain ⟨q, hq, hr⟩ := List.mem_flatMap.mp h
    obtain ⟨i, hi, rfl⟩ := List.mem_map.mp hr
    obtain ⟨h1, h2⟩ := rowsL_mem hq
    refine ⟨by rw [List.length_append, h1]; rfl, fun x hx => ?_⟩
    rcases List.mem_append.mp hx with hx | hx
    · exact h2 x hx
    · rw [List.mem_singleton] at hx
      subst hx
      exact List.mem_range.mp hi
/-- the literals of c that are not false -/
def live (tr : List Int) (c : List Int) : List Int := c.filter fun n => !decide (-n ∈ tr)
def nextC (tr : List Int) : List (List Int) → Option Int
  | [] => none
  | c :: r => match live tr c with
    | [n] => if n ∈ tr then nextC tr r else some (if n < 0 then -n else n)
    | _ => nextC tr r
def freeV (m : Nat) (tr : List Int) : List Nat := (List.range m).filter fun i => !decide ((1 + (i : Int)) ∈ tr) && !decide (-(1 + (i : Int)) ∈ tr)
def nextV (m : Nat) (cls : List (List Int)) (tr : List Int) : Option Int := match nextC tr cls with
  | some v => some v
  | none => match freeV m tr with
    | [] => none
    | i :: _ => some (1 + (i : Int))
/-- a variable that is not yet set -/
def Fv (m : Nat) (tr : List Int) (v : Int) : Prop := 1 ≤ v ∧ v ≤ m ∧ v ∉ tr ∧ -v ∉ tr
theorem nextC_free {m : Nat} {tr : List Int} : ∀ {cls : List (List Int)} {v : Int}, (∀ c ∈ cls, Gd m c) → nextC tr cls = some v → Fv m tr v
  | [], v, _, h => by cases h
  | c :: r, v, hg, h => by
    unfold nextC at h
    split at h
    · rename_i n hl
      split at h
      · exact nextC_free (fun c hc => hg c (List.mem_cons_of_mem _ hc)) h
      · rename_i hn
        have hm : n ∈ live tr c := by rw [hl]; exact List.mem_cons_self
        obtain ⟨h1, h2⟩ := List.mem_filter.mp hm
        have h2 : -n ∉ tr := by simpa using h2
        obtain ⟨h3, h4⟩ := (hg c List.mem_cons_self).1 n h1
        have h := Option.some.inj h
        by_cases hneg : n < 0
        · rw [if_pos hneg] at h
          subst h
          exact ⟨by omega, by omega, h2, by rw [Int.neg_neg]; exact hn⟩
        · rw [if_neg hneg] at h
          subst h
          exact ⟨by omega, by omega, hn, h2⟩
    · exact nextC_free (fun c hc => hg c (List.mem_cons_of_mem _ hc)) h
theorem nextV_free {m : Nat} {tr : List Int} {cls : List (List Int)} {v : Int} (hg : ∀ c ∈ cls, Gd m c) (h : nextV m cls tr = some v) : Fv m tr v := by
  unfold nextV at h
  split at h
  · rename_i w hw
    cases h
    exact nextC_free hg hw
  · split at h
    · cases h
    · rename_i i r hf
      have h := Option.some.inj h
      subst h
      have hm : i ∈ freeV m tr := by rw [hf]; exact List.mem_cons_self
      obtain ⟨h1, h2⟩ := List.mem_filter.mp hm
      have h1 := List.mem_range.mp h1
      rw [Bool.and_eq_true] at h2
      exact ⟨by omega, by omega, by simpa using h2.1, by simpa using h2.2⟩
theorem filter_lt {α : Type} {p q : α → Bool} : ∀ {l : List α} {x : α}, (∀ y, q y = true → p y = true) → x ∈ l → p x = true → q x = false → (l.filter q).length < (l.filter p).length
  | y :: l, x, hi, hx, hp, hq => by
    have le : (l.filter q).length ≤ (l.filter p).length := by
      clear hx
      induction l with
      | nil => exact Nat.le_refl _
      | cons z l ih =>
        rw [List.filter_cons, List.filter_cons]
        cases hz : q z with
        | true => rw [if_pos rfl, if_pos (hi z hz), List.length_cons, List.length_cons]; omega
        | false =>
          rw [if_neg (by simp)]
          split
          · rw [List.length_cons]; omega
          · exact ih
    rw [List.filter_cons, List.filter_cons]
    rcases List.mem_cons.mp hx with rfl | hx
    · rw [hp, hq, if_neg (by simp), if_pos rfl, List.length_cons]
      omega
    · have := filter_lt hi hx hp hq
      cases hz : q y with
      | true => rw [if_pos rfl, if_pos (hi y hz), List.length_cons, List.length_cons]; omega
      | false =>
        rw [if_neg (by simp)]
        split
        · rw [List.length_cons]; omega
        · exact this
theorem freeV_lt {m : Nat} {tr : List Int} {v u : Int} (h : Fv m tr v) (hu : u = v ∨ u = -v) : (freeV m (tr ++ [u])).length < (freeV m tr).length := by
  obtain ⟨h1, h2, h3, h4⟩ := h
  have ev : 1 + ((v.toNat - 1 : Nat) : Int) = v := by omega
  refine filter_lt (x := v.toNat - 1) (fun y hy => ?_) (List.mem_range.mpr (by omega)) ?_ ?_
  · rw [Bool.and_eq_true] at hy ⊢
    refine ⟨?_, ?_⟩
    · have := hy.1
      simp only [List.mem_append, Bool.not_eq_true', decide_eq_false_iff_not, not_or] at this ⊢
      exact this.1
    · have := hy.2
      simp only [List.mem_append, Bool.not_eq_true', decide_eq_false_iff_not, not_or] at this ⊢
      exact this.1
  · rw [ev, Bool.and_eq_true]
    exact ⟨by simpa using h3, by simpa using h4⟩
  · rw [ev, Bool.and_eq_false_iff]
    rcases hu with rfl | rfl
    · exact .inl (by simp)
    · exact .inr (by simp)
end Mi

set_option linter.all false
/-! refutations, in plain Lean -/
namespace Mi
theorem allF_app {cl : List (List Int)} : ∀ {a b : List Line} {acc : List (List Int)}, allF cl acc (a ++ b) = (allF cl acc a).bind fun x => allF cl x b
  | [], b, acc => rfl
  | l :: r, b, acc => by
    show (match lineC cl acc l with
      | none => none
      | some c => allF cl (acc ++ [c]) (r ++ b)) = Option.bind (match lineC cl acc l with
      | none => none
      | some c => allF cl (acc ++ [c]) r) fun x => allF cl x b
    cases h : lineC cl acc l with
    | none => rfl
    | some c => exact allF_app
theorem allF_pre {cl : List (List Int)} : ∀ {ls : List Line} {acc ds : List (List Int)}, allF cl acc ls = some ds → ∃ e, ds = acc ++ e
  | [], acc, ds, h => by
    unfold allF at h
    cases h
    exact ⟨[], (List.append_nil _).symm⟩
  | l :: r, acc, ds, h => by
    unfold allF at h
    split at h
    · cases h
    · rename_i c hc
      obtain ⟨e, he⟩ := allF_pre h
      exact ⟨c :: e, by rw [he, List.append_assoc]; rfl⟩
theorem allC_snoc {cl : List (List Int)} {ls : List Line} {l : Line} {cs : List (List Int)} {c : List Int} (h : allC cl ls = some cs) (hc : lineC cl cs l = some c) : allC cl (ls ++ [l]) = some (cs ++ [c]) := by
  unfold allC at h ⊢
  rw [allF_app, h]
  show allF cl cs [l] = _
  simp only [allF, hc]
theorem allC_len {cl : List (List Int)} {ls : List Line} {cs : List (List Int)} (h : allC cl ls = some cs) : cs.length = ls.length := by
  have := allF_len h
  simpa using this
def Con (tr : List Int) : Prop := ∀ n ∈ tr, -n ∉ tr
theorem Con.snoc {m : Nat} {tr : List Int} {v u : Int} (h : Con tr) (hf : Fv m tr v) (hu : u = v ∨ u = -v) : Con (tr ++ [u]) := fun n hn hm => by
  obtain ⟨h1, _, h3, h4⟩ := hf
  have hu3 : u ∉ tr := by rcases hu with rfl | rfl; exact h3; exact h4
  have hu4 : -u ∉ tr := by rcases hu with rfl | rfl; exact h4; rw [Int.neg_neg]; exact h3
  have hu0 : u ≠ 0 := by rcases hu with rfl | rfl <;> omega
  rcases List.mem_append.mp hn with hn | hn <;> rcases List.mem_append.mp hm with hm | hm
  · exact h n hn hm
  · rw [List.mem_singleton] at hm
    have : n = -u := by omega
    rw [this] at hn
    exact hu4 hn
  · rw [List.mem_singleton] at hn
    rw [hn] at hm
    exact hu4 hm
  · rw [List.mem_singleton] at hn hm
    omega
def gvs (ws : List Line) : Nat := (ws.filter fun l => match l with | .given _ => true | _ => false).length
theorem gvs_app (a b : List Line) : gvs (a ++ b) = gvs a + gvs b := by
  unfold gvs
  rw [List.filter_append, List.length_append]
/-- the lines ws refute: the last one's clause c is false under tr -/
structure Ref (m : Nat) (cl : List (List Int)) (tr : List Int) (ls : List Line) (n : Nat) (ws : List Line) (c : List Int) : Prop where
  all : ∃ cs, allC cl (ls ++ ws) = some (cs ++ [c])
  len : ws.length + 1 ≤ 2 ^ (n + 1)
  gv : gvs ws ≤ 2 ^ n
  neg : ∀ x ∈ c, -x ∈ tr
  ok : ∀ l ∈ ws, (∀ i, l ≠ .odd i) ∧ (asked l).length ≤ 2
  gd : Gd m c
theorem Ref.le {m : Nat} {cl : List (List Int)} {tr : List Int} {ls : List Line} {n k : Nat} {ws : List Line} {c : List Int} (r : Ref m cl tr ls n ws c) (h : n ≤ k) : Ref m cl tr ls k ws c :=
  ⟨r.all, Nat.le_trans r.len (Nat.pow_le_pow_right (by decide) (by omega)), Nat.le_trans r.gv (Nat.pow_le_pow_right (by decide) h), r.neg, r.ok, r.gd⟩
theorem Ref.leaf {m : Nat} {cl : List (List Int)} {tr : List Int} {ls : List Line} {n i : Nat} {c : List Int} {cs : List (List Int)} (h : allC cl ls = some cs) (hi : cl[i]? = some c) (hn : ∀ x ∈ c, -x ∈ tr) (hg : Gd m c) : Ref m cl tr ls n [.given i] c :=
  ⟨⟨cs, allC_snoc h hi⟩, by have : 2 ^ 1 ≤ 2 ^ (n + 1) := Nat.pow_le_pow_right (by decide) (by omega); show 1 + 1 ≤ _; omega, by have : 2 ^ 0 ≤ 2 ^ n := Nat.pow_le_pow_right (by decide) (by omega); show 1 ≤ _; omega, hn, fun l hl => by
    rw [List.mem_singleton] at hl
    subst hl
    exact ⟨fun i => by simp, by simp [asked]⟩, hg⟩
/-- a clause that does not lean on the last literal -/
theorem Ref.drop {m : Nat} {cl : List (List Int)} {tr : List Int} {u : Int} {ls : List Line} {n : Nat} {ws : List Line} {c : List Int} (r : Ref m cl (tr ++ [u]) ls n ws c) (h : -u ∉ c) : Ref m cl tr ls (n + 1) ws c :=
  ⟨r.all, (r.le (Nat.le_succ n)).len, (r.le (Nat.le_succ n)).gv, fun x hx => by
    rcases List.mem_append.mp (r.neg x hx) with z | z
    · exact z
    · rw [List.mem_singleton] at z
      have : x = -u := by omega
      exact absurd (this ▸ hx) h, r.ok, r.gd⟩
theorem Ref.over {m : Nat} {cl : List (List Int)} {tr : List Int} {ls : List Line} {n : Nat} {w1 w2 : List Line} {c1 c : List Int} (r1 : Ref m cl tr ls n w1 c1) (r : Ref m cl tr (ls ++ w1) n w2 c) : Ref m cl tr ls (n + 1) (w1 ++ w2) c := by
  have e : 2 ^ (n + 1 + 1) = 2 ^ (n + 1) + 2 ^ (n + 1) := by rw [Nat.pow_succ]; omega
  have e2 : 2 ^ (n + 1) = 2 ^ n + 2 ^ n := by rw [Nat.pow_succ]; omega
  have h1 := r1.len
  have h2 := r.len
  have h3 := r1.gv
  have h4 := r.gv
  refine ⟨by rw [← List.append_assoc]; exact r.all, by rw [List.length_append]; omega, by rw [gvs_app]; omega, r.neg, fun l hl => ?_, r.gd⟩
  rcases List.mem_append.mp hl with hl | hl
  · exact r1.ok l hl
  · exact r.ok l hl
/-- the second one alone: its clause leans not on the last literal -/
theorem Ref.second {m : Nat} {cl : List (List Int)} {tr : List Int} {v : Int} {ls : List Line} {n : Nat} {w1 w2 : List Line} {c1 c : List Int} (r1 : Ref m cl (tr ++ [v]) ls n w1 c1) (r : Ref m cl (tr ++ [-v]) (ls ++ w1) n w2 c) (h : v ∉ c) : Ref m cl tr ls (n + 1) (w1 ++ w2) c := by
  have e : 2 ^ (n + 1 + 1) = 2 ^ (n + 1) + 2 ^ (n + 1) := by rw [Nat.pow_succ]; omega
  have e2 : 2 ^ (n + 1) = 2 ^ n + 2 ^ n := by rw [Nat.pow_succ]; omega
  have h1 := r1.len
  have h2 := r.len
  have h3 := r1.gv
  have h4 := r.gv
  refine ⟨by rw [← List.append_assoc]; exact r.all, by rw [List.length_append]; omega, by rw [gvs_app]; omega, (r.drop (by rw [Int.neg_neg]; exact h)).neg, fun l hl => ?_, r.gd⟩
  rcases List.mem_append.mp hl with hl | hl
  · exact r1.ok l hl
  · exact r.ok l hl
theorem resv_false {m : Nat} {tr : List Int} {v : Int} {a b : List Int} (hm : m ≤ 5) (hf : Fv m tr v) (hc : Con tr) (ha : ∀ x ∈ a, -x ∈ tr ++ [v]) (hb : ∀ x ∈ b, -x ∈ tr ++ [-v]) (h1 : -v ∈ a) (h2 : v ∈ b) (ga : Gd m a) (gb : Gd m b) :
    ∃ c, resv a b v = some c ∧ (∀ x ∈ c, -x ∈ tr) ∧ Gd m c := by
  obtain ⟨f1, _, f3, f4⟩ := hf
  have n1 : ¬ (v ∈ a ∧ -v ∈ b) := fun ⟨z, _⟩ => by
    rcases List.mem_append.mp (ha v z) with q | q
    · exact f4 q
    · rw [List.mem_singleton] at q
      omega
  have neg : ∀ x ∈ a.filter (fun x => !decide (x = -v)) ++ b.filter (fun x => !decide (x = v)), -x ∈ tr := fun x hx => by
    rcases List.mem_append.mp hx with hx | hx
    · obtain ⟨x1, x2⟩ := List.mem_filter.mp hx
      have x2 : x ≠ -v := by simpa using x2
      rcases List.mem_append.mp (ha x x1) with q | q
      · exact q
      · rw [List.mem_singleton] at q
        omega
    · obtain ⟨x1, x2⟩ := List.mem_filter.mp hx
      have x2 : x ≠ v := by simpa using x2
      rcases List.mem_append.mp (hb x x1) with q | q
      · exact q
      · rw [List.mem_singleton] at q
        omega
  have ta : ¬ (a.filter (fun x => !decide (x = -v)) ++ b.filter (fun x => !decide (x = v))).any (fun n => decide (-n ∈ a.filter (fun x => !decide (x = -v)) ++ b.filter (fun x => !decide (x = v)))) = true := by
    rw [List.any_eq_true]
    rintro ⟨x, hx, hy⟩
    have hy := of_decide_eq_true hy
    have q1 := neg x hx
    have q2 := neg _ hy
    exact hc _ q1 (by rw [Int.neg_neg]; rw [Int.neg_neg] at q2; exact q2)
  have e : resv a b v = some (sab (sst (a.filter (fun x => !decide (x = -v)) ++ b.filter (fun x => !decide (x = v))))) := by
    unfold resv
    rw [if_neg n1, if_pos ⟨h1, h2⟩]
    unfold fin
    rw [if_neg ta]
  exact ⟨_, e, fun x hx => neg x (mem_sst.mp (mem_sab.mp hx)), resv_gd hm ga gb e⟩
/-- the resolvent of both -/
theorem Ref.chain {m : Nat} {cl : List (List Int)} {tr : List Int} {v : Nat} {ls : List Line} {n : Nat} {w1 w2 : List Line} {c1 c2 : List Int} (hm : m ≤ 5) (hf : Fv m tr (v : Int)) (hc : Con tr) (r1 : Ref m cl (tr ++ [(v : Int)]) ls n w1 c1) (r2 : Ref m cl (tr ++ [-(v : Int)]) (ls ++ w1) n w2 c2) (h1 : -(v : Int) ∈ c1) (h2 : (v : Int) ∈ c2) :
    ∃ c, resv c1 c2 v = some c ∧ Ref m cl tr ls (n + 1) (w1 ++ w2 ++ [.chain ((ls ++ w1).length - 1) [(v, (ls ++ w1 ++ w2).length - 1)]]) c := by
  obtain ⟨c, e1, e2, e3⟩ := resv_false hm hf hc r1.neg r2.neg h1 h2 r1.gd r2.gd
  refine ⟨c, e1, ?_⟩
  obtain ⟨cs1, a1⟩ := r1.all
  obtain ⟨cs2, a2⟩ := r2.all
  have l1 := allC_len a1
  have l2 := allC_len a2
  obtain ⟨ex, he⟩ : ∃ ex, cs2 ++ [c2] = (cs1 ++ [c1]) ++ ex := by
    unfold allC at a1 a2
    rw [allF_app, a1] at a2
    exact allF_pre a2
  rw [List.length_append, List.length_singleton] at l1 l2
  have g1 : (cs2 ++ [c2])[(ls ++ w1).length - 1]? = some c1 := by
    rw [he, show (ls ++ w1).length - 1 = cs1.length by omega, List.append_assoc, List.getElem?_append_right (Nat.le_refl _), Nat.sub_self]
    rfl
  have g2 : (cs2 ++ [c2])[(ls ++ w1 ++ w2).length - 1]? = some c2 := by
    rw [show (ls ++ w1 ++ w2).length - 1 = cs2.length by omega, List.getElem?_append_right (Nat.le_refl _), Nat.sub_self]
    rfl
  have hl : lineC cl (cs2 ++ [c2]) (.chain ((ls ++ w1).length - 1) [(v, (ls ++ w1 ++ w2).length - 1)]) = some c := by
    have hv : ¬ v = 0 := by have := hf.1; omega
    simp only [lineC, g1, steps, g2, e1, if_neg hv]
    rfl
  have e : 2 ^ (n + 1 + 1) = 2 ^ (n + 1) + 2 ^ (n + 1) := by rw [Nat.pow_succ]; omega
  have e2' : 2 ^ (n + 1) = 2 ^ n + 2 ^ n := by rw [Nat.pow_succ]; omega
  have q1 := r1.len
  have q2 := r2.len
  have q3 := r1.gv
  have q4 := r2.gv
  refine ⟨⟨cs2 ++ [c2], ?_⟩, ?_, ?_, e2, fun l hl => ?_, e3⟩
  · rw [← List.append_assoc, ← List.append_assoc]
    exact allC_snoc a2 hl
  · rw [List.length_append, List.length_append, List.length_singleton]
    omega
  · rw [gvs_app, gvs_app]
    show _ + 0 ≤ _
    omega
  · rcases List.mem_append.mp hl with hl | hl
    · rcases List.mem_append.mp hl with hl | hl
      · exact r1.ok l hl
      · exact r2.ok l hl
    · rw [List.mem_singleton] at hl
      subst hl
      exact ⟨fun i => by simp, by simp [asked]⟩
end Mi
namespace Mi
theorem steps_snoc {ah : List (List Int)} {v k : Nat} {b : List Int} : ∀ {ss : List (Nat × Nat)} {c d e : List Int}, steps ah c ss = some d → v ≠ 0 → ah[k]? = some b → resv d b v = some e → steps ah c (ss ++ [(v, k)]) = some e
  | [], c, d, e, h, hv, hb, hr => by
    unfold steps at h
    cases h
    rw [List.nil_append]
    simp only [steps, if_neg hv, hb, hr]
  | (v', k') :: r, c, d, e, h, hv, hb, hr => by
    rw [List.cons_append]
    unfold steps at h ⊢
    split at h
    · cases h
    · rename_i h0
      rw [if_neg h0]
      split at h
      · cases h
      · rename_i b' hb'
        split at h
        · cases h
        · rename_i c' hc'
          first
            | exact steps_snoc h hv hb hr
            | (simp only [hc']; exact steps_snoc h hv hb hr)
end Mi

set_option linter.all false
/-! lines drawn out of lines; soundness; in plain Lean -/
namespace Mi
/-! what valid lines are -/
theorem steps_ask {ah : List (List Int)} : ∀ {ss : List (Nat × Nat)} {c d : List Int}, steps ah c ss = some d → ∀ p ∈ ss, p.1 ≠ 0 ∧ p.2 < ah.length
  | [], c, d, h, p, hp => by cases hp
  | (v, k) :: r, c, d, h, p, hp => by
    unfold steps at h
    split at h
    · cases h
    · rename_i hv
      split at h
      · cases h
      · rename_i b hb
        split at h
        · cases h
        · rcases List.mem_cons.mp hp with rfl | hp
          · exact ⟨hv, (List.getElem?_eq_some_iff.mp hb).1⟩
          · exact steps_ask h p hp
theorem line_ask {cl ah : List (List Int)} {l : Line} {c : List Int} (h : lineC cl ah l = some c) : (∀ i, l ≠ .odd i) ∧ ∀ i ∈ asked l, i < ah.length := by
  cases l with
  | odd i => simp [lineC] at h
  | given n => exact ⟨fun i => by simp, fun i hi => by cases hi⟩
  | chain f ss =>
    refine ⟨fun i => by simp, fun i hi => ?_⟩
    simp only [lineC] at h
    split at h
    · cases h
    · rename_i c0 h0
      split at h
      · cases h
      · rcases List.mem_cons.mp hi with rfl | hi
        · exact (List.getElem?_eq_some_iff.mp h0).1
        · obtain ⟨p, hp, rfl⟩ := List.mem_map.mp hi
          exact (steps_ask h p hp).2
/-- each line's clause comes from the clauses ahead of it -/
theorem allF_at {cl : List (List Int)} : ∀ {ls : List Line} {acc ds : List (List Int)}, allF cl acc ls = some ds → ∀ (k : Nat) l, ls[k]? = some l → ∃ c, lineC cl (ds.take (acc.length + k)) l = some c ∧ ds[acc.length + k]? = some c
  | [], acc, ds, h, k, l, hl => by simp at hl
  | x :: r, acc, ds, h, k, l, hl => by
    unfold allF at h
    split at h
    · cases h
    · rename_i c hc
      obtain ⟨e, he⟩ := allF_pre h
      cases k with
      | zero =>
        simp at hl
        subst hl
        refine ⟨c, ?_, ?_⟩
        · rw [he, Nat.add_zero, List.append_assoc, List.take_left]
          exact hc
        · rw [he, Nat.add_zero, List.append_assoc, List.getElem?_append_right (Nat.le_refl _), Nat.sub_self]
          rfl
      | succ k =>
        have := allF_at h k l (by simpa using hl)
        rw [List.length_append, List.length_singleton, Nat.add_assoc, Nat.add_comm 1 k] at this
        exact this
theorem allC_at {cl : List (List Int)} {ls : List Line} {cs : List (List Int)} (h : allC cl ls = some cs) {k : Nat} {l : Line} (hl : ls[k]? = some l) : ∃ c, lineC cl (cs.take k) l = some c ∧ cs[k]? = some c := by
  have := allF_at h k l hl
  simpa using this
theorem allC_lv {cl : List (List Int)} {ls : List Line} {cs : List (List Int)} (h : allC cl ls = some cs) (ha : ∀ l ∈ ls, (asked l).length ≤ 10) : ∀ (k : Nat) l, ls[k]? = some l → Lv k l := fun k l hl => by
  obtain ⟨c, hc, _⟩ := allC_at h hl
  obtain ⟨h1, h2⟩ := line_ask hc
  refine ⟨h1, fun i hi => ?_, by have := ha l (List.mem_of_getElem? hl); omega⟩
  have := h2 i hi
  rw [List.length_take] at this
  omega
/-! lines that moved -/
def shiftL : Line → Line
  | .given n => .given n
  | .chain f ss => .chain (f + 1) (ss.map fun p => (p.1, p.2 + 1))
  | .odd i => .odd i
theorem steps_shift {x : List Int} {ah : List (List Int)} : ∀ {ss : List (Nat × Nat)} {c : List Int}, steps (x :: ah) c (ss.map fun p => (p.1, p.2 + 1)) = steps ah c ss
  | [], c => rfl
  | (v, k) :: r, c => by
    show steps (x :: ah) c ((v, k + 1) :: _) = _
    unfold steps
    rw [List.getElem?_cons_succ]
    split
    · rfl
    · split
      · rfl
      · split
        · rfl
        · exact steps_shift
theorem line_shift {cl : List (List Int)} {x : List Int} {ah : List (List Int)} {l : Line} : lineC cl (x :: ah) (shiftL l) = lineC cl ah l := by
  cases l with
  | given n => rfl
  | odd i => rfl
  | chain f ss =>
    simp only [shiftL, lineC, List.getElem?_cons_succ]
    cases ah[f]? with
    | none => rfl
    | some c =>
      cases ss with
      | nil => rfl
      | cons p r =>
        simp only [List.map_cons, reduceCtorEq, if_false]
        exact steps_shift (ss := p :: r)
theorem allF_shift {cl : List (List Int)} {x : List Int} : ∀ {ls : List Line} {acc : List (List Int)}, allF cl (x :: acc) (ls.map shiftL) = (allF cl acc ls).map (x :: ·)
  | [], acc => rfl
  | l :: r, acc => by
    show (match lineC cl (x :: acc) (shiftL l) with
      | none => none
      | some c => allF cl (x :: acc ++ [c]) (r.map shiftL)) = Option.map _ (match lineC cl acc l with
      | none => none
      | some c => allF cl (acc ++ [c]) r)
    rw [line_shift]
    cases lineC cl acc l with
    | none => rfl
    | some c => exact allF_shift
theorem allC_moved {cl : List (List Int)} {ls : List Line} {cs : List (List Int)} {e : Nat} {x : List Int} (h : allC cl ls = some cs) (he : cl[e]? = some x) : allC cl (.given e :: ls.map shiftL) = some (x :: cs) := by
  show (match lineC cl [] (.given e) with
    | none => none
    | some c => allF cl ([] ++ [c]) (ls.map shiftL)) = _
  rw [show lineC cl [] (.given e) = some x from he]
  show allF cl [x] (ls.map shiftL) = _
  rw [allF_shift, show allF cl [] ls = some cs from h]
  rfl
theorem asked_shift {l : Line} : (asked (shiftL l)).length = (asked l).length := by
  cases l with
  | given n => rfl
  | odd i => rfl
  | chain f ss => simp [shiftL, asked]
theorem gvs_shift : ∀ {ls : List Line}, gvs (ls.map shiftL) = gvs ls
  | [] => rfl
  | l :: r => by
    have ih := gvs_shift (ls := r)
    unfold gvs at ih ⊢
    rw [List.map_cons, List.filter_cons, List.filter_cons]
    cases l with
    | given n =>
      show ((_ :: _ : List Line)).length = (_ :: _ : List Line).length
      rw [List.length_cons, List.length_cons, ih]
    | chain f ss => exact ih
    | odd i => exact ih
/-! who is marked was asked for -/
theorem setAll_inv : ∀ {ns : List Nat} {m : List Bool} {i : Nat}, (setAll m ns)[i]? = some true → m[i]? = some true ∨ i ∈ ns
  | [], m, i, h => .inl h
  | n :: r, m, i, h => by
    unfold setAll at h
    rcases setAll_inv h with h | h
    · by_cases e : n = i
      · exact .inr (by rw [e]; exact List.mem_cons_self)
      · rw [List.getElem?_set_ne e] at h
        exact .inl h
    · exact .inr (List.mem_cons_of_mem _ h)
theorem marksN_inv {ls : List Line} {j : Nat} (hj : j + 1 ≠ ls.length) : ∀ {i : Nat}, i ≤ ls.length → (marksN ls i)[j]? = some true → ∃ (k : Nat) (l : Line), (marksN ls ls.length)[k]? = some true ∧ ls[k]? = some l ∧ j ∈ asked l
  | 0, _, h => by
    unfold marksN at h
    by_cases e : ls.length - 1 = j
    · have : j < ls.length := by
        have := (List.getElem?_eq_some_iff.mp h).1
        simpa using this
      omega
    · rw [List.getElem?_set_ne e] at h
      rw [List.getElem?_replicate] at h
      split at h <;> cases h
  | i + 1, hi, h => by
    have h : (markAt ls (marksN ls i) (ls.length - 1 - i))[j]? = some true := h
    unfold markAt at h
    split at h
    · rename_i hm
      rcases setAll_inv h with h | h
      · exact marksN_inv hj (by omega) h
      · cases hl : ls[ls.length - 1 - i]? with
        | none => rw [hl] at h; simp at h
        | some l =>
          rw [hl] at h
          refine ⟨ls.length - 1 - i, l, ?_, hl, by simpa using h⟩
          have := marksN_mono (d := ls.length - i) hm
          rw [show i + (ls.length - i) = ls.length by omega] at this
          exact this
    · exact marksN_inv hj (by omega) h
theorem marks_inv {ls : List Line} {j : Nat} (hj : j + 1 ≠ ls.length) (h : (marks ls)[j]? = some true) : ∃ (k : Nat) (l : Line), (marks ls)[k]? = some true ∧ ls[k]? = some l ∧ j ∈ asked l := marksN_inv hj (Nat.le_refl _) h
/-- all that lines ask for, from the last: if each but the last is asked for by a later one, all are marked -/
theorem marks_all {ls : List Line} (h : Ls ls) (ha : ∀ p, p + 1 < ls.length → ∃ (q : Nat) (l : Line), ls[q]? = some l ∧ p ∈ asked l) : ∀ d p, p + 1 + d = ls.length → (marks ls)[p]? = some true
  | 0, p, e => by
    have := marks_last h.1
    rw [show ls.length - 1 = p by omega] at this
    exact this
  | d + 1, p, e => by
    obtain ⟨q, l, hl, hp⟩ := ha p (by omega)
    have hq := (h.2.2 q l hl).2.1 p hp
    have hql := (List.getElem?_eq_some_iff.mp hl).1
    -- q is nearer to the end
    have : ∀ d' q, d' ≤ d → q + 1 + d' = ls.length → (marks ls)[q]? = some true := fun d' q hd e => by
      have : d' < d + 1 := by omega
      exact marks_all h ha d' q e
    exact marks_closed h hl (this (ls.length - (q + 1)) q (by omega) (by omega)) hp
/-! drawn lines -/
def ren (pl : List (Nat × Nat)) : Line → Line
  | .chain f ss => .chain (getD pl f) (ss.map fun p => (p.1, getD pl p.2))
  | l => l
structure DI (cl : List (List Int)) (ls : List Line) (cs : List (List Int)) (k : Nat) (found : List Line) (pl : List (Nat × Nat)) : Prop where
  kp : Kp (marks ls) k pl
  mkd : ∀ j p, getN pl j = some p → (marks ls)[j]? = some true
  pos : ∀ j p, getN pl j = some p → ∃ l, ls[j]? = some l ∧ found[p]? = some (ren pl l)
  sur : ∀ p, p < found.length → ∃ j, getN pl j = some p
  uni : ∀ (p q n : Nat), found[p]? = some (Line.given n) → found[q]? = some (Line.given n) → p = q
  val : ∃ fc, allC cl found = some fc ∧ ∀ j p, getN pl j = some p → fc[p]? = cs[j]?
theorem getD_of {pl : List (Nat × Nat)} {j p : Nat} (h : getN pl j = some p) : getD pl j = p := by unfold getD; rw [h]; rfl
theorem getN_keep {pl : List (Nat × Nat)} {k x j p : Nat} (h : getN pl j = some p) : getN (pl ++ [(k, x)]) j = some p := by rw [getN_app, h]
theorem ren_keep {pl : List (Nat × Nat)} {k x : Nat} {l : Line} (h : ∀ i ∈ asked l, (getN pl i).isSome = true) : ren (pl ++ [(k, x)]) l = ren pl l := by
  have key : ∀ i ∈ asked l, getD (pl ++ [(k, x)]) i = getD pl i := fun i hi => by
    obtain ⟨p, hp⟩ := Option.isSome_iff_exists.mp (h i hi)
    rw [getD_of hp, getD_of (getN_keep hp)]
  cases l with
  | given n => rfl
  | odd i => rfl
  | chain f ss =>
    simp only [ren]
    rw [key f List.mem_cons_self]
    congr 1
    refine List.map_congr_left fun p hp => ?_
    rw [key p.2 (List.mem_cons_of_mem _ (List.mem_map_of_mem hp))]
theorem steps_ren {ah bh : List (List Int)} {g : Nat → Nat} : ∀ {ss : List (Nat × Nat)} {c d : List Int}, steps ah c ss = some d → (∀ p ∈ ss, bh[g p.2]? = ah[p.2]?) → steps bh c (ss.map fun p => (p.1, g p.2)) = some d
  | [], c, d, h, _ => h
  | (v, k) :: r, c, d, h, hb => by
    show steps bh c ((v, g k) :: _) = _
    unfold steps at h ⊢
    rw [hb (v, k) List.mem_cons_self]
    split at h
    · cases h
    · rename_i hv
      rw [if_neg hv]
      split at h
      · cases h
      · rename_i b hb'
        split at h
        · cases h
        · rename_i c' hc'
          simp only [hb', hc']
          exact steps_ren h fun p hp => hb p (List.mem_cons_of_mem _ hp)
theorem DI.step {cl : List (List Int)} {ls : List Line} {cs : List (List Int)} {k : Nat} {found : List Line} {pl : List (Nat × Nat)} (hls : Ls ls) (hcs : allC cl ls = some cs) (I : DI cl ls cs k found pl) {l : Line} (hl : ls[k]? = some l) (hm : (marks ls)[k]? = some true) :
    DI cl ls cs (k + 1) (dstep (found, pl) k l).1 (dstep (found, pl) k l).2 := by
  obtain ⟨hlv1, hlv2, _⟩ := hls.2.2 k l hl
  have hnew : getN pl k = none := by
    cases e : getN pl k with
    | none => rfl
    | some y => exact absurd (I.kp.2 k (by rw [e]; rfl)) (Nat.lt_irrefl _)
  have hask : ∀ i ∈ asked l, (getN pl i).isSome = true := fun i hi => I.kp.1 i (hlv2 i hi) (marks_closed hls hl hm hi)
  have kp' := Kp.step (s := (found, pl)) I.kp hlv1
  obtain ⟨fc, hfc, hval⟩ := I.val
  have hfl := allC_len hfc
  obtain ⟨ck, hck1, hck2⟩ := allC_at hcs hl
  have getN_new : ∀ {x j p : Nat}, getN (pl ++ [(k, x)]) j = some p → getN pl j = some p ∨ (j = k ∧ p = x ∧ getN pl j = none) := fun {x j p} h => by
    rw [getN_app] at h
    cases e : getN pl j with
    | some y => rw [e] at h; exact .inl h
    | none =>
      rw [e] at h
      by_cases hk : k = j
      · simp [hk] at h
        exact .inr ⟨hk.symm, h.symm, rfl⟩
      · simp [hk] at h
  have askOld : ∀ {j p : Nat} {l' : Line}, getN pl j = some p → ls[j]? = some l' → ∀ i ∈ asked l', (getN pl i).isSome = true := fun {j p l'} h hl' i hi => by
    have hj := I.kp.2 j (by rw [h]; rfl)
    have h1 := (hls.2.2 j l' hl').2.1 i hi
    exact I.kp.1 i (by omega) (marks_closed hls hl' (I.mkd j p h) hi)
  cases l with
  | odd i => exact absurd rfl (hlv1 i)
  | given n =>
    simp only [dstep] at kp' ⊢
    cases hg : gidx found n with
    | some p =>
      rw [hg] at kp'
      simp only
      obtain ⟨hp1, hp2, _⟩ := List.findIdx?_eq_some_iff_getElem.mp hg
      have hfp : found[p]? = some (.given n) := by
        rw [List.getElem?_eq_getElem hp1]
        cases hx : found[p] with
        | given q => rw [hx] at hp2; simp [isG] at hp2; rw [hp2]
        | chain f ss => rw [hx] at hp2; simp [isG] at hp2
        | odd i => rw [hx] at hp2; simp [isG] at hp2
      refine ⟨kp', fun j q h => ?_, fun j q h => ?_, fun q hq => ?_, I.uni, fc, hfc, fun j q h => ?_⟩
      · rcases getN_new h with h | ⟨rfl, _, _⟩
        · exact I.mkd j q h
        · exact hm
      · rcases getN_new h with h | ⟨rfl, rfl, _⟩
        · obtain ⟨l', h1, h2⟩ := I.pos j q h
          exact ⟨l', h1, by rw [ren_keep (askOld h h1)]; exact h2⟩
        · exact ⟨_, hl, hfp⟩
      · obtain ⟨j, hj⟩ := I.sur q hq
        exact ⟨j, getN_keep hj⟩
      · rcases getN_new h with h | ⟨rfl, rfl, _⟩
        · exact hval j q h
        · obtain ⟨c', hc1, hc2⟩ := allC_at hfc hfp
          rw [hc2, hck2]
          exact hc1.symm.trans hck1
    | none =>
      rw [hg] at kp'
      simp only
      have hno : ∀ q : Nat, found[q]? ≠ some (Line.given n) := fun q hq => by
        have := List.findIdx?_eq_none_iff.mp hg (.given n) (List.mem_of_getElem? hq)
        simp [isG] at this
      have hfc' : allC cl (found ++ [.given n]) = some (fc ++ [ck]) := allC_snoc hfc hck1
      refine ⟨kp', fun j q h => ?_, fun j q h => ?_, fun q hq => ?_, fun p q n' h1 h2 => ?_, _, hfc', fun j q h => ?_⟩
      · rcases getN_new h with h | ⟨rfl, _, _⟩
        · exact I.mkd j q h
        · exact hm
      · rcases getN_new h with h | ⟨rfl, rfl, _⟩
        · obtain ⟨l', h1, h2⟩ := I.pos j q h
          exact ⟨l', h1, by rw [ren_keep (askOld h h1), List.getElem?_append_left (List.getElem?_eq_some_iff.mp h2).1]; exact h2⟩
        · exact ⟨_, hl, by rw [List.getElem?_append_right (Nat.le_refl _), Nat.sub_self]; rfl⟩
      · rw [List.length_append, List.length_singleton] at hq
        by_cases hq2 : q < found.length
        · obtain ⟨j, hj⟩ := I.sur q hq2
          exact ⟨j, getN_keep hj⟩
        · exact ⟨k, by rw [getN_app, hnew]; simp; omega⟩
      · have key : ∀ r : Nat, (found ++ [Line.given n])[r]? = some (Line.given n') → (r < found.length ∧ found[r]? = some (Line.given n')) ∨ (r = found.length ∧ n' = n) := fun r h => by
          by_cases hr : r < found.length
          · rw [List.getElem?_append_left hr] at h
            exact .inl ⟨hr, h⟩
          · rw [List.getElem?_append_right (Nat.le_of_not_lt hr)] at h
            have hz : r - found.length = 0 := by
              have := (List.getElem?_eq_some_iff.mp h).1
              simp at this
              omega
            rw [hz] at h
            simp at h
            exact .inr ⟨by omega, h.symm⟩
        rcases key p h1 with ⟨_, h1⟩ | ⟨h1, e1⟩ <;> rcases key q h2 with ⟨_, h2⟩ | ⟨h2, e2⟩
        · exact I.uni p q n' h1 h2
        · exact absurd (e2 ▸ h1) (hno p)
        · exact absurd (e1 ▸ h2) (hno q)
        · rw [h1, h2]
      · rcases getN_new h with h | ⟨rfl, rfl, _⟩
        · have := (I.pos j q h)
          obtain ⟨l', _, h2⟩ := this
          have hq := (List.getElem?_eq_some_iff.mp h2).1
          rw [List.getElem?_append_left (by omega)]
          exact hval j q h
        · rw [← hfl, List.getElem?_append_right (Nat.le_refl _), Nat.sub_self, hck2]
          rfl
  | chain f ss =>
    simp only [dstep] at kp' ⊢
    have hge : ∀ i ∈ asked (.chain f ss), fc[getD pl i]? = (cs.take k)[i]? := fun i hi => by
      obtain ⟨p, hp⟩ := Option.isSome_iff_exists.mp (hask i hi)
      rw [getD_of hp, hval i p hp, List.getElem?_take, if_pos (hlv2 i hi)]
    have hlc : lineC cl fc (.chain (getD pl f) (ss.map fun p => (p.1, getD pl p.2))) = some ck := by
      simp only [lineC] at hck1 ⊢
      rw [hge f List.mem_cons_self]
      split at hck1
      · cases hck1
      · rename_i c0 h0
        split at hck1
        · cases hck1
        · rename_i hne
          rw [if_neg (by simpa using hne)]
          exact steps_ren hck1 fun p hp => hge p.2 (List.mem_cons_of_mem _ (List.mem_map_of_mem hp))
    have hfc' : allC cl (found ++ [.chain (getD pl f) (ss.map fun p => (p.1, getD pl p.2))]) = some (fc ++ [ck]) := allC_snoc hfc hlc
    refine ⟨kp', fun j q h => ?_, fun j q h => ?_, fun q hq => ?_, fun p q n' h1 h2 => ?_, _, hfc', fun j q h => ?_⟩
    · rcases getN_new h with h | ⟨rfl, _, _⟩
      · exact I.mkd j q h
      · exact hm
    · rcases getN_new h with h | ⟨rfl, rfl, _⟩
      · obtain ⟨l', h1, h2⟩ := I.pos j q h
        exact ⟨l', h1, by rw [ren_keep (askOld h h1), List.getElem?_append_left (List.getElem?_eq_some_iff.mp h2).1]; exact h2⟩
      · refine ⟨_, hl, ?_⟩
        rw [List.getElem?_append_right (Nat.le_refl _), Nat.sub_self, ren_keep hask]
        rfl
    · rw [List.length_append, List.length_singleton] at hq
      by_cases hq2 : q < found.length
      · obtain ⟨j, hj⟩ := I.sur q hq2
        exact ⟨j, getN_keep hj⟩
      · exact ⟨k, by rw [getN_app, hnew]; simp; omega⟩
    · have key : ∀ r : Nat, (found ++ [Line.chain (getD pl f) (ss.map fun p => (p.1, getD pl p.2))])[r]? = some (Line.given n') → found[r]? = some (Line.given n') := fun r h => by
        by_cases hr : r < found.length
        · rw [List.getElem?_append_left hr] at h
          exact h
        · rw [List.getElem?_append_right (Nat.le_of_not_lt hr)] at h
          have hz : r - found.length = 0 := by
            have := (List.getElem?_eq_some_iff.mp h).1
            simp at this
            omega
          rw [hz] at h
          simp at h
      exact I.uni p q n' (key p h1) (key q h2)
    · rcases getN_new h with h | ⟨rfl, rfl, _⟩
      · obtain ⟨l', _, h2⟩ := I.pos j q h
        have hq := (List.getElem?_eq_some_iff.mp h2).1
        rw [List.getElem?_append_left (by omega)]
        exact hval j q h
      · rw [← hfl, List.getElem?_append_right (Nat.le_refl _), Nat.sub_self, hck2]
        rfl
end Mi

set_option linter.all false
/-! the drawn lines as a whole; soundness -/
namespace Mi
theorem dgo_app {ms : List Bool} : ∀ {a b : List Line} {s : List Line × List (Nat × Nat)} {k : Nat}, dgo ms s k (a ++ b) = dgo ms (dgo ms s k a) (k + a.length) b
  | [], b, s, k => rfl
  | l :: r, b, s, k => by
    show dgo ms _ (k + 1) (r ++ b) = dgo ms (dgo ms _ (k + 1) r) (k + (r.length + 1)) b
    rw [dgo_app, Nat.add_assoc, Nat.add_comm 1 r.length]
theorem DI.run {cl : List (List Int)} {ls : List Line} {cs : List (List Int)} (hls : Ls ls) (hcs : allC cl ls = some cs) : ∀ {rest : List Line} {k : Nat} {s : List Line × List (Nat × Nat)}, (∀ (i : Nat) l, rest[i]? = some l → ls[k + i]? = some l) → DI cl ls cs k s.1 s.2 → DI cl ls cs (k + rest.length) (dgo (marks ls) s k rest).1 (dgo (marks ls) s k rest).2
  | [], k, s, _, I => I
  | l :: r, k, s, h, I => by
    have hl : ls[k]? = some l := h 0 l rfl
    have hr : ∀ (i : Nat) l', r[i]? = some l' → ls[k + 1 + i]? = some l' := fun i l' hi => by
      have := h (i + 1) l' (by simpa using hi)
      rw [show k + 1 + i = k + (i + 1) by omega]
      exact this
    show DI cl ls cs (k + (r.length + 1)) (dgo (marks ls) (if (marks ls)[k]? = some true then dstep s k l else s) (k + 1) r).1 (dgo (marks ls) (if (marks ls)[k]? = some true then dstep s k l else s) (k + 1) r).2
    rw [show k + (r.length + 1) = k + 1 + r.length by omega]
    by_cases hm : (marks ls)[k]? = some true
    · rw [if_pos hm]
      exact DI.run hls hcs hr (I.step hls hcs hl hm)
    · rw [if_neg hm]
      exact DI.run hls hcs hr ⟨I.kp.skip hm, I.mkd, I.pos, I.sur, I.uni, I.val⟩
theorem DI.zero {cl : List (List Int)} {ls : List Line} {cs : List (List Int)} : DI cl ls cs 0 [] [] :=
  ⟨⟨fun j hj => absurd hj (Nat.not_lt_zero _), fun j hj => by simp [getN] at hj⟩, fun j p h => by simp [getN] at h, fun j p h => by simp [getN] at h, fun p h => absurd h (Nat.not_lt_zero _), fun p q n h => by simp at h, [], rfl, fun j p h => by simp [getN] at h⟩
/-- if the last line is given, no other is marked -/
theorem none_marked {ls : List Line} (h : Ls ls) {n : Nat} (hl : ls[ls.length - 1]? = some (.given n)) : ∀ d j, j + 1 + d = ls.length → 0 < d → (marks ls)[j]? ≠ some true
  | 0, j, e, hd => absurd hd (Nat.lt_irrefl _)
  | d + 1, j, e, _ => fun hm => by
    obtain ⟨k, l, hk, hkl, hj⟩ := marks_inv (by omega) hm
    have hjk := (h.2.2 k l hkl).2.1 j hj
    have hkn := (List.getElem?_eq_some_iff.mp hkl).1
    by_cases hlast : k = ls.length - 1
    · subst hlast
      rw [hl] at hkl
      cases hkl
      cases hj
    · have : ls.length - (k + 1) < d + 1 := by omega
      exact none_marked h hl (ls.length - (k + 1)) k (by omega) (by omega) hk
theorem drawn_di {cl : List (List Int)} {ls : List Line} {cs : List (List Int)} (hls : Ls ls) (hcs : allC cl ls = some cs) :
    ∃ pl, DI cl ls cs ls.length (drawnL ls) pl ∧ getN pl (ls.length - 1) = some ((drawnL ls).length - 1) ∧ 0 < (drawnL ls).length := by
  have I := DI.run hls hcs (rest := ls) (k := 0) (s := ([], [])) (fun i l h => by rw [Nat.zero_add]; exact h) DI.zero
  rw [Nat.zero_add] at I
  refine ⟨_, I, ?_⟩
  have h0 := hls.1
  obtain ⟨init, x, e⟩ : ∃ init x, ls = init ++ [x] := ⟨ls.dropLast, ls.getLast (List.ne_nil_of_length_pos h0), (List.dropLast_concat_getLast (List.ne_nil_of_length_pos h0)).symm⟩
  have hlen : ls.length = init.length + 1 := by rw [e, List.length_append]; rfl
  have hx : ls[init.length]? = some x := by rw [e, List.getElem?_append_right (Nat.le_refl _), Nat.sub_self]; rfl
  have I1 := DI.run hls hcs (rest := init) (k := 0) (s := ([], [])) (fun i l h => by
    rw [Nat.zero_add, e, List.getElem?_append_left (List.getElem?_eq_some_iff.mp h).1]
    exact h) DI.zero
  rw [Nat.zero_add] at I1
  have hm := marks_last h0
  rw [show ls.length - 1 = init.length by omega] at hm ⊢
  have ego : dgo (marks ls) ([], []) 0 ls = dstep (dgo (marks ls) ([], []) 0 init) init.length x := by
    conv => lhs; arg 4; rw [e]
    rw [dgo_app, Nat.zero_add]
    show (if (marks ls)[init.length]? = some true then _ else _) = _
    rw [if_pos hm]
  unfold drawnL
  rw [ego]
  have hnew : getN (dgo (marks ls) ([], []) 0 init).2 init.length = none := by
    cases e' : getN (dgo (marks ls) ([], []) 0 init).2 init.length with
    | none => rfl
    | some y => exact absurd (I1.kp.2 _ (by rw [e']; rfl)) (Nat.lt_irrefl _)
  generalize dgo (marks ls) ([], []) 0 init = s1 at I1 hnew ⊢
  cases x with
  | odd i => exact absurd rfl ((hls.2.2 _ _ hx).1 i)
  | chain f ss =>
    simp only [dstep]
    rw [getN_app, hnew, List.length_append, List.length_singleton]
    exact ⟨by simp, Nat.succ_pos _⟩
  | given n =>
    have hemp : s1.1 = [] := by
      cases hf : s1.1 with
      | nil => rfl
      | cons a r =>
        obtain ⟨j, hj⟩ := I1.sur 0 (by rw [hf]; exact Nat.succ_pos _)
        have hjl := I1.kp.2 j (by rw [hj]; rfl)
        exact absurd (I1.mkd j 0 hj) (none_marked hls (by rw [show ls.length - 1 = init.length by omega]; exact hx) (ls.length - (j + 1)) j (by omega) (by omega))
    have hg : gidx s1.1 n = none := by rw [hemp]; rfl
    simp only [dstep, hg]
    rw [getN_app, hnew, hemp]
    exact ⟨by simp, by simp⟩
theorem dgo_len {ms : List Bool} : ∀ {rest : List Line} {s : List Line × List (Nat × Nat)} {k : Nat}, (dgo ms s k rest).1.length ≤ s.1.length + rest.length ∧ gvs (dgo ms s k rest).1 ≤ gvs s.1 + gvs rest
  | [], s, k => ⟨Nat.le_refl _, Nat.le_refl _⟩
  | l :: r, s, k => by
    show (dgo ms (if ms[k]? = some true then dstep s k l else s) (k + 1) r).1.length ≤ s.1.length + (r.length + 1) ∧ gvs (dgo ms (if ms[k]? = some true then dstep s k l else s) (k + 1) r).1 ≤ gvs s.1 + gvs ([l] ++ r)
    have ih := dgo_len (ms := ms) (rest := r) (s := if ms[k]? = some true then dstep s k l else s) (k := k + 1)
    have key : (if ms[k]? = some true then dstep s k l else s).1.length ≤ s.1.length + 1 ∧ gvs (if ms[k]? = some true then dstep s k l else s).1 ≤ gvs s.1 + gvs [l] := by
      split
      · cases l with
        | odd i => exact ⟨Nat.le_succ _, Nat.le_add_right _ _⟩
        | chain f ss =>
          simp only [dstep]
          rw [List.length_append, gvs_app]
          exact ⟨Nat.le_refl _, Nat.le_refl _⟩
        | given n =>
          simp only [dstep]
          cases gidx s.1 n with
          | some p => exact ⟨Nat.le_succ _, Nat.le_add_right _ _⟩
          | none =>
            simp only
            rw [List.length_append, gvs_app]
            exact ⟨Nat.le_refl _, Nat.le_refl _⟩
      · exact ⟨Nat.le_succ _, Nat.le_add_right _ _⟩
    rw [gvs_app]
    omega
theorem asked_ren {pl : List (Nat × Nat)} {l : Line} : (asked (ren pl l)).length = (asked l).length := by
  cases l with
  | given n => rfl
  | odd i => rfl
  | chain f ss => simp [ren, asked]
theorem asked_mem_ren {pl : List (Nat × Nat)} {l : Line} {i : Nat} (h : i ∈ asked l) : getD pl i ∈ asked (ren pl l) := by
  cases l with
  | given n => cases h
  | odd n => cases h
  | chain f ss =>
    rcases List.mem_cons.mp h with rfl | h
    · exact List.mem_cons_self
    · obtain ⟨p, hp, rfl⟩ := List.mem_map.mp h
      exact List.mem_cons_of_mem _ (List.mem_map.mpr ⟨(p.1, getD pl p.2), List.mem_map.mpr ⟨p, hp, rfl⟩, rfl⟩)
/-- lines that are good: valid, few, each asks for few -/
structure Good (cl : List (List Int)) (ls : List Line) : Prop where
  all : ∃ cs, allC cl ls = some cs
  l1 : 1 ≤ ls.length
  l2 : ls.length ≤ 100
  gv : gvs ls ≤ 40
  as : ∀ l ∈ ls, (asked l).length ≤ 10
theorem Good.ls {cl : List (List Int)} {ls : List Line} (g : Good cl ls) : Ls ls := by
  obtain ⟨cs, h⟩ := g.all
  exact ⟨g.l1, by have := g.l2; omega, allC_lv h g.as⟩
/-- told: what stands of the drawn lines -/
structure Told (cl : List (List Int)) (ls : List Line) (cs : List (List Int)) : Prop where
  good : Good cl (drawnL ls)
  last : ∃ fc, allC cl (drawnL ls) = some fc ∧ fc[fc.length - 1]? = cs[cs.length - 1]?
  marks : ∀ p, p < (drawnL ls).length → (marks (drawnL ls))[p]? = some true
  uni : ∀ (p q n : Nat), (drawnL ls)[p]? = some (Line.given n) → (drawnL ls)[q]? = some (Line.given n) → p = q
  giv : ∀ n : Nat, (∃ p : Nat, (drawnL ls)[p]? = some (Line.given n)) ↔ ∃ j : Nat, ls[j]? = some (Line.given n) ∧ (Mi.marks ls)[j]? = some true
theorem told_of {cl : List (List Int)} {ls : List Line} {cs : List (List Int)} (g : Good cl ls) (hcs : allC cl ls = some cs) : Told cl ls cs := by
  have hls := g.ls
  obtain ⟨pl, I, hlast, hpos⟩ := drawn_di hls hcs
  obtain ⟨fc, hfc, hval⟩ := I.val
  have hlen := dgo_len (ms := marks ls) (rest := ls) (s := ([], [])) (k := 0)
  have g1 : (drawnL ls).length ≤ ls.length := by have := hlen.1; rw [List.length_nil, Nat.zero_add] at this; exact this
  have g2 : gvs (drawnL ls) ≤ gvs ls := by
    have h2 : gvs (drawnL ls) ≤ gvs [] + gvs ls := hlen.2
    have : gvs [] = 0 := rfl
    omega
  have good : Good cl (drawnL ls) := ⟨⟨fc, hfc⟩, hpos, by have := g.l2; omega, by have := g.gv; omega, fun l hl => by
    obtain ⟨p, hp⟩ := List.getElem?_of_mem hl
    obtain ⟨j, hj⟩ := I.sur p (List.getElem?_eq_some_iff.mp hp).1
    obtain ⟨l', h1, h2⟩ := I.pos j p hj
    rw [hp] at h2
    cases h2
    rw [asked_ren]
    exact g.as l' (List.mem_of_getElem? h1)⟩
  have lc := allC_len hcs
  have lf := allC_len hfc
  refine ⟨good, ⟨fc, hfc, ?_⟩, fun p hp => ?_, I.uni, fun n => ⟨fun ⟨p, hp⟩ => ?_, fun ⟨j, h1, h2⟩ => ?_⟩⟩
  · rw [lf, lc]
    exact hval _ _ hlast
  · refine marks_all good.ls (fun p hp => ?_) ((drawnL ls).length - (p + 1)) p (by omega)
    obtain ⟨j, hj⟩ := I.sur p (by omega)
    have hjn : j + 1 ≠ ls.length := fun z => by
      rw [show j = ls.length - 1 by omega, hlast] at hj
      have := Option.some.inj hj
      omega
    obtain ⟨k, l, hk, hkl, hjl⟩ := marks_inv hjn (I.mkd j p hj)
    obtain ⟨q, hq⟩ := Option.isSome_iff_exists.mp (I.kp.1 k (List.getElem?_eq_some_iff.mp hkl).1 hk)
    obtain ⟨l', h1, h2⟩ := I.pos k q hq
    rw [hkl] at h1
    cases h1
    exact ⟨q, _, h2, by have := asked_mem_ren (pl := pl) hjl; rw [getD_of hj] at this; exact this⟩
  · obtain ⟨j, hj⟩ := I.sur p (List.getElem?_eq_some_iff.mp hp).1
    obtain ⟨l', h1, h2⟩ := I.pos j p hj
    rw [hp] at h2
    refine ⟨j, ?_, I.mkd j p hj⟩
    cases l' with
    | given m => cases h2; exact h1
    | chain f ss => cases h2
    | odd i => exact absurd rfl ((hls.2.2 _ _ h1).1 i)
  · obtain ⟨p, hp⟩ := Option.isSome_iff_exists.mp (I.kp.1 j (List.getElem?_eq_some_iff.mp h1).1 h2)
    obtain ⟨l', h3, h4⟩ := I.pos j p hp
    rw [h1] at h3
    cases h3
    exact ⟨p, h4⟩
/-! drawn once more -/
def idp (k : Nat) : List (Nat × Nat) := (List.range k).map fun i => (i, i)
theorem idp_succ (k : Nat) : idp (k + 1) = idp k ++ [(k, k)] := by
  unfold idp
  rw [List.range_succ, List.map_append]
  rfl
theorem idp_get : ∀ {k i : Nat}, i < k → getN (idp k) i = some i
  | k + 1, i, h => by
    rw [idp_succ, getN_app]
    by_cases e : i < k
    · rw [idp_get e]
    · have : i = k := by omega
      subst this
      cases hx : getN (idp i) i with
      | none => simp
      | some y =>
        -- the key i does not stand in idp i
        exfalso
        unfold getN idp at hx
        rw [Option.map_eq_some_iff] at hx
        obtain ⟨q, hq, _⟩ := hx
        have h1 := List.mem_of_find?_eq_some hq
        have h2 := List.find?_some hq
        obtain ⟨z, hz, rfl⟩ := List.mem_map.mp h1
        have := List.mem_range.mp hz
        simp at h2
        omega
theorem drawn_again {ls : List Line} (hls : Ls ls) (hm : ∀ p, p < ls.length → (marks ls)[p]? = some true) (hu : ∀ (p q n : Nat), ls[p]? = some (Line.given n) → ls[q]? = some (Line.given n) → p = q) :
    ∀ {rest : List Line} {k : Nat}, rest = ls.drop k → k ≤ ls.length → dgo (marks ls) (ls.take k, idp k) k rest = (ls, idp ls.length)
  | [], k, e, hk => by
    have : ls.length ≤ k := List.drop_eq_nil_iff.mp e.symm
    have : k = ls.length := by omega
    subst this
    rw [List.take_length]
    rfl
  | l :: r, k, e, hk => by
    have hl : ls[k]? = some l := by
      have z : (ls.drop k)[0]? = some l := by rw [← e]; rfl
      rw [List.getElem?_drop, Nat.add_zero] at z
      exact z
    have hkl := (List.getElem?_eq_some_iff.mp hl).1
    have hr : r = ls.drop (k + 1) := by
      have := List.drop_eq_getElem_cons hkl
      rw [this] at e
      exact (List.cons.inj e).2
    show dgo (marks ls) (if (marks ls)[k]? = some true then dstep (ls.take k, idp k) k l else (ls.take k, idp k)) (k + 1) r = _
    rw [if_pos (hm k hkl)]
    have htk : ls.take (k + 1) = ls.take k ++ [l] := by rw [List.take_add_one, hl]; rfl
    have hlen : (ls.take k).length = k := by rw [List.length_take]; omega
    have hst : dstep (ls.take k, idp k) k l = (ls.take (k + 1), idp (k + 1)) := by
      rw [htk, idp_succ]
      cases l with
      | odd i => exact absurd rfl ((hls.2.2 _ _ hl).1 i)
      | given n =>
        have hg : gidx (ls.take k) n = none := by
          cases hx : gidx (ls.take k) n with
          | none => rfl
          | some p =>
            obtain ⟨hp1, hp2, _⟩ := List.findIdx?_eq_some_iff_getElem.mp hx
            rw [hlen] at hp1
            have hfp : ls[p]? = some (Line.given n) := by
              rw [List.getElem_take] at hp2
              rw [List.getElem?_eq_getElem (by omega)]
              cases hy : ls[p] with
              | given q => rw [hy] at hp2; simp [isG] at hp2; rw [hp2]
              | chain f ss => rw [hy] at hp2; simp [isG] at hp2
              | odd i => rw [hy] at hp2; simp [isG] at hp2
            have := hu p k n hfp hl
            omega
        simp only [dstep, hg, hlen]
      | chain f ss =>
        have hask := (hls.2.2 k _ hl).2.1
        have e1 : getD (idp k) f = f := getD_of (idp_get (hask f List.mem_cons_self))
        have e2 : (ss.map fun p => (p.1, getD (idp k) p.2)) = ss := by
          have : ∀ p ∈ ss, (p.1, getD (idp k) p.2) = p := fun p hp => by
            rw [getD_of (idp_get (hask p.2 (List.mem_cons_of_mem _ (List.mem_map_of_mem hp))))]
          rw [List.map_congr_left this]
          exact List.map_id _
        simp only [dstep, e1, e2, hlen]
    rw [hst]
    exact drawn_again hls hm hu hr (by omega)
theorem drawn_twice {cl : List (List Int)} {ls : List Line} {cs : List (List Int)} (t : Told cl ls cs) : drawnL (drawnL ls) = drawnL ls := by
  have := drawn_again t.good.ls t.marks t.uni (rest := drawnL ls) (k := 0) rfl (Nat.zero_le _)
  show (dgo _ _ 0 (drawnL ls)).1 = _
  have e : ((drawnL ls).take 0, idp 0) = (([], []) : List Line × List (Nat × Nat)) := rfl
  rw [e] at this
  rw [this]
/-! roots -/
theorem gvn_mem {n : Nat} : ∀ {l : List (Line × Bool)}, n ∈ gvn l ↔ (Line.given n, true) ∈ l
  | [] => by simp [gvn]
  | (.given k, true) :: r => by
    have ih := gvn_mem (n := n) (l := r)
    simp only [gvn, List.mem_cons, ih, Prod.mk.injEq, Line.given.injEq, and_true]
  | (.given k, false) :: r => by
    have ih := gvn_mem (n := n) (l := r)
    simp only [gvn, List.mem_cons, ih, Prod.mk.injEq, Bool.true_eq_false, and_false, false_or]
  | (.chain f ss, b) :: r => by
    have ih := gvn_mem (n := n) (l := r)
    cases b <;> simp only [gvn, List.mem_cons, ih, Prod.mk.injEq, reduceCtorEq, false_and, false_or]
  | (.odd i, b) :: r => by
    have ih := gvn_mem (n := n) (l := r)
    cases b <;> simp only [gvn, List.mem_cons, ih, Prod.mk.injEq, reduceCtorEq, false_and, false_or]
theorem gvn_zip {n : Nat} {ls : List Line} {ms : List Bool} : n ∈ gvn (ls.zip ms) ↔ ∃ j : Nat, ls[j]? = some (Line.given n) ∧ ms[j]? = some true := by
  rw [gvn_mem]
  constructor
  · intro h
    obtain ⟨j, hj⟩ := List.getElem?_of_mem h
    rw [List.getElem?_zip_eq_some] at hj
    exact ⟨j, hj⟩
  · rintro ⟨j, h1, h2⟩
    exact List.mem_of_getElem? (List.getElem?_zip_eq_some.mpr ⟨h1, h2⟩)
theorem roots_mem {ls : List Line} {z : Int} : z ∈ rootsL ls ↔ ∃ (n : Nat), z = (n : Int) ∧ ∃ j : Nat, ls[j]? = some (Line.given n) ∧ (marks ls)[j]? = some true := by
  unfold rootsL
  rw [mem_sst, List.mem_map]
  constructor
  · rintro ⟨n, hn, rfl⟩
    exact ⟨n, rfl, gvn_zip.mp hn⟩
  · rintro ⟨n, rfl, h⟩
    exact ⟨n, gvn_zip.mpr h, rfl⟩
theorem roots_same {cl : List (List Int)} {ls : List Line} {cs : List (List Int)} (t : Told cl ls cs) : rootsL (drawnL ls) = rootsL ls := by
  refine asc_unique (asc_sst _) (asc_sst _) fun z => ?_
  show z ∈ rootsL (drawnL ls) ↔ z ∈ rootsL ls
  rw [roots_mem, roots_mem]
  constructor
  · rintro ⟨n, rfl, p, h1, _⟩
    exact ⟨n, rfl, (t.giv n).mp ⟨p, h1⟩⟩
  · rintro ⟨n, rfl, h⟩
    obtain ⟨p, hp⟩ := (t.giv n).mpr h
    exact ⟨n, rfl, p, hp, t.marks p (List.getElem?_eq_some_iff.mp hp).1⟩
theorem gvn_len : ∀ {l : List Line} {ms : List Bool}, (gvn (l.zip ms)).length ≤ gvs l
  | [], ms => by simp [gvn]
  | x :: r, [] => by simp [gvn]
  | x :: r, b :: ms => by
    have ih := gvn_len (l := r) (ms := ms)
    rw [List.zip_cons_cons]
    have e : gvs (x :: r) = gvs [x] + gvs r := gvs_app [x] r
    rw [e]
    cases x with
    | given n =>
      have e1 : gvs [Line.given n] = 1 := rfl
      cases b
      · simp only [gvn]; omega
      · simp only [gvn, List.length_cons]; omega
    | chain f ss => cases b <;> (simp only [gvn]; omega)
    | odd i => cases b <;> (simp only [gvn]; omega)
/-! soundness -/
def sat (bs : List Nat) (n : Int) : Prop := (((bs[n.natAbs - 1]?).getD 0 : Nat) : Int) = if decide (0 < n) = true then 1 else 0
theorem fits_iff {bs : List Nat} {c : List Int} : fits bs c = true ↔ ∃ n ∈ c, sat bs n := by
  unfold fits
  rw [List.any_eq_true]
  constructor
  · rintro ⟨n, h1, h2⟩
    exact ⟨n, h1, by unfold sat; exact of_decide_eq_true h2⟩
  · rintro ⟨n, h1, h2⟩
    exact ⟨n, h1, by unfold sat at h2; exact decide_eq_true h2⟩
theorem sat_not {bs : List Nat} {n : Int} (hn : n ≠ 0) (h1 : sat bs n) (h2 : sat bs (-n)) : False := by
  unfold sat at h1 h2
  rw [Int.natAbs_neg, h1] at h2
  by_cases h : 0 < n
  · rw [decide_eq_true h, decide_eq_false (show ¬ 0 < -n by omega)] at h2
    simp at h2
  · rw [decide_eq_false h, decide_eq_true (show 0 < -n by omega)] at h2
    simp at h2
theorem fin_fits {bs : List Nat} {l c : List Int} (e : fin l = some c) (h : ∃ n ∈ l, sat bs n) : fits bs c = true := by
  unfold fin at e
  split at e
  · cases e
  · cases e
    obtain ⟨n, h1, h2⟩ := h
    exact fits_iff.mpr ⟨n, mem_sab.mpr (mem_sst.mpr h1), h2⟩
theorem resv_fits {m : Nat} {bs : List Nat} {a b c : List Int} {v : Int} (ha : Gd m a) (h1 : fits bs a = true) (h2 : fits bs b = true) (e : resv a b v = some c) : fits bs c = true := by
  have key : ∀ u : Int, u ∈ a → fin (a.filter (fun x => !decide (x = u)) ++ b.filter (fun x => !decide (x = -u))) = some c → fits bs c = true := fun u hu e => by
    obtain ⟨n, n1, n2⟩ := fits_iff.mp h1
    obtain ⟨k, k1, k2⟩ := fits_iff.mp h2
    refine fin_fits e ?_
    by_cases hn : n = u
    · have hk : k ≠ -u := fun z => by
        rw [z] at k2
        rw [hn] at n2
        exact sat_not (ha.1 u hu).1 n2 k2
      exact ⟨k, List.mem_append_right _ (List.mem_filter.mpr ⟨k1, by simpa using hk⟩), k2⟩
    · exact ⟨n, List.mem_append_left _ (List.mem_filter.mpr ⟨n1, by simpa using hn⟩), n2⟩
  unfold resv at e
  split at e
  · rename_i h
    exact key v h.1 e
  · split at e
    · rename_i h
      refine key (-v) h.1 ?_
      rw [Int.neg_neg]
      exact e
    · cases e
theorem steps_fits {m : Nat} (hm : m ≤ 5) {bs : List Nat} {ah : List (List Int)} (hg : ∀ c ∈ ah, Gd m c) : ∀ {ss : List (Nat × Nat)} {c d : List Int}, Gd m c → steps ah c ss = some d → fits bs c = true → (∀ p ∈ ss, ∀ b, ah[p.2]? = some b → fits bs b = true) → fits bs d = true
  | [], c, d, _, h, hc, _ => by
    unfold steps at h
    cases h
    exact hc
  | (v, k) :: r, c, d, gc, h, hc, hs => by
    unfold steps at h
    split at h
    · cases h
    · split at h
      · cases h
      · rename_i b hb
        split at h
        · cases h
        · rename_i c' hc'
          exact steps_fits hm hg (resv_gd hm gc (hg b (List.mem_of_getElem? hb)) hc') h (resv_fits gc hc (hs _ List.mem_cons_self b hb) hc') fun p hp => hs p (List.mem_cons_of_mem _ hp)
/-- each marked line's clause holds where the roots hold -/
theorem marked_fits {m : Nat} (hm : m ≤ 5) {cl : List (List Int)} {ls : List Line} {cs : List (List Int)} {bs : List Nat} (hg : ∀ c ∈ cl, Gd m c) (hls : Ls ls) (hcs : allC cl ls = some cs) (hr : ∀ n c, (∃ j : Nat, ls[j]? = some (Line.given n) ∧ (marks ls)[j]? = some true) → cl[n]? = some c → fits bs c = true) :
    ∀ (N k : Nat), k < N → ∀ c, (marks ls)[k]? = some true → cs[k]? = some c → fits bs c = true
  | 0, k, h, _, _, _ => absurd h (Nat.not_lt_zero _)
  | N + 1, k, hkN, c, hmk, hck => by
    have hgc : ∀ c ∈ cs, Gd m c := allF_gd hm hg (fun c hc => by cases hc) hcs
    have hkl : k < ls.length := by
      have := (List.getElem?_eq_some_iff.mp hmk).1
      rw [marks_len] at this
      exact this
    obtain ⟨l, hl⟩ : ∃ l, ls[k]? = some l := ⟨_, List.getElem?_eq_getElem hkl⟩
    obtain ⟨c', h1, h2⟩ := allC_at hcs hl
    rw [hck] at h2
    cases h2
    have hgt : ∀ c ∈ cs.take k, Gd m c := fun c hc => hgc c (List.mem_of_mem_take hc)
    have ih : ∀ i ∈ asked l, ∀ b, (cs.take k)[i]? = some b → fits bs b = true := fun i hi b hb => by
      have hik := (hls.2.2 k l hl).2.1 i hi
      rw [List.getElem?_take, if_pos hik] at hb
      exact marked_fits hm hg hls hcs hr N i (by omega) b (marks_closed hls hl hmk hi) hb
    cases l with
    | odd i => exact absurd rfl ((hls.2.2 _ _ hl).1 i)
    | given n => exact hr n c ⟨k, hl, hmk⟩ h1
    | chain f ss =>
      simp only [lineC] at h1
      split at h1
      · cases h1
      · rename_i c0 h0
        split at h1
        · cases h1
        · exact steps_fits hm hgt (hgt c0 (List.mem_of_getElem? h0)) h1 (ih f List.mem_cons_self c0 h0) fun p hp b hb => ih p.2 (List.mem_cons_of_mem _ (List.mem_map_of_mem hp)) b hb
/-- no model of the roots makes the last clause false -/
theorem no_models {m : Nat} (hm : m ≤ 5) {cl : List (List Int)} {ls : List Line} {cs : List (List Int)} {last : List Int} (hg : ∀ c ∈ cl, Gd m c) (hls : Ls ls) (hcs : allC cl ls = some cs) (hlast : cs[cs.length - 1]? = some last) {cls : List (List Int)}
    (hr : ∀ n c, (∃ j : Nat, ls[j]? = some (Line.given n) ∧ (marks ls)[j]? = some true) → cl[n]? = some c → c ∈ cls) : modelsL m cls (last.map fun x => -x) = [] := by
  unfold modelsL
  rw [List.filter_eq_nil_iff]
  intro bs hbs hb
  rw [Bool.and_eq_true, List.all_eq_true, List.all_eq_true] at hb
  have hgc : ∀ c ∈ cs, Gd m c := allF_gd hm hg (fun c hc => by cases hc) hcs
  have lc := allC_len hcs
  have hf := marked_fits hm hg hls hcs (bs := bs) (fun n c h1 h2 => hb.1 c (hr n c h1 h2)) (cs.length) (cs.length - 1) (by have := hls.1; omega) last (by rw [lc]; exact marks_last hls.1) hlast
  obtain ⟨n, h1, h2⟩ := fits_iff.mp hf
  have h3 := hb.2 (-n) (List.mem_map.mpr ⟨n, h1, rfl⟩)
  obtain ⟨k, h4, h5⟩ := fits_iff.mp h3
  rw [List.mem_singleton] at h4
  rw [h4] at h5
  exact sat_not ((hgc last (List.mem_of_getElem? hlast)).1 n h1).1 h2 h5
end Mi

set_option Elab.async false
set_option linter.all false
set_option maxRecDepth 100000
set_option maxHeartbeats 2000000
/-! BadRow(row): an own exception over an own exception over ValueError, whose __init__ says super().__init__(row), then self.row = row. -/
namespace PySem
namespace BRX
open PySem.W PySem.Calls PyProof.Rows PySem.HandSPX
def iA : Arguments := { posonlyargs := [], args := [{ arg := "self", annotation := none, pos := ⟨12, 17, 12, 21⟩ }, { arg := "row", annotation := none, pos := ⟨12, 23, 12, 26⟩ }], vararg := none, kwonlyargs := [], kw_defaults := [], kwarg := none, defaults := [] }
def iB : List Stmt :=
  [.Expr (.Call (.Attribute (.Call (.Name "super" ⟨13, 8, 13, 13⟩) [] [] ⟨13, 8, 13, 15⟩) "__init__" ⟨13, 8, 13, 24⟩) [.Name "row" ⟨13, 25, 13, 28⟩] [] ⟨13, 8, 13, 29⟩) ⟨13, 8, 13, 29⟩,
   .Assign [.Attribute (.Name "self" ⟨14, 8, 14, 12⟩) "row" ⟨14, 8, 14, 16⟩] (.Name "row" ⟨14, 19, 14, 22⟩) ⟨14, 8, 14, 22⟩]
def iS : Scope := { kind := .function, names := [(PySem.Str.ofString "self", .local), (PySem.Str.ofString "row", .local), (PySem.Str.ofString "__class__", .free), (PySem.Str.ofString "super", .globalImplicit)], isGenerator := false, isCoroutine := false, more := [] }
/-- what the written part says of BadRow, at C, and of its __init__, at fI -/
structure Txt (P : Program) (K : Frag) (mg : Str → Option Value) (C fI : Addr) : Prop where
  gC : mg "BadRow" = some (.ref C)
  gS : mg "super" = none
  cls : ∃ nm q N bs bm sn sub ab col dd k0 k1 k2 k3 k5, K.lookup C = some (excClassObj nm q C N bs bm true sn sub ab col dd k0 k1 k2 k3 k5 "ValueError.__new__") ∧ refsVE bm = true
  sa : findIn K (.ref C) "__setattr__" = some (some (.builtin "object.__setattr__"))
  ga : findIn K (.ref C) "__getattribute__" = some (some (.builtin "BaseException.__getattribute__"))
  gg : findIn K (.ref C) "__getattr__" = some none
  noN : findIn K (.ref C) "row" = some none
  iC : findIn K (.ref C) "__init__" = some (some (.ref fI))
  tC : typeIn K (.ref fI) = some (.type "function")
  kC : keepIn K (.ref C) = true
  exC : subIn K (.ref C) (.type "BaseException") = some true
  tyC : typeIn K (.ref C) = some (.type "type")
  hdC : hasDictIn K C = true
  te : exmOne K (.ref C) (.ref C) = some true
  st : nsIn K cStatics "thirdparty.any" = some none
  al : ks_superIn K C C "__init__" = some (some (.builtin "ValueError.__init__"))
  mr : mroIn K C (.ref C) = some true
  sv : subIn K (.ref C) (.type "ValueError") = some true
  top : (P.main.scope.names.lookup ("super" : Str)).isSome = false
  fn : ∃ (oc : Value) (od : Option Addr) (doc pm : Value) (an : Option Addr) (cda cc : Addr) (ct : Value) (osl : Array (Option Value)) (ccl cl : Value) (cdd cld : Option Addr) (vs : Array Value) (ccs csl : Array (Option Value)) (file : Str) (tf : Tok),
    K.lookup fI = some ⟨oc, od, .func (ksFn "__init__" "BadRow.__init__" iA iB iS .none .none doc pm an (.ref cda) ct cc), osl⟩ ∧ codeIn K (.ref cda) "BadRow.__init__" = true ∧
    K.lookup cda = some ⟨ccl, cdd, .fields vs, ccs⟩ ∧ vs[2]? = some (.str file tf) ∧ ((P.main.file : Str) == file) = true ∧ K.lookup cc = some ⟨cl, cld, .cell (some (.ref C)), csl⟩
theorem one_size (v : Value) : [v].length ≤ sizeLine := by
  rw [sizeLine_eq]
  exact (by decide : 1 ≤ 16777216)
theorem kept_but {K : Frag} {h h' : Heap} {x : Addr} (X : K.In h) (hx : K.lookup x = none) (k : ∀ b o, b ≠ x → h.get? b = some o → h'.get? b = some o) : K.In h' := fun a o e =>
  k a o (fun z => by rw [z, hx] at e; cases e) (X a o e)
structure InitEnd (h h' : Heap) (x C dx : Addr) (v : Value) : Prop where
  keep : ∀ b o, b ≠ x → h.get? b = some o → h'.get? b = some o
  obj : ∃ t1, h'.get? x = some { cls := .ref C, dict := some dx, data := .fields #[.ref t1, .none, .none, .none, .bool false, .none] }
  dbig : h.objs.size ≤ dx
  dne : dx ≠ x
  ns : h'.Ns1 dx (fun y => if y = "row" then some v else none)
structure OwnMade (h h' : Heap) (e C d : Addr) (v : Value) : Prop where
  keep : ∀ b o, h.get? b = some o → h'.get? b = some o
  new : h.objs.size ≤ e
  obj : ∃ t1, h'.get? e = some { cls := .ref C, dict := some d, data := .fields #[.ref t1, .none, .none, .none, .bool false, .none] }
  dbig : h.objs.size ≤ d
  dne : d ≠ e
  ns : h'.Ns1 d (fun y => if y = "row" then some v else none)
section
variable {prog : Program} {w : World} {A : Around} {E : Value → Shared → Prop} {R : Result → Shared → Prop} {s : Shared} {K : Frag} {mg mb : Str → Option Value} {C fI : Addr}
theorem call_mw {nm q : Str} {C N u e t0 : Addr} {bs bm : List Value} {hdct : Bool} {sn : List Str} {sub : List Value} {ab : Bool} {col : Option Bool} {dd : Option Addr} {k0 k1 k2 k3 k5 : Option Value} {h : Heap} {g : Array GenState} {d : Drawn} {t : Nat} {os : OsState} {rest : List Value} {Q : Value → Shared → Prop}
    (hC : h.get? C = some (excClassObj nm q C N bs bm hdct sn sub ab col dd k0 k1 k2 k3 k5 "ValueError.__new__")) (he : h.get? e = some (excO C t0)) (hu : h.get? u = some (kxs_mw "ValueError.__init__" e)) (hrest : rest.length ≤ sizeLine)
    (hq : ∀ h' t1, (∀ b o, b ≠ e → h.get? b = some o → h'.get? b = some o) → h'.get? e = some (excO C t1) → Q .none ⟨h', g, d, t, os⟩) :
    wpAny (model prog w) A (call (.ref u) rest) Q E ⟨h, g, d, t, os⟩ := by
  refine wpAny_call (codeAny_of_tree ?_)
  show wpAny _ A.in1 (callAny (.ref u) ⟨rest, []⟩) _ _ _
  simp only [callAny]
  refine wpAny_bind (wpAny_load hu ?_)
  simp only [kxs_mw, show (Value.type "method-wrapper" == Value.type "method" || Value.type "method-wrapper" == Value.type "builtin_function_or_method" || Value.type "method-wrapper" == Value.type "method-wrapper") = true by decide, if_true]
  refine KFB.if_so (by decide) ?_
  refine wpAny_bind (check_bound_init F.excBase_ValueError.toExcCallFacts hC he rfl ?_)
  refine wpAny_bind (wpAny_pure (wpAny_pure ?_))
  refine ⟨plainId_quiet F.excBase_ValueError.init.plain _, codeAny_builtin F.excBase_ValueError.initEntry ?_⟩
  exact exc_init_tree (cls := .ref C) (t0 := t0) (dv := none) (c2 := .none) (c3 := .none) (b4 := .bool false) he hrest fun h' k e1 _ => hq h' _ k e1
theorem br_init (T : Txt prog K mg C fI) {x t0 : Addr} {v : Value} (X : K.In s.heap) (hlim : s.heap.NoLimit) (hg : s.heap.Ns mainGlobals mg) (hb : s.heap.Ns builtinsNs mb) (hs : mb "super" = some (.type "super"))
    (hx : s.heap.get? x = some (excO C t0)) (hnx : K.lookup x = none) (hroom : A.depth < recursionLimit)
    (hq : ∀ h' tk dx, InitEnd s.heap h' x C dx v → R (.ok (.ret .none)) { s with heap := h', toks := tk }) :
    codeAny (model prog w) A (.call (.ref fI) ⟨[.ref x, v], []⟩) R s := by
  obtain ⟨oc, od, doc, pm, an, cda, cc, ct, osl, ccl, cl, cdd, cld, vs, ccs, csl, file, tf, ho, hcd, hcode, hvs, hfile, hcell⟩ := T.fn
  obtain ⟨nm, q, N, bs, bm, sn, sub, ab, col, dd, k0, k1, k2, k3, k5, hC, hbm⟩ := T.cls
  have hcl : clsIn K C = some { name := nm, bases := bs, mro := .ref C :: bm, ns := N, qualname := q, hasDict := true, slotNames := sn, subclasses := sub, abstract := ab, collection := col, hasDel := false } := by unfold clsIn; rw [hC] <;> rfl
  refine ks_codeAny_call_defAt (fd := ksFn "__init__" "BadRow.__init__" iA iB iS .none .none doc pm an (.ref cda) ct cc) (binds := [("self", .ref x), ("row", v)]) hroom (X _ _ ho) rfl hlim (codeRec_of X hcd) rfl (BindsTo.of_eq (by first | rfl | with_unfolding_all rfl)) (show ∀ y ∈ iS.names, y.2 ≠ .cell by decide) (locs rfl) (fun h₁ hn k => ?_) rfl rfl rfl
  have X₁ : K.In h₁ := X.keeps k
  have hx₁ := k _ _ hx
  have hC₁ := X₁ _ _ hC
  have hns : x ≠ C := fun z => by
    rw [z, hC₁] at hx₁
    cases hx₁
  have I₁ : InstAt h₁ x (excO C t0) C none := ⟨hx₁, rfl, rfl, trivial⟩
  have hxs : x < s.heap.objs.size := Heap.lt_size hx
  have hv1 : (fun y => List.lookup y [("row", v), ("self", Value.ref x)]) "self" = some (.ref x) := by first | rfl | kernel_rfl
  have al : alongIn K ("__init__" : Str) (((Value.ref C :: bm).dropWhile (· != .ref C)).drop 1) = some (some (.builtin "ValueError.__init__")) := by
    have z := T.al
    unfold ks_superIn at z
    rw [hcl] at z
    exact z
  refine ks_wpAt_execs_cons (ks_wpAt_Expr_any (ks_wpAt_MethodCall ?_))
  refine ks_wpAt_super_base rfl rfl (by decide) rfl (X₁ _ _ ho) rfl rfl rfl (X₁ _ _ hcode) rfl hvs hfile T.top ?_
  refine ks_loadName_global rfl rfl (loadGlobal_builtin (hg.keeps k) T.gS (hb.keeps k) hs ⟨rfl, ?_⟩)
  refine wpAny_loadName_free rfl rfl rfl ⟨_, X₁ _ _ hcell, rfl⟩ ?_
  refine wpAny_loadName_local rfl rfl hn hv1 ?_
  refine ks_wpAny_isType_cls hC₁ rfl ⟨rfl, ?_⟩
  refine ks_wpAny_call_super hC₁ rfl hx₁ rfl (fun c e => by cases e) (looks_mroIn X₁ T.mr) (fun h₂ hso k₂ => ?_)
  have X₂ : K.In h₂ := X₁.keeps k₂
  have I₂ : InstAt h₂ x (excO C t0) C none := ⟨k₂ _ _ hx₁, rfl, rfl, trivial⟩
  have hC₂ := k₂ _ _ hC₁
  refine kxs_getMethod kxs_ValueError hso (looks_opaque X₂ T.st) (l₀ := .ref C :: bm) (fun A Q E s k q => wpAny_bind ((looks_clsIn X₂ hcl) A _ E s k (wpAny_pure q))) rfl X₂ al (I₂.type.andThen (looks_subIn X₂ T.sv)) hns (by decide) ?_
  have hmw : (h₂.push (kxs_mw "ValueError.__init__" x)).get? h₂.objs.size = some (kxs_mw "ValueError.__init__" x) := Heap.get?_push_at rfl rfl
  have k₃ : ∀ b o, h₂.get? b = some o → (h₂.push (kxs_mw "ValueError.__init__" x)).get? b = some o := fun b o e => Heap.get?_push_of_some _ e
  refine kxs_callWith (i := "ValueError.__init__") (x := x) rfl (evalArgs_plain (spliced_cons (wpAny_Name (wpAny_loadName_local rfl rfl ((hn.keeps k₂).keeps k₃) (v := v) (by first | rfl | kernel_rfl) (spliced_nil ⟨hmw, ?_⟩)) (by decide))))
  refine call_mw (k₃ _ _ hC₂) (k₃ _ _ (k₂ _ _ hx₁)) hmw (one_size v) fun h₄ t1 k₄ hx₄ => ?_
  have k04 : ∀ b o, b ≠ x → s.heap.get? b = some o → h₄.get? b = some o := fun b o hb e => k₄ b o hb (k₃ _ _ (k₂ _ _ (k _ _ e)))
  have X₄ : K.In h₄ := kept_but X hnx k04
  have hL : s.heap.objs.size ≠ x := Nat.ne_of_gt hxs
  have hn₄ : h₄.Ns s.heap.objs.size (fun y => List.lookup y [("row", v), ("self", Value.ref x)]) := by
    obtain ⟨o, es, ep, e1, e2⟩ := hn
    exact ⟨o, es, ep, k₄ _ _ hL (k₃ _ _ (k₂ _ _ e1)), e2⟩
  refine wpAt_of_wpAny ?_
  refine wpAny_execs_cons (plainObj_wpAny_Assign_Attribute ?_)
  refine wpAny_Name (wpAny_loadName_local rfl rfl hn₄ (v := v) (by first | rfl | kernel_rfl) (wpAny_Name (wpAny_loadName_local rfl rfl hn₄ (v := .ref x) (by first | rfl | kernel_rfl) ?_) (by decide))) (by decide)
  refine set_plain X₄ (ox := excO C t1) (od := none) ⟨hx₄, rfl, rfl, trivial⟩ T.sa ?_
  refine exc_osa X₄ hx₄ hcl (show refsVE (.ref C :: bm) = true from hbm) rfl T.noN (fun h₅ tk₅ dx k₅ dn dne hx₅ hn₅ => ?_)
  show wpAny _ _ (execs _ _) _ _ _
  have z : s.heap.objs.size < h₄.objs.size := hn₄.lt
  exact wpAny_execs_nil (hq h₅ tk₅ dx ⟨fun b o hb e => k₅ b o hb (k04 b o hb e), ⟨t1, hx₅⟩, Nat.le_of_lt (Nat.lt_of_lt_of_le z dn), dne, hn₅⟩)
theorem br_made (T : Txt prog K mg C fI) {v : Value} (X : K.In s.heap) (hlim : s.heap.NoLimit) (hg : s.heap.Ns mainGlobals mg) (hb : s.heap.Ns builtinsNs mb) (hs : mb "super" = some (.type "super")) (hroom : A.depth + 1 < recursionLimit)
    (hq : ∀ h' tk e d, OwnMade s.heap h' e C d v → R (.ok (.ret (.ref e))) { s with heap := h', toks := tk }) :
    codeAny (model prog w) A (.call (.ref C) ⟨[v], []⟩) R s := by
  obtain ⟨nm, q, N, bs, bm, sn, sub, ab, col, dd, k0, k1, k2, k3, k5, hC, hbm⟩ := T.cls
  obtain ⟨hp, g, dr, tk, os⟩ := s
  have k : ∀ b o, hp.get? b = some o → ((hp.push (kdv_tup [v])).push (excO C hp.objs.size)).get? b = some o := fun b o e => Heap.get?_push_of_some _ (Heap.get?_push_of_some _ e)
  have hget : ((hp.push (kdv_tup [v])).push (excO C hp.objs.size)).get? (hp.objs.size + 1) = some (excO C hp.objs.size) := by heap_get
  have hnx : K.lookup (hp.objs.size + 1) = none := by
    cases e : K.lookup (hp.objs.size + 1) with
    | none => rfl
    | some o =>
      have z : hp.get? (hp.objs.size + 1) = some o := X _ _ e
      exact absurd (Nat.lt_of_succ_lt (Heap.lt_size z)) (Nat.lt_irrefl _)
  refine call_own F.excBase_ValueError (fun X => refsVE_contains X bm hbm) (X _ _ hC) (looks_findIn X T.iC) (fun self => bind_fn X self T.tC) (one_size v) ?_
  refine br_init (s := ⟨(hp.push (kdv_tup [v])).push (excO C hp.objs.size), g, dr, tk, os⟩) T (X.keeps k) (hlim.keeps k) (hg.keeps k) (hb.keeps k) hs hget hnx ?_ fun h' tk' dx ⟨k', hx, dn, dne, hns⟩ => ?_
  · show A.depth + 1 < recursionLimit
    exact hroom
  · have old : ∀ b o, hp.get? b = some o → h'.get? b = some o := fun b o e => k' b o (Nat.ne_of_lt (Nat.lt_succ_of_lt (Heap.lt_size e))) (k b o e)
    have z : hp.objs.size + 1 + 1 ≤ dx := by
      first
        | (simpa only [Heap.size_push] using dn)
        | exact dn
        | (have q := dn; rw [Heap.size_push, Heap.size_push] at q; exact q)
    exact ⟨rfl, hq h' tk' (hp.objs.size + 1) dx ⟨old, Nat.le_succ _, hx, Nat.le_trans (Nat.le_trans (Nat.le_succ _) (Nat.le_succ _)) z, dne, hns⟩⟩
end
end BRX
end PySem
namespace L2
open PySem PySem.Spec PyProof.Rows
theorem relO_br {v : V} {v' : Value} (r : RelV v v') (f : Str) : RelO (List.lookup f [(("row" : Str), v)]) (if f = "row" then some v' else none) := by
  by_cases hw : f = "row"
  · subst hw
    rw [if_pos rfl]
    have q : List.lookup ("row" : Str) [(("row" : Str), v)] = some v := by simp [List.lookup]
    rw [q]
    exact r
  · rw [if_neg hw]
    have qw : (f == ("row" : Str)) = false := by simpa using hw
    have q2 : List.lookup f [(("row" : Str), v)] = none := by simp [List.lookup, qw]
    rw [q2]
    trivial
section
variable {X : Cx} {C fI : Addr}
/-- BadRow(e) -/
def tMkBR (C : Addr) (ta : TA) : St → Hp → XK → Prop := fun σ H Q => ta σ H fun vs H1 => ∃ v, vs = [v] ∧ ∀ d, H1 d = none → Q (.ref C) (some d) (upd H1 d (.xd [(("row" : Str), v)]))
theorem pmk_br {a : Expr} {ta : TA} {p pos : Pos} {k : Nat} (T : PySem.BRX.Txt X.prog X.K X.mg C fI) (hr : Room k X.A) (ha : PA X [a] ta) (hg : Gl X "BadRow" := by rfl)
    (he : starEach (a :: []) X.env = (false, eval a X.env) :: starEach [] X.env := by rfl) (hpl : (backTo pos (starEach [] X.env)).any (·.1) = false := by rfl) :
    PMk X (.Call (.Name "BadRow" p) [a] [] pos) (tMkBR C ta) := by
  intro pins s σ H Q I h
  refine wpAny_Call_Name_kw (ld_glob I hg T.gC ?_)
  refine PySem.W.callWith_K (h₀ := X.base) I.ok.mod.kin T.kC (thn (ha.run pos pins s σ H _ I h) fun us s1 hh => ?_) he hpl
  obtain ⟨vs, H1, I1, r1, v, ev, q1⟩ := hh
  subst ev
  refine ⟨I1.kIn, ?_⟩
  cases r1 with
  | cons rv rn =>
    rename_i v' us'
    cases rn
    show wpAny _ _ (call (.ref C) [v']) _ _ _
    have hlim := I1.nolimit
    obtain ⟨mb, b1, b2⟩ := I1.mod.blt
    have hgl := I1.mod.glob.keeps I1.bk
    have hbl := b1.keeps I1.bk
    have hs : mb "super" = some (.type "super") := (b2 _ (by decide)).trans rfl
    obtain ⟨hp, g, dr, tk, os⟩ := s1
    refine wpAny_call (PySem.BRX.br_made T I1.kIn hlim hgl hbl hs (by have := hr.dp; omega) fun h' tk' e d M => ?_)
    show MkP X pins σ Q (.ref e) ⟨h', g, dr, tk', os⟩
    obtain ⟨t1, hoe⟩ := M.obj
    have hns := M.ns
    obtain ⟨G', g1, g2⟩ := restrict h' fun b => decide (b ≠ e)
    have gk : ∀ b, b ≠ e → G'.get? b = h'.get? b := fun b hb => g1 b (decide_eq_true hb)
    have ge : G'.get? e = none := g2 e (by simp)
    have old : ∀ b o, hp.get? b = some o → G'.get? b = some o := fun b o q => (gk b (Nat.ne_of_lt (Nat.lt_of_lt_of_le (Heap.lt_size q) M.new))).trans (M.keep b o q)
    have ob : ObjOk X.prog X.w (upd H1 d (.xd [(("row" : Str), v)])) G' d (.xd [(("row" : Str), v)]) :=
      ⟨_, hns.at (fun o q => (gk d M.dne).trans q), fun f => relO_br rv f⟩
    have J : Inv X pins σ (upd H1 d (.xd [(("row" : Str), v)])) ⟨G', g, dr, tk', os⟩ := I1.laid (t' := tk') old M.dbig ob
    refine ⟨e, _, _, ⟨G', g, dr, tk', os⟩, _, .ref C, some d, rfl, J, fun b o q => ?_, ge, hoe, ⟨rfl, rfl⟩, rfl, rfl, ?_, rfl, I1.bare, raises_own T.exC T.tyC, q1 d (I1.hok.fresh M.dbig)⟩
    · by_cases hb : b = e
      · have q' : G'.get? b = some o := q
        rw [hb, ge] at q'; cases q'
      · exact (gk b hb).symm.trans q
    · rw [upd_ne (Ne.symm M.dne)]
      exact I1.hok.fresh M.new
/-- raise BadRow(e) -/
def tRaiseBR (C : Addr) (W : WX) (ta : TA) : TS := fun _ σ H => tMkBR C ta σ H fun cls d H' => W cls d σ H'
theorem ps_raiseBR {a : Expr} {ta : TA} {W : WX} {p pos pos2 : Pos} {k : Nat} (hc : X.calm = true) (T : PySem.BRX.Txt X.prog X.K X.mg C fI) (hr : Room k X.A) (tk : Takes X W) (ha : PA X [a] ta) (hg : Gl X "BadRow" := by rfl)
    (he : starEach (a :: []) X.env = (false, eval a X.env) :: starEach [] X.env := by rfl) (hpl : (backTo pos (starEach [] X.env)).any (·.1) = false := by rfl) :
    PS X (.Raise (some (.Call (.Name "BadRow" p) [a] [] pos)) none pos2) (tRaiseBR C W ta) := ps_raise hc tk (pmk_br T hr ha hg he hpl)
end
end L2

set_option Elab.async false
set_option linter.all false
set_option maxRecDepth 100000
set_option maxHeartbeats 1000000
/-! Defs that may raise BadRow; several targets; zip. -/
namespace Lg
open PySem PySem.Spec PyProof.Rows L2
/-- f: what the arguments' data give; g: for what arguments BadRow(r) is raised -/
def SpR (K : PySem.W.Frag) (C : Addr) (f : List PyData → Kd → PyData → Prop) (g : List PyData → PyData → Prop) : Sp := fun vs H Q E => ∃ ds, DatA K H vs ds ∧
  ((∃ k d, f ds k d ∧ ∀ v H', Same H H' → Res K k H H' v d → Q v H') ∨ ∃ r, g ds r ∧ ∀ (dd : Addr) (v : V) H', Same H H' → H' dd = some (.xd [(("row" : Str), v)]) → Im K H' v r → E (.ref C) (some dd) H')
structure CalR (P : Program) (w : World) (K : PySem.W.Frag) (mg : Str → Option Value) (base : Heap) (k : Nat) (x : Str) (ps : List Str) (sp : Sp) : Prop where
  ex : ∃ f fd, FnOk P w K mg base (L2.CX P w) k f fd ps sp ∧ mg x = some (.ref f) ∧ PySem.W.keepIn K (.ref f) = true ∧ Binds K fd ps []
theorem pe_defR {X : Cx} {k j : Nat} {x : Str} {ps : List Str} {sp : Sp} {e : Expr} {es : List Expr} {E : XK} {t : TA} {p pos : Pos} (C : CalR X.prog X.w X.K X.mg X.base k x ps sp) (hr : Room j X.A) (hx : Passes (L2.CX X.prog X.w) X E) (ha : PA X (e :: es) t) (hj : k ≤ j := by decide) (hg : Gl X x := by rfl)
    (hdb : (x == ("__debug__" : Str)) = false := by decide) (he : starEach (e :: es) X.env = (false, eval e X.env) :: starEach es X.env := by rfl) (hpl : (backTo pos (starEach es X.env)).any (·.1) = false := by rfl) :
    PE X (.Call (.Name x p) (e :: es) [] pos) (tCall sp [] E t) := by
  obtain ⟨f, fd, G, hm, hk, hb⟩ := C.ex
  exact pe_call G (hr.mono hj) hg hm hk hb .nil hx ha hdb he hpl
theorem ev_defR {K : PySem.W.Frag} {C : Addr} {m : Md} {Γ : List En} {c : Nat} {k : Kd} {t : TA} {f : List PyData → Kd → PyData → Prop} {g : List PyData → PyData → Prop} {ds : List PyData} {d : PyData} {E : XK} (ha : EA K m .da t Γ c (Is ds)) (hf : f ds k d) : Ev K m k (tCall (SpR K C f g) [] E t) Γ c (Is d) :=
  ev_call (c2 := 0) ha fun H0 P H σ B o vs ds' e1 e2 Q q => by
    subst e1
    rw [List.append_nil]
    exact ⟨_, e2, .inl ⟨k, d, hf, fun v H' s r => q v H' d (o.same s) (.of s) rfl r⟩⟩
/-- what is wished of a BadRow(r) that leaves -/
def WE (K : PySem.W.Frag) (C : Addr) (E : XK) (r : PyData) (H0 : Hp) : Prop := ∀ (dd : Addr) (v : V) H', Same H0 H' → H' dd = some (.xd [(("row" : Str), v)]) → Im K H' v r → E (.ref C) (some dd) H'
/-- an expression, a block that raises BadRow(r) -/
def EvX (K : PySem.W.Frag) (C : Addr) (E : XK) (r : PyData) (te : TE) (Γ : List En) : Prop := ∀ H0 P H σ B, Ok K none H0 P H σ Γ B → WE K C E r H0 → ∀ Q : VK, te σ H Q
def SgX (K : PySem.W.Frag) (C : Addr) (E : XK) (r : PyData) (t : TS) (Γ : List En) : Prop := ∀ H0 P H σ B, Ok K none H0 P H σ Γ B → WE K C E r H0 → ∀ D : Ends, t D σ H
section
variable {K : PySem.W.Frag} {C : Addr} {E : XK} {r : PyData} {te ta tb : TE} {tt : TT} {t u w : TS} {Γ : List En} {c : Nat}
theorem evx_call {ta : TA} {f : List PyData → Kd → PyData → Prop} {g : List PyData → PyData → Prop} {ds : List PyData} (ha : EA K none .da ta Γ c (Is ds)) (hg : g ds r) : EvX K C E r (tCall (SpR K C f g) [] E ta) Γ := fun H0 P H σ B o hE Q =>
  ha H0 P H σ B o.free _ fun vs H1 ds' o1 g1 e1 e2 => by
    subst e1
    rw [List.append_nil]
    exact ⟨_, e2, .inr ⟨r, hg, fun dd v H' s h1 h2 => hE dd v H' (o1.fr.same.trans s) h1 h2⟩⟩
theorem x_set {i : Nat} {d : PyData} (he : Ev K none .im te Γ c (Is d)) (hi : i < Γ.length) (h : SgX K C E r u (Γ.set i (.im d))) : SgX K C E r (tSeq (tAsg te (gName i)) u) Γ := fun H0 P H σ B o hE D =>
  he H0 P H σ B o.free _ fun v H' d' o' g e1 e => by
    subst e1
    exact h H0 P H' _ B (o'.putIm hi e) hE D
theorem x_when (h : ET K none tt Γ c (Is true)) (h1 : SgX K C E r t Γ) : SgX K C E r (tSeq (tIfS tt t u) w) Γ := fun H0 P H σ B o hE D =>
  h H0 P H σ B o.free _ fun b H' o' g e => by
    subst e
    exact h1 H0 P H' σ B o' hE _
theorem x_raise {i : Nat} (h : Γ[i]? = some (.im r)) : SgX K C E r (tRaiseBR C (fun cls d _ H => E cls d H) (tCons (tVar i) tNil)) Γ := fun H0 P H σ B o hE D => by
  obtain ⟨v, e, i1⟩ := o.sl i _ h
  refine ⟨v, e, v, rfl, fun d hd => ?_⟩
  have s : Same H (upd H d (.xd [(("row" : Str), v)])) := same_new hd
  exact hE d v _ (o.fr.same.trans s) upd_same (i1.mono (m := none) (.of s))
/-- the rule for a def that may raise -/
theorem fn_exc {P : Program} {w : World} {mg : Str → Option Value} {base : Heap} {x : Str} {st : Stmt} {f : Addr} {fd : FuncData} {N ps : List Str} {j : Nat} {h : List PyData → Kd → PyData → Prop} {g : List PyData → PyData → Prop} (F : Fun K x x st f fd) (S : FnScope N ps (defScope st))
    (hlen : ∀ ds k d, h ds k d → ds.length = ps.length) (hlen2 : ∀ ds r, g ds r → ds.length = ps.length)
    (hb : ∀ (cdv : Value) (A : Around) (outer : List Env) (s : Shared) (H : Hp) (E : XK), Room j (A.deeper (envOfC x (defScope st) s.heap.objs.size f cdv)) → Takes (cxOf (L2.CX P w) P w K mg base N x (defScope st) f cdv A outer s H E) (fun cls d _ H => E cls d H) →
      Passes (L2.CX P w) (cxOf (L2.CX P w) P w K mg base N x (defScope st) f cdv A outer s H E) E →
      ∃ t, PSs (cxOf (L2.CX P w) P w K mg base N x (defScope st) f cdv A outer s H E) (defBody st) t ∧
        (∀ ds k d, h ds k d → ∃ es n, Pars ds es ∧ N.length = es.length + n ∧ SgN K t (es ++ List.replicate n .un) k d) ∧
        (∀ ds r, g ds r → ∃ es n, Pars ds es ∧ N.length = es.length + n ∧ SgX K C E r t (es ++ List.replicate n .un))) :
    FnOk P w K mg base (L2.CX P w) (j + 1) f fd ps (SpR K C h g) := by
  refine F.okX S (fun vs H Q E ⟨ds, h1, h2⟩ => by
    rw [h1.length]
    rcases h2 with ⟨k, d, h2, _⟩ | ⟨r, h2, _⟩
    · exact hlen _ _ _ h2
    · exact hlen2 _ _ h2) fun cdv A outer s H vs Q E hr ⟨ds, h1, h2⟩ => ?_
  have tk : Takes (cxOf (L2.CX P w) P w K mg base N x (defScope st) f cdv A outer s H E) (fun cls d _ H => E cls d H) := takes_of rfl rfl rfl rfl
  obtain ⟨t, ht, b1, b2⟩ := hb cdv A outer s H E hr tk (passes_call tk fun _ _ _ _ z => z)
  refine ⟨t, ht, ?_⟩
  rcases h2 with ⟨k, d, h2, q⟩ | ⟨r, h2, q⟩
  · obtain ⟨es, n, hp, hn, c, sg⟩ := b1 ds k d h2
    refine sg H (H, []) H _ 0 _ (Ok.start h1 hp hn) (fun σ' H' Γ' ⟨e1, e2⟩ o => ?_) (fun _ _ _ z _ => z.elim) (fun _ _ _ z _ => z.elim) fun v H' σ' Γ' k' d' ⟨e1, e2⟩ o r => ?_
    · subst e1 e2
      exact q .non H' o.fr.same .non
    · subst e1 e2
      exact q v H' o.fr.same r
  · obtain ⟨es, n, hp, hn, sg⟩ := b2 ds r h2
    exact sg H (H, []) H _ 0 (Ok.start h1 hp hn) (fun dd v H' s h3 h4 => q dd v H' s h3 h4) _
/-- a def with one default, the empty tuple, that is called without it -/
structure CalD (P : Program) (w : World) (K : PySem.W.Frag) (mg : Str → Option Value) (base : Heap) (k : Nat) (x : Str) (ps : List Str) (sp : Sp) (a : Addr) : Prop where
  ex : ∃ f fd ds, FnOk P w K mg base CX0 k f fd ps sp ∧ mg x = some (.ref f) ∧ PySem.W.keepIn K (.ref f) = true ∧ Binds K fd ps ds ∧ Vals [V.ref a] ds
  em : ∀ H, SqT K H a []
theorem pe_defD {X : Cx} {k j : Nat} {x : Str} {ps : List Str} {sp : Sp} {a : Addr} {e : Expr} {es : List Expr} {t : TA} {p pos : Pos} (C : CalD X.prog X.w X.K X.mg X.base k x ps sp a) (hr : Room j X.A) (ha : PA X (e :: es) t) (hj : k ≤ j := by decide) (hg : Gl X x := by rfl)
    (hdb : (x == ("__debug__" : Str)) = false := by decide) (he : starEach (e :: es) X.env = (false, eval e X.env) :: starEach es X.env := by rfl) (hpl : (backTo pos (starEach es X.env)).any (·.1) = false := by rfl) :
    PE X (.Call (.Name x p) (e :: es) [] pos) (tCall sp [V.ref a] L2.E0 t) := by
  obtain ⟨f, fd, ds, G, hm, hk, hb, hd⟩ := C.ex
  exact pe_call G (hr.mono hj) hg hm hk hb hd pass0 ha hdb he hpl
theorem DatA.app {H : Hp} {us : List V} {es : List PyData} (h : DatA K H us es) : ∀ {vs : List V} {ds : List PyData}, DatA K H vs ds → DatA K H (vs ++ us) (ds ++ es)
  | _, _, .nil => h
  | _, _, .cons r t => .cons r (DatA.app h t)
theorem ev_defD {a : Addr} {m : Md} {k : Kd} {t : TA} {f : List PyData → Kd → PyData → Prop} {ds : List PyData} {d : PyData} {E : XK} (em : ∀ H, SqT K H a []) (ha : EA K m .da t Γ c (Is ds)) (hf : f (ds ++ [.tuple []]) k d) : Ev K m k (tCall (SpF K f) [V.ref a] E t) Γ c (Is d) :=
  ev_call (c2 := 0) ha fun H0 P H σ B o vs ds' e1 e2 Q q => by
    subst e1
    exact ⟨_, k, d, DatA.app (.cons (.inl (.tup (em _) .nil)) .nil) e2, hf, fun v H' s r => q v H' d (o.same s) (.of s) rfl r⟩
theorem fn_pureD {P : Program} {w : World} {mg : Str → Option Value} {base : Heap} {x : Str} {st : Stmt} {f : Addr} {fd : FuncData} {N ps : List Str} {dvs : List V} {kws : List (Str × V)} {j : Nat} {g : List PyData → Kd → PyData → Prop} (F : FunD K x x (defArgs st) (defBody st) (defScope st) dvs kws f fd) (S : FnScope N ps (defScope st))
    (hlen : ∀ ds k d, g ds k d → ds.length = ps.length)
    (hb : ∀ (cdv : Value) (A : Around) (outer : List Env) (s : Shared) (H : Hp) (E : XK), Room j (A.deeper (envOfC x (defScope st) s.heap.objs.size f cdv)) → ∀ ds k d, g ds k d →
      ∃ t, PSs (cxOf CX0 P w K mg base N x (defScope st) f cdv A outer s H E).nox (defBody st) t ∧ ∃ es n, Pars ds es ∧ N.length = es.length + n ∧ SgN K t (es ++ List.replicate n .un) k d) :
    FnOk P w K mg base CX0 (j + 1) f fd ps (SpF K g) := by
  refine F.ok S (fun vs H Q E ⟨ds, k, d, h1, h2, _⟩ => by rw [h1.length]; exact hlen _ _ _ h2) fun cdv A outer s H vs Q E hr ⟨ds, k, d, h1, h2, q⟩ => ?_
  obtain ⟨t, ht, es, n, hp, hn, c, sg⟩ := hb cdv A outer s H E hr ds k d h2
  refine ⟨t, ht.nox, sg H (H, []) H _ 0 _ (Ok.start h1 hp hn) (fun σ' H' Γ' ⟨e1, e2⟩ o => ?_) (fun _ _ _ z _ => z.elim) (fun _ _ _ z _ => z.elim) fun v H' σ' Γ' k' d' ⟨e1, e2⟩ o r => ?_⟩
  · subst e1 e2
    exact q .non H' o.fr.same .non
  · subst e1 e2
    exact q v H' o.fr.same r
end
section
variable {K : PySem.W.Frag} {m : Md} {k k1 k2 : Kd} {te ta tb : TE} {tt : TT} {t u w : TS} {Γ : List En} {c c0 c1 c2 ct ce : Nat} {N Bk Ct : Po} {Rt : Kd → PyData → List En → Prop} {α : Type}
/-- a, b, c, d = e, [], {}, {} -/
theorem sg_asg4 {i j l n : Nat} {d : PyData} (he : Ev K m .im te Γ c (Is d)) (hi : i < Γ.length) (hj : j < Γ.length) (hl : l < Γ.length) (hn : n < Γ.length) (h : N ((((Γ.set i (.im d)).set j (.own [])).set l (.dc [])).set n (.dc []))) :
    Sg K m (tAsg (tTup (tCons te (tCons (tLst tNil) (tCons tDNewK (tCons tDNewK tNil))))) (gTup K 4 (gCons (gName i) (gCons (gName j) (gCons (gName l) (gCons (gName n) gNil)))))) Γ c N Bk Ct Rt := fun H0 P H σ B D o q1 _ _ _ => by
  refine he H0 P H σ B o _ fun v H1 d1 o1 g1 r1 e1 => ?_
  subst r1
  refine ⟨Nat.zero_le _, fun a1 h1 p1 hp1 p2 hp2 => ⟨by show 4 ≤ sizeLine; decide, fun T hT => ?_⟩⟩
  have oA := o1.putIm hi e1
  have oB := oA.putNew (oA.same (same_new (o := .lst []) h1)) (i := j) (by rw [List.length_set]; exact hj) h1 upd_same .nil
  have oC := oB.putNewD (i := l) (by rw [List.length_set, List.length_set]; exact hl) hp1
  have oD := oC.putNewD (i := n) (by rw [List.length_set, List.length_set, List.length_set]; exact hn) hp2
  exact ⟨T, _, rfl, SqT.of upd_same, rfl, _, _, rfl, _, _, rfl, _, _, rfl, _, _, rfl, rfl, q1 _ _ _ h (oD.same (same_new hT))⟩
/-- a, b, c = [], {}, e (e a new list) -/
theorem sg_asg3 {i j l : Nat} {ms : List PyData} (he : Ev K none .nw te Γ c (Is (.list ms))) (hi : i < Γ.length) (hj : j < Γ.length) (hl : l < Γ.length) (h : N (((Γ.set i (.own [])).set j (.dc [])).set l (.own ms))) :
    Sg K none (tAsg (tTup (tCons (tLst tNil) (tCons tDNewK (tCons te tNil)))) (gTup K 3 (gCons (gName i) (gCons (gName j) (gCons (gName l) gNil))))) Γ 0 N Bk Ct Rt := fun H0 P H σ B D o q1 _ _ _ => by
  refine ⟨Nat.zero_le _, fun a1 h1 p1 hp1 => ?_⟩
  have oA1 := o.same (same_new (o := .lst []) h1)
  have oV1 := o.putNew oA1 hi h1 upd_same .nil
  have oA2 := oA1.same (same_new (o := .dK []) hp1)
  have oV2 := oV1.putNewD (i := j) (by rw [List.length_set]; exact hj) hp1
  refine he H0 P _ σ B oA2.free _ fun v H3 d o3 g r e => ?_
  subst r
  obtain ⟨l3, xs, ds, rfl, e2, hn, hl3, ha⟩ := e
  cases e2
  refine ⟨by show 3 ≤ sizeLine; decide, fun T hT => ?_⟩
  have oV2' : Ok K none H0 P H3 _ _ B := oV2.grow (B' := B) g fun _ _ z => nomatch z
  have oV3 := oV2.putNew oV2' (i := l) (by rw [List.length_set, List.length_set]; exact hl) hn hl3 ha
  exact ⟨T, _, rfl, SqT.of upd_same, rfl, _, _, rfl, _, _, rfl, _, _, rfl, rfl, q1 _ _ _ h ((oV3.same (same_new hT)).free)⟩
theorem p_end (h : Sg K none t Γ 0 no Bk Ct Rt) : Sg K none (tSeq t w) Γ 0 N Bk Ct Rt := q_end h
theorem p_endC (h : Ct Γ) : Sg K none (tSeq tCont w) Γ 0 N Bk Ct Rt := q_end (sg_cont h)
theorem ev_chain01 {i j l : Int} {tc : TE} {c3 : Nat} (ha : Ev K none k1 ta Γ c1 (Is (.int i))) (hb : Ev K none k2 tb Γ c2 (Is (.int j))) (hc : Ev K none .im tc Γ c3 (Is (.int l))) :
    Ev K none .im (tChain (rI0 fun i j => .bl (decide (i ≤ j))) (rI0 fun i j => .bl (decide (i < j))) ta tb tc) Γ 0 (Is (.bool (decide (i ≤ j) && decide (j < l)))) := fun H0 P H σ B o Q q => by
  refine ha H0 P H σ B o.free _ fun x H1 d1 o1 g1 r1 e1 => ?_
  subst r1
  refine hb H0 P H1 σ B o1.free _ fun y H2 d2 o2 g2 r2 e2 => ?_
  subst r2
  rw [e1.dat.int, e2.dat.int]
  refine ⟨i, j, rfl, rfl, _, rfl, ?_⟩
  by_cases h : i ≤ j
  · rw [if_pos (decide_eq_true h)]
    refine hc H0 P H2 σ B o2.free _ fun z H3 d3 o3 g3 r3 e3 => ?_
    subst r3
    rw [e3.dat.int]
    exact ⟨j, l, rfl, rfl, q _ H3 _ o3 ((g1.trans g2).trans g3) (show PyData.bool _ = .bool (decide (i ≤ j) && decide (j < l)) by rw [decide_eq_true h, Bool.true_and]) (.bl _)⟩
  · rw [decide_eq_false h, if_neg (by decide)]
    refine q (.bl false) H2 (.bool false) o2 (g1.trans g2) ?_ (.bl _)
    show PyData.bool false = .bool (decide (i ≤ j) && decide (j < l))
    rw [decide_eq_false h]
    rfl
/-- [e for a, b in zip(t, l) if ..] that gives one thing -/
theorem ev_lcZd {β : Type} {j l : Nat} {vs : List Nat} {xs : List α} {ys : List β} {e1 : α → PyData} {e2 : β → PyData} {g : α × β → PyData} {p : α × β → Bool} {tr : TA} (hs : EA K m .da tr Γ c0 (Is [.tuple (xs.map e1), .list (ys.map e2)])) (hn : xs.length = ys.length) (hl : xs.length ≤ 100000) (hj : j ∈ vs) (hl' : l ∈ vs) (hjl : j < Γ.length) (hll : l < Γ.length)
    (ht : ∀ (i : Nat) x y, xs[i]? = some x → ys[i]? = some y → ET K m tt (((wipeG Γ vs).set j (.im (e1 x))).set l (.im (e2 y))) ct (Is (p (x, y)))) (he : ∀ (i : Nat) x y, xs[i]? = some x → ys[i]? = some y → p (x, y) = true → Ev K m .im te (((wipeG Γ vs).set j (.im (e1 x))).set l (.im (e2 y))) ce (Is (g (x, y)))) :
    Ev K m .nw (tLc (Zp.iZipM K tr) (gTup K 2 (gCons (gName j) (gCons (gName l) gNil))) tt te vs) Γ (c0 + xs.length * (ct + ce)) (Is (.list (((xs.zip ys).filter p).map g))) := by
  have gi : ∀ {α : Type} {l : List α} {e : α → PyData} {i : Nat} {x : PyData}, (l.map e)[i]? = some x → ∃ z, l[i]? = some z ∧ x = e z := fun {α l e i x} hd => by
    rw [List.getElem?_map] at hd
    obtain ⟨z, hz, h⟩ := Option.map_eq_some_iff.mp hd
    exact ⟨z, hz, h.symm⟩
  have zi : ∀ {i : Nat} {x : α} {y : β}, xs[i]? = some x → ys[i]? = some y → (xs.zip ys)[i]? = some (x, y) := fun {i x y} h1 h2 => by
    rw [List.getElem?_zip_eq_some]
    exact ⟨h1, h2⟩
  have h := ev_lcZ (te := te) (tt := tt) (ct := ct) (ce := ce) hs (by rw [List.length_map, List.length_map]; exact hn) (by rw [List.length_map]; exact hl) hj hl' hjl hll (fun i es => es = (((xs.zip ys).take i).filter p).map g) (fun i _ _ b => ∃ x y, xs[i]? = some x ∧ ys[i]? = some y ∧ b = p (x, y)) (fun i _ _ e => ∃ x y, xs[i]? = some x ∧ ys[i]? = some y ∧ e = g (x, y)) rfl
    (fun i x y hx hy => by
      obtain ⟨x', hx', rfl⟩ := gi hx
      obtain ⟨y', hy', rfl⟩ := gi hy
      exact (ht i x' y' hx' hy').imp fun b e => ⟨x', y', hx', hy', e⟩)
    (fun i x y hx hy ⟨x2, y2, hx2, hy2, e⟩ => by
      obtain ⟨x', hx', rfl⟩ := gi hx
      obtain ⟨y', hy', rfl⟩ := gi hy
      have ex : x' = x2 := Option.some.inj (hx'.symm.trans hx2)
      have ey : y' = y2 := Option.some.inj (hy'.symm.trans hy2)
      subst ex ey
      exact (he i x' y' hx' hy' e.symm).imp fun b e => ⟨x', y', hx', hy', e⟩)
    (fun i x y es hx hy h1 ⟨x2, y2, hx2, hy2, e⟩ => by rw [take_filt (zi hx2 hy2), ← e, h1]; simp)
    (fun i x y es e hx hy h1 ⟨x2, y2, hx2, hy2, e'⟩ ⟨x3, y3, hx3, hy3, e3⟩ => by
      have ex : x3 = x2 := Option.some.inj (hx3.symm.trans hx2)
      have ey : y3 = y2 := Option.some.inj (hy3.symm.trans hy2)
      subst ex ey
      rw [take_filt (zi hx2 hy2), ← e', h1, e3]; simp)
  rw [List.length_map] at h
  refine h.imp fun d ⟨es, e1, e2⟩ => ?_
  rw [e1, e2]
  have : (xs.zip ys).take xs.length = xs.zip ys := List.take_of_length_le (by rw [List.length_zip]; omega)
  rw [this]
  rfl
end
end Lg

set_option Elab.async false
set_option linter.all false
set_option maxRecDepth 100000
set_option maxHeartbeats 1000000
/-! The pen: promises of defs that are given it; its parts. -/
namespace Lg
open PySem PySem.Spec PyProof.Rows L2
/-- a def that is given the pen first: it draws cost many times at most; of the answer only what holds of it is told -/
def SpP (K : PySem.W.Frag) (cost : List PyData → Nat) (pre : List PyData → Prop) (post : List PyData → PyData → Prop) : Sp := fun vs H Q _ => ∃ (p c : Addr) (vs' : List V) (ds : List PyData) (B : Nat), vs = .ref p :: vs' ∧ DatA K H vs' ds ∧ pre ds ∧ PenOk H p c (B + cost ds) ∧
  ∀ d v H', post ds d → Gx (some (p, c)) H H' → PenOk H' p c B → Im K H' v d → Q v H'
theorem PenOk.at {H : Hp} {p c : Addr} {B : Nat} (h : PenOk H p c B) : H p ≠ none ∧ H c ≠ none := by
  obtain ⟨cells, _, _, _, _, kvs, h1, _, _, h4, _⟩ := h
  exact ⟨by rw [h4]; simp, by rw [h1]; simp⟩
theorem ev_callP {K : PySem.W.Frag} {m : Md} {Γ : List En} {c i : Nat} {t : TA} {cost : List PyData → Nat} {pre : List PyData → Prop} {post : List PyData → PyData → Prop} {ds : List PyData} {E : XK} (h : Γ[i]? = some .pen) (ha : EA K m .da t Γ c (Is ds)) (hp : pre ds) :
    Ev K m .im (tCall (SpP K cost pre post) [] E (tCons (tVar i) t)) Γ (c + cost ds) (post ds) := fun H0 P H σ B o Q q => by
  obtain ⟨p, cc, e, hm⟩ := o.sl i _ h
  subst hm
  refine ⟨_, e, ?_⟩
  refine ha H0 P H σ (B + cost ds) (o.le (by omega)) _ fun vs H1 ds' o1 g1 e1 e2 => ?_
  subst e1
  rw [List.append_nil]
  exact ⟨p, cc, vs, _, B, rfl, e2, hp, (o1.pen p cc rfl).2.2, fun d v H' h g pk i => q v H' d (o1.grow g fun p' c' e => by cases e; exact pk) (g1.trans g) h i⟩
theorem Ok.startP {K : PySem.W.Frag} {H : Hp} {N : List Str} {p c : Addr} {vs : List V} {ds : List PyData} {es : List En} {n B : Nat} (hk : PenOk H p c B) (hd : DatA K H vs ds) (hp : Pars ds es) (hn : N.length = es.length + 1 + n) :
    Ok K (some (p, c)) H (H, []) H (L2.start N (.ref p :: vs)) (.pen :: (es ++ List.replicate n .un)) B := by
  have l1 := hd.length
  have l2 := hp.length
  have hat := hk.at
  have key : ∀ i e, (es ++ List.replicate n En.un)[i]? = some e → SlOk K (some (p, c)) H H (L2.start N (.ref p :: vs)) (i + 1) e ∧ OwnE e = false := fun i e he => by
    by_cases hi : i < es.length
    · rw [List.getElem?_append_left hi] at he
      obtain ⟨d, h1, h2⟩ := hp.get he
      obtain ⟨v, h3, h4⟩ := hd.get h1
      exact h2.sl h4 (start_get (by simpa using h3))
    · rw [List.getElem?_append_right (Nat.le_of_not_lt hi), List.getElem?_replicate] at he
      split at he
      · cases he
        exact ⟨True.intro, rfl⟩
      · cases he
  refine ⟨?_, Gx.refl _ _, fun p' c' e => by cases e; exact ⟨hat.2, hat.1, hk⟩, fun i e he => ?_, fun i j a ⟨⟨e, h1, h2⟩, _⟩ _ => ?_, fun _ z => by simp at z, fun _ _ z _ => z⟩
  · unfold L2.start
    rw [List.length_append, List.length_map, List.length_replicate, List.length_cons, List.length_cons, List.length_append, List.length_replicate]
    omega
  · cases i with
    | zero => cases he; exact ⟨p, c, start_get rfl, rfl⟩
    | succ i => exact (key i e (by simpa using he)).1
  · cases i with
    | zero => cases h1; cases h2
    | succ i =>
      have z := (key i e (by simpa using h1)).2
      rw [h2] at z
      cases z
theorem fn_pen {P : Program} {w : World} {K : PySem.W.Frag} {mg : Str → Option Value} {base : Heap} {x : Str} {st : Stmt} {f : Addr} {fd : FuncData} {N ps : List Str} {j : Nat} {cost : List PyData → Nat} {pre : List PyData → Prop} {post : List PyData → PyData → Prop} (F : Fun K x x st f fd) (S : FnScope N ps (defScope st))
    (hlen : ∀ ds, pre ds → ds.length + 1 = ps.length)
    (hb : ∀ (cdv : Value) (A : Around) (outer : List Env) (s : Shared) (H : Hp) (E : XK), Room j (A.deeper (envOfC x (defScope st) s.heap.objs.size f cdv)) → ∀ ds, pre ds →
      ∃ t, PSs (cxOf CX0 P w K mg base N x (defScope st) f cdv A outer s H E).nox (defBody st) t ∧ ∃ es n, Pars ds es ∧ N.length = es.length + 1 + n ∧ ∀ p c, ∃ b, b ≤ cost ds ∧ Sg K (some (p, c)) t (.pen :: (es ++ List.replicate n .un)) b no no no (fun k d _ => k = .im ∧ post ds d)) :
    FnOk P w K mg base CX0 (j + 1) f fd ps (SpP K cost pre post) := by
  refine F.ok S (fun vs H Q E ⟨p, c, vs', ds, B, e, h1, h2, _⟩ => by rw [e, List.length_cons, h1.length]; exact hlen _ h2) fun cdv A outer s H vs Q E hr ⟨p, c, vs', ds, B, ev, h1, h2, hk, q⟩ => ?_
  subst ev
  obtain ⟨t, ht, es, n, hp, hn, hsg⟩ := hb cdv A outer s H E hr ds h2
  obtain ⟨b, hbc, sg⟩ := hsg p c
  refine ⟨t, ht, sg H (H, []) H _ B _ (Ok.startP (hk.le (by omega)) h1 hp hn) (fun _ _ _ z _ => z.elim) (fun _ _ _ z _ => z.elim) (fun _ _ _ z _ => z.elim) fun v H' σ' Γ' k' d' ⟨e1, e2⟩ o r => ?_⟩
  subst e1
  exact q d' v H' e2 o.fr (o.pen p c rfl).2.2 r
/-! the pen's parts -/
structure PV (H : Hp) (p c : Addr) (cells : List Int) (a d n f : Int) (kvs : List (Key × V)) : Prop where
  hc : H c = some (.lst (cells.map V.int))
  hp : H p = some (.dK kvs)
  v1 : valV kvs (Sum.inr "cells") = some (.ref c)
  v2 : valV kvs (Sum.inr "at") = some (.int a)
  v3 : valV kvs (Sum.inr "digits") = some (.int d)
  v4 : valV kvs (Sum.inr "count") = some (.int n)
  v5 : valV kvs (Sum.inr "fold") = some (.int f)
  ln : kvs.length ≤ 5
section
variable {H : Hp} {p c : Addr} {cells : List Int} {a d n f z : Int} {kvs : List (Key × V)}
theorem PV.g1 (h : PV H p c cells a d n f kvs) : DGet H p (.str "cells") (some (.ref c)) := by rw [← h.v1]; exact DGet.k (k := Sum.inr "cells") h.hp
theorem PV.g2 (h : PV H p c cells a d n f kvs) : DGet H p (.str "at") (some (.int a)) := by rw [← h.v2]; exact DGet.k (k := Sum.inr "at") h.hp
theorem PV.g3 (h : PV H p c cells a d n f kvs) : DGet H p (.str "digits") (some (.int d)) := by rw [← h.v3]; exact DGet.k (k := Sum.inr "digits") h.hp
theorem PV.g4 (h : PV H p c cells a d n f kvs) : DGet H p (.str "count") (some (.int n)) := by rw [← h.v4]; exact DGet.k (k := Sum.inr "count") h.hp
theorem PV.g5 (h : PV H p c cells a d n f kvs) : DGet H p (.str "fold") (some (.int f)) := by rw [← h.v5]; exact DGet.k (k := Sum.inr "fold") h.hp
theorem putK_in {k : Key} {v w : V} (h : valV kvs k = some w) : (putK kvs k v).length = kvs.length := by
  have : (kvs.any fun kv => decide (kv.1 = k)) = true := by rw [valV_any, h]; rfl
  unfold putK
  rw [if_pos this, List.length_map]
theorem ne_str {a b : Str} (h : a ≠ b) : (Sum.inr a : Key) ≠ Sum.inr b := fun z => h (Sum.inr.inj z)
theorem PV.ne (h : PV H p c cells a d n f kvs) : c ≠ p := fun z => by
  have h1 := h.hc
  rw [z, h.hp] at h1
  cases h1
theorem PV.p2 (h : PV H p c cells a d n f kvs) : DPut H p (.str "at") (.int z) (upd H p (.dK (putK kvs (Sum.inr "at") (.int z)))) ∧ PV (upd H p (.dK (putK kvs (Sum.inr "at") (.int z)))) p c cells z d n f (putK kvs (Sum.inr "at") (.int z)) :=
  ⟨DPut.k (k := Sum.inr "at") h.hp (Nat.lt_of_le_of_lt h.ln (by decide)), by rw [upd_ne h.ne]; exact h.hc, upd_same, by rw [valV_put, if_neg (ne_str (by decide))]; exact h.v1, by rw [valV_put, if_pos rfl], by rw [valV_put, if_neg (ne_str (by decide))]; exact h.v3,
    by rw [valV_put, if_neg (ne_str (by decide))]; exact h.v4, by rw [valV_put, if_neg (ne_str (by decide))]; exact h.v5, by rw [putK_in h.v2]; exact h.ln⟩
theorem PV.p3 (h : PV H p c cells a d n f kvs) : DPut H p (.str "digits") (.int z) (upd H p (.dK (putK kvs (Sum.inr "digits") (.int z)))) ∧ PV (upd H p (.dK (putK kvs (Sum.inr "digits") (.int z)))) p c cells a z n f (putK kvs (Sum.inr "digits") (.int z)) :=
  ⟨DPut.k (k := Sum.inr "digits") h.hp (Nat.lt_of_le_of_lt h.ln (by decide)), by rw [upd_ne h.ne]; exact h.hc, upd_same, by rw [valV_put, if_neg (ne_str (by decide))]; exact h.v1, by rw [valV_put, if_neg (ne_str (by decide))]; exact h.v2, by rw [valV_put, if_pos rfl],
    by rw [valV_put, if_neg (ne_str (by decide))]; exact h.v4, by rw [valV_put, if_neg (ne_str (by decide))]; exact h.v5, by rw [putK_in h.v3]; exact h.ln⟩
theorem PV.p4 (h : PV H p c cells a d n f kvs) : DPut H p (.str "count") (.int z) (upd H p (.dK (putK kvs (Sum.inr "count") (.int z)))) ∧ PV (upd H p (.dK (putK kvs (Sum.inr "count") (.int z)))) p c cells a d z f (putK kvs (Sum.inr "count") (.int z)) :=
  ⟨DPut.k (k := Sum.inr "count") h.hp (Nat.lt_of_le_of_lt h.ln (by decide)), by rw [upd_ne h.ne]; exact h.hc, upd_same, by rw [valV_put, if_neg (ne_str (by decide))]; exact h.v1, by rw [valV_put, if_neg (ne_str (by decide))]; exact h.v2, by rw [valV_put, if_neg (ne_str (by decide))]; exact h.v3,
    by rw [valV_put, if_pos rfl], by rw [valV_put, if_neg (ne_str (by decide))]; exact h.v5, by rw [putK_in h.v4]; exact h.ln⟩
theorem PV.p5 (h : PV H p c cells a d n f kvs) : DPut H p (.str "fold") (.int z) (upd H p (.dK (putK kvs (Sum.inr "fold") (.int z)))) ∧ PV (upd H p (.dK (putK kvs (Sum.inr "fold") (.int z)))) p c cells a d n z (putK kvs (Sum.inr "fold") (.int z)) :=
  ⟨DPut.k (k := Sum.inr "fold") h.hp (Nat.lt_of_le_of_lt h.ln (by decide)), by rw [upd_ne h.ne]; exact h.hc, upd_same, by rw [valV_put, if_neg (ne_str (by decide))]; exact h.v1, by rw [valV_put, if_neg (ne_str (by decide))]; exact h.v2, by rw [valV_put, if_neg (ne_str (by decide))]; exact h.v3,
    by rw [valV_put, if_neg (ne_str (by decide))]; exact h.v4, by rw [valV_put, if_pos rfl], by rw [putK_in h.v5]; exact h.ln⟩
theorem gx_pen {H H' : Hp} {p c : Addr} {o : HO} {kvs : List (Key × V)} (g : Gx (some (p, c)) H H') (h : H' p = some (.dK kvs)) : Gx (some (p, c)) H (upd H' p o) := fun b u e n => by
  by_cases hb : b = p
  · subst hb
    have z : isD u = true ∨ isD u = false := by cases isD u <;> simp
    rcases z with z | z
    · exact absurd rfl (n z c)
    · have := g b u e fun y => by rw [z] at y; cases y
      rw [h] at this
      cases this
      cases z
  · rw [upd_ne hb]
    exact g b u e n
end
end Lg

set_option Elab.async false
set_option linter.all false
set_option maxRecDepth 100000
set_option maxHeartbeats 2000000
/-! try with several clauses, the first of which (with a name) takes whatever comes. -/
namespace Lg
open PySem PySem.Spec PyProof.Rows L2
/-- the ends of a suite whose name, in slot i, goes behind it -/
def endsAs (i : Nat) (D : Ends) : Ends := { nx := fun σ' H' => D.nx (σ'.set i none) H', rt := D.rt, bk := fun σ' H' => D.bk (σ'.set i none) H', ct := fun σ' H' => D.ct (σ'.set i none) H' }
/-- what is wished of an exception: of the class c; then the suite -/
def wFirst (K : PySem.W.Frag) (c : Value) (i n : Nat) (ts : Addr → Value → Option Addr → TS) (D : Ends) : WX := fun cls d σ H =>
  PySem.W.exmOne K cls c = some true ∧ ∀ a, H a = none → σ.length = n → ts a cls d (endsAs i D) (σ.set i (some (.ref a))) H
section
variable {X : Cx} {x n : Str} {c : Value} {i : Nat} {body suite : List Stmt} {b₀ : Stmt} {np pos pos' : Pos} {tb : WX → TS} {ts : Addr → Value → Option Addr → TS} {more : List ExceptHandler}
theorem ps_try_first (hs : X.stack = X.env :: X.outer) (hf : X.env.frame = some X.env.locals) (hN : X.N.Nodup) (hi : X.N[i]? = some n) (hln : X.env.kindOf n = some .local) (hg : Gl X x) (hdbg : (x == ("__debug__" : Str)) = false) (hm : X.mg x = some c)
    (hb : ∀ (W : WX) (pn : List (Addr × Obj)) (xe : Value → Shared → Prop), Takes (X.tr pn xe) W → PSs (X.tr pn xe) body (tb W))
    (hsu : ∀ (a : Addr) (oe : Obj) (cls : Value) (d : Option Addr) (pn : List (Addr × Obj)), Zc cls d oe → (∃ vs, oe.data = .fields vs) → PSs (X.suite a ((a, oe) :: pn)) (b₀ :: suite) (ts a cls d)) :
    PS X (.Try body (.ExceptHandler (some (.Name x np)) (some n) (b₀ :: suite) pos' :: more) [] [] pos) (fun D σ H => tb (wFirst X.K c i X.N.length ts D) D σ H) := by
  refine ⟨fun pins s σ H D I h => wpAny_Try_except ?_⟩
  have ok := I.ok
  have frames : X.A.frames = some (X.env :: X.outer) := by rw [ok.frames, hs]
  refine wpAny_mono ((hb (wFirst X.K c i X.N.length ts D) (X.pn ++ pins) (fun e s₁ => wpAny (model X.prog X.w) X.A (noteFrame e X.env) (fun _ s₂ => wpAny (model X.prog X.w) X.A (setFlight e none) (fun _ s₃ =>
    wpAny (model X.prog X.w) X.A (handleBy e X.env (.ExceptHandler (some (.Name x np)) (some n) (b₀ :: suite) pos' :: more)) (SP X pins D) X.xe s₃) X.xe s₂) X.xe s₁) (fun u s' xx => ?_)).run [] s σ H D (I.toTry _) h) (fun f s1 hsp => ?_) (fun e s1 he => he)
  · obtain ⟨a, B, sI, pins', σ', H', cls, d, rfl, J', nb, up, sky, na, os, ag, hex, hsuite⟩ := xx
    have J : Inv X pins σ' H' sI := J'.ofTry ok
    refine Sky.land Zc.steady frames hf (by rw [← hs]; exact sky) fun h3 fl3 up3 => ?_
    have J3 : Inv X pins σ' H' { s' with heap := h3 } := J.landed nb fl3.1 (up.trans up3) os ag
    obtain ⟨oe3, vs3, he3, hz3, hd3⟩ := fl3.there
    have away : a ∉ frs (X.env :: X.outer) := fun hm => by
      obtain ⟨_, o', e', hnf⟩ := fl3.2.2.1.mem hm
      rw [he3] at e'
      cases e'
      exact hnf _ hd3
    have offL : a ≠ X.env.locals := fun z => away (List.mem_filterMap.mpr ⟨X.env, List.mem_cons_self, by rw [hf, z]⟩)
    have offF : a ∉ X.fs := fun hm => by
      obtain ⟨e, he, q⟩ := List.mem_filterMap.mp hm
      exact away (List.mem_filterMap.mpr ⟨e, List.mem_cons_of_mem _ he, q⟩)
    refine wpAny_handleBy_cons (codeAny_handlers_test ?_) (by intro q; cases q)
    have LT : PySem.W.Looks (model X.prog X.w) h3 (typeOf (.ref a)) cls := fun A Q E s k q => wpAny_typeOf_ref (k _ _ he3) (by rw [hz3.1]; exact q)
    refine ld_glob (X := X.suite a ((a, oe3) :: (X.pn ++ pins))) (J3.suite he3 hd3 na offL offF) hg hm ((PySem.W.exm_one (M := model X.prog X.w) J3.kIn LT hex).here ?_) hdbg
    refine codeAny_handlers_suite_as (HandSPX.lands_againZ fl3 fun h4 fl4 up4 => ?_)
    have J4 : Inv X pins σ' H' { s' with heap := h4 } := J.landed nb fl4.1 ((up.trans up3).trans up4) os ag
    obtain ⟨oe4, vs4, he4, hz4, hd4⟩ := fl4.there
    refine store_ok (X := X.suite a ((a, oe4) :: (X.pn ++ pins))) (v := .ref a) (J4.suite he4 hd4 na offL offF) hN hi (.inl hln) rfl (fun s5 S5 => ?_) (.inr hln)
    refine wpAny_mono ((hsu a oe4 cls d (X.pn ++ pins) hz4 ⟨_, hd4⟩).run [] s5 _ H' _ S5 (hsuite a na J.len)) (fun f s6 hsp => ?_) (fun _ _ z => False.elim z)
    have gone : ∀ {σ6 : L2.St} {H6 : Hp} {Q : Shared → Prop}, Inv (X.suite a ((a, oe4) :: (X.pn ++ pins))) [] σ6 H6 s6 → (∀ s7, Inv X pins (σ6.set i none) H6 s7 → Q s7) →
        wpAny (model X.prog X.w) X.A (do bindName X.env n .none; unbindBehindTheSuite X.env n pos') (fun _ s7 => Q s7) X.xe s6 := fun {σ6 H6 Q} S6 hq => gone_ok (S6.unsuite ok) hN hi hln hq
    cases f with
    | next => obtain ⟨σ6, H6, S6, q6⟩ := hsp; exact gone S6 fun s7 J7 => ⟨_, _, J7, q6⟩
    | brk => obtain ⟨σ6, H6, S6, q6⟩ := hsp; exact gone S6 fun s7 J7 => ⟨_, _, J7, q6⟩
    | cont => obtain ⟨σ6, H6, S6, q6⟩ := hsp; exact gone S6 fun s7 J7 => ⟨_, _, J7, q6⟩
    | ret u => obtain ⟨v6, σ6, H6, S6, r6, q6⟩ := hsp; exact gone S6 fun s7 J7 => ⟨_, _, _, J7, r6, q6⟩
  · cases f with
    | next => obtain ⟨σ', H', J', q⟩ := hsp; exact wpAny_execs_nil ⟨σ', H', J'.ofTry ok, q⟩
    | brk => obtain ⟨σ', H', J', q⟩ := hsp; exact ⟨σ', H', J'.ofTry ok, q⟩
    | cont => obtain ⟨σ', H', J', q⟩ := hsp; exact ⟨σ', H', J'.ofTry ok, q⟩
    | ret u => obtain ⟨v, σ', H', J', r, q⟩ := hsp; exact ⟨v, σ', H', J'.ofTry ok, r, q⟩
end
end Lg

set_option Elab.async false
set_option linter.all false
set_option maxRecDepth 100000
set_option maxHeartbeats 2000000
/-! The defs of the program, each with what it promises. -/
namespace W26
open PySem PySem.Spec PyProof.Rows L2 Lg
def topS (i : Nat) : Stmt := PySem.Challenge.pw_everycycle_k26_whole_what_refutations_ne.main.body.getD i (.Pass ⟨0, 0, 0, 0⟩)
/-- the built-ins' names are not the module's own -/
structure Bl (mg : Str → Option Value) : Prop where
  isinstance_ : mg "isinstance" = none
  int_ : mg "int" = none
  bool_ : mg "bool" = none
  tuple_ : mg "tuple" = none
  list_ : mg "list" = none
  len_ : mg "len" = none
  any_ : mg "any" = none
  all_ : mg "all" = none
  sorted_ : mg "sorted" = none
  set_ : mg "set" = none
  abs_ : mg "abs" = none
  range_ : mg "range" = none
  enumerate_ : mg "enumerate" = none
  zip_ : mg "zip" = none
  super_ : mg "super" = none
theorem op_inK {X : Cx} (K : PySem.W.Frag) (e : X.K = K) : OpR X (compareOp .In) (rIn K false) := e ▸ op_in_seq
theorem op_niK {X : Cx} (K : PySem.W.Frag) (e : X.K = K) : OpR X (compareOp .NotIn) (rIn K true) := e ▸ op_notIn_seq
theorem ix_tupK {X : Cx} (K : PySem.W.Frag) (e : X.K = K) : IxR X (rIxT K) := e ▸ ix_tup
theorem ix_listK {X : Cx} (K : PySem.W.Frag) (e : X.K = K) : IxR X (rIxL K) := e ▸ ix_list
theorem ix_seqK {X : Cx} (K : PySem.W.Frag) (e : X.K = K) : IxR X (rIx K) := e ▸ ix_seq
theorem op_catK {X : Cx} (K : PySem.W.Frag) (e : X.K = K) : OpR X (binaryOp .Add) (rCatA K) := e ▸ op_catA
theorem kit_ii : kitB "int" "int" = some true := by decide +kernel
theorem kit_ib : kitB "int" "bool" = some false := by decide +kernel
theorem kit_tt : kitB "tuple" "tuple" = some true := by decide +kernel
theorem kit_nt : kitB "NoneType" "tuple" = some false := by decide +kernel
theorem kit_it : kitB "int" "tuple" = some false := by decide +kernel
theorem kit_st : kitB "str" "tuple" = some false := by decide +kernel
theorem kit_nl : kitB "NoneType" "list" = some false := by decide +kernel
theorem kit_il : kitB "int" "list" = some false := by decide +kernel
theorem kit_sl : kitB "str" "list" = some false := by decide +kernel
theorem kit_tl : kitB "tuple" "list" = some false := by decide +kernel
section
variable {P : Program} {w : World} {K : PySem.W.Frag} {mg : Str → Option Value} {base : Heap} {f : Addr} {fd : FuncData}
/- is_count: slots value 0; cells [] -/
abbrev s_is_count : Stmt := topS 5
abbrev n_is_count : List Str := ["value"]
abbrev p_is_count : List Str := ["value"]
theorem sc_is_count : FnScope n_is_count p_is_count (defScope s_is_count) := ⟨rfl, rfl, rfl, by decide +kernel, rfl, by decide +kernel, by decide +kernel⟩
def fIsCount : List PyData → Kd → PyData → Prop := fun ds k d => ∃ i : Int, ds = [.int i] ∧ k = .im ∧ d = .bool (decide (0 ≤ i))
theorem ok_is_count (b : Bl mg) (F : Fun K "is_count" "is_count" s_is_count f fd) : FnOk P w K mg base L2.CX0 1 f fd p_is_count (SpF K fIsCount) := by
  refine fn_pure F sc_is_count (fun ds k d h => by obtain ⟨i, rfl, _⟩ := h; rfl) fun cdv A outer s H E hr ds k d h => ?_
  obtain ⟨i, rfl, rfl, rfl⟩ := h
  refine ⟨_, (pss_one (ps_ret (pe_and (pe_callB call_isi rfl b.isinstance_ (by decide +kernel) (pa_cons (pv 0) (pa_cons (pe_bltn (v := .ty "int") rfl b.int_ (by decide +kernel) rfl) pa_nil))) (pe_and (pe_not (pe_callB call_isi rfl b.isinstance_ (by decide +kernel) (pa_cons (pv 0) (pa_cons (pe_bltn (v := .ty "bool") rfl b.bool_ (by decide +kernel) rfl) pa_nil)))) (pe_one (pe_cmpR op_ge (pv 0) pe_int (nomark _))))))), [.im (.int i)], 0, .cons (.int i) .nil, rfl, ?_⟩
  apply sgN
  refine sg_retD (Ev.to (ev_andV (ev_isi (ev_im rfl) kit_ii) fun _ => ev_andV (ev_notV (ev_isi (ev_im rfl) kit_ib)) fun _ => ev_ge (ev_im rfl) ev_int) (by simp)) ⟨rfl, rfl⟩
end
end W26

set_option Elab.async false
set_option linter.all false
set_option maxRecDepth 100000
set_option maxHeartbeats 2000000
namespace W26
open PySem PySem.Spec PyProof.Rows L2 Lg
def oC : Option (List Int) → PyData
  | none => .none
  | some c => .tuple (c.map .int)
section
variable {P : Program} {w : World} {K : PySem.W.Frag} {mg : Str → Option Value} {base : Heap} {f : Addr} {fd : FuncData}
/- resolvent: slots one 0, other 1, variable 2, left 3, right 4, found 5, number 6; cells ['found', 'left', 'right'] -/
abbrev s_resolvent : Stmt := topS 7
abbrev n_resolvent : List Str := ["one", "other", "variable", "left", "right", "found", "number"]
abbrev p_resolvent : List Str := ["one", "other", "variable"]
theorem sc_resolvent : FnScope n_resolvent p_resolvent (defScope s_resolvent) := ⟨rfl, rfl, rfl, by decide +kernel, rfl, by decide +kernel, by decide +kernel⟩
def fResolvent : List PyData → Kd → PyData → Prop := fun ds k d => ∃ (a b : List Int) (v : Int), ds = [.tuple (a.map .int), .tuple (b.map .int), .int v] ∧ a.length + b.length < 64 ∧ k = .im ∧ d = oC (Mi.resv a b v)
theorem ok_resolvent (b : Bl mg) (F : Fun K "resolvent" "resolvent" s_resolvent f fd) : FnOk P w K mg base L2.CX0 65 f fd p_resolvent (SpF K fResolvent) := by
  refine fn_pure F sc_resolvent (fun ds k d h => by obtain ⟨_, _, _, rfl, _⟩ := h; rfl) fun cdv A outer s H E hr ds k d h => ?_
  have hu64 := hr.units
  obtain ⟨x, y, v, rfl, hl, rfl, rfl⟩ := h
  refine ⟨_, (pss_cons (ps_if (PW.pt (pw_and (pt_cmpR (op_inK K rfl) (pv 2) (pv 0) (by rfl)) (pw_and1 (pt_cmpR (op_inK K rfl) (pe_un un_neg (pv 2)) (pv 1) (by rfl)))))
(pss_one (ps_asg (pe_tup (pa_cons (pv 2) (pa_cons (pe_un un_neg (pv 2)) pa_nil))) (pg_tup rfl (pgs_cons (pg_name (i := 3) sc_resolvent.nd rfl (Or.inr rfl)) (pgs_cons (pg_name (i := 4) sc_resolvent.nd rfl (Or.inr rfl)) pgs_nil)))))
(pss_one (ps_if (PW.pt (pw_and (pt_cmpR (op_inK K rfl) (pe_un un_neg (pv 2)) (pv 0) (by rfl)) (pw_and1 (pt_cmpR (op_inK K rfl) (pv 2) (pv 1) (by rfl)))))
(pss_one (ps_asg (pe_tup (pa_cons (pe_un un_neg (pv 2)) (pa_cons (pv 2) pa_nil))) (pg_tup rfl (pgs_cons (pg_name (i := 3) sc_resolvent.nd rfl (Or.inr rfl)) (pgs_cons (pg_name (i := 4) sc_resolvent.nd rfl (Or.inr rfl)) pgs_nil)))))
(pss_one (ps_ret pe_non)))))
(pss_cons (ps_set (i := 5) sc_resolvent.nd rfl (Or.inr rfl) (pe_op op_cat (pe_lc (own := [("number", 6)]) (g := (gName 6)) rfl sc_resolvent.nd (pi_tup (pv 0)) (blkOk_by (own := [("number", 6)]) (N := n_resolvent) (sc := defScope s_resolvent) (by decide +kernel)) (fun _ _ _ _ _ => (pg_name (i := 6) sc_resolvent.nd rfl (Or.inl rfl))) (fun _ _ _ _ _ => (pts_one (pt_cmpR op_ne (pv 6) (pv 3) (nomark _)))) (fun _ _ _ _ _ => (pv 6))) (pe_lc (own := [("number", 6)]) (g := (gName 6)) rfl sc_resolvent.nd (pi_tup (pv 1)) (blkOk_by (own := [("number", 6)]) (N := n_resolvent) (sc := defScope s_resolvent) (by decide +kernel)) (fun _ _ _ _ _ => (pg_name (i := 6) sc_resolvent.nd rfl (Or.inl rfl))) (fun _ _ _ _ _ => (pts_one (pt_cmpR op_ne (pv 6) (pv 4) (nomark _)))) (fun _ _ _ _ _ => (pv 6)))))
(pss_cons (ps_if (pt_val (pe_callB (cr_any rfl) rfl b.any_ (by decide +kernel) (pa_cons (pe_lc (own := [("number", 6)]) (g := (gName 6)) (tt := tYes) rfl sc_resolvent.nd (pi_list (pv 5)) (blkOk_by (own := [("number", 6)]) (N := n_resolvent) (sc := defScope s_resolvent) (by decide +kernel)) (fun _ _ _ _ _ => (pg_name (i := 6) sc_resolvent.nd rfl (Or.inl rfl))) (fun _ _ _ _ _ => pts_nil) (fun _ _ _ _ _ => (pe_cmpR (op_inK K rfl) (pe_un un_neg (pv 6)) (pv 5) (by rfl)))) pa_nil)))
(pss_one (ps_ret pe_non))
pss_nil)
(pss_one (ps_ret (pe_callTy call_tuple_of rfl b.tuple_ (by decide +kernel) (pa_cons (Srt2.pe_sab hu64 rfl b.sorted_ rfl b.abs_ (pa_cons (pe_callB (cr_sortedSet rfl) rfl b.sorted_ (by decide +kernel) (pa_cons (pe_callTy (Srt2.cr_setL rfl) rfl b.set_ (by decide +kernel) (pa_cons (pv 5) pa_nil)) pa_nil)) pa_nil)) pa_nil))))))), [.im (.tuple (x.map .int)), .im (.tuple (y.map .int)), .im (.int v)], 4, .cons (.tup _) (.cons (.tup _) (.cons (.int v) .nil)), rfl, ?_⟩
  refine ⟨0, ?_⟩
  refine p_seq (N1 := fun Γ' => ∃ l r : Int, Γ' = [.im (.tuple (x.map .int)), .im (.tuple (y.map .int)), .im (.int v), .im (.int l), .im (.int r), .un, .un] ∧ Mi.resv x y v = Mi.fin (x.filter (fun z => !decide (z = l)) ++ y.filter (fun z => !decide (z = r)))) ?_ ?_
  · refine p_if (et_and (et_test (ev_inI (ev_im rfl) (ev_im rfl) (.inl rfl))) fun _ => et_test (ev_inI (ev_neg (ev_im rfl)) (ev_im rfl) (.inl rfl))) (fun e => ?_) fun e => ?_
    · rw [Bool.and_eq_true, decide_eq_true_eq, decide_eq_true_eq] at e
      refine p_asg2 (ev_tup (ei_cons (ev_im rfl) (ei_cons (ev_neg (ev_im rfl)) ea_nil))) (ln rfl) (ln rfl) ⟨_, _, rfl, ?_⟩
      unfold Mi.resv
      rw [if_pos e]
    · rw [Bool.and_eq_false_iff, decide_eq_false_iff_not, decide_eq_false_iff_not] at e
      have e1 : ¬ (v ∈ x ∧ -v ∈ y) := fun z => e.elim (fun e => e z.1) fun e => e z.2
      refine p_if (et_and (et_test (ev_inI (ev_neg (ev_im rfl)) (ev_im rfl) (.inl rfl))) fun _ => et_test (ev_inI (ev_im rfl) (ev_im rfl) (.inl rfl))) (fun e => ?_) fun e => ?_
      · rw [Bool.and_eq_true, decide_eq_true_eq, decide_eq_true_eq] at e
        refine p_asg2 (ev_tup (ei_cons (ev_neg (ev_im rfl)) (ei_cons (ev_im rfl) ea_nil))) (ln rfl) (ln rfl) ⟨_, _, rfl, ?_⟩
        unfold Mi.resv
        rw [if_neg e1, if_pos e]
      · rw [Bool.and_eq_false_iff, decide_eq_false_iff_not, decide_eq_false_iff_not] at e
        have e2 : ¬ (-v ∈ x ∧ v ∈ y) := fun z => e.elim (fun e => e z.1) fun e => e z.2
        refine p_ret ev_non ⟨rfl, ?_⟩
        unfold Mi.resv
        rw [if_neg e1, if_neg e2]
        rfl
  · rintro _ ⟨l, r, rfl, e⟩
    rw [e]
    generalize hz : x.filter (fun z => !decide (z = l)) ++ y.filter (fun z => !decide (z = r)) = q
    have hq : q.length < 64 := by
      rw [← hz, List.length_append]
      have := List.length_filter_le (fun z => !decide (z = l)) x
      have := List.length_filter_le (fun z => !decide (z = r)) y
      omega
    refine pq_setN (ds := q.map .int) (Ev.to (ev_cat (ev_lcTd (enc := PyData.int) (g := PyData.int) (p := fun z => !decide (z = l)) (ev_im rfl) (by omega) (by decide) (ln rfl) (fun _ z _ => et_test (ev_neI (ev_im rfl) (ev_im rfl))) fun _ z _ _ => ev_im rfl) (ev_lcTd (enc := PyData.int) (g := PyData.int) (p := fun z => !decide (z = r)) (ev_im rfl) (by omega) (by decide) (ln rfl) (fun _ z _ => et_test (ev_neI (ev_im rfl) (ev_im rfl))) fun _ z _ _ => ev_im rfl) (by
      rw [List.length_map, List.length_map]
      have := List.length_filter_le (fun z => !decide (z = l)) x
      have := List.length_filter_le (fun z => !decide (z = r)) y
      omega)) (by rw [← hz, List.map_append])) (ln rfl) ?_
    refine p_when (et_B (Ev.to (ev_any (bs := q.map fun n => decide (-n ∈ q)) (Ev.to (ev_lcLd (l := q) (enc := PyData.int) (g := fun n => PyData.bool (decide (-n ∈ q))) (p := fun _ => true) (ev_own rfl) (by omega) (by decide) (ln rfl) (fun _ z _ => et_yes) fun _ z _ _ => ev_inI (ev_neg (ev_im rfl)) (ev_own rfl) (.inr rfl)) (by rw [filt_all, List.map_map]; rfl))) rfl)) (fun e => p_endRet ev_non ⟨rfl, ?_⟩) fun e => p_ret (ev_tuple (ev_sab (ev_setSorted (ev_own rfl) hq)) (.inr rfl)) ⟨rfl, ?_⟩
    · rw [List.any_map] at e
      unfold Mi.fin
      rw [if_pos (by simpa using e)]
      rfl
    · rw [List.any_map] at e
      unfold Mi.fin
      rw [if_neg (by simpa using e)]
      rfl
end
end W26

set_option Elab.async false
set_option linter.all false
set_option maxRecDepth 100000
set_option maxHeartbeats 2000000
namespace W26
open PySem PySem.Spec PyProof.Rows L2 Lg
open Mi (Line)
def encC (c : List Int) : PyData := .tuple (c.map .int)
def encP (p : Nat × Nat) : PyData := .tuple [.int (p.1 : Int), .int (p.2 : Int)]
def encL : Line → PyData
  | .given n => .tuple [.str "given", .int (n : Int)]
  | .chain f ss => .tuple [.str "chain", .int (f : Int), .tuple (ss.map encP)]
  | .odd none => .none
  | .odd (some i) => .int i
def oCs : Option (List (List Int)) → PyData
  | none => .none
  | some cs => .tuple (cs.map encC)
def isS : PyData → Bool
  | .none => true
  | .int _ => true
  | .str s => PyData.strOk s
  | _ => false
theorem sk_given : isS (.str "given") = true := by decide +kernel
theorem sk_chain : isS (.str "chain") = true := by decide +kernel
theorem sk_lines : isS (.str "lines") = true := by decide +kernel
theorem sk_row : isS (.str "row") = true := by decide +kernel
theorem Par.sc {d : PyData} (h : isS d = true) : Par d (.im d) := by
  cases d <;> first | exact .non | exact .int _ | exact .str _ | exact absurd (show false = true from h) Bool.false_ne_true
theorem kit_sct {d : PyData} (h : isS d = true) : kitB (tyN d) "tuple" = some false := by
  cases d <;> first | exact kit_nt | exact kit_it | exact kit_st | exact absurd (show false = true from h) Bool.false_ne_true
theorem kit_scl {d : PyData} (h : isS d = true) : kitB (tyN d) "list" = some false := by
  cases d <;> first | exact kit_nl | exact kit_il | exact kit_sl | exact absurd (show false = true from h) Bool.false_ne_true
theorem get_map {α β : Type} {l : List α} {g : α → β} {i : Nat} {x : α} (h : l[i]? = some x) : (l.map g)[i]? = some (g x) := by rw [List.getElem?_map, h]; rfl
theorem isNon_oC (o : Option (List Int)) : isNon (oC o) = !o.isSome := by cases o <;> rfl
/-- good clauses -/
def Gds (cs : List (List Int)) : Prop := cs.length ≤ 50000 ∧ ∃ m, m ≤ 5 ∧ ∀ c ∈ cs, Mi.Gd m c
section
variable {P : Program} {w : World} {K : PySem.W.Frag} {mg : Str → Option Value} {base : Heap} {f : Addr} {fd : FuncData}
/- chain_clause: slots ahead 0, line 1, found 2, pair 3; cells [] -/
abbrev s_chain_clause : Stmt := topS 8
abbrev n_chain_clause : List Str := ["ahead", "line", "found", "pair"]
abbrev p_chain_clause : List Str := ["ahead", "line"]
theorem sc_chain_clause : FnScope n_chain_clause p_chain_clause (defScope s_chain_clause) := ⟨rfl, rfl, rfl, by decide +kernel, rfl, by decide +kernel, by decide +kernel⟩
def fChain : List PyData → Kd → PyData → Prop := fun ds k d => ∃ (ah : List (List Int)) (n : Nat) (ss : List (Nat × Nat)), ds = [.list (ah.map encC), encL (.chain n ss)] ∧ Gds ah ∧ k = .im ∧ d = oC (Mi.lineC [] ah (.chain n ss))
theorem ok_chain_clause (b : Bl mg) (c_is_count : Cal P w K mg base 1 "is_count" p_is_count (SpF K fIsCount)) (c_resolvent : Cal P w K mg base 65 "resolvent" p_resolvent (SpF K fResolvent))
    (F : Fun K "chain_clause" "chain_clause" s_chain_clause f fd) : FnOk P w K mg base L2.CX0 66 f fd p_chain_clause (SpF K fChain) := by
  refine fn_pure F sc_chain_clause (fun ds k d h => by obtain ⟨_, _, _, rfl, _⟩ := h; rfl) fun cdv A outer s H E hr ds k d h => ?_
  obtain ⟨ah, n, ss, rfl, hg, rfl, rfl⟩ := h
  obtain ⟨hl, m, hm, hg⟩ := hg
  refine ⟨_, (pss_cons (ps_if (PW.pt (pw_or (pt_cmpR op_ne (pe_callB call_len_seq rfl b.len_ (by decide +kernel) (pa_cons (pv 1) pa_nil)) pe_int (nomark _)) (pw_or (pt_not (pt_val (pe_def c_is_count hr (pa_cons (pe_ix (ix_tupK K rfl) (pv 1) pe_int (fun _ _ => rfl)) pa_nil)))) (pw_or1 (pt_cmpR op_ge (pe_ix (ix_tupK K rfl) (pv 1) pe_int (fun _ _ => rfl)) (pe_callB call_len_seq rfl b.len_ (by decide +kernel) (pa_cons (pv 0) pa_nil)) (nomark _))))))
(pss_one (ps_ret pe_non))
pss_nil)
(pss_cons (ps_if (PW.pt (pw_or (pt_not (pt_val (pe_callB call_isi rfl b.isinstance_ (by decide +kernel) (pa_cons (pe_ix (ix_tupK K rfl) (pv 1) pe_int (fun _ _ => rfl)) (pa_cons (pe_bltn (v := .ty "tuple") rfl b.tuple_ (by decide +kernel) rfl) pa_nil))))) (pw_or1 (pt_cmpR op_eq (pe_callB call_len_seq rfl b.len_ (by decide +kernel) (pa_cons (pe_ix (ix_tupK K rfl) (pv 1) pe_int (fun _ _ => rfl)) pa_nil)) pe_int (nomark _)))))
(pss_one (ps_ret pe_non))
pss_nil)
(pss_cons (ps_set (i := 2) sc_chain_clause.nd rfl (Or.inl rfl) (pe_ix (ix_listK K rfl) (pv 0) (pe_ix (ix_tupK K rfl) (pv 1) pe_int (fun _ _ => rfl)) (fun _ _ => rfl)))
(pss_cons (ps_for PassesOwn.never rfl (pi_tup (pe_ix (ix_tupK K rfl) (pv 1) pe_int (fun _ _ => rfl))) (pg_name (i := 3) sc_chain_clause.nd rfl (Or.inl rfl))
(pss_cons (ps_if (PW.pt (pw_or (pt_not (pt_val (pe_callB call_isi rfl b.isinstance_ (by decide +kernel) (pa_cons (pv 3) (pa_cons (pe_bltn (v := .ty "tuple") rfl b.tuple_ (by decide +kernel) rfl) pa_nil))))) (pw_or (pt_cmpR op_ne (pe_callB call_len_seq rfl b.len_ (by decide +kernel) (pa_cons (pv 3) pa_nil)) pe_int (nomark _)) (pw_or (pt_not (pt_val (pe_def c_is_count hr (pa_cons (pe_ix (ix_tupK K rfl) (pv 3) pe_int (fun _ _ => rfl)) pa_nil)))) (pw_or1 (pt_not (pt_val (pe_def c_is_count hr (pa_cons (pe_ix (ix_tupK K rfl) (pv 3) pe_int (fun _ _ => rfl)) pa_nil)))))))))
(pss_one (ps_ret pe_non))
pss_nil)
(pss_cons (ps_if (PW.pt (pw_or (pt_cmpR op_eq (pe_ix (ix_tupK K rfl) (pv 3) pe_int (fun _ _ => rfl)) pe_int (nomark _)) (pw_or1 (pt_cmpR op_ge (pe_ix (ix_tupK K rfl) (pv 3) pe_int (fun _ _ => rfl)) (pe_callB call_len_seq rfl b.len_ (by decide +kernel) (pa_cons (pv 0) pa_nil)) (nomark _)))))
(pss_one (ps_ret pe_non))
pss_nil)
(pss_cons (ps_set (i := 2) sc_chain_clause.nd rfl (Or.inl rfl) (pe_def c_resolvent hr (pa_cons (pv 2) (pa_cons (pe_ix (ix_listK K rfl) (pv 0) (pe_ix (ix_tupK K rfl) (pv 3) pe_int (fun _ _ => rfl)) (fun _ _ => rfl)) (pa_cons (pe_ix (ix_tupK K rfl) (pv 3) pe_int (fun _ _ => rfl)) pa_nil)))))
(pss_one (ps_if (pt_cmpR op_isN (pv 2) pe_non (nomark _))
(pss_one (ps_ret pe_non))
pss_nil))))))
(pss_one (ps_ret (pv 2))))))), [.ro (.list (ah.map encC)), .im (encL (.chain n ss))], 2, .cons (.ro _) (.cons (.tup _) .nil), rfl, ?_⟩
  have cI : ∀ i : Nat, fIsCount [.int (i : Int)] .im (.bool (decide ((0 : Int) ≤ (i : Int)))) := fun i => ⟨_, rfl, rfl, rfl⟩
  have lA : ∀ {Γ : List En}, Γ[0]? = some (.ro (.list (ah.map encC))) → Ev K none .im (tCB (rLen1 K) (tCons (tVar 0) tNil)) Γ 0 (Is (.int (ah.length : Int))) := fun h => Ev.to (ev_len (ev_ro h) (.inr rfl)) (by rw [List.length_map])
  refine ⟨0, ?_⟩
  refine p_when (et_or (et_test (ev_neI (ev_len (ev_im rfl) (.inl rfl)) ev_int)) fun _ => et_or (et_not (et_B (ev_def (ea_cons (ev_ixT (ev_im rfl) ev_int (j := 1) rfl rfl) ea_nil) (cI n)))) fun _ => et_test (ev_ge (ev_ixT (ev_im rfl) ev_int (j := 1) rfl rfl) (lA rfl))) (fun e => p_endRet ev_non ⟨rfl, ?_⟩) fun e => ?_
  · have e : (ah.length : Int) ≤ (n : Int) := by simpa using e
    have : ah[n]? = none := List.getElem?_eq_none (by omega)
    simp only [Mi.lineC, this]
    rfl
  have hn : n < ah.length := by
    have e : ¬ (ah.length : Int) ≤ (n : Int) := by simpa using e
    omega
  obtain ⟨c0, hc0⟩ : ∃ c0, ah[n]? = some c0 := ⟨ah[n], List.getElem?_eq_getElem hn⟩
  have eL : Mi.lineC [] ah (.chain n ss) = if ss = [] then none else Mi.steps ah c0 ss := by simp only [Mi.lineC, hc0]
  refine p_when (et_or (et_not (et_B (ev_isi (ev_ixT (ev_im rfl) ev_int (j := 2) rfl rfl) kit_tt))) fun _ => et_test (ev_eqI (ev_len (ev_ixT (ev_im rfl) ev_int (j := 2) rfl rfl) (.inl rfl)) ev_int)) (fun e => p_endRet ev_non ⟨rfl, ?_⟩) fun e => ?_
  · have e : ss = [] := by simpa using e
    rw [eL, if_pos e]
    rfl
  have hs : ss ≠ [] := by simpa using e
  rw [if_neg hs] at eL
  rw [eL]
  refine pq_set (ev_ixL (ev_ro rfl) (ev_ixT (ev_im rfl) ev_int (j := 1) rfl rfl) (j := n) rfl (get_map hc0)) (ln rfl) ?_
  refine p_seq (N1 := fun Γ' => ∃ c e, Γ' = [.ro (.list (ah.map encC)), .im (encL (.chain n ss)), .im (encC c), e] ∧ some c = Mi.steps ah c0 ss) (p_forT (α := Nat × Nat) (S := List Int) (l := ss) (enc := encP) (fun c e => [.ro (.list (ah.map encC)), .im (encL (.chain n ss)), .im (encC c), e]) (fun c r => Mi.Gd m c ∧ Mi.steps ah c r = Mi.steps ah c0 ss) (ev_ixT (ev_im rfl) ev_int (j := 2) rfl rfl) (s0 := c0) (e0 := .un) rfl ⟨hg _ (List.mem_of_getElem? hc0), rfl⟩ (fun _ _ _ => ⟨ln rfl, rfl⟩) ?_ (fun c e ⟨h1, h2⟩ => ⟨c, e, rfl, by rw [← h2]; rfl⟩)) ?_
  · rintro c ⟨v, k⟩ r ⟨hc, h2⟩
    refine p_when (et_or (et_not (et_B (ev_isi (ev_im rfl) kit_tt))) fun _ => et_or (et_test (ev_neI (ev_len (ev_im rfl) (.inl rfl)) ev_int)) fun _ => et_or (et_not (et_B (ev_def (ea_cons (ev_ixT (ev_im rfl) ev_int (j := 0) rfl rfl) ea_nil) (cI v)))) fun _ => et_not (et_B (ev_def (ea_cons (ev_ixT (ev_im rfl) ev_int (j := 1) rfl rfl) ea_nil) (cI k)))) (fun e => absurd e (by simp)) fun _ => ?_
    refine p_when (et_or (et_test (ev_eqI (ev_ixT (ev_im rfl) ev_int (j := 0) rfl rfl) ev_int)) fun _ => et_test (ev_ge (ev_ixT (ev_im rfl) ev_int (j := 1) rfl rfl) (lA rfl))) (fun e => p_endRet ev_non ⟨rfl, ?_⟩) fun e => ?_
    · rw [← h2]
      unfold Mi.steps
      by_cases hv : v = 0
      · rw [if_pos hv]
        rfl
      · have e : (ah.length : Int) ≤ (k : Int) := by
          have z : (v : Int) = 0 ∨ (ah.length : Int) ≤ (k : Int) := by simpa using e
          omega
        have : ah[k]? = none := List.getElem?_eq_none (by omega)
        rw [if_neg hv, this]
        rfl
    have e1 : v ≠ 0 ∧ k < ah.length := by
      have z : ¬ (v : Int) = 0 ∧ ¬ (ah.length : Int) ≤ (k : Int) := by simpa using e
      omega
    obtain ⟨c1, hc1⟩ : ∃ c1, ah[k]? = some c1 := ⟨ah[k], List.getElem?_eq_getElem e1.2⟩
    have hg1 := hg _ (List.mem_of_getElem? hc1)
    refine pq_set (ev_def (ea_cons (ev_im rfl) (ea_cons (ev_ixL (ev_ro rfl) (ev_ixT (ev_im rfl) ev_int (j := 1) rfl rfl) (j := k) rfl (get_map hc1)) (ea_cons (ev_ixT (ev_im rfl) ev_int (j := 0) rfl rfl) ea_nil))) ⟨c, c1, (v : Int), rfl, by have := hc.2; have := hg1.2; omega, rfl, rfl⟩) (ln rfl) ?_
    have es : Mi.steps ah c0 ss = match Mi.resv c c1 v with
      | none => none
      | some c' => Mi.steps ah c' r := by
      rw [← h2]
      conv => lhs; unfold Mi.steps
      rw [if_neg e1.1, hc1]
      try rfl
    refine p_if (et_test (ev_isN (ev_im rfl))) (fun e => p_ret ev_non ⟨rfl, ?_⟩) fun e => ?_
    · rw [isNon_oC] at e
      cases h : Mi.resv c c1 v with
      | none => rw [es, h]; rfl
      | some c' => rw [h] at e; exact absurd e (by simp)
    · rw [isNon_oC] at e
      cases h : Mi.resv c c1 v with
      | none => rw [h] at e; exact absurd e (by simp)
      | some c' =>
        rw [h] at es
        exact sg_next ⟨c', _, ⟨Mi.resv_gd hm hc hg1 h, es.symm⟩, rfl⟩
  · rintro _ ⟨c, e, rfl, h⟩
    rw [← h]
    exact p_ret (ev_im rfl) ⟨rfl, rfl⟩
/- line_clause: slots clauses 0, ahead 1, line 2; cells [] -/
abbrev s_line_clause : Stmt := topS 9
abbrev n_line_clause : List Str := ["clauses", "ahead", "line"]
abbrev p_line_clause : List Str := ["clauses", "ahead", "line"]
theorem sc_line_clause : FnScope n_line_clause p_line_clause (defScope s_line_clause) := ⟨rfl, rfl, rfl, by decide +kernel, rfl, by decide +kernel, by decide +kernel⟩
def fLine : List PyData → Kd → PyData → Prop := fun ds k d => ∃ (r : PyData) (cl ah : List (List Int)) (l : Line), ds = [r, .list (ah.map encC), encL l] ∧ Row r (cl.map encC) ∧ Gds ah ∧ k = .im ∧ d = oC (Mi.lineC cl ah l)
theorem ok_line_clause (b : Bl mg) (c_is_count : Cal P w K mg base 1 "is_count" p_is_count (SpF K fIsCount)) (c_chain_clause : Cal P w K mg base 66 "chain_clause" p_chain_clause (SpF K fChain))
    (F : Fun K "line_clause" "line_clause" s_line_clause f fd) : FnOk P w K mg base L2.CX0 67 f fd p_line_clause (SpF K fLine) := by
  refine fn_pure F sc_line_clause (fun ds k d h => by obtain ⟨_, _, _, _, rfl, _⟩ := h; rfl) fun cdv A outer s H E hr ds k d h => ?_
  obtain ⟨r, cl, ah, l, rfl, hR, hg, rfl, rfl⟩ := h
  have cI : ∀ i : Nat, fIsCount [.int (i : Int)] .im (.bool (decide ((0 : Int) ≤ (i : Int)))) := fun i => ⟨_, rfl, rfl, rfl⟩
  refine ⟨_, (pss_cons (ps_if (PW.pt (pw_or (pt_not (pt_val (pe_callB call_isi rfl b.isinstance_ (by decide +kernel) (pa_cons (pv 2) (pa_cons (pe_bltn (v := .ty "tuple") rfl b.tuple_ (by decide +kernel) rfl) pa_nil))))) (pw_or1 (pt_cmpR op_eq (pe_callB call_len_seq rfl b.len_ (by decide +kernel) (pa_cons (pv 2) pa_nil)) pe_int (nomark _)))))
(pss_one (ps_ret pe_non))
pss_nil)
(pss_cons (ps_if (PW.pt (pw_and (pt_cmpR op_eq (pe_ix (ix_tupK K rfl) (pv 2) pe_int (fun _ _ => rfl)) pe_str (nomark _)) (pw_and1 (pt_cmpR op_eq (pe_callB call_len_seq rfl b.len_ (by decide +kernel) (pa_cons (pv 2) pa_nil)) pe_int (nomark _)))))
(pss_one (ps_ret (pe_ifExp (PW.pt (pw_and (pt_val (pe_def c_is_count hr (pa_cons (pe_ix (ix_tupK K rfl) (pv 2) pe_int (fun _ _ => rfl)) pa_nil))) (pw_and1 (pt_cmpR op_lt (pe_ix (ix_tupK K rfl) (pv 2) pe_int (fun _ _ => rfl)) (pe_callB call_len_seq rfl b.len_ (by decide +kernel) (pa_cons (pv 0) pa_nil)) (nomark _))))) (pe_ix (ix_seqK K rfl) (pv 0) (pe_ix (ix_tupK K rfl) (pv 2) pe_int (fun _ _ => rfl)) (fun _ _ => rfl)) pe_non)))
pss_nil)
(pss_one (ps_ret (pe_ifExp (pt_cmpR op_eq (pe_ix (ix_tupK K rfl) (pv 2) pe_int (fun _ _ => rfl)) pe_str (nomark _)) (pe_def c_chain_clause hr (pa_cons (pv 1) (pa_cons (pv 2) pa_nil))) pe_non))))), [.ro r, .ro (.list (ah.map encC)), .im (encL l)], 0, .cons (.ro _) (.cons (.ro _) (.cons (by cases l with | given n => exact .tup _ | chain n ss => exact .tup _ | odd i => cases i <;> first | exact .non | exact .int _) .nil)), rfl, ?_⟩
  refine ⟨0, ?_⟩
  cases l with
  | odd i =>
    have hk : isS (encL (.odd i)) = true := by cases i <;> rfl
    refine p_when (et_or1 (et_not (et_B (ev_isi (ev_im rfl) (kit_sct hk))))) (fun e => p_endRet ev_non ⟨rfl, rfl⟩) fun e => absurd e (by decide)
  | given n =>
    refine p_when (et_or (et_not (et_B (ev_isi (ev_im rfl) kit_tt))) fun _ => et_test (ev_eqI (ev_len (ev_im rfl) (.inl rfl)) ev_int)) (fun e => absurd e (by simp)) fun _ => ?_
    refine p_when (et_and (et_test (ev_eqS (ev_ixT (ev_im rfl) ev_int (j := 0) rfl rfl) ev_str)) fun _ => et_test (ev_eqI (ev_len (ev_im rfl) (.inl rfl)) ev_int)) (fun _ => ?_) fun e => absurd e (by simp)
    refine p_endRet (d := oC (cl[n]?)) (evp_if (et_and (et_B (ev_def (ea_cons (ev_ixT (ev_im rfl) ev_int (j := 1) rfl rfl) ea_nil) (cI n))) fun _ => et_test (ev_lt (ev_ixT (ev_im rfl) ev_int (j := 1) rfl rfl) (ev_len (ev_ro rfl) hR))) (fun e => ?_) fun e => ?_) ⟨rfl, rfl⟩
    · have e : n < cl.length := by
        have z : (n : Int) < (cl.length : Int) := by simpa using e
        omega
      have hc : cl[n]? = some cl[n] := List.getElem?_eq_getElem e
      rw [hc]
      exact (ev_ixR (ev_ro rfl) hR (ev_ixT (ev_im rfl) ev_int (j := 1) rfl rfl) (j := n) rfl (get_map hc)).z
    · have e : cl.length ≤ n := by
        have z : (cl.length : Int) ≤ (n : Int) := by simpa using e
        omega
      rw [List.getElem?_eq_none e]
      exact ev_non
  | chain n ss =>
    refine p_when (et_or (et_not (et_B (ev_isi (ev_im rfl) kit_tt))) fun _ => et_test (ev_eqI (ev_len (ev_im rfl) (.inl rfl)) ev_int)) (fun e => absurd e (by simp)) fun _ => ?_
    refine p_when (et_and0 (ET.to (et_test (ev_eqS (ev_ixT (ev_im rfl) ev_int (j := 0) rfl rfl) ev_str)) (by decide))) (fun e => absurd e (by decide)) fun _ => ?_
    exact p_ret (d := oC (Mi.lineC cl ah (.chain n ss))) (evp_if (et_test (ev_eqS (ev_ixT (ev_im rfl) ev_int (j := 0) rfl rfl) ev_str)) (fun _ => (ev_def (ea_cons (ev_ro rfl) (ea_cons (ev_im rfl) ea_nil)) ⟨ah, n, ss, rfl, hg, rfl, rfl⟩).z) fun e => absurd e (by decide)) ⟨rfl, rfl⟩
end
end W26

set_option Elab.async false
set_option linter.all false
set_option maxRecDepth 100000
set_option maxHeartbeats 2000000
namespace W26
open PySem PySem.Spec PyProof.Rows L2 Lg
open Mi (Line)
/-- data of tuples and scalars, no deeper than n -/
def Flat : Nat → PyData → Prop
  | 0, d => isS d = true
  | n + 1, d => isS d = true ∨ ∃ ds, d = .tuple ds ∧ ds.length ≤ 100000 ∧ ∀ x ∈ ds, Flat n x
theorem map_id {ds : List PyData} : ds.map (fun x => x) = ds := List.map_id _
theorem ixN_nat {n i : Nat} (h : i < n) : ixN n (i : Int) = some i := by
  unfold ixN
  rw [if_pos (by omega), if_pos (by omega)]
  rfl
theorem ixN_last {n : Nat} (h : 0 < n) : ixN n (-1) = some (n - 1) := by
  unfold ixN
  rw [if_neg (by decide), if_pos (by omega)]
  congr 1
  omega
theorem encL_Par (l : Line) : Par (encL l) (.im (encL l)) := by
  cases l with
  | given n => exact .tup _
  | chain n ss => exact .tup _
  | odd i => cases i <;> first | exact .non | exact .int _
section
variable {P : Program} {w : World} {K : PySem.W.Frag} {mg : Str → Option Value} {base : Heap} {f : Addr} {fd : FuncData}
/- all_clauses: slots clauses 0, lines 1, found 2, line 3, clause 4; cells [] -/
abbrev s_all_clauses : Stmt := topS 10
abbrev n_all_clauses : List Str := ["clauses", "lines", "found", "line", "clause"]
abbrev p_all_clauses : List Str := ["clauses", "lines"]
theorem sc_all_clauses : FnScope n_all_clauses p_all_clauses (defScope s_all_clauses) := ⟨rfl, rfl, rfl, by decide +kernel, rfl, by decide +kernel, by decide +kernel⟩
def fAll : List PyData → Kd → PyData → Prop := fun ds k d => k = .im ∧ ∃ (r : PyData) (cl : List (List Int)), Row r (cl.map encC) ∧ Gds cl ∧
  ((∃ ls : List Line, ds = [r, .tuple (ls.map encL)] ∧ ls.length ≤ 50000 ∧ d = oCs (Mi.allC cl ls)) ∨ ∃ x, isS x = true ∧ ds = [r, x] ∧ d = .none)
theorem ok_all_clauses (b : Bl mg) (c_line_clause : Cal P w K mg base 67 "line_clause" p_line_clause (SpF K fLine))
    (F : Fun K "all_clauses" "all_clauses" s_all_clauses f fd) : FnOk P w K mg base L2.CX0 68 f fd p_all_clauses (SpF K fAll) := by
  refine fn_pure F sc_all_clauses (fun ds k d h => by obtain ⟨_, _, _, _, _, ⟨_, rfl, _⟩ | ⟨_, _, rfl, _⟩⟩ := h <;> rfl) fun cdv A outer s H E hr ds k d h => ?_
  obtain ⟨rfl, r, cl, hR, hg, ⟨ls, rfl, hl, rfl⟩ | ⟨x, hx, rfl, rfl⟩⟩ := h
  · refine ⟨_, (pss_cons (ps_if (pt_not (pt_val (pe_callB call_isi rfl b.isinstance_ (by decide +kernel) (pa_cons (pv 1) (pa_cons (pe_bltn (v := .ty "tuple") rfl b.tuple_ (by decide +kernel) rfl) pa_nil)))))
(pss_one (ps_ret pe_non))
pss_nil)
(pss_cons (ps_set (i := 2) sc_all_clauses.nd rfl (Or.inl rfl) (pe_lst pa_nil))
(pss_cons (ps_for PassesOwn.never rfl (pi_tup (pv 1)) (pg_name (i := 3) sc_all_clauses.nd rfl (Or.inl rfl))
(pss_cons (ps_set (i := 4) sc_all_clauses.nd rfl (Or.inl rfl) (pe_def c_line_clause hr (pa_cons (pv 0) (pa_cons (pv 2) (pa_cons (pv 3) pa_nil)))))
(pss_cons (ps_if (pt_cmpR op_isN (pv 4) pe_non (nomark _))
(pss_one (ps_ret pe_non))
pss_nil)
(pss_one (ps_expr (pe_bm PySem.F.plainAttrs_list PySem.F.slot_list_append PySem.F.type_list_append mt_append (pv 2) (pa_cons (pe_callTy call_tuple_of rfl b.tuple_ (by decide +kernel) (pa_cons (pv 4) pa_nil)) pa_nil)))))))
(pss_one (ps_ret (pe_callTy call_tuple_of rfl b.tuple_ (by decide +kernel) (pa_cons (pv 2) pa_nil))))))), [.ro r, .im (.tuple (ls.map encL))], 3, .cons (.ro _) (.cons (.tup _) .nil), rfl, ?_⟩
    refine ⟨0, ?_⟩
    refine p_when (et_not (et_B (ev_isi (ev_im rfl) kit_tt))) (fun e => absurd e (by decide)) fun _ => ?_
    refine pq_setN (ev_lst ea_nil) (ln rfl) ?_
    refine p_seq (N1 := fun Γ' => ∃ (acc : List (List Int)) (e4 e : En), Γ' = [.ro r, .im (.tuple (ls.map encL)), .own (acc.map encC), e, e4] ∧ some acc = Mi.allC cl ls) (p_forT (α := Line) (S := List (List Int) × En) (l := ls) (enc := encL) (fun s e => [.ro r, .im (.tuple (ls.map encL)), .own (s.1.map encC), e, s.2]) (fun s rest => Gds s.1 ∧ s.1.length + rest.length ≤ 50000 ∧ Mi.allF cl s.1 rest = Mi.allC cl ls) (ev_im rfl) (s0 := ([], .un)) (e0 := .un) rfl ⟨⟨Nat.zero_le _, 5, Nat.le_refl _, fun _ h => by simp at h⟩, by simpa using hl, rfl⟩ (fun _ _ _ => ⟨ln rfl, rfl⟩) ?_ (fun s e ⟨_, _, h2⟩ => ⟨s.1, s.2, e, rfl, by rw [← h2]; rfl⟩)) ?_
    · rintro ⟨acc, e4⟩ l rest ⟨hacc, hlen, h2⟩
      refine pq_set (ev_def (ea_cons (ev_ro rfl) (ea_cons (ev_own rfl) (ea_cons (ev_im rfl) ea_nil))) ⟨r, cl, acc, l, rfl, hR, hacc, rfl, rfl⟩) (ln rfl) ?_
      have es : Mi.allC cl ls = match Mi.lineC cl acc l with
        | none => none
        | some c => Mi.allF cl (acc ++ [c]) rest := by
        rw [← h2]
        rfl
      refine p_when (et_test (ev_isN (ev_im rfl))) (fun e => p_endRet ev_non ⟨rfl, ?_⟩) fun e => ?_
      · rw [isNon_oC] at e
        cases h : Mi.lineC cl acc l with
        | none => rw [es, h]; rfl
        | some c => rw [h] at e; exact absurd e (by simp)
      · rw [isNon_oC] at e
        cases h : Mi.lineC cl acc l with
        | none => rw [h] at e; exact absurd e (by simp)
        | some c =>
          rw [h] at es
          obtain ⟨hl1, m, hm, hg1⟩ := hacc
          obtain ⟨_, m', hm', hg'⟩ := hg
          have hw : ∀ {m1 : Nat} {c : List Int}, m1 ≤ 5 → Mi.Gd m1 c → Mi.Gd 5 c := fun h1 h2 => ⟨fun x hx => ⟨(h2.1 x hx).1, Nat.le_trans (h2.1 x hx).2 h1⟩, h2.2⟩
          have hlen : acc.length + (rest.length + 1) ≤ 50000 := hlen
          refine p_app rfl (ev_tuple (ev_im rfl) (.inl rfl)) (by rw [List.length_map]; omega) ⟨(acc ++ [c], _), _, ⟨⟨by rw [List.length_append]; show acc.length + 1 ≤ 50000; omega, 5, Nat.le_refl _, fun x hx => ?_⟩, by rw [List.length_append]; show acc.length + 1 + rest.length ≤ 50000; omega, es.symm⟩, by rw [List.map_append]; rfl⟩
          rcases List.mem_append.mp hx with hx | hx
          · exact hw hm (hg1 x hx)
          · rw [List.mem_singleton] at hx
            subst hx
            exact Mi.line_gd (Nat.le_refl 5) (fun c hc => hw hm' (hg' c hc)) (fun c hc => hw hm (hg1 c hc)) h
    · rintro _ ⟨acc, e4, e, rfl, h⟩
      rw [← h]
      exact p_ret (ev_tuple (ev_own rfl) (.inr rfl)) ⟨rfl, rfl⟩
  · refine ⟨_, (pss_cons (ps_if (pt_not (pt_val (pe_callB call_isi rfl b.isinstance_ (by decide +kernel) (pa_cons (pv 1) (pa_cons (pe_bltn (v := .ty "tuple") rfl b.tuple_ (by decide +kernel) rfl) pa_nil)))))
(pss_one (ps_ret pe_non))
pss_nil)
(pss_cons (ps_set (i := 2) sc_all_clauses.nd rfl (Or.inl rfl) (pe_lst pa_nil))
(pss_cons (ps_for PassesOwn.never rfl (pi_tup (pv 1)) (pg_name (i := 3) sc_all_clauses.nd rfl (Or.inl rfl))
(pss_cons (ps_set (i := 4) sc_all_clauses.nd rfl (Or.inl rfl) (pe_def c_line_clause hr (pa_cons (pv 0) (pa_cons (pv 2) (pa_cons (pv 3) pa_nil)))))
(pss_cons (ps_if (pt_cmpR op_isN (pv 4) pe_non (nomark _))
(pss_one (ps_ret pe_non))
pss_nil)
(pss_one (ps_expr (pe_bm PySem.F.plainAttrs_list PySem.F.slot_list_append PySem.F.type_list_append mt_append (pv 2) (pa_cons (pe_callTy call_tuple_of rfl b.tuple_ (by decide +kernel) (pa_cons (pv 4) pa_nil)) pa_nil)))))))
(pss_one (ps_ret (pe_callTy call_tuple_of rfl b.tuple_ (by decide +kernel) (pa_cons (pv 2) pa_nil))))))), [.ro r, .im x], 3, .cons (.ro _) (.cons (Par.sc hx) .nil), rfl, ?_⟩
    exact ⟨0, p_when (et_not (et_B (ev_isi (ev_im rfl) (kit_sct hx)))) (fun e => p_endRet ev_non ⟨rfl, rfl⟩) fun e => absurd e (by decide)⟩
/- as_rows: slots value 0, one 1; cells [] -/
abbrev s_as_rows : Stmt := topS 11
abbrev n_as_rows : List Str := ["value", "one"]
abbrev p_as_rows : List Str := ["value"]
theorem sc_as_rows : FnScope n_as_rows p_as_rows (defScope s_as_rows) := ⟨rfl, rfl, rfl, by decide +kernel, rfl, by decide +kernel, by decide +kernel⟩
def fRows : Nat → List PyData → Kd → PyData → Prop
  | 0, _, _, _ => False
  | n + 1, ds, k, d => Flat n d ∧ ds = [d] ∧ k = .im
theorem ok_as_rows (b : Bl mg) (F : Fun K "as_rows" "as_rows" s_as_rows f fd) (hm : mg "as_rows" = some (.ref f)) (hk : PySem.W.keepIn K (.ref f) = true) (hb : Binds K fd p_as_rows []) : ∀ n, FnOk P w K mg base L2.CX0 (n + 1) f fd p_as_rows (SpF K (fRows n))
  | 0 => fn_pure F sc_as_rows (fun _ _ _ h => h.elim) fun _ _ _ _ _ _ _ _ _ _ h => h.elim
  | n + 1 => by
    have c_as_rows : Cal P w K mg base (n + 1) "as_rows" p_as_rows (SpF K (fRows n)) := ⟨f, fd, ok_as_rows b F hm hk hb n, hm, hk, hb⟩
    have hj : n + 1 ≤ n + 1 := Nat.le_refl _
    refine fn_pure F sc_as_rows (fun ds k d h => by obtain ⟨_, rfl, _⟩ := h; rfl) fun cdv A outer s H E hr ds k d h => ?_
    obtain ⟨hF, rfl, rfl⟩ := h
    have hp : Par d (.im d) := by
      cases n with
      | zero => exact Par.sc hF
      | succ n =>
        rcases hF with h | ⟨ds, rfl, _⟩
        · exact Par.sc h
        · exact .tup _
    refine ⟨_, (pss_one (ps_ret (pe_ifExp (pt_val (pe_callB call_isiT rfl b.isinstance_ (by decide +kernel) (pa_cons (pv 0) (pa_cons (pe_tup (pa_cons (pe_bltn (v := .ty "tuple") rfl b.tuple_ (by decide +kernel) rfl) (pa_cons (pe_bltn (v := .ty "list") rfl b.list_ (by decide +kernel) rfl) pa_nil))) pa_nil)))) (pe_callTy call_tuple_of rfl b.tuple_ (by decide +kernel) (pa_cons (pe_lc (own := [("one", 1)]) (g := (gName 1)) (tt := tYes) rfl sc_as_rows.nd (pi_tup (pv 0)) (blkOk_by (own := [("one", 1)]) (N := n_as_rows) (sc := defScope s_as_rows) (by decide +kernel)) (fun _ _ _ _ _ => (pg_name (i := 1) sc_as_rows.nd rfl (Or.inl rfl))) (fun _ _ _ _ _ => pts_nil) (fun _ _ _ _ _ => (pe_def c_as_rows hr (pa_cons (pv 1) pa_nil) (hj := hj)))) pa_nil)) (pv 0)))), [.im d], 1, .cons hp .nil, rfl, ?_⟩
    refine ⟨0, ?_⟩
    have hS : isS d = true ∨ ∃ ds, d = .tuple ds ∧ ds.length ≤ 100000 ∧ ∃ n', n = n' + 1 ∧ ∀ x ∈ ds, Flat n' x := by
      cases n with
      | zero => exact .inl hF
      | succ n' =>
        rcases hF with h | ⟨ds, h1, h2, h3⟩
        · exact .inl h
        · exact .inr ⟨ds, h1, h2, n', rfl, h3⟩
    rcases hS with hS | ⟨ds, rfl, hl, n', rfl, hx⟩
    · exact p_ret (evp_if (et_B (ev_isi2 (ev_im rfl) (kit_sct hS) (kit_scl hS))) (fun e => absurd e (by decide)) fun _ => ev_im rfl) ⟨rfl, rfl⟩
    · refine p_ret (evp_if (et_B (ev_isi2 (ev_im rfl) kit_tt kit_tl)) (fun _ => (Ev.to (ev_tuple (ev_lcTd (l := ds) (enc := fun x => x) (g := fun x => x) (p := fun _ => true) (Ev.to (ev_im rfl) (by rw [map_id])) hl (by decide) (ln rfl) (fun _ _ _ => et_yes) fun i x hi _ => ev_def (ea_cons (ev_im rfl) ea_nil) ⟨hx x (List.mem_of_getElem? hi), rfl, rfl⟩) (.inr rfl)) (by rw [filt_all, map_id])).z) fun e => absurd e (by decide)) ⟨rfl, rfl⟩
/- asked_by: slots line 0, index 1, variable 2; cells [] -/
abbrev s_asked_by : Stmt := topS 14
abbrev n_asked_by : List Str := ["line", "index", "variable"]
abbrev p_asked_by : List Str := ["line"]
theorem sc_asked_by : FnScope n_asked_by p_asked_by (defScope s_asked_by) := ⟨rfl, rfl, rfl, by decide +kernel, rfl, by decide +kernel, by decide +kernel⟩
def fAsked : List PyData → Kd → PyData → Prop := fun ds k d => ∃ l : Line, (∀ i, l ≠ .odd i) ∧ (Mi.asked l).length ≤ 50000 ∧ ds = [encL l] ∧ k = .nw ∧ d = .list ((Mi.asked l).map fun (i : Nat) => .int (i : Int))
theorem ok_asked_by (b : Bl mg) (F : Fun K "asked_by" "asked_by" s_asked_by f fd) : FnOk P w K mg base L2.CX0 1 f fd p_asked_by (SpF K fAsked) := by
  refine fn_pure F sc_asked_by (fun ds k d h => by obtain ⟨_, _, _, rfl, _⟩ := h; rfl) fun cdv A outer s H E hr ds k d h => ?_
  obtain ⟨l, hl, hn, rfl, rfl, rfl⟩ := h
  refine ⟨_, (pss_one (ps_ret (pe_ifExp (pt_cmpR op_eq (pe_ix (ix_tupK K rfl) (pv 0) pe_int (fun _ _ => rfl)) pe_str (nomark _)) (pe_lst pa_nil) (pe_op op_cat (pe_lst (pa_cons (pe_ix (ix_tupK K rfl) (pv 0) pe_int (fun _ _ => rfl)) pa_nil)) (pe_lc (own := [("variable", 2), ("index", 1)]) (g := (gTup _ 2 (gCons (gName 2) (gCons (gName 1) gNil)))) (tt := tYes) rfl sc_asked_by.nd (pi_tup (pe_ix (ix_tupK K rfl) (pv 0) pe_int (fun _ _ => rfl))) (blkOk_by (own := [("variable", 2), ("index", 1)]) (N := n_asked_by) (sc := defScope s_asked_by) (by decide +kernel)) (fun _ _ _ _ _ => (pg_tup rfl (pgs_cons (pg_name (i := 2) sc_asked_by.nd rfl (Or.inl rfl)) (pgs_cons (pg_name (i := 1) sc_asked_by.nd rfl (Or.inl rfl)) pgs_nil)))) (fun _ _ _ _ _ => pts_nil) (fun _ _ _ _ _ => (pv 1))))))), [.im (encL l)], 2, .cons (encL_Par l) .nil, rfl, ?_⟩
  refine ⟨0, ?_⟩
  cases l with
  | odd i => exact absurd rfl (hl i)
  | given n => exact p_ret (evp_if (et_test (ev_eqS (ev_ixT (ev_im rfl) ev_int (j := 0) rfl rfl) ev_str)) (fun _ => (ev_lst ea_nil).z) fun e => absurd e (by decide)) ⟨rfl, rfl⟩
  | chain n ss =>
    have hn : (ss.map (·.2)).length + 1 ≤ 50000 := hn
    rw [List.length_map] at hn
    refine p_ret (evp_if (et_test (ev_eqS (ev_ixT (ev_im rfl) ev_int (j := 0) rfl rfl) ev_str)) (fun e => absurd e (by decide)) fun _ => (Ev.to (ev_cat (ev_lst (ei_cons (ev_ixT (ev_im rfl) ev_int (j := 1) rfl rfl) ea_nil)) (ev_lcT2d (xs := ss) (e1 := fun p => .int (p.1 : Int)) (e2 := fun p => .int (p.2 : Int)) (g := fun p => .int (p.2 : Int)) (p := fun _ => true) (ev_ixT (ev_im rfl) ev_int (j := 2) rfl rfl) (by omega) (by decide) (by decide) (ln rfl) (ln rfl) (fun _ _ _ => et_yes) fun i x _ _ => ev_im rfl) (by rw [filt_all, List.length_map]; show 1 + ss.length ≤ 100000; omega)) ?_).z) ⟨rfl, rfl⟩
    rw [filt_all]
    show PyData.list (_ :: _) = .list (_ :: _)
    rw [List.map_map]
    rfl
/- marked: slots lines 0, marks 1, k 2, index 3; cells [] -/
abbrev s_marked : Stmt := topS 15
abbrev n_marked : List Str := ["lines", "marks", "k", "index"]
abbrev p_marked : List Str := ["lines"]
theorem sc_marked : FnScope n_marked p_marked (defScope s_marked) := ⟨rfl, rfl, rfl, by decide +kernel, rfl, by decide +kernel, by decide +kernel⟩
def fMarked : List PyData → Kd → PyData → Prop := fun ds k d => ∃ ls : List Line, Mi.Ls ls ∧ ds = [.tuple (ls.map encL)] ∧ k = .nw ∧ d = .list ((Mi.marks ls).map .bool)
theorem set_bools {m : List Bool} {i : Nat} : (m.map PyData.bool).set i (.bool true) = (m.set i true).map PyData.bool := by rw [List.map_set]
theorem ok_marked (b : Bl mg) (c_asked_by : Cal P w K mg base 1 "asked_by" p_asked_by (SpF K fAsked)) (F : Fun K "marked" "marked" s_marked f fd) : FnOk P w K mg base L2.CX0 2 f fd p_marked (SpF K fMarked) := by
  refine fn_pure F sc_marked (fun ds k d h => by obtain ⟨_, _, rfl, _⟩ := h; rfl) fun cdv A outer s H E hr ds k d h => ?_
  obtain ⟨ls, ⟨h0, hl, hv⟩, rfl, rfl, rfl⟩ := h
  refine ⟨_, (pss_cons (ps_set (i := 1) sc_marked.nd rfl (Or.inl rfl) (pe_op op_rep (pe_lst (pa_cons pe_bl pa_nil)) (pe_callB call_len_seq rfl b.len_ (by decide +kernel) (pa_cons (pv 0) pa_nil))))
(pss_cons (ps_asg pe_bl (pg_sub (pv 1) (pe_un un_neg pe_int) set_list))
(pss_cons (ps_for PassesOwn.never rfl (pi_range3 rfl b.range_ (pa_cons (pe_op op_sub (pe_callB call_len_seq rfl b.len_ (by decide +kernel) (pa_cons (pv 0) pa_nil)) pe_int) (pa_cons (pe_un un_neg pe_int) (pa_cons (pe_un un_neg pe_int) pa_nil)))) (pg_name (i := 2) sc_marked.nd rfl (Or.inl rfl))
(pss_one (ps_if (pt_val (pe_ix (ix_listK K rfl) (pv 1) (pv 2) (fun _ _ => rfl)))
(pss_one (ps_for PassesOwn.never rfl (pi_list (pe_def c_asked_by hr (pa_cons (pe_ix (ix_tupK K rfl) (pv 0) (pv 2) (fun _ _ => rfl)) pa_nil))) (pg_name (i := 3) sc_marked.nd rfl (Or.inl rfl))
(pss_one (ps_asg pe_bl (pg_sub (pv 1) (pv 3) set_list)))))
pss_nil)))
(pss_one (ps_ret (pv 1)))))), [.im (.tuple (ls.map encL))], 3, .cons (.tup _) .nil, rfl, ?_⟩
  refine ⟨0, ?_⟩
  have lA : ∀ {Γ : List En}, Γ[0]? = some (.im (.tuple (ls.map encL))) → Ev K none .im (tCB (rLen1 K) (tCons (tVar 0) tNil)) Γ 0 (Is (.int (ls.length : Int))) := fun h => Ev.to (ev_len (ev_im h) (.inl rfl)) (by rw [List.length_map])
  refine pq_setN (ds := (List.replicate ls.length false).map .bool) (Ev.to (ev_rep (ev_lst (ei_cons ev_bl ea_nil)) (lA rfl) (by omega)) (by rw [List.map_replicate])) (ln rfl) ?_
  refine p_seq (N1 := fun Γ' => Γ' = [.im (.tuple (ls.map encL)), .own ((Mi.marksN ls 0).map .bool), .un, .un]) (p_put rfl ev_bl (ev_neg ev_int) (by rw [List.length_map, List.length_replicate]; exact ixN_last h0) (by rw [set_bools]; rfl)) ?_
  rintro _ rfl
  refine p_seq (N1 := fun Γ' => ∃ e2 e3, Γ' = [.im (.tuple (ls.map encL)), .own ((Mi.marks ls).map .bool), e2, e3]) (p_forD (n := ls.length) (S := List Bool × En) (fun s e => [.im (.tuple (ls.map encL)), .own (s.1.map .bool), e, s.2]) (fun s i => s.1 = Mi.marksN ls i) (ea_cons (ev_sub (lA rfl) ev_int) (ea_cons (ev_neg ev_int) (ea_cons (ev_neg ev_int) ea_nil))) (by omega) (s0 := (Mi.marksN ls 0, .un)) (e0 := .un) rfl rfl (fun _ _ _ => ⟨ln rfl, rfl⟩) ?_ (fun s e h => ⟨e, s.2, by rw [h]; rfl⟩)) ?_
  · rintro ⟨m, e3⟩ i hi h
    have h : m = Mi.marksN ls i := h
    have hm : m.length = ls.length := by rw [h]; exact Mi.marksN_len ls i
    have hk : ls.length - 1 - i < ls.length := by omega
    obtain ⟨l, hl1⟩ : ∃ l, ls[ls.length - 1 - i]? = some l := ⟨_, List.getElem?_eq_getElem hk⟩
    obtain ⟨bb, hb⟩ : ∃ bb, m[ls.length - 1 - i]? = some bb := ⟨_, List.getElem?_eq_getElem (by omega)⟩
    have es : Mi.marksN ls (i + 1) = if bb = true then Mi.setAll m (Mi.asked l) else m := by
      show Mi.markAt ls (Mi.marksN ls i) _ = _
      rw [← h]
      unfold Mi.markAt
      rw [hb, hl1]
      cases bb <;> rfl
    obtain ⟨v1, v2, v3⟩ := hv _ l hl1
    refine p_if (et_B (ev_ixL (ev_own rfl) (ev_im rfl) (j := ls.length - 1 - i) rfl (get_map hb))) (fun e => ?_) fun e => ?_
    · subst e
      rw [if_pos rfl] at es
      refine p_forN (α := Nat) (S := List Bool) (l := Mi.asked l) (enc := fun i => .int (i : Int)) (fun m e => [.im (.tuple (ls.map encL)), .own (m.map .bool), .im (.int ((ls.length - 1 - i : Nat) : Int)), e]) (fun m' r => m'.length = ls.length ∧ (∀ j ∈ r, j < ls.length) ∧ Mi.setAll m' r = Mi.marksN ls (i + 1)) (ev_def (ea_cons (ev_ixT (ev_im rfl) (ev_im rfl) (j := ls.length - 1 - i) rfl (get_map hl1)) ea_nil) ⟨l, v1, v3, rfl, rfl, rfl⟩) (s0 := m) (e0 := e3) rfl ⟨hm, fun j hj => by have := v2 j hj; omega, es.symm⟩ (fun _ _ _ => ⟨ln rfl, rfl⟩) ?_ (fun m' e ⟨_, _, h3⟩ => ⟨(m', e), _, h3, rfl⟩)
      rintro m' j r ⟨g1, g2, g3⟩
      exact p_put rfl ev_bl (ev_im rfl) (by rw [List.length_map]; exact ixN_nat (by rw [g1]; exact g2 j List.mem_cons_self)) ⟨m'.set j true, _, ⟨by rw [List.length_set]; exact g1, fun j hj => g2 j (List.mem_cons_of_mem _ hj), g3⟩, by rw [set_bools]; rfl⟩
    · subst e
      rw [if_neg (by decide)] at es
      exact sg_next ⟨(m, e3), _, es.symm, rfl⟩
  · rintro _ ⟨e2, e3, rfl⟩
    exact sg_retOwn rfl ⟨rfl, rfl⟩
end
end W26

set_option Elab.async false
set_option linter.all false
set_option maxRecDepth 100000
set_option maxHeartbeats 2000000
namespace W26
open PySem PySem.Spec PyProof.Rows L2 Lg
open Mi (Line)
def DocOk (cl : List (List Int)) (d : PyData) (o : Option (List (List Int))) : Prop :=
  (∃ ls : List Line, d = .tuple (ls.map encL) ∧ ls.length ≤ 50000 ∧ (∀ l ∈ ls, (Mi.asked l).length ≤ 50000) ∧ o = Mi.allC cl ls) ∨ (isS d = true ∧ o = none)
theorem flat_line {l : Line} (h : (Mi.asked l).length ≤ 50000) : Flat 3 (encL l) := by
  cases l with
  | given n => exact .inr ⟨_, rfl, by show 2 ≤ 100000; decide, fun x hx => by
      rcases List.mem_cons.mp hx with rfl | hx
      · exact .inl sk_given
      · rcases List.mem_cons.mp hx with rfl | hx
        · exact .inl rfl
        · cases hx⟩
  | chain f ss =>
    have h : (ss.map (·.2)).length + 1 ≤ 50000 := h
    rw [List.length_map] at h
    refine .inr ⟨_, rfl, by show 3 ≤ 100000; decide, fun x hx => ?_⟩
    rcases List.mem_cons.mp hx with rfl | hx
    · exact .inl sk_chain
    rcases List.mem_cons.mp hx with rfl | hx
    · exact .inl rfl
    rcases List.mem_cons.mp hx with rfl | hx
    · refine .inr ⟨_, rfl, by rw [List.length_map]; omega, fun x hx => ?_⟩
      obtain ⟨p, _, rfl⟩ := List.mem_map.mp hx
      refine .inr ⟨_, rfl, by show 2 ≤ 100000; decide, fun x hx => ?_⟩
      rcases List.mem_cons.mp hx with rfl | hx
      · rfl
      rcases List.mem_cons.mp hx with rfl | hx
      · rfl
      cases hx
    · cases hx
  | odd i =>
    cases i <;> exact .inl rfl
theorem DocOk.flat {cl : List (List Int)} {d : PyData} {o : Option (List (List Int))} (h : DocOk cl d o) : Flat 4 d := by
  rcases h with ⟨ls, rfl, h1, h2, _⟩ | ⟨h, _⟩
  · refine .inr ⟨_, rfl, by rw [List.length_map]; omega, fun x hx => ?_⟩
    obtain ⟨l, hl, rfl⟩ := List.mem_map.mp hx
    exact flat_line (h2 l hl)
  · exact .inl h
theorem DocOk.par {cl : List (List Int)} {d : PyData} {o : Option (List (List Int))} (h : DocOk cl d o) : Par d (.im d) := by
  rcases h with ⟨ls, rfl, _⟩ | ⟨h, _⟩
  · exact .tup _
  · exact Par.sc h
theorem DocOk.all {r : PyData} {cl : List (List Int)} {d : PyData} {o : Option (List (List Int))} (h : DocOk cl d o) (hR : Row r (cl.map encC)) (hg : Gds cl) : fAll [r, d] .im (oCs o) := by
  rcases h with ⟨ls, rfl, h1, _, rfl⟩ | ⟨h, rfl⟩
  · exact ⟨rfl, r, cl, hR, hg, .inl ⟨ls, rfl, h1, rfl⟩⟩
  · exact ⟨rfl, r, cl, hR, hg, .inr ⟨d, h, rfl, rfl⟩⟩
theorem isNon_oCs (o : Option (List (List Int))) : isNon (oCs o) = !o.isSome := by cases o <;> rfl
section
variable {P : Program} {w : World} {K : PySem.W.Frag} {mg : Str → Option Value} {base : Heap} {f : Addr} {fd : FuncData} {C fI : Addr}
/- line_clauses: slots clauses 0, lines 1, found 2; cells [] -/
abbrev s_line_clauses : Stmt := topS 12
abbrev n_line_clauses : List Str := ["clauses", "lines", "found"]
abbrev p_line_clauses : List Str := ["clauses", "lines"]
theorem sc_line_clauses : FnScope n_line_clauses p_line_clauses (defScope s_line_clauses) := ⟨rfl, rfl, rfl, by decide +kernel, rfl, by decide +kernel, by decide +kernel⟩
def fLcs : List PyData → Kd → PyData → Prop := fun ds k d => ∃ (r : PyData) (cl : List (List Int)) (x : PyData) (cs : List (List Int)), ds = [r, x] ∧ Row r (cl.map encC) ∧ Gds cl ∧ DocOk cl x (some cs) ∧ k = .im ∧ d = oCs (some cs)
def gLcs : List PyData → PyData → Prop := fun ds x => ∃ (r : PyData) (cl : List (List Int)), ds = [r, x] ∧ Row r (cl.map encC) ∧ Gds cl ∧ DocOk cl x none
theorem ok_line_clauses (b : Bl mg) (hT : PySem.BRX.Txt P K mg C fI) (c_all_clauses : Cal P w K mg base 68 "all_clauses" p_all_clauses (SpF K fAll)) (c_as_rows : Cal P w K mg base 6 "as_rows" p_as_rows (SpF K (fRows 5)))
    (F : Fun K "line_clauses" "line_clauses" s_line_clauses f fd) : FnOk P w K mg base (L2.CX P w) 69 f fd p_line_clauses (SpR K C fLcs gLcs) := by
  refine fn_exc F sc_line_clauses (fun ds k d h => by obtain ⟨_, _, _, _, rfl, _⟩ := h; rfl) (fun ds r h => by obtain ⟨_, _, rfl, _⟩ := h; rfl) fun cdv A outer s H E hr tk hx => ?_
  refine ⟨_, (pss_cons (ps_set (i := 2) sc_line_clauses.nd rfl (Or.inl rfl) (pe_def c_all_clauses hr (pa_cons (pv 0) (pa_cons (pe_def c_as_rows hr (pa_cons (pv 1) pa_nil)) pa_nil))))
(pss_cons (ps_if (pt_cmpR op_isN (pv 2) pe_non (nomark _))
(pss_one (ps_raiseBR rfl hT hr tk (pa_cons (pv 1) pa_nil)))
pss_nil)
(pss_one (ps_ret (pv 2))))), fun ds k d h => ?_, fun ds x h => ?_⟩
  · obtain ⟨r, cl, x, cs, rfl, hR, hg, hd, rfl, rfl⟩ := h
    refine ⟨[.ro r, .im x], 1, .cons (.ro _) (.cons hd.par .nil), rfl, 0, ?_⟩
    refine pq_set (ev_def (ea_cons (ev_ro rfl) (ea_cons (ev_def (k := .im) (ea_cons (ev_im rfl) ea_nil) ⟨hd.flat, rfl, rfl⟩) ea_nil)) (hd.all hR hg)) (ln rfl) ?_
    exact p_when (et_test (ev_isN (ev_im rfl))) (fun e => absurd (show false = true from e) Bool.false_ne_true) fun _ => p_ret (ev_im rfl) ⟨rfl, rfl⟩
  · obtain ⟨r, cl, rfl, hR, hg, hd⟩ := h
    refine ⟨[.ro r, .im x], 1, .cons (.ro _) (.cons hd.par .nil), rfl, ?_⟩
    refine x_set (ev_def (ea_cons (ev_ro rfl) (ea_cons (ev_def (k := .im) (ea_cons (ev_im rfl) ea_nil) ⟨hd.flat, rfl, rfl⟩) ea_nil)) (hd.all hR hg)) (ln rfl) ?_
    exact x_when (ET.to (et_test (ev_isN (ev_im rfl))) rfl) (x_raise rfl)
/- some_lines: slots clauses 0, lines 1; cells [] -/
abbrev s_some_lines : Stmt := topS 16
abbrev n_some_lines : List Str := ["clauses", "lines"]
abbrev p_some_lines : List Str := ["clauses", "lines"]
theorem sc_some_lines : FnScope n_some_lines p_some_lines (defScope s_some_lines) := ⟨rfl, rfl, rfl, by decide +kernel, rfl, by decide +kernel, by decide +kernel⟩
def fSome : List PyData → Kd → PyData → Prop := fun ds k d => ∃ (r : PyData) (cl : List (List Int)) (cs : List (List Int)), ds = [r, d] ∧ Row r (cl.map encC) ∧ Gds cl ∧ DocOk cl d (some cs) ∧ cs ≠ [] ∧ k = .im
def gSome : List PyData → PyData → Prop := fun ds x => ∃ (r : PyData) (cl : List (List Int)), ds = [r, x] ∧ Row r (cl.map encC) ∧ Gds cl ∧ (DocOk cl x none ∨ DocOk cl x (some []))
theorem ok_some_lines (b : Bl mg) (hT : PySem.BRX.Txt P K mg C fI) (c_line_clauses : CalR P w K mg base 69 "line_clauses" p_line_clauses (SpR K C fLcs gLcs)) (c_as_rows : Cal P w K mg base 6 "as_rows" p_as_rows (SpF K (fRows 5)))
    (F : Fun K "some_lines" "some_lines" s_some_lines f fd) : FnOk P w K mg base (L2.CX P w) 70 f fd p_some_lines (SpR K C fSome gSome) := by
  refine fn_exc F sc_some_lines (fun ds k d h => by obtain ⟨_, _, _, rfl, _⟩ := h; rfl) (fun ds r h => by obtain ⟨_, _, rfl, _⟩ := h; rfl) fun cdv A outer s H E hr tk hx => ?_
  refine ⟨_, (pss_cons (ps_if (pt_cmpR op_eq (pe_callB call_len_seq rfl b.len_ (by decide +kernel) (pa_cons (pe_defR c_line_clauses hr hx (pa_cons (pv 0) (pa_cons (pv 1) pa_nil))) pa_nil)) pe_int (nomark _))
(pss_one (ps_raiseBR rfl hT hr tk (pa_cons (pv 1) pa_nil)))
pss_nil)
(pss_one (ps_ret (pe_def c_as_rows hr (pa_cons (pv 1) pa_nil))))), fun ds k d h => ?_, fun ds x h => ?_⟩
  · obtain ⟨r, cl, cs, rfl, hR, hg, hd, hn, rfl⟩ := h
    refine ⟨[.ro r, .im d], 0, .cons (.ro _) (.cons hd.par .nil), rfl, 0, ?_⟩
    refine p_when (et_test (ev_eqI (ev_len (ev_defR (k := .im) (ea_cons (ev_ro rfl) (ea_cons (ev_im rfl) ea_nil)) ⟨r, cl, d, cs, rfl, hR, hg, hd, rfl, rfl⟩) (.inl rfl)) ev_int)) (fun e => ?_) fun _ => p_ret (ev_def (k := .im) (ea_cons (ev_im rfl) ea_nil) ⟨hd.flat, rfl, rfl⟩) ⟨rfl, rfl⟩
    rw [List.length_map, decide_eq_true_eq] at e
    exact absurd (List.length_eq_zero_iff.mp (by omega)) hn
  · obtain ⟨r, cl, rfl, hR, hg, hd | hd⟩ := h
    · refine ⟨[.ro r, .im x], 0, .cons (.ro _) (.cons hd.par .nil), rfl, ?_⟩
      exact fun H0 P H σ B o hE D => evx_call (g := gLcs) (ea_cons (ev_ro rfl) (ea_cons (ev_im rfl) ea_nil)) ⟨r, cl, rfl, hR, hg, hd⟩ H0 P H σ B o hE _
    · refine ⟨[.ro r, .im x], 0, .cons (.ro _) (.cons hd.par .nil), rfl, ?_⟩
      exact x_when (ET.to (et_test (ev_eqI (ev_len (ev_defR (k := .im) (ea_cons (ev_ro rfl) (ea_cons (ev_im rfl) ea_nil)) ⟨r, cl, x, [], rfl, hR, hg, hd, rfl, rfl⟩) (.inl rfl)) ev_int)) rfl) (x_raise rfl)
/-- valid lines -/
structure Vl (r : PyData) (cl : List (List Int)) (ls : List Line) : Prop where
  row : Row r (cl.map encC)
  gd : Gds cl
  all : ∃ cs, Mi.allC cl ls = some cs
  lsv : Mi.Ls ls
  gv : (Mi.gvn (ls.zip (Mi.marks ls))).length < 64
theorem Vl.doc {r : PyData} {cl : List (List Int)} {ls : List Line} (v : Vl r cl ls) : ∃ cs, cs ≠ [] ∧ DocOk cl (.tuple (ls.map encL)) (some cs) := by
  obtain ⟨cs, h⟩ := v.all
  obtain ⟨h0, h1, h2⟩ := v.lsv
  refine ⟨cs, fun e => ?_, .inl ⟨ls, rfl, h1, fun l hl => ?_, h.symm⟩⟩
  · have := Mi.allF_len h
    rw [e] at this
    simp at this
    omega
  · obtain ⟨k, hk⟩ := List.getElem?_of_mem hl
    exact (h2 k l hk).2.2
/- roots_of: slots clauses 0, lines 1, rows 2, marks 3, line 4, mark 5; cells [] -/
abbrev s_roots_of : Stmt := topS 17
abbrev n_roots_of : List Str := ["clauses", "lines", "rows", "marks", "line", "mark"]
abbrev p_roots_of : List Str := ["clauses", "lines"]
theorem sc_roots_of : FnScope n_roots_of p_roots_of (defScope s_roots_of) := ⟨rfl, rfl, rfl, by decide +kernel, rfl, by decide +kernel, by decide +kernel⟩
def fRoots : List PyData → Kd → PyData → Prop := fun ds k d => ∃ (r : PyData) (cl : List (List Int)) (ls : List Line), Vl r cl ls ∧ ds = [r, .tuple (ls.map encL)] ∧ k = .im ∧ d = .tuple ((Mi.rootsL ls).map .int)
def isGv : Line → Bool
  | .given _ => true
  | _ => false
def gvN : Line → Int
  | .given n => (n : Int)
  | _ => 0
theorem gvn_filter : ∀ l : List (Line × Bool), ((l.filter fun p => p.2 && isGv p.1).map fun p => PyData.int (gvN p.1)) = ((Mi.gvn l).map Int.ofNat).map PyData.int
  | [] => rfl
  | (.given n, true) :: r => by
    have ih := gvn_filter r
    show PyData.int (n : Int) :: _ = PyData.int (Int.ofNat n) :: _
    rw [← ih]
    rfl
  | (.given n, false) :: r => gvn_filter r
  | (.chain f ss, true) :: r => gvn_filter r
  | (.chain f ss, false) :: r => gvn_filter r
  | (.odd i, true) :: r => gvn_filter r
  | (.odd i, false) :: r => gvn_filter r
theorem ok_roots_of (b : Bl mg) (c_some_lines : CalR P w K mg base 70 "some_lines" p_some_lines (SpR K C fSome gSome)) (c_marked : Cal P w K mg base 2 "marked" p_marked (SpF K fMarked))
    (F : Fun K "roots_of" "roots_of" s_roots_of f fd) : FnOk P w K mg base (L2.CX P w) 71 f fd p_roots_of (SpR K C fRoots gSome) := by
  refine fn_exc F sc_roots_of (fun ds k d h => by obtain ⟨_, _, _, _, rfl, _⟩ := h; rfl) (fun ds r h => by obtain ⟨_, _, rfl, _⟩ := h; rfl) fun cdv A outer s H E hr tk hx => ?_
  refine ⟨_, (pss_cons (ps_set (i := 2) sc_roots_of.nd rfl (Or.inl rfl) (pe_defR c_some_lines hr hx (pa_cons (pv 0) (pa_cons (pv 1) pa_nil))))
(pss_cons (ps_set (i := 3) sc_roots_of.nd rfl (Or.inl rfl) (pe_def c_marked hr (pa_cons (pv 2) pa_nil)))
(pss_one (ps_ret (pe_callTy call_tuple_of rfl b.tuple_ (by decide +kernel) (pa_cons (pe_callB (cr_sortedSet rfl) rfl b.sorted_ (by decide +kernel) (pa_cons (pe_callTy (Srt2.cr_setL rfl) rfl b.set_ (by decide +kernel) (pa_cons (pe_lc (own := [("line", 4), ("mark", 5)]) (g := (gTup _ 2 (gCons (gName 4) (gCons (gName 5) gNil)))) rfl sc_roots_of.nd (Zp.pi_zipM rfl b.zip_ (pa_cons (pv 2) (pa_cons (pv 3) pa_nil))) (blkOk_by (own := [("line", 4), ("mark", 5)]) (N := n_roots_of) (sc := defScope s_roots_of) (by decide +kernel)) (fun _ _ _ _ _ => (pg_tup rfl (pgs_cons (pg_name (i := 4) sc_roots_of.nd rfl (Or.inl rfl)) (pgs_cons (pg_name (i := 5) sc_roots_of.nd rfl (Or.inl rfl)) pgs_nil)))) (fun _ _ _ _ _ => (pts_one (PW.pt (pw_and (pt_val (pv 5)) (pw_and1 (pt_cmpR op_eq (pe_ix (ix_tupK K rfl) (pv 4) pe_int (fun _ _ => rfl)) pe_str (nomark _))))))) (fun _ _ _ _ _ => (pe_ix (ix_tupK K rfl) (pv 4) pe_int (fun _ _ => rfl)))) pa_nil)) pa_nil)) pa_nil)))))), fun ds k d h => ?_, fun ds x h => ?_⟩
  · obtain ⟨r, cl, ls, v, rfl, rfl, rfl⟩ := h
    obtain ⟨cs, hn, hd⟩ := v.doc
    refine ⟨[.ro r, .im (.tuple (ls.map encL))], 4, .cons (.ro _) (.cons (.tup _) .nil), rfl, 0, ?_⟩
    refine pq_set (ev_defR (f := fSome) (ea_cons (ev_ro rfl) (ea_cons (ev_im rfl) ea_nil)) ⟨r, cl, cs, rfl, v.row, v.gd, hd, hn, rfl⟩) (ln rfl) ?_
    refine pq_setN (ev_def (ea_cons (ev_im rfl) ea_nil) ⟨ls, v.lsv, rfl, rfl, rfl⟩) (ln rfl) ?_
    have hl := v.lsv.2.1
    refine p_ret (ev_tuple (ev_setSorted (Ev.to (ev_lcZd (ct := 0) (ce := 0) (xs := ls) (ys := Mi.marks ls) (e1 := encL) (e2 := .bool) (p := fun p => p.2 && isGv p.1) (g := fun p => .int (gvN p.1)) (ea_cons (ev_im rfl) (ea_cons (ev_own rfl) ea_nil)) (Mi.marks_len ls).symm (by omega) (by decide) (by decide) (ln rfl) (ln rfl) (fun i x y hx hy => ?_) fun i x y hx hy hp => ?_) (congrArg PyData.list (gvn_filter _))) (by rw [List.length_map]; exact v.gv)) (.inr rfl)) ⟨rfl, rfl⟩
    · have hv := (v.lsv.2.2 i x hx).1
      cases x with
      | odd i => exact absurd rfl (hv i)
      | given n => exact ET.z (ET.to (et_and (et_B (ev_im rfl)) fun _ => et_test (ev_eqS (ev_ixT (ev_im rfl) ev_int (j := 0) rfl rfl) ev_str)) (by cases y <;> first | rfl | decide))
      | chain n ss => exact ET.z (ET.to (et_and (et_B (ev_im rfl)) fun _ => et_test (ev_eqS (ev_ixT (ev_im rfl) ev_int (j := 0) rfl rfl) ev_str)) (by cases y <;> first | rfl | decide))
    · cases x with
      | given n => exact Ev.z (ev_ixT (ev_im rfl) ev_int (j := 1) rfl rfl)
      | chain n ss => exact absurd hp (by simp [isGv])
      | odd i => exact absurd hp (by simp [isGv])
  · obtain ⟨r, cl, rfl, hR, hg, hd⟩ := h
    have hp : Par x (.im x) := by rcases hd with hd | hd <;> exact hd.par
    refine ⟨[.ro r, .im x], 4, .cons (.ro _) (.cons hp .nil), rfl, ?_⟩
    exact fun H0 P H σ B o hE D => evx_call (g := gSome) (ea_cons (ev_ro rfl) (ea_cons (ev_im rfl) ea_nil)) ⟨r, cl, rfl, hR, hg, hd⟩ H0 P H σ B o hE _
end
end W26

set_option Elab.async false
set_option linter.all false
set_option maxRecDepth 100000
set_option maxHeartbeats 2000000
namespace W26
open PySem PySem.Spec PyProof.Rows L2 Lg
open Mi (Line)
/-! flat data -/
theorem canAll : ∀ {ds : List PyData} {n : Nat}, (∀ x ∈ ds, x.canLay0 = true ∧ x.depth ≤ n) → PyData.canLayAll0 ds = true ∧ PyData.depthAll ds ≤ n
  | [], n, _ => ⟨rfl, Nat.zero_le _⟩
  | x :: xs, n, h => by
    have h1 := h x List.mem_cons_self
    have h2 := canAll (ds := xs) fun y hy => h y (List.mem_cons_of_mem _ hy)
    simp only [PyData.canLayAll0, PyData.depthAll]
    rw [h1.1, h2.1]
    exact ⟨rfl, Nat.max_le.mpr ⟨h1.2, h2.2⟩⟩
theorem sc_can {d : PyData} (h : isS d = true) : d.canLay0 = true ∧ d.depth = 0 := by
  cases d with
  | none => exact ⟨by simp [PyData.canLay0], by simp [PyData.depth]⟩
  | int i => exact ⟨by simp [PyData.canLay0], by simp [PyData.depth]⟩
  | str x => exact ⟨by simp only [PyData.canLay0]; exact h, by simp [PyData.depth]⟩
  | bool x => exact absurd (show false = true from h) Bool.false_ne_true
  | list x => exact absurd (show false = true from h) Bool.false_ne_true
  | tuple x => exact absurd (show false = true from h) Bool.false_ne_true
  | dict x => exact absurd (show false = true from h) Bool.false_ne_true
theorem flat_can : ∀ {n : Nat} {d : PyData}, Flat n d → d.canLay0 = true ∧ d.depth ≤ n
  | 0, d, h => ⟨(sc_can h).1, by rw [(sc_can h).2]; exact Nat.le_refl _⟩
  | n + 1, d, h => by
    rcases h with h | ⟨ds, rfl, _, h⟩
    · exact ⟨(sc_can h).1, by rw [(sc_can h).2]; exact Nat.zero_le _⟩
    · have := canAll (ds := ds) fun x hx => flat_can (h x hx)
      simp only [PyData.canLay0, PyData.depth]
      exact ⟨this.1, by omega⟩
theorem flat_shaped {n : Nat} {d : PyData} (h : Flat n d) (hn : n ≤ 64 := by decide) : SeqAt.shaped d = true := by
  have := flat_can h
  unfold SeqAt.shaped
  rw [this.1, Bool.true_and, decide_eq_true_eq]
  omega
theorem flat_shapedL {n : Nat} {ds : List PyData} (h : ∀ x ∈ ds, Flat n x) (hn : n ≤ 63 := by decide) : SeqAt.shaped (.list ds) = true := by
  have := canAll (ds := ds) fun x hx => flat_can (h x hx)
  have e1 : (PyData.list ds).canLay0 = true := by simp only [PyData.canLay0]; exact this.1
  have e2 : (PyData.list ds).depth = PyData.depthAll ds + 1 := by simp only [PyData.depth]
  unfold SeqAt.shaped
  rw [e1, Bool.true_and, decide_eq_true_eq, e2]
  omega
theorem eqv_isG (l : Line) (n : Nat) (hl : ∀ i, l ≠ .odd i) : PyData.eqv (encL l) (encL (.given n)) = Mi.isG n l := by
  cases l with
  | odd i => exact absurd rfl (hl i)
  | given k =>
    show ((("given" : Str) == ("given" : Str)) && (((k : Int) == (n : Int)) && true)) = decide (k = n)
    rw [Bool.and_true, show (("given" : Str) == ("given" : Str)) = true from by decide, Bool.true_and]
    by_cases h : k = n
    · subst h; simp
    · rw [decide_eq_false h]
      have : (k : Int) ≠ (n : Int) := fun z => h (by omega)
      simpa using this
  | chain f ss =>
    show ((("chain" : Str) == ("given" : Str)) && PyData.eqvAll [.int (f : Int), .tuple (ss.map encP)] [.int (n : Int)]) = false
    rw [show (("chain" : Str) == ("given" : Str)) = false from by decide, Bool.false_and]
/-! dicts of naturals -/
def dcN (pl : List (Nat × Nat)) : List (Int × Int) := pl.map fun p => ((p.1 : Int), (p.2 : Int))
theorem dcN_get (pl : List (Nat × Nat)) (k : Nat) : getI (dcN pl) (k : Int) = (Mi.getN pl k).map fun x => (x : Int) := by
  unfold getI dcN Mi.getN
  rw [List.find?_map]
  have : ((fun kv : Int × Int => decide (kv.1 = (k : Int))) ∘ fun p : Nat × Nat => ((p.1 : Int), (p.2 : Int))) = fun p => decide (p.1 = k) := by
    funext p
    show decide ((p.1 : Int) = (k : Int)) = decide (p.1 = k)
    by_cases h : p.1 = k
    · rw [decide_eq_true h, decide_eq_true (by rw [h])]
    · rw [decide_eq_false h, decide_eq_false (by omega)]
  rw [this]
  cases pl.find? fun p => decide (p.1 = k) <;> rfl
theorem dcN_put {pl : List (Nat × Nat)} {k v : Nat} (h : Mi.getN pl k = none) : putI (dcN pl) (k : Int) (v : Int) = dcN (pl ++ [(k, v)]) := by
  unfold putI
  have e : (dcN pl).any (fun kv => decide (kv.1 = (k : Int))) = false := by
    rw [List.any_eq_false]
    intro p hp
    unfold dcN at hp
    obtain ⟨q, hq, rfl⟩ := List.mem_map.mp hp
    rw [decide_eq_true_eq]
    intro z
    have z : q.1 = k := by
      have : (q.1 : Int) = (k : Int) := z
      omega
    unfold Mi.getN at h
    rw [Option.map_eq_none_iff, List.find?_eq_none] at h
    exact absurd (decide_eq_true z) (h q hq)
  rw [e, if_neg Bool.false_ne_true]
  unfold dcN
  rw [List.map_append]
  rfl
theorem dcN_len (pl : List (Nat × Nat)) : (dcN pl).length = pl.length := List.length_map _
section
variable {P : Program} {w : World} {K : PySem.W.Frag} {mg : Str → Option Value} {base : Heap} {f : Addr} {fd : FuncData} {C fI : Addr}
/- drawn: slots clauses 0, lines 1, rows 2, found 3, places 4, firsts 5, marks 6, k 7, line 8, steps 9, variable 10, index 11; cells ['places'] -/
abbrev s_drawn : Stmt := topS 18
abbrev n_drawn : List Str := ["clauses", "lines", "rows", "found", "places", "firsts", "marks", "k", "line", "steps", "variable", "index"]
abbrev p_drawn : List Str := ["clauses", "lines"]
theorem sc_drawn : FnScope n_drawn p_drawn (defScope s_drawn) := ⟨rfl, rfl, rfl, by decide +kernel, rfl, by decide +kernel, by decide +kernel⟩
def fDrawn : List PyData → Kd → PyData → Prop := fun ds k d => ∃ (r : PyData) (cl : List (List Int)) (ls : List Line), Vl r cl ls ∧ ds = [r, .tuple (ls.map encL)] ∧ k = .im ∧ d = .tuple ((Mi.drawnL ls).map encL)
structure DJ (ls : List Line) (k : Nat) (rest found : List Line) (pl fi : List (Nat × Nat)) : Prop where
  go : Mi.dgo (Mi.marks ls) (found, pl) k rest = Mi.dgo (Mi.marks ls) ([], []) 0 ls
  kp : Mi.Kp (Mi.marks ls) k pl
  fis : ∀ n, Mi.getN fi n = Mi.gidx found n
  l1 : found.length ≤ k
  l2 : pl.length ≤ k
  l3 : fi.length ≤ k
  dr : rest = ls.drop k
theorem DJ.at {ls : List Line} {k : Nat} {x : Line} {rest found : List Line} {pl fi : List (Nat × Nat)} (j : DJ ls k (x :: rest) found pl fi) : ls[k]? = some x ∧ rest = ls.drop (k + 1) := by
  have h := j.dr
  have hk : ls[k]? = some x := by
    have z : (ls.drop k)[0]? = some x := by rw [← h]; rfl
    rw [List.getElem?_drop, Nat.add_zero] at z
    exact z
  refine ⟨hk, ?_⟩
  rw [drop_cons hk] at h
  exact (List.cons.inj h).2
theorem places_at {ls : List Line} (hv : Mi.Ls ls) {k : Nat} {x : Line} {pl : List (Nat × Nat)} (kp : Mi.Kp (Mi.marks ls) k pl) (hx : ls[k]? = some x) (hm : (Mi.marks ls)[k]? = some true) {i : Nat} (hi : i ∈ Mi.asked x) : i < k ∧ Mi.getN pl i = some (Mi.getD pl i) := by
  have h1 := (hv.2.2 k x hx).2.1 i hi
  have h2 := kp.1 i h1 (Mi.marks_closed hv hx hm hi)
  obtain ⟨y, hy⟩ := Option.isSome_iff_exists.mp h2
  exact ⟨h1, by unfold Mi.getD; rw [hy]; rfl⟩
theorem kp_new {ms : List Bool} {k : Nat} {pl : List (Nat × Nat)} (kp : Mi.Kp ms k pl) : Mi.getN pl k = none := by
  cases e : Mi.getN pl k with
  | none => rfl
  | some y => exact absurd (kp.2 k (by rw [e]; rfl)) (Nat.lt_irrefl _)
theorem ok_drawn (b : Bl mg) (c_some_lines : CalR P w K mg base 70 "some_lines" p_some_lines (SpR K C fSome gSome)) (c_marked : Cal P w K mg base 2 "marked" p_marked (SpF K fMarked))
    (F : Fun K "drawn" "drawn" s_drawn f fd) : FnOk P w K mg base (L2.CX P w) 71 f fd p_drawn (SpR K C fDrawn gSome) := by
  refine fn_exc F sc_drawn (fun ds k d h => by obtain ⟨_, _, _, _, rfl, _⟩ := h; rfl) (fun ds r h => by obtain ⟨_, _, rfl, _⟩ := h; rfl) fun cdv A outer s H E hr tk hx => ?_
  have hu64 := hr.units
  have hu : (A.deeper (envOfC "drawn" (defScope s_drawn) s.heap.objs.size f cdv)).units + 1 < cLine := by omega
  refine ⟨_, (pss_cons (ps_asg (pe_tup (pa_cons (pe_defR c_some_lines hr hx (pa_cons (pv 0) (pa_cons (pv 1) pa_nil))) (pa_cons (pe_lst pa_nil) (pa_cons pe_dnewK (pa_cons pe_dnewK pa_nil))))) (pg_tup rfl (pgs_cons (pg_name (i := 2) sc_drawn.nd rfl (Or.inl rfl)) (pgs_cons (pg_name (i := 3) sc_drawn.nd rfl (Or.inl rfl)) (pgs_cons (pg_name (i := 4) sc_drawn.nd rfl (Or.inr rfl)) (pgs_cons (pg_name (i := 5) sc_drawn.nd rfl (Or.inl rfl)) pgs_nil))))))
(pss_cons (ps_set (i := 6) sc_drawn.nd rfl (Or.inl rfl) (pe_def c_marked hr (pa_cons (pv 2) pa_nil)))
(pss_cons (ps_for (passes_of rfl) rfl (Zp.pi_enumT rfl b.enumerate_ (pa_cons (pv 2) pa_nil)) (pg_tup rfl (pgs_cons (pg_name (i := 7) sc_drawn.nd rfl (Or.inl rfl)) (pgs_cons (pg_name (i := 8) sc_drawn.nd rfl (Or.inl rfl)) pgs_nil)))
(pss_cons (ps_if (pt_not (pt_val (pe_ix (ix_listK K rfl) (pv 6) (pv 7) (fun _ _ => rfl))))
(pss_one ps_continue)
pss_nil)
(pss_cons (ps_if (PW.pt (pw_and (pt_cmpR op_eq (pe_ix (ix_tupK K rfl) (pv 8) pe_int (fun _ _ => rfl)) pe_str (nomark _)) (pw_and1 (pt_cmp (pc_din hu (pe_ix (ix_tupK K rfl) (pv 8) pe_int (fun _ _ => rfl)) (pv 5)) rfl))))
(pss_cons (ps_dput hu (pv 4) (pv 7) (pe_dget hu (pv 5) (pe_ix (ix_tupK K rfl) (pv 8) pe_int (fun _ _ => rfl)) (fun _ _ => rfl)) rfl)
(pss_one ps_continue))
pss_nil)
(pss_cons (ps_dput hu (pv 4) (pv 7) (pe_callB call_len_seq rfl b.len_ (by decide +kernel) (pa_cons (pv 3) pa_nil)) rfl)
(pss_one (ps_if (pt_cmpR op_eq (pe_ix (ix_tupK K rfl) (pv 8) pe_int (fun _ _ => rfl)) pe_str (nomark _))
(pss_cons (ps_dput hu (pv 5) (pe_ix (ix_tupK K rfl) (pv 8) pe_int (fun _ _ => rfl)) (pe_callB call_len_seq rfl b.len_ (by decide +kernel) (pa_cons (pv 3) pa_nil)) rfl)
(pss_one (ps_expr (pe_bm PySem.F.plainAttrs_list PySem.F.slot_list_append PySem.F.type_list_append mt_append (pv 3) (pa_cons (pv 8) pa_nil)))))
(pss_cons (ps_set (i := 9) sc_drawn.nd rfl (Or.inl rfl) (pe_callTy call_tuple_of rfl b.tuple_ (by decide +kernel) (pa_cons (pe_lc (own := [("variable", 10), ("index", 11)]) (g := (gTup _ 2 (gCons (gName 10) (gCons (gName 11) gNil)))) (tt := tYes) rfl sc_drawn.nd (pi_tup (pe_ix (ix_tupK K rfl) (pv 8) pe_int (fun _ _ => rfl))) (blkOk_by (own := [("variable", 10), ("index", 11)]) (N := n_drawn) (sc := defScope s_drawn) (by decide +kernel)) (fun _ _ _ _ _ => (pg_tup rfl (pgs_cons (pg_name (i := 10) sc_drawn.nd rfl (Or.inl rfl)) (pgs_cons (pg_name (i := 11) sc_drawn.nd rfl (Or.inl rfl)) pgs_nil)))) (fun _ _ _ _ _ => pts_nil) (fun _ _ _ _ _ => (pe_tup (pa_cons (pv 10) (pa_cons (pe_dget hu (pv 4) (pv 11) (fun _ _ => rfl)) pa_nil))))) pa_nil)))
(pss_one (ps_expr (pe_bm PySem.F.plainAttrs_list PySem.F.slot_list_append PySem.F.type_list_append mt_append (pv 3) (pa_cons (pe_tup (pa_cons pe_str (pa_cons (pe_dget hu (pv 4) (pe_ix (ix_tupK K rfl) (pv 8) pe_int (fun _ _ => rfl)) (fun _ _ => rfl)) (pa_cons (pv 9) pa_nil)))) pa_nil)))))))))))
(pss_one (ps_ret (pe_callTy call_tuple_of rfl b.tuple_ (by decide +kernel) (pa_cons (pv 3) pa_nil))))))), fun ds k d h => ?_, fun ds x h => ?_⟩
  · obtain ⟨r, cl, ls, v, rfl, rfl, rfl⟩ := h
    obtain ⟨cs, hn, hd⟩ := v.doc
    obtain ⟨h0, hl, hv⟩ := v.lsv
    refine ⟨[.ro r, .im (.tuple (ls.map encL))], 10, .cons (.ro _) (.cons (.tup _) .nil), rfl, 0, ?_⟩
    refine p_seq (N1 := fun Γ' => Γ' = [.ro r, .im (.tuple (ls.map encL)), .im (.tuple (ls.map encL)), .own [], .dc [], .dc [], .un, .un, .un, .un, .un, .un]) (Sg.z (sg_asg4 (ev_defR (f := fSome) (ea_cons (ev_ro rfl) (ea_cons (ev_im rfl) ea_nil)) ⟨r, cl, cs, rfl, v.row, v.gd, hd, hn, rfl⟩) (ln rfl) (ln rfl) (ln rfl) (ln rfl) rfl)) ?_
    rintro _ rfl
    refine pq_setN (ev_def (ea_cons (ev_im rfl) ea_nil) ⟨ls, v.lsv, rfl, rfl, rfl⟩) (ln rfl) ?_
    refine p_seq (N1 := fun Γ' => ∃ (pl fi : List (Nat × Nat)) (e7 e8 e9 : En), Γ' = [.ro r, .im (.tuple (ls.map encL)), .im (.tuple (ls.map encL)), .own ((Mi.drawnL ls).map encL), .dc (dcN pl), .dc (dcN fi), .own ((Mi.marks ls).map .bool), e7, e8, e9, .un, .un])
      (p_forE (α := Line) (S := List Line × List (Nat × Nat) × List (Nat × Nat) × En) (l := ls) (enc := encL)
        (fun s e7 e8 => [.ro r, .im (.tuple (ls.map encL)), .im (.tuple (ls.map encL)), .own (s.1.map encL), .dc (dcN s.2.1), .dc (dcN s.2.2.1), .own ((Mi.marks ls).map .bool), e7, e8, s.2.2.2, .un, .un])
        (fun s k rest => DJ ls k rest s.1 s.2.1 s.2.2.1) (ea_cons (ev_im rfl) ea_nil) (s0 := ([], [], [], .un)) (e0 := .un) (f0 := .un) rfl
        ⟨rfl, ⟨fun j hj => absurd hj (Nat.not_lt_zero _), fun j hj => by simp [Mi.getN] at hj⟩, fun n => rfl, Nat.le_refl _, Nat.le_refl _, Nat.le_refl _, rfl⟩ (fun _ _ _ _ _ => ⟨ln rfl, ln rfl, rfl⟩) ?_ (fun s e7 e8 j => ⟨s.2.1, s.2.2.1, e7, e8, s.2.2.2, by rw [show s.1 = Mi.drawnL ls from congrArg Prod.fst j.go]⟩)) ?_
    · rintro ⟨found, pl, fi, e9⟩ k x rest hk j
      have j : DJ ls k (x :: rest) found pl fi := j
      obtain ⟨hx1, hr1⟩ := j.at
      have hkl : k < ls.length := by omega
      obtain ⟨mb, hmb⟩ : ∃ mb, (Mi.marks ls)[k]? = some mb := ⟨_, List.getElem?_eq_getElem (by rw [Mi.marks_len]; exact hkl)⟩
      have hgo := j.go
      have hvx := (hv k x hx1).1
      refine p_when (et_not (et_B (ev_ixL (ev_own rfl) (ev_im rfl) (j := k) rfl (get_map hmb)))) (fun e => ?_) fun e => ?_
      · have hm : mb = false := by simpa using e
        subst hm
        refine p_endC ⟨(found, pl, fi, e9), _, _, ⟨?_, j.kp.skip (by rw [hmb]; simp), j.fis, Nat.le_succ_of_le j.l1, Nat.le_succ_of_le j.l2, Nat.le_succ_of_le j.l3, hr1⟩, rfl⟩
        rw [← hgo]
        show _ = Mi.dgo _ (if _ then _ else _) _ _
        rw [hmb, if_neg (by simp)]
      have hm : mb = true := by simpa using e
      subst hm
      have hgo : Mi.dgo (Mi.marks ls) (Mi.dstep (found, pl) k x) (k + 1) rest = Mi.dgo (Mi.marks ls) ([], []) 0 ls := by
        rw [← hgo]
        show _ = Mi.dgo _ (if _ then _ else _) _ _
        rw [hmb, if_pos rfl]
      have kp1 := Mi.Kp.step (s := (found, pl)) j.kp hvx
      have hnew := kp_new j.kp
      have lF : ∀ {Γ : List En}, Γ[3]? = some (.own (found.map encL)) → Ev K none .im (tCB (rLen1 K) (tCons (tVar 3) tNil)) Γ 0 (Is (.int (found.length : Int))) := fun h => Ev.to (ev_len (ev_own h) (.inr rfl)) (by rw [List.length_map])
      have hfl : (found.map encL).length < 100000 := by have := j.l1; rw [List.length_map]; omega
      have hpl : (dcN pl).length < 100000 := by have := j.l2; rw [dcN_len]; omega
      have hfi : (dcN fi).length < 100000 := by have := j.l3; rw [dcN_len]; omega
      cases x with
      | odd i => exact absurd rfl (hvx i)
      | given n =>
        cases hq : Mi.getN fi n with
        | some p =>
          have hst : Mi.dstep (found, pl) k (.given n) = (found, pl ++ [(k, p)]) := by
            have := j.fis n
            simp only [Mi.dstep, ← this, hq]
          rw [hst] at hgo kp1
          refine p_when (b := true) (ET.to (et_and (et_test (ev_eqS (ev_ixT (ev_im rfl) ev_int (j := 0) rfl rfl) ev_str)) fun _ => et_test (ev_din rfl (ev_ixT (ev_im rfl) ev_int (j := 1) rfl rfl))) (by rw [dcN_get, hq]; first | done | rfl | decide)) (fun _ => ?_) fun e => absurd e (by decide)
          refine p_end (p_seq (N1 := fun Γ' => Γ' = [.ro r, .im (.tuple (ls.map encL)), .im (.tuple (ls.map encL)), .own (found.map encL), .dc (dcN (pl ++ [(k, p)])), .dc (dcN fi), .own ((Mi.marks ls).map .bool), .im (.int (k : Nat)), .im (encL (.given n)), e9, .un, .un]) (p_dput rfl (ev_dget rfl (ev_ixT (ev_im rfl) ev_int (j := 1) rfl rfl) (by rw [dcN_get, hq]; rfl)) (ev_im rfl) hpl (by rw [dcN_put hnew]; rfl)) ?_)
          rintro _ rfl
          exact sg_cont ⟨(found, pl ++ [(k, p)], fi, e9), _, _, ⟨hgo, kp1, j.fis, Nat.le_succ_of_le j.l1, by rw [List.length_append]; exact Nat.succ_le_succ j.l2, Nat.le_succ_of_le j.l3, hr1⟩, rfl⟩
        | none =>
          have hst : Mi.dstep (found, pl) k (.given n) = (found ++ [.given n], pl ++ [(k, found.length)]) := by
            have := j.fis n
            simp only [Mi.dstep, ← this, hq]
          rw [hst] at hgo kp1
          refine p_when (b := false) (ET.to (et_and (et_test (ev_eqS (ev_ixT (ev_im rfl) ev_int (j := 0) rfl rfl) ev_str)) fun _ => et_test (ev_din rfl (ev_ixT (ev_im rfl) ev_int (j := 1) rfl rfl))) (by rw [dcN_get, hq]; first | done | rfl | decide)) (fun e => absurd e (by decide)) fun _ => ?_
          refine p_seq (N1 := fun Γ' => Γ' = [.ro r, .im (.tuple (ls.map encL)), .im (.tuple (ls.map encL)), .own (found.map encL), .dc (dcN (pl ++ [(k, found.length)])), .dc (dcN fi), .own ((Mi.marks ls).map .bool), .im (.int (k : Nat)), .im (encL (.given n)), e9, .un, .un]) (p_dput rfl (lF rfl) (ev_im rfl) hpl (by rw [dcN_put hnew]; rfl)) ?_
          rintro _ rfl
          refine p_if (et_test (ev_eqS (ev_ixT (ev_im rfl) ev_int (j := 0) rfl rfl) ev_str)) (fun _ => ?_) fun e => absurd e (by decide)
          refine p_seq (N1 := fun Γ' => Γ' = [.ro r, .im (.tuple (ls.map encL)), .im (.tuple (ls.map encL)), .own (found.map encL), .dc (dcN (pl ++ [(k, found.length)])), .dc (dcN (fi ++ [(n, found.length)])), .own ((Mi.marks ls).map .bool), .im (.int (k : Nat)), .im (encL (.given n)), e9, .un, .un]) (p_dput rfl (lF rfl) (ev_ixT (ev_im rfl) ev_int (j := 1) rfl rfl) hfi (by rw [dcN_put hq]; rfl)) ?_
          rintro _ rfl
          refine p_app rfl (ev_im rfl) hfl ⟨(found ++ [.given n], pl ++ [(k, found.length)], fi ++ [(n, found.length)], e9), _, _, ⟨hgo, kp1, fun z => ?_, by rw [List.length_append]; exact Nat.succ_le_succ j.l1, by rw [List.length_append]; exact Nat.succ_le_succ j.l2, by rw [List.length_append]; exact Nat.succ_le_succ j.l3, hr1⟩, by rw [List.map_append]; rfl⟩
          rw [Mi.getN_app, Mi.gidx_app, j.fis z]
          cases Mi.gidx found z with
          | some y => rfl
          | none =>
            show (if n = z then _ else _) = if decide (n = z) = true then _ else _
            by_cases hz : n = z <;> simp [hz]
      | chain n ss =>
        have hst : Mi.dstep (found, pl) k (.chain n ss) = (found ++ [.chain (Mi.getD pl n) (ss.map fun p => (p.1, Mi.getD pl p.2))], pl ++ [(k, found.length)]) := rfl
        rw [hst] at hgo kp1
        have hpa : ∀ i, i ∈ Mi.asked (.chain n ss) → getI (dcN (pl ++ [(k, found.length)])) (i : Int) = some ((Mi.getD pl i : Nat) : Int) := fun i hi => by
          obtain ⟨q1, q2⟩ := places_at v.lsv j.kp hx1 hmb hi
          rw [dcN_get, Mi.getN_old (by omega), q2]
          rfl
        have hss : ss.length ≤ 50000 := by
          have := (hv k _ hx1).2.2
          have : (ss.map (·.2)).length + 1 ≤ 50000 := this
          rw [List.length_map] at this
          omega
        refine p_when (et_and0 (ET.to (et_test (ev_eqS (ev_ixT (ev_im rfl) ev_int (j := 0) rfl rfl) ev_str)) (by decide))) (fun e => absurd e (by decide)) fun _ => ?_
        refine p_seq (N1 := fun Γ' => Γ' = [.ro r, .im (.tuple (ls.map encL)), .im (.tuple (ls.map encL)), .own (found.map encL), .dc (dcN (pl ++ [(k, found.length)])), .dc (dcN fi), .own ((Mi.marks ls).map .bool), .im (.int (k : Nat)), .im (encL (.chain n ss)), e9, .un, .un]) (p_dput rfl (lF rfl) (ev_im rfl) hpl (by rw [dcN_put hnew]; rfl)) ?_
        rintro _ rfl
        refine p_if (et_test (ev_eqS (ev_ixT (ev_im rfl) ev_int (j := 0) rfl rfl) ev_str)) (fun e => absurd e (by decide)) fun _ => ?_
        refine pq_set (d := .tuple ((ss.map fun p => (p.1, Mi.getD pl p.2)).map encP)) (ev_tuple (Ev.to (ev_lcT2d (xs := ss) (e1 := fun p => .int (p.1 : Int)) (e2 := fun p => .int (p.2 : Int)) (g := fun p => encP (p.1, Mi.getD pl p.2)) (p := fun _ => true) (ev_ixT (ev_im rfl) ev_int (j := 2) rfl rfl) (by omega) (by decide) (by decide) (ln rfl) (ln rfl) (fun _ _ _ => et_yes) fun i y hy _ => ev_tup (ei_cons (ev_im rfl) (ei_cons (ev_dget rfl (ev_im rfl) (hpa y.2 (List.mem_cons_of_mem _ (List.mem_map_of_mem (List.mem_of_getElem? hy))))) ea_nil))) (by rw [filt_all, List.map_map]; rfl)) (.inr rfl)) (ln rfl) ?_
        exact p_app rfl (ev_tup (ei_cons ev_str (ei_cons (ev_dget rfl (ev_ixT (ev_im rfl) ev_int (j := 1) rfl rfl) (hpa n List.mem_cons_self)) (ei_cons (ev_im rfl) ea_nil)))) hfl ⟨(found ++ [.chain (Mi.getD pl n) (ss.map fun p => (p.1, Mi.getD pl p.2))], pl ++ [(k, found.length)], fi, _), _, _, ⟨hgo, kp1, fun z => by
          rw [Mi.gidx_app, j.fis z]
          cases Mi.gidx found z <;> rfl, by rw [List.length_append]; exact Nat.succ_le_succ j.l1, by rw [List.length_append]; exact Nat.succ_le_succ j.l2, Nat.le_succ_of_le j.l3, hr1⟩, by rw [List.map_append]; rfl⟩
    · rintro _ ⟨pl, fi, e7, e8, e9, rfl⟩
      exact p_ret (ev_tuple (ev_own rfl) (.inr rfl)) ⟨rfl, rfl⟩
  · obtain ⟨r, cl, rfl, hR, hg, hd⟩ := h
    have hp : Par x (.im x) := by rcases hd with hd | hd <;> exact hd.par
    refine ⟨[.ro r, .im x], 10, .cons (.ro _) (.cons hp .nil), rfl, ?_⟩
    exact fun H0 P H σ B o hE D => evx_call (g := gSome) (ea_cons (ev_ro rfl) (ea_cons (ev_im rfl) ea_nil)) ⟨r, cl, rfl, hR, hg, hd⟩ H0 P H σ B o hE _
end
end W26

set_option Elab.async false
set_option linter.all false
set_option maxRecDepth 100000
set_option maxHeartbeats 2000000
namespace W26
open PySem PySem.Spec PyProof.Rows L2 Lg
open Mi (Line)
section
variable {P : Program} {w : World} {K : PySem.W.Frag} {mg : Str → Option Value} {base : Heap} {f : Addr} {fd : FuncData} {C fI : Addr}
/- is_refutation: slots clauses 0, lines 1, assumed 2, found 3, number 4; cells ['assumed'] -/
abbrev s_is_refutation : Stmt := topS 13
abbrev n_is_refutation : List Str := ["clauses", "lines", "assumed", "found", "number"]
abbrev p_is_refutation : List Str := ["clauses", "lines", "assumed"]
theorem sc_is_refutation : FnScope n_is_refutation p_is_refutation (defScope s_is_refutation) := ⟨rfl, rfl, rfl, by decide +kernel, rfl, by decide +kernel, by decide +kernel⟩
def fRef : List PyData → Kd → PyData → Prop := fun ds k d => ∃ (r : PyData) (cl : List (List Int)) (ls : List Line) (cs : List (List Int)) (c : List Int), Row r (cl.map encC) ∧ Gds cl ∧ Mi.allC cl ls = some (cs ++ [c]) ∧ c.length ≤ 11 ∧ ls.length ≤ 50000 ∧
  ds = [r, .tuple (ls.map encL), .tuple []] ∧ k = .im ∧ d = .bool (decide (c = []))
theorem ok_is_refutation (b : Bl mg) (c_all_clauses : Cal P w K mg base 68 "all_clauses" p_all_clauses (SpF K fAll)) {dvs : List V} {kws : List (Str × V)}
    (F : FunD K "is_refutation" "is_refutation" (defArgs s_is_refutation) (defBody s_is_refutation) (defScope s_is_refutation) dvs kws f fd) : FnOk P w K mg base L2.CX0 69 f fd p_is_refutation (SpF K fRef) := by
  refine fn_pureD F sc_is_refutation (fun ds k d h => by obtain ⟨_, _, _, _, _, _, _, _, _, _, rfl, _⟩ := h; rfl) fun cdv A outer s H E hr ds k d h => ?_
  obtain ⟨r, cl, ls, cs, c, hR, hg, hc, hc11, hl, rfl, rfl, rfl⟩ := h
  refine ⟨_, (pss_cons (ps_set (i := 3) sc_is_refutation.nd rfl (Or.inl rfl) (pe_def c_all_clauses hr (pa_cons (pv 0) (pa_cons (pv 1) pa_nil))))
(pss_cons (ps_if (PW.pt (pw_or (pt_cmpR op_isN (pv 3) pe_non (nomark _)) (pw_or1 (pt_cmpR op_eq (pe_callB call_len_seq rfl b.len_ (by decide +kernel) (pa_cons (pv 3) pa_nil)) pe_int (nomark _)))))
(pss_one (ps_ret pe_bl))
pss_nil)
(pss_one (ps_ret (pe_callB (cr_all rfl) rfl b.all_ (by decide +kernel) (pa_cons (pe_lc (own := [("number", 4)]) (g := (gName 4)) (tt := tYes) rfl sc_is_refutation.nd (pi_tup (pe_ix (ix_tupK K rfl) (pv 3) (pe_un un_neg pe_int) (fun _ _ => rfl))) (blkOk_by (own := [("number", 4)]) (N := n_is_refutation) (sc := defScope s_is_refutation) (by decide +kernel)) (fun _ _ _ _ _ => (pg_name (i := 4) sc_is_refutation.nd rfl (Or.inl rfl))) (fun _ _ _ _ _ => pts_nil) (fun _ _ _ _ _ => (pe_cmpR (op_inK K rfl) (pe_un un_neg (pv 4)) (pv 2) (by rfl)))) pa_nil)))))), [.ro r, .im (.tuple (ls.map encL)), .im (.tuple [])], 2, .cons (.ro _) (.cons (.tup _) (.cons (.tup _) .nil)), rfl, 0, ?_⟩
  have hA : fAll [r, .tuple (ls.map encL)] .im (.tuple ((cs ++ [c]).map encC)) := ⟨rfl, r, cl, hR, hg, .inl ⟨ls, rfl, hl, by rw [hc]; rfl⟩⟩
  refine pq_set (ev_def (ea_cons (ev_ro rfl) (ea_cons (ev_im rfl) ea_nil)) hA) (ln rfl) ?_
  refine p_when (b := false) (ET.to (et_or (et_test (ev_isN (ev_im rfl))) fun _ => et_test (ev_eqI (ev_len (ev_im rfl) (.inl rfl)) ev_int)) ?_) (fun e => absurd e (by decide)) fun _ => ?_
  · rw [List.length_map, List.length_append]
    show (false || decide (((cs.length + 1 : Nat) : Int) = 0)) = false
    rw [Bool.false_or, decide_eq_false_iff_not]
    omega
  · refine p_ret (Ev.to (ev_all (bs := c.map fun _ => false) (Ev.to (ev_lcTd (l := c) (enc := PyData.int) (g := fun _ => PyData.bool false) (p := fun _ => true) (ev_lastT (ev_im rfl) (ev_neg ev_int) (d := encC c) (by rw [List.map_append, List.length_append, List.map_cons, List.map_nil]; simp)) (by omega) (by decide) (ln rfl) (fun _ _ _ => et_yes) fun _ _ _ _ => ev_in (neg := false) (ds := []) (ev_neg (ev_im rfl)) (ev_im rfl) (.inl rfl) rfl rfl) (by rw [filt_all, List.map_map]; rfl))) ?_) ⟨rfl, rfl⟩
    cases c <;> rfl
/- _law_is_whole: slots _law_thing 0; cells [] -/
abbrev s_law_is_whole : Stmt := topS 23
abbrev n_law_is_whole : List Str := ["_law_thing"]
abbrev p_law_is_whole : List Str := ["_law_thing"]
theorem sc_law_is_whole : FnScope n_law_is_whole p_law_is_whole (defScope s_law_is_whole) := ⟨rfl, rfl, rfl, by decide +kernel, rfl, by decide +kernel, by decide +kernel⟩
theorem ok_law_is_whole (b : Bl mg) (F : Fun K "_law_is_whole" "_law_is_whole" s_law_is_whole f fd) : FnOk P w K mg base L2.CX0 1 f fd p_law_is_whole (SpF K fun ds k d => ∃ i : Int, ds = [.int i] ∧ k = .im ∧ d = .bool true) := by
  refine fn_pure F sc_law_is_whole (fun ds k d h => by obtain ⟨i, rfl, _⟩ := h; rfl) fun cdv A outer s H E hr ds k d h => ?_
  obtain ⟨i, rfl, rfl, rfl⟩ := h
  refine ⟨_, (pss_one (ps_ret (pe_and (pe_callB call_isi rfl b.isinstance_ (by decide +kernel) (pa_cons (pv 0) (pa_cons (pe_bltn (v := .ty "int") rfl b.int_ (by decide +kernel) rfl) pa_nil))) (pe_one (pe_not (pe_callB call_isi rfl b.isinstance_ (by decide +kernel) (pa_cons (pv 0) (pa_cons (pe_bltn (v := .ty "bool") rfl b.bool_ (by decide +kernel) rfl) pa_nil)))))))), [.im (.int i)], 0, .cons (.int i) .nil, rfl, 0, ?_⟩
  exact p_ret (ev_andV (ev_isi (ev_im rfl) kit_ii) fun _ => ev_notV (ev_isi (ev_im rfl) kit_ib)) ⟨rfl, rfl⟩
/- _law_is_index: slots _law_thing 0, _law_many 1; cells [] -/
abbrev s_law_is_index : Stmt := topS 31
abbrev n_law_is_index : List Str := ["_law_thing", "_law_many"]
abbrev p_law_is_index : List Str := ["_law_thing", "_law_many"]
theorem sc_law_is_index : FnScope n_law_is_index p_law_is_index (defScope s_law_is_index) := ⟨rfl, rfl, rfl, by decide +kernel, rfl, by decide +kernel, by decide +kernel⟩
def fIx : List PyData → Kd → PyData → Prop := fun ds k d => ∃ i n : Nat, i < n ∧ ds = [.int (i : Int), .int (n : Int)] ∧ k = .im ∧ d = .bool true
theorem ok_law_is_index (b : Bl mg) (c_law_is_whole : Cal P w K mg base 1 "_law_is_whole" p_law_is_whole (SpF K fun ds k d => ∃ i : Int, ds = [.int i] ∧ k = .im ∧ d = .bool true))
    (F : Fun K "_law_is_index" "_law_is_index" s_law_is_index f fd) : FnOk P w K mg base L2.CX0 2 f fd p_law_is_index (SpF K fIx) := by
  refine fn_pure F sc_law_is_index (fun ds k d h => by obtain ⟨i, _, _, rfl, _⟩ := h; rfl) fun cdv A outer s H E hr ds k d h => ?_
  obtain ⟨i, n, hi, rfl, rfl, rfl⟩ := h
  refine ⟨_, (pss_one (ps_ret (pe_and (pe_def c_law_is_whole hr (pa_cons (pv 0) pa_nil)) (pe_one (pe_chain op_le op_lt pe_int (pv 0) (pv 1)))))), [.im (.int (i : Int)), .im (.int (n : Int))], 0, .cons (.int _) (.cons (.int _) .nil), rfl, 0, ?_⟩
  refine p_ret (Ev.to (ev_andV (ev_def (k := .im) (ea_cons (ev_im rfl) ea_nil) ⟨_, rfl, rfl, rfl⟩) fun _ => ev_chain01 ev_int (ev_im rfl) (ev_im rfl)) ?_) ⟨rfl, rfl⟩
  have h1 : decide ((0 : Int) ≤ (i : Int)) = true := decide_eq_true (by omega)
  have h2 : decide ((i : Int) < (n : Int)) = true := decide_eq_true (by omega)
  rw [h1, h2]
  rfl
/- _law_sorted: slots _law_numbers 0; cells [] -/
abbrev s_law_sorted : Stmt := topS 28
abbrev n_law_sorted : List Str := ["_law_numbers"]
abbrev p_law_sorted : List Str := ["_law_numbers"]
theorem sc_law_sorted : FnScope n_law_sorted p_law_sorted (defScope s_law_sorted) := ⟨rfl, rfl, rfl, by decide +kernel, rfl, by decide +kernel, by decide +kernel⟩
def fSort : List PyData → Kd → PyData → Prop := fun ds k d => ∃ l : List Int, l.length < 64 ∧ ds = [.list (l.map .int)] ∧ k = .im ∧ d = .tuple ((Mi.sab (Mi.sst l)).map .int)
theorem ok_law_sorted (b : Bl mg) (F : Fun K "_law_sorted" "_law_sorted" s_law_sorted f fd) : FnOk P w K mg base L2.CX0 65 f fd p_law_sorted (SpF K fSort) := by
  refine fn_pure F sc_law_sorted (fun ds k d h => by obtain ⟨i, _, rfl, _⟩ := h; rfl) fun cdv A outer s H E hr ds k d h => ?_
  have hu64 := hr.units
  obtain ⟨l, hl, rfl, rfl, rfl⟩ := h
  refine ⟨_, (pss_one (ps_ret (pe_callTy call_tuple_of rfl b.tuple_ (by decide +kernel) (pa_cons (Srt2.pe_sab hu64 rfl b.sorted_ rfl b.abs_ (pa_cons (pe_callB (cr_sortedSet rfl) rfl b.sorted_ (by decide +kernel) (pa_cons (pe_callTy (Srt2.cr_setL rfl) rfl b.set_ (by decide +kernel) (pa_cons (pv 0) pa_nil)) pa_nil)) pa_nil)) pa_nil)))), [.ro (.list (l.map .int))], 0, .cons (.ro _) .nil, rfl, 0, ?_⟩
  exact p_ret (ev_tuple (ev_sab (ev_setSorted (ev_ro rfl) hl)) (.inr rfl)) ⟨rfl, rfl⟩
/- _law_resolved: slots _law_one 0, _law_two 1, _law_variable 2, _law_number 3, _law_left 4, _law_other 5; cells ['_law_left', '_law_number'] -/
abbrev s_law_resolved : Stmt := topS 29
abbrev n_law_resolved : List Str := ["_law_one", "_law_two", "_law_variable", "_law_number", "_law_left", "_law_other"]
abbrev p_law_resolved : List Str := ["_law_one", "_law_two", "_law_variable"]
theorem sc_law_resolved : FnScope n_law_resolved p_law_resolved (defScope s_law_resolved) := ⟨rfl, rfl, rfl, by decide +kernel, rfl, by decide +kernel, by decide +kernel⟩
theorem eqv_nil (xs : List PyData) : PyData.eqv (.list xs) (.list []) = xs.isEmpty := by cases xs <;> simp [PyData.eqv, PyData.eqvAll]
theorem ones_flat {α : Type} (l : List α) : SeqAt.shaped (.list (l.map fun _ => PyData.int 1)) = true := flat_shapedL (n := 0) fun x hx => by
  obtain ⟨_, _, rfl⟩ := List.mem_map.mp hx
  rfl
theorem nil_flat : SeqAt.shaped (.list []) = true := flat_shapedL (n := 0) fun x hx => by cases hx
theorem ok_law_resolved (b : Bl mg) (c_law_sorted : Cal P w K mg base 65 "_law_sorted" p_law_sorted (SpF K fSort))
    (F : Fun K "_law_resolved" "_law_resolved" s_law_resolved f fd) : FnOk P w K mg base L2.CX0 66 f fd p_law_resolved (SpF K fResolvent) := by
  refine fn_pure F sc_law_resolved (fun ds k d h => by obtain ⟨_, _, _, rfl, _⟩ := h; rfl) fun cdv A outer s H E hr ds k d h => ?_
  have hu64 : (A.deeper (envOfC "_law_resolved" (defScope s_law_resolved) s.heap.objs.size f cdv)).units + 64 < cLine := (hr.mono (show 64 ≤ 65 by decide)).units
  obtain ⟨x, y, v, rfl, hl, rfl, rfl⟩ := h
  refine ⟨_, (pss_cons (ps_for PassesOwn.never rfl (pi_list (pe_lst (pa_cons (pv 2) (pa_cons (pe_un un_neg (pv 2)) pa_nil)))) (pg_name (i := 3) sc_law_resolved.nd rfl (Or.inr rfl))
(pss_one (ps_if (PW.pt (pw_and (pt_cmpR (op_inK K rfl) (pv 3) (pv 0) (by rfl)) (pw_and1 (pt_cmpR (op_inK K rfl) (pe_un un_neg (pv 3)) (pv 1) (by rfl)))))
(pss_cons (ps_set (i := 4) sc_law_resolved.nd rfl (Or.inr rfl) (pe_op op_cat (pe_lc (own := [("_law_other", 5)]) (g := (gName 5)) rfl sc_law_resolved.nd (pi_tup (pv 0)) (blkOk_by (own := [("_law_other", 5)]) (N := n_law_resolved) (sc := defScope s_law_resolved) (by decide +kernel)) (fun _ _ _ _ _ => (pg_name (i := 5) sc_law_resolved.nd rfl (Or.inl rfl))) (fun _ _ _ _ _ => (pts_one (pt_cmpR op_ne (pv 5) (pv 3) (nomark _)))) (fun _ _ _ _ _ => (pv 5))) (pe_lc (own := [("_law_other", 5)]) (g := (gName 5)) rfl sc_law_resolved.nd (pi_tup (pv 1)) (blkOk_by (own := [("_law_other", 5)]) (N := n_law_resolved) (sc := defScope s_law_resolved) (by decide +kernel)) (fun _ _ _ _ _ => (pg_name (i := 5) sc_law_resolved.nd rfl (Or.inl rfl))) (fun _ _ _ _ _ => (pts_one (pt_cmpR op_ne (pv 5) (pe_un un_neg (pv 3)) (nomark _)))) (fun _ _ _ _ _ => (pv 5)))))
(pss_one (ps_ret (pe_ifExp (pt_cmpR (op_neD hu64) (pe_lc (own := [("_law_other", 5)]) (g := (gName 5)) rfl sc_law_resolved.nd (pi_list (pv 4)) (blkOk_by (own := [("_law_other", 5)]) (N := n_law_resolved) (sc := defScope s_law_resolved) (by decide +kernel)) (fun _ _ _ _ _ => (pg_name (i := 5) sc_law_resolved.nd rfl (Or.inl rfl))) (fun _ _ _ _ _ => (pts_one (pt_cmpR (op_inK K rfl) (pe_un un_neg (pv 5)) (pv 4) (by rfl)))) (fun _ _ _ _ _ => pe_int)) (pe_lst pa_nil) (nomark _)) pe_non (pe_def c_law_sorted hr (pa_cons (pv 4) pa_nil))))))
pss_nil)))
(pss_one (ps_ret pe_non))), [.im (.tuple (x.map .int)), .im (.tuple (y.map .int)), .im (.int v)], 3, .cons (.tup _) (.cons (.tup _) (.cons (.int v) .nil)), rfl, 0, ?_⟩
  refine p_seq (N1 := fun Γ' => Mi.resv x y v = none ∧ ∃ e, Γ' = [.im (.tuple (x.map .int)), .im (.tuple (y.map .int)), .im (.int v), e, .un, .un])
    (p_forN (α := Int) (S := Unit) (l := [v, -v]) (enc := PyData.int) (fun _ e => [.im (.tuple (x.map .int)), .im (.tuple (y.map .int)), .im (.int v), e, .un, .un])
      (fun _ r => r = [v, -v] ∨ (¬ (v ∈ x ∧ -v ∈ y) ∧ (r = [-v] ∨ (¬ (-v ∈ x ∧ v ∈ y) ∧ r = [])))) (ev_lst (ei_cons (ev_im rfl) (ei_cons (ev_neg (ev_im rfl)) ea_nil))) (s0 := ()) (e0 := .un) rfl (.inl rfl) (fun _ _ _ => ⟨ln rfl, rfl⟩) ?_ ?_) ?_
  · rintro _ u r hj
    have key : Mi.resv x y v = (if u ∈ x ∧ -u ∈ y then Mi.fin (x.filter (fun z => !decide (z = u)) ++ y.filter (fun z => !decide (z = -u))) else Mi.resv x y v) ∧ (¬ (u ∈ x ∧ -u ∈ y) → (r = [v, -v] ∨ (¬ (v ∈ x ∧ -v ∈ y) ∧ (r = [-v] ∨ (¬ (-v ∈ x ∧ v ∈ y) ∧ r = []))))) := by
      rcases hj with hj | ⟨h1, hj | ⟨_, hj⟩⟩
      · obtain ⟨rfl, rfl⟩ := List.cons.inj hj
        refine ⟨?_, fun h => .inr ⟨h, .inl rfl⟩⟩
        by_cases h : u ∈ x ∧ -u ∈ y
        · rw [if_pos h]
          unfold Mi.resv
          rw [if_pos h]
        · rw [if_neg h]
      · obtain ⟨rfl, rfl⟩ := List.cons.inj hj
        rw [Int.neg_neg]
        refine ⟨?_, fun h => .inr ⟨h1, .inr ⟨h, rfl⟩⟩⟩
        by_cases h : -v ∈ x ∧ v ∈ y
        · rw [if_pos h]
          unfold Mi.resv
          rw [if_neg h1, if_pos h]
        · rw [if_neg h]
      · cases hj
    obtain ⟨k1, k2⟩ := key
    refine p_if (et_and (et_test (ev_inI (ev_im rfl) (ev_im rfl) (.inl rfl))) fun _ => et_test (ev_inI (ev_neg (ev_im rfl)) (ev_im rfl) (.inl rfl))) (fun e => ?_) fun e => ?_
    · rw [Bool.and_eq_true, decide_eq_true_eq, decide_eq_true_eq] at e
      rw [if_pos e] at k1
      rw [k1]
      generalize hz : x.filter (fun z => !decide (z = u)) ++ y.filter (fun z => !decide (z = -u)) = q
      have f1 := List.length_filter_le (fun z => !decide (z = u)) x
      have f2 := List.length_filter_le (fun z => !decide (z = -u)) y
      have hq : q.length < 64 := by
        rw [← hz, List.length_append]
        omega
      refine pq_setN (ds := q.map .int) (Ev.to (ev_cat (ev_lcTd (enc := PyData.int) (g := PyData.int) (p := fun z => !decide (z = u)) (ev_im rfl) (by omega) (by decide) (ln rfl) (fun _ z _ => et_test (ev_neI (ev_im rfl) (ev_im rfl))) fun _ z _ _ => ev_im rfl) (ev_lcTd (enc := PyData.int) (g := PyData.int) (p := fun z => !decide (z = -u)) (ev_im rfl) (by omega) (by decide) (ln rfl) (fun _ z _ => et_test (ev_neI (ev_im rfl) (ev_neg (ev_im rfl)))) fun _ z _ _ => ev_im rfl) (by
        rw [List.length_map, List.length_map]
        omega)) (by rw [← hz, List.map_append])) (ln rfl) ?_
      refine p_ret (d := oC (Mi.fin q)) (evp_if (et_test (ev_neD (ev_lcLd (l := q) (enc := PyData.int) (g := fun _ => PyData.int 1) (p := fun n => decide (-n ∈ q)) (ev_own rfl) (by omega) (by decide) (ln rfl) (fun _ z _ => et_test (ev_inI (ev_neg (ev_im rfl)) (ev_own rfl) (.inr rfl))) fun _ z _ _ => ev_int) (ev_lst ea_nil) (ones_flat _) nil_flat)) (fun e => ?_) fun e => ?_) ⟨rfl, rfl⟩
      · rw [eqv_nil] at e
        have : q.any (fun n => decide (-n ∈ q)) = true := by
          rw [List.any_eq_true]
          cases hf : q.filter fun n => decide (-n ∈ q) with
          | nil => rw [hf] at e; exact absurd e (by decide)
          | cons a r2 =>
            have ha : a ∈ q.filter fun n => decide (-n ∈ q) := by rw [hf]; exact List.mem_cons_self
            exact ⟨a, (List.mem_filter.mp ha).1, (List.mem_filter.mp ha).2⟩
        unfold Mi.fin
        rw [if_pos this]
        exact ev_non
      · rw [eqv_nil] at e
        have : ¬ q.any (fun n => decide (-n ∈ q)) = true := by
          rw [List.any_eq_true]
          rintro ⟨a, ha, hb⟩
          have hm : a ∈ q.filter fun n => decide (-n ∈ q) := List.mem_filter.mpr ⟨ha, hb⟩
          cases hf : q.filter fun n => decide (-n ∈ q) with
          | nil => rw [hf] at hm; cases hm
          | cons a r2 => rw [hf] at e; exact absurd (show true = false from e) (by decide)
        unfold Mi.fin
        rw [if_neg this]
        exact (ev_def (k := .im) (ea_cons (ev_own rfl) ea_nil) ⟨q, hq, rfl, rfl, rfl⟩).z
    · rw [Bool.and_eq_false_iff, decide_eq_false_iff_not, decide_eq_false_iff_not] at e
      have e1 : ¬ (u ∈ x ∧ -u ∈ y) := fun z => e.elim (fun e => e z.1) fun e => e z.2
      exact sg_next ⟨(), _, k2 e1, rfl⟩
  · rintro _ e hj
    rcases hj with hj | ⟨h1, hj | ⟨h2, _⟩⟩
    · cases hj
    · cases hj
    · refine ⟨?_, e, rfl⟩
      unfold Mi.resv
      rw [if_neg h1, if_neg h2]
  · rintro _ ⟨h, e, rfl⟩
    rw [h]
    exact p_ret ev_non ⟨rfl, rfl⟩
end
end W26

set_option Elab.async false
set_option linter.all false
set_option maxRecDepth 100000
set_option maxHeartbeats 2000000
namespace W26
open PySem PySem.Spec PyProof.Rows L2 Lg
open Mi (Line)
section
variable {P : Program} {w : World} {K : PySem.W.Frag} {mg : Str → Option Value} {base : Heap} {f : Addr} {fd : FuncData} {C fI : Addr}
/- _law_line_of: slots _law_clauses 0, _law_ahead 1, _law_line 2, _law_found 3, _law_pair 4; cells [] -/
abbrev s_law_line_of : Stmt := topS 30
abbrev n_law_line_of : List Str := ["_law_clauses", "_law_ahead", "_law_line", "_law_found", "_law_pair"]
abbrev p_law_line_of : List Str := ["_law_clauses", "_law_ahead", "_law_line"]
theorem sc_law_line_of : FnScope n_law_line_of p_law_line_of (defScope s_law_line_of) := ⟨rfl, rfl, rfl, by decide +kernel, rfl, by decide +kernel, by decide +kernel⟩
def fLof : List PyData → Kd → PyData → Prop := fun ds k d => ∃ (r : PyData) (cl ah : List (List Int)) (l : Line) (c : List Int), Row r (cl.map encC) ∧ Gds ah ∧ (Mi.asked l).length ≤ 50000 ∧ Mi.lineC cl ah l = some c ∧
  ds = [r, .list (ah.map encC), encL l] ∧ k = .im ∧ d = encC c
abbrev SpWh (K : PySem.W.Frag) : Sp := SpF K fun ds k d => ∃ i : Int, ds = [.int i] ∧ k = .im ∧ d = .bool true
theorem ok_law_line_of (b : Bl mg) (c_law_is_whole : Cal P w K mg base 1 "_law_is_whole" p_law_is_whole (SpWh K)) (c_law_is_index : Cal P w K mg base 2 "_law_is_index" p_law_is_index (SpF K fIx)) (c_law_resolved : Cal P w K mg base 66 "_law_resolved" p_law_resolved (SpF K fResolvent))
    (F : Fun K "_law_line_of" "_law_line_of" s_law_line_of f fd) : FnOk P w K mg base L2.CX0 67 f fd p_law_line_of (SpF K fLof) := by
  refine fn_pure F sc_law_line_of (fun ds k d h => by obtain ⟨_, _, _, _, _, _, _, _, _, rfl, _⟩ := h; rfl) fun cdv A outer s H E hr ds k d h => ?_
  have hu64 : (A.deeper (envOfC "_law_line_of" (defScope s_law_line_of) s.heap.objs.size f cdv)).units + 64 < cLine := (hr.mono (show 64 ≤ 66 by decide)).units
  obtain ⟨r, cl, ah, l, c, hR, ⟨hl, m, hm, hg⟩, ha, hc, rfl, rfl, rfl⟩ := h
  refine ⟨_, (pss_cons (ps_if (PW.pt (pw_or (pt_not (pt_val (pe_callB call_isi rfl b.isinstance_ (by decide +kernel) (pa_cons (pv 2) (pa_cons (pe_bltn (v := .ty "tuple") rfl b.tuple_ (by decide +kernel) rfl) pa_nil))))) (pw_or (pt_cmpR op_eq (pe_callB call_len_seq rfl b.len_ (by decide +kernel) (pa_cons (pv 2) pa_nil)) pe_int (nomark _)) (pw_or1 (pt_cmpR (op_niK K rfl) (pe_ix (ix_tupK K rfl) (pv 2) pe_int (fun _ _ => rfl)) (pe_lst (pa_cons pe_str (pa_cons pe_str pa_nil))) (by rfl))))))
(pss_one (ps_ret pe_non))
pss_nil)
(pss_cons (ps_if (pt_not (pt_val (pe_def c_law_is_index hr (pa_cons (pe_ifExp (pt_cmpR op_gt (pe_callB call_len_seq rfl b.len_ (by decide +kernel) (pa_cons (pv 2) pa_nil)) pe_int (nomark _)) (pe_ix (ix_tupK K rfl) (pv 2) pe_int (fun _ _ => rfl)) pe_non) (pa_cons (pe_ifExp (pt_cmpR op_eq (pe_ix (ix_tupK K rfl) (pv 2) pe_int (fun _ _ => rfl)) pe_str (nomark _)) (pe_callB call_len_seq rfl b.len_ (by decide +kernel) (pa_cons (pv 0) pa_nil)) (pe_callB call_len_seq rfl b.len_ (by decide +kernel) (pa_cons (pv 1) pa_nil))) pa_nil)))))
(pss_one (ps_ret pe_non))
pss_nil)
(pss_cons (ps_if (pt_cmpR op_eq (pe_ix (ix_tupK K rfl) (pv 2) pe_int (fun _ _ => rfl)) pe_str (nomark _))
(pss_one (ps_ret (pe_ifExp (pt_cmpR op_eq (pe_callB call_len_seq rfl b.len_ (by decide +kernel) (pa_cons (pv 2) pa_nil)) pe_int (nomark _)) (pe_ix (ix_seqK K rfl) (pv 0) (pe_ix (ix_tupK K rfl) (pv 2) pe_int (fun _ _ => rfl)) (fun _ _ => rfl)) pe_non)))
pss_nil)
(pss_cons (ps_if (PW.pt (pw_or (pt_cmpR op_ne (pe_callB call_len_seq rfl b.len_ (by decide +kernel) (pa_cons (pv 2) pa_nil)) pe_int (nomark _)) (pw_or (pt_not (pt_val (pe_callB call_isi rfl b.isinstance_ (by decide +kernel) (pa_cons (pe_ix (ix_tupK K rfl) (pv 2) pe_int (fun _ _ => rfl)) (pa_cons (pe_bltn (v := .ty "tuple") rfl b.tuple_ (by decide +kernel) rfl) pa_nil))))) (pw_or1 (pt_cmpR (op_eqD hu64) (pe_ix (ix_tupK K rfl) (pv 2) pe_int (fun _ _ => rfl)) (pe_tup pa_nil) (nomark _))))))
(pss_one (ps_ret pe_non))
pss_nil)
(pss_cons (ps_set (i := 3) sc_law_line_of.nd rfl (Or.inl rfl) (pe_ix (ix_listK K rfl) (pv 1) (pe_ix (ix_tupK K rfl) (pv 2) pe_int (fun _ _ => rfl)) (fun _ _ => rfl)))
(pss_cons (ps_for PassesOwn.never rfl (pi_tup (pe_ix (ix_tupK K rfl) (pv 2) pe_int (fun _ _ => rfl))) (pg_name (i := 4) sc_law_line_of.nd rfl (Or.inl rfl))
(pss_cons (ps_if (PW.pt (pw_or (pt_not (pt_val (pe_callB call_isi rfl b.isinstance_ (by decide +kernel) (pa_cons (pv 4) (pa_cons (pe_bltn (v := .ty "tuple") rfl b.tuple_ (by decide +kernel) rfl) pa_nil))))) (pw_or (pt_cmpR op_ne (pe_callB call_len_seq rfl b.len_ (by decide +kernel) (pa_cons (pv 4) pa_nil)) pe_int (nomark _)) (pw_or (pt_not (pt_val (pe_def c_law_is_whole hr (pa_cons (pe_ix (ix_tupK K rfl) (pv 4) pe_int (fun _ _ => rfl)) pa_nil)))) (pw_or1 (pt_cmpR op_lt (pe_ix (ix_tupK K rfl) (pv 4) pe_int (fun _ _ => rfl)) pe_int (nomark _)))))))
(pss_one (ps_ret pe_non))
pss_nil)
(pss_cons (ps_if (pt_not (pt_val (pe_def c_law_is_index hr (pa_cons (pe_ix (ix_tupK K rfl) (pv 4) pe_int (fun _ _ => rfl)) (pa_cons (pe_callB call_len_seq rfl b.len_ (by decide +kernel) (pa_cons (pv 1) pa_nil)) pa_nil)))))
(pss_one (ps_ret pe_non))
pss_nil)
(pss_cons (ps_set (i := 3) sc_law_line_of.nd rfl (Or.inl rfl) (pe_def c_law_resolved hr (pa_cons (pv 3) (pa_cons (pe_ix (ix_listK K rfl) (pv 1) (pe_ix (ix_tupK K rfl) (pv 4) pe_int (fun _ _ => rfl)) (fun _ _ => rfl)) (pa_cons (pe_ix (ix_tupK K rfl) (pv 4) pe_int (fun _ _ => rfl)) pa_nil)))))
(pss_one (ps_if (pt_cmpR op_isN (pv 3) pe_non (nomark _))
(pss_one (ps_ret pe_non))
pss_nil))))))
(pss_one (ps_ret (pv 3))))))))), [.ro r, .ro (.list (ah.map encC)), .im (encL l)], 2, .cons (.ro _) (.cons (.ro _) (.cons (encL_Par l) .nil)), rfl, 0, ?_⟩
  have lA : ∀ {Γ : List En}, Γ[1]? = some (.ro (.list (ah.map encC))) → Ev K none .im (tCB (rLen1 K) (tCons (tVar 1) tNil)) Γ 0 (Is (.int (ah.length : Int))) := fun h => Ev.to (ev_len (ev_ro h) (.inr rfl)) (by rw [List.length_map])
  have lC : ∀ {Γ : List En}, Γ[0]? = some (.ro r) → Ev K none .im (tCB (rLen1 K) (tCons (tVar 0) tNil)) Γ 0 (Is (.int (cl.length : Int))) := fun h => Ev.to (ev_len (ev_ro h) hR) (by rw [List.length_map])
  cases l with
  | odd i => simp [Mi.lineC] at hc
  | given n =>
    have hc : cl[n]? = some c := hc
    have hn : n < cl.length := (List.getElem?_eq_some_iff.mp hc).1
    refine p_when (b := false) (ET.to (et_or (et_not (et_B (ev_isi (ev_im rfl) kit_tt))) fun _ => et_or (et_test (ev_eqI (ev_len (ev_im rfl) (.inl rfl)) ev_int)) fun _ => et_test (ev_in (neg := true) (ev_ixT (ev_im rfl) ev_int (j := 0) rfl rfl) (ev_lst (ei_cons ev_str (ei_cons ev_str ea_nil))) (.inr rfl) rfl rfl)) rfl) (fun e => absurd e (by decide)) fun _ => ?_
    refine p_when (et_not (et_B (ev_def (k := .im) (ea_cons (evp_if (et_test (ev_gt (ev_len (ev_im rfl) (.inl rfl)) ev_int)) (fun _ => (ev_ixT (ev_im rfl) ev_int (j := 1) rfl rfl).z) fun e => absurd e (by simp)) (ea_cons (evp_if (et_test (ev_eqS (ev_ixT (ev_im rfl) ev_int (j := 0) rfl rfl) ev_str)) (fun _ => lC rfl) fun e => absurd e (by decide)) ea_nil)) ⟨n, cl.length, hn, rfl, rfl, rfl⟩))) (fun e => absurd e (by decide)) fun _ => ?_
    refine p_when (et_test (ev_eqS (ev_ixT (ev_im rfl) ev_int (j := 0) rfl rfl) ev_str)) (fun _ => ?_) fun e => absurd e (by decide)
    exact p_endRet (evp_if (et_test (ev_eqI (ev_len (ev_im rfl) (.inl rfl)) ev_int)) (fun _ => (ev_ixR (ev_ro rfl) hR (ev_ixT (ev_im rfl) ev_int (j := 1) rfl rfl) (j := n) rfl (get_map hc)).z) fun e => absurd e (by simp)) ⟨rfl, rfl⟩
  | chain n ss =>
    have hss : ss.length ≤ 50000 := by
      have : (ss.map (·.2)).length + 1 ≤ 50000 := ha
      rw [List.length_map] at this
      omega
    obtain ⟨c0, hc0, hne, hst⟩ : ∃ c0, ah[n]? = some c0 ∧ ss ≠ [] ∧ Mi.steps ah c0 ss = some c := by
      simp only [Mi.lineC] at hc
      split at hc
      · cases hc
      · rename_i c0 h0
        split at hc
        · cases hc
        · exact ⟨c0, h0, by assumption, hc⟩
    have hn : n < ah.length := (List.getElem?_eq_some_iff.mp hc0).1
    refine p_when (b := false) (ET.to (et_or (et_not (et_B (ev_isi (ev_im rfl) kit_tt))) fun _ => et_or (et_test (ev_eqI (ev_len (ev_im rfl) (.inl rfl)) ev_int)) fun _ => et_test (ev_in (neg := true) (ev_ixT (ev_im rfl) ev_int (j := 0) rfl rfl) (ev_lst (ei_cons ev_str (ei_cons ev_str ea_nil))) (.inr rfl) rfl rfl)) rfl) (fun e => absurd e (by decide)) fun _ => ?_
    refine p_when (et_not (et_B (ev_def (k := .im) (ea_cons (evp_if (et_test (ev_gt (ev_len (ev_im rfl) (.inl rfl)) ev_int)) (fun _ => (ev_ixT (ev_im rfl) ev_int (j := 1) rfl rfl).z) fun e => absurd e (by simp)) (ea_cons (evp_if (et_test (ev_eqS (ev_ixT (ev_im rfl) ev_int (j := 0) rfl rfl) ev_str)) (fun e => absurd e (by decide)) fun _ => lA rfl) ea_nil)) ⟨n, ah.length, hn, rfl, rfl, rfl⟩))) (fun e => absurd e (by decide)) fun _ => ?_
    refine p_when (et_test (ev_eqS (ev_ixT (ev_im rfl) ev_int (j := 0) rfl rfl) ev_str)) (fun e => absurd e (by decide)) fun _ => ?_
    have hfl : Flat 2 (.tuple (ss.map encP)) := .inr ⟨_, rfl, by rw [List.length_map]; omega, fun x hx => by
      obtain ⟨p, _, rfl⟩ := List.mem_map.mp hx
      refine .inr ⟨_, rfl, by show 2 ≤ 100000; decide, fun x hx => ?_⟩
      rcases List.mem_cons.mp hx with rfl | hx
      · rfl
      rcases List.mem_cons.mp hx with rfl | hx
      · rfl
      cases hx⟩
    refine p_when (b := false) (ET.to (et_or (et_test (ev_neI (ev_len (ev_im rfl) (.inl rfl)) ev_int)) fun _ => et_or (et_not (et_B (ev_isi (ev_ixT (ev_im rfl) ev_int (j := 2) rfl rfl) kit_tt))) fun _ => et_test (ev_eqD (ev_ixT (ev_im rfl) ev_int (j := 2) rfl rfl) (ev_tup ea_nil) (flat_shaped hfl) (flat_shaped (n := 1) (.inr ⟨[], rfl, Nat.zero_le _, fun x hx => by cases hx⟩)))) ?_) (fun e => absurd e (by decide)) fun _ => ?_
    · cases ss with
      | nil => exact absurd rfl hne
      | cons p r => rfl
    refine pq_set (ev_ixL (ev_ro rfl) (ev_ixT (ev_im rfl) ev_int (j := 1) rfl rfl) (j := n) rfl (get_map hc0)) (ln rfl) ?_
    refine p_seq (N1 := fun Γ' => ∃ e, Γ' = [.ro r, .ro (.list (ah.map encC)), .im (encL (.chain n ss)), .im (encC c), e]) (p_forT (α := Nat × Nat) (S := List Int) (l := ss) (enc := encP) (fun c e => [.ro r, .ro (.list (ah.map encC)), .im (encL (.chain n ss)), .im (encC c), e]) (fun c' r => Mi.Gd m c' ∧ Mi.steps ah c' r = some c) (ev_ixT (ev_im rfl) ev_int (j := 2) rfl rfl) (s0 := c0) (e0 := .un) rfl ⟨hg _ (List.mem_of_getElem? hc0), hst⟩ (fun _ _ _ => ⟨ln rfl, rfl⟩) ?_ (fun c' e ⟨_, h2⟩ => ⟨e, by rw [show c' = c from Option.some.inj h2]⟩)) ?_
    · rintro c' ⟨v, k⟩ r' ⟨hc', h2⟩
      obtain ⟨hv, c1, c2, hc1, hr2, hs2⟩ : v ≠ 0 ∧ ∃ c1 c2, ah[k]? = some c1 ∧ Mi.resv c' c1 v = some c2 ∧ Mi.steps ah c2 r' = some c := by
        unfold Mi.steps at h2
        split at h2
        · cases h2
        · split at h2
          · cases h2
          · rename_i c1 h1
            split at h2
            · cases h2
            · rename_i c2 h3
              exact ⟨by assumption, c1, c2, h1, h3, h2⟩
      have hk : k < ah.length := (List.getElem?_eq_some_iff.mp hc1).1
      have hg1 := hg _ (List.mem_of_getElem? hc1)
      refine p_when (b := false) (ET.to (et_or (et_not (et_B (ev_isi (ev_im rfl) kit_tt))) fun _ => et_or (et_test (ev_neI (ev_len (ev_im rfl) (.inl rfl)) ev_int)) fun _ => et_or (et_not (et_B (ev_def (k := .im) (ea_cons (ev_ixT (ev_im rfl) ev_int (j := 0) rfl rfl) ea_nil) ⟨_, rfl, rfl, rfl⟩))) fun _ => et_test (ev_lt (ev_ixT (ev_im rfl) ev_int (j := 0) rfl rfl) ev_int)) ?_) (fun e => absurd e (by decide)) fun _ => ?_
      · show (false || (false || (false || decide ((v : Int) < 1)))) = false
        rw [Bool.false_or, Bool.false_or, Bool.false_or, decide_eq_false_iff_not]
        omega
      refine p_when (et_not (et_B (ev_def (k := .im) (ea_cons (ev_ixT (ev_im rfl) ev_int (j := 1) rfl rfl) (ea_cons (lA rfl) ea_nil)) ⟨k, ah.length, hk, rfl, rfl, rfl⟩))) (fun e => absurd e (by decide)) fun _ => ?_
      refine pq_set (ev_def (ea_cons (ev_im rfl) (ea_cons (ev_ixL (ev_ro rfl) (ev_ixT (ev_im rfl) ev_int (j := 1) rfl rfl) (j := k) rfl (get_map hc1)) (ea_cons (ev_ixT (ev_im rfl) ev_int (j := 0) rfl rfl) ea_nil))) ⟨c', c1, (v : Int), rfl, by have := hc'.2; have := hg1.2; omega, rfl, rfl⟩) (ln rfl) ?_
      rw [hr2]
      exact p_if (et_test (ev_isN (ev_im rfl))) (fun e => absurd (show false = true from e) Bool.false_ne_true) fun _ => sg_next ⟨c2, _, ⟨Mi.resv_gd hm hc' hg1 hr2, hs2⟩, rfl⟩
    · rintro _ ⟨e, rfl⟩
      exact p_ret (ev_im rfl) ⟨rfl, rfl⟩
/- _law_line_clauses: slots _law_clauses 0, _law_lines 1, _law_found 2, _law_line 3, _law_clause 4; cells [] -/
abbrev s_law_line_clauses : Stmt := topS 32
abbrev n_law_line_clauses : List Str := ["_law_clauses", "_law_lines", "_law_found", "_law_line", "_law_clause"]
abbrev p_law_line_clauses : List Str := ["_law_clauses", "_law_lines"]
theorem sc_law_line_clauses : FnScope n_law_line_clauses p_law_line_clauses (defScope s_law_line_clauses) := ⟨rfl, rfl, rfl, by decide +kernel, rfl, by decide +kernel, by decide +kernel⟩
def fLlc : List PyData → Kd → PyData → Prop := fun ds k d => ∃ (r : PyData) (cl : List (List Int)) (ls : List Line) (cs : List (List Int)), Row r (cl.map encC) ∧ Gds cl ∧ ls.length ≤ 50000 ∧ (∀ l ∈ ls, (Mi.asked l).length ≤ 50000) ∧ Mi.allC cl ls = some cs ∧
  ds = [r, .tuple (ls.map encL)] ∧ k = .im ∧ d = .tuple (cs.map encC)
theorem ok_law_line_clauses (b : Bl mg) (c_law_line_of : Cal P w K mg base 67 "_law_line_of" p_law_line_of (SpF K fLof))
    (F : Fun K "_law_line_clauses" "_law_line_clauses" s_law_line_clauses f fd) : FnOk P w K mg base L2.CX0 68 f fd p_law_line_clauses (SpF K fLlc) := by
  refine fn_pure F sc_law_line_clauses (fun ds k d h => by obtain ⟨_, _, _, _, _, _, _, _, _, rfl, _⟩ := h; rfl) fun cdv A outer s H E hr ds k d h => ?_
  obtain ⟨r, cl, ls, cs, hR, hg, hl, ha, hc, rfl, rfl, rfl⟩ := h
  refine ⟨_, (pss_cons (ps_if (pt_not (pt_val (pe_callB call_isi rfl b.isinstance_ (by decide +kernel) (pa_cons (pv 1) (pa_cons (pe_bltn (v := .ty "tuple") rfl b.tuple_ (by decide +kernel) rfl) pa_nil)))))
(pss_one (ps_ret pe_non))
pss_nil)
(pss_cons (ps_set (i := 2) sc_law_line_clauses.nd rfl (Or.inl rfl) (pe_lst pa_nil))
(pss_cons (ps_for PassesOwn.never rfl (pi_tup (pv 1)) (pg_name (i := 3) sc_law_line_clauses.nd rfl (Or.inl rfl))
(pss_cons (ps_set (i := 4) sc_law_line_clauses.nd rfl (Or.inl rfl) (pe_def c_law_line_of hr (pa_cons (pv 0) (pa_cons (pv 2) (pa_cons (pv 3) pa_nil)))))
(pss_cons (ps_if (pt_cmpR op_isN (pv 4) pe_non (nomark _))
(pss_one (ps_ret pe_non))
pss_nil)
(pss_one (ps_expr (pe_bm PySem.F.plainAttrs_list PySem.F.slot_list_append PySem.F.type_list_append mt_append (pv 2) (pa_cons (pv 4) pa_nil)))))))
(pss_one (ps_ret (pe_callTy call_tuple_of rfl b.tuple_ (by decide +kernel) (pa_cons (pv 2) pa_nil))))))), [.ro r, .im (.tuple (ls.map encL))], 3, .cons (.ro _) (.cons (.tup _) .nil), rfl, 0, ?_⟩
  refine p_when (et_not (et_B (ev_isi (ev_im rfl) kit_tt))) (fun e => absurd e (by decide)) fun _ => ?_
  refine pq_setN (ev_lst ea_nil) (ln rfl) ?_
  obtain ⟨_, m', hm', hg'⟩ := hg
  have hw : ∀ {m1 : Nat} {c : List Int}, m1 ≤ 5 → Mi.Gd m1 c → Mi.Gd 5 c := fun h1 h2 => ⟨fun x hx => ⟨(h2.1 x hx).1, Nat.le_trans (h2.1 x hx).2 h1⟩, h2.2⟩
  refine p_seq (N1 := fun Γ' => ∃ (e4 e : En), Γ' = [.ro r, .im (.tuple (ls.map encL)), .own (cs.map encC), e, e4]) (p_forT (α := Line) (S := List (List Int) × En) (l := ls) (enc := encL) (fun s e => [.ro r, .im (.tuple (ls.map encL)), .own (s.1.map encC), e, s.2]) (fun s rest => Gds s.1 ∧ s.1.length + rest.length ≤ 50000 ∧ (∀ l ∈ rest, (Mi.asked l).length ≤ 50000) ∧ Mi.allF cl s.1 rest = some cs) (ev_im rfl) (s0 := ([], .un)) (e0 := .un) rfl ⟨⟨Nat.zero_le _, 5, Nat.le_refl _, fun _ h => by simp at h⟩, by simpa using hl, ha, hc⟩ (fun _ _ _ => ⟨ln rfl, rfl⟩) ?_ (fun s e ⟨_, _, _, h2⟩ => ⟨s.2, e, by rw [show s.1 = cs from Option.some.inj h2]⟩)) ?_
  · rintro ⟨acc, e4⟩ l rest ⟨hacc, hlen, hra, h2⟩
    have hlen : acc.length + (rest.length + 1) ≤ 50000 := hlen
    obtain ⟨c, h3, h4⟩ : ∃ c, Mi.lineC cl acc l = some c ∧ Mi.allF cl (acc ++ [c]) rest = some cs := by
      have h2 : Mi.allF cl acc (l :: rest) = some cs := h2
      unfold Mi.allF at h2
      split at h2
      · cases h2
      · rename_i c h3
        exact ⟨c, h3, h2⟩
    refine pq_set (ev_def (ea_cons (ev_ro rfl) (ea_cons (ev_own rfl) (ea_cons (ev_im rfl) ea_nil))) ⟨r, cl, acc, l, c, hR, hacc, hra l List.mem_cons_self, h3, rfl, rfl, rfl⟩) (ln rfl) ?_
    refine p_when (et_test (ev_isN (ev_im rfl))) (fun e => absurd (show false = true from e) Bool.false_ne_true) fun _ => ?_
    obtain ⟨hl1, m, hm, hg1⟩ := hacc
    refine p_app rfl (ev_im rfl) (by rw [List.length_map]; omega) ⟨(acc ++ [c], _), _, ⟨⟨by rw [List.length_append]; show acc.length + 1 ≤ 50000; omega, 5, Nat.le_refl _, fun x hx => ?_⟩, by rw [List.length_append]; show acc.length + 1 + rest.length ≤ 50000; omega, fun l' hl' => hra l' (List.mem_cons_of_mem _ hl'), h4⟩, by rw [List.map_append]; rfl⟩
    rcases List.mem_append.mp hx with hx | hx
    · exact hw hm (hg1 x hx)
    · rw [List.mem_singleton] at hx
      subst hx
      exact Mi.line_gd (Nat.le_refl 5) (fun c hc => hw hm' (hg' c hc)) (fun c hc => hw hm (hg1 c hc)) h3
  · rintro _ ⟨e4, e, rfl⟩
    exact p_ret (ev_tuple (ev_own rfl) (.inr rfl)) ⟨rfl, rfl⟩
/- _law_asked: slots _law_line 0, _law_index 1, _law_variable 2; cells [] -/
abbrev s_law_asked : Stmt := topS 33
abbrev n_law_asked : List Str := ["_law_line", "_law_index", "_law_variable"]
abbrev p_law_asked : List Str := ["_law_line"]
theorem sc_law_asked : FnScope n_law_asked p_law_asked (defScope s_law_asked) := ⟨rfl, rfl, rfl, by decide +kernel, rfl, by decide +kernel, by decide +kernel⟩
theorem ok_law_asked (b : Bl mg) (F : Fun K "_law_asked" "_law_asked" s_law_asked f fd) : FnOk P w K mg base L2.CX0 1 f fd p_law_asked (SpF K fAsked) := by
  refine fn_pure F sc_law_asked (fun ds k d h => by obtain ⟨_, _, _, rfl, _⟩ := h; rfl) fun cdv A outer s H E hr ds k d h => ?_
  obtain ⟨l, hl, hn, rfl, rfl, rfl⟩ := h
  refine ⟨_, (pss_one (ps_ret (pe_ifExp (pt_cmpR op_eq (pe_ix (ix_tupK K rfl) (pv 0) pe_int (fun _ _ => rfl)) pe_str (nomark _)) (pe_lst pa_nil) (pe_op op_cat (pe_lst (pa_cons (pe_ix (ix_tupK K rfl) (pv 0) pe_int (fun _ _ => rfl)) pa_nil)) (pe_lc (own := [("_law_variable", 2), ("_law_index", 1)]) (g := (gTup _ 2 (gCons (gName 2) (gCons (gName 1) gNil)))) (tt := tYes) rfl sc_law_asked.nd (pi_tup (pe_ix (ix_tupK K rfl) (pv 0) pe_int (fun _ _ => rfl))) (blkOk_by (own := [("_law_variable", 2), ("_law_index", 1)]) (N := n_law_asked) (sc := defScope s_law_asked) (by decide +kernel)) (fun _ _ _ _ _ => (pg_tup rfl (pgs_cons (pg_name (i := 2) sc_law_asked.nd rfl (Or.inl rfl)) (pgs_cons (pg_name (i := 1) sc_law_asked.nd rfl (Or.inl rfl)) pgs_nil)))) (fun _ _ _ _ _ => pts_nil) (fun _ _ _ _ _ => (pv 1))))))), [.im (encL l)], 2, .cons (encL_Par l) .nil, rfl, ?_⟩
  refine ⟨0, ?_⟩
  cases l with
  | odd i => exact absurd rfl (hl i)
  | given n => exact p_ret (evp_if (et_test (ev_eqS (ev_ixT (ev_im rfl) ev_int (j := 0) rfl rfl) ev_str)) (fun _ => (ev_lst ea_nil).z) fun e => absurd e (by decide)) ⟨rfl, rfl⟩
  | chain n ss =>
    have hn : (ss.map (·.2)).length + 1 ≤ 50000 := hn
    rw [List.length_map] at hn
    refine p_ret (evp_if (et_test (ev_eqS (ev_ixT (ev_im rfl) ev_int (j := 0) rfl rfl) ev_str)) (fun e => absurd e (by decide)) fun _ => (Ev.to (ev_cat (ev_lst (ei_cons (ev_ixT (ev_im rfl) ev_int (j := 1) rfl rfl) ea_nil)) (ev_lcT2d (xs := ss) (e1 := fun p => .int (p.1 : Int)) (e2 := fun p => .int (p.2 : Int)) (g := fun p => .int (p.2 : Int)) (p := fun _ => true) (ev_ixT (ev_im rfl) ev_int (j := 2) rfl rfl) (by omega) (by decide) (by decide) (ln rfl) (ln rfl) (fun _ _ _ => et_yes) fun i x _ _ => ev_im rfl) (by rw [filt_all, List.length_map]; show 1 + ss.length ≤ 100000; omega)) ?_).z) ⟨rfl, rfl⟩
    rw [filt_all]
    show PyData.list (_ :: _) = .list (_ :: _)
    rw [List.map_map]
    rfl
/- _law_marks: slots _law_lines 0, _law_marks_here 1, _law_lap 2, _law_k 3, _law_index 4; cells [] -/
abbrev s_law_marks : Stmt := topS 34
abbrev n_law_marks : List Str := ["_law_lines", "_law_marks_here", "_law_lap", "_law_k", "_law_index"]
abbrev p_law_marks : List Str := ["_law_lines"]
theorem sc_law_marks : FnScope n_law_marks p_law_marks (defScope s_law_marks) := ⟨rfl, rfl, rfl, by decide +kernel, rfl, by decide +kernel, by decide +kernel⟩
theorem ok_law_marks (b : Bl mg) (c_law_asked : Cal P w K mg base 1 "_law_asked" p_law_asked (SpF K fAsked)) (F : Fun K "_law_marks" "_law_marks" s_law_marks f fd) : FnOk P w K mg base L2.CX0 2 f fd p_law_marks (SpF K fMarked) := by
  refine fn_pure F sc_law_marks (fun ds k d h => by obtain ⟨_, _, rfl, _⟩ := h; rfl) fun cdv A outer s H E hr ds k d h => ?_
  obtain ⟨ls, ⟨h0, hl, hv⟩, rfl, rfl, rfl⟩ := h
  refine ⟨_, (pss_cons (ps_set (i := 1) sc_law_marks.nd rfl (Or.inl rfl) (pe_op op_cat (pe_op op_rep (pe_lst (pa_cons pe_bl pa_nil)) (pe_op op_sub (pe_callB call_len_seq rfl b.len_ (by decide +kernel) (pa_cons (pv 0) pa_nil)) pe_int)) (pe_lst (pa_cons pe_bl pa_nil))))
(pss_cons (ps_for PassesOwn.never rfl (pi_range1 rfl b.range_ (pa_cons (pe_callB call_len_seq rfl b.len_ (by decide +kernel) (pa_cons (pv 0) pa_nil)) pa_nil)) (pg_name (i := 2) sc_law_marks.nd rfl (Or.inl rfl))
(pss_cons (ps_set (i := 3) sc_law_marks.nd rfl (Or.inl rfl) (pe_op op_sub (pe_op op_sub (pe_callB call_len_seq rfl b.len_ (by decide +kernel) (pa_cons (pv 0) pa_nil)) pe_int) (pv 2)))
(pss_one (ps_for PassesOwn.never rfl (pi_list (pe_ifExp (pt_val (pe_ix (ix_listK K rfl) (pv 1) (pv 3) (fun _ _ => rfl))) (pe_def c_law_asked hr (pa_cons (pe_ix (ix_tupK K rfl) (pv 0) (pv 3) (fun _ _ => rfl)) pa_nil)) (pe_lst pa_nil))) (pg_name (i := 4) sc_law_marks.nd rfl (Or.inl rfl))
(pss_one (ps_asg pe_bl (pg_sub (pv 1) (pv 4) set_list)))))))
(pss_one (ps_ret (pv 1))))), [.im (.tuple (ls.map encL))], 4, .cons (.tup _) .nil, rfl, ?_⟩
  refine ⟨0, ?_⟩
  have lA : ∀ {Γ : List En}, Γ[0]? = some (.im (.tuple (ls.map encL))) → Ev K none .im (tCB (rLen1 K) (tCons (tVar 0) tNil)) Γ 0 (Is (.int (ls.length : Int))) := fun h => Ev.to (ev_len (ev_im h) (.inl rfl)) (by rw [List.length_map])
  refine pq_setN (ds := (Mi.marksN ls 0).map .bool) (Ev.to (ev_cat (ev_rep (n := ls.length - 1) (ev_lst (ei_cons ev_bl ea_nil)) (Ev.to (ev_sub (lA rfl) ev_int) (by congr 1; omega)) (by omega)) (ev_lst (ei_cons ev_bl ea_nil)) (by rw [List.length_replicate]; show ls.length - 1 + 1 ≤ 100000; omega)) ?_) (ln rfl) ?_
  · show _ = PyData.list (((List.replicate ls.length false).set (ls.length - 1) true).map .bool)
    rw [Mi.set_end h0, List.map_append, List.map_replicate]
    rfl
  refine p_seq (N1 := fun Γ' => ∃ e2 e3 e4, Γ' = [.im (.tuple (ls.map encL)), .own ((Mi.marks ls).map .bool), e2, e3, e4]) (p_forR1 (n := ls.length) (S := List Bool × En × En) (fun s e => [.im (.tuple (ls.map encL)), .own (s.1.map .bool), e, s.2.1, s.2.2]) (fun s i => s.1 = Mi.marksN ls i) (ea_cons (lA rfl) ea_nil) (by omega) (s0 := (Mi.marksN ls 0, .un, .un)) (e0 := .un) rfl rfl (fun _ _ _ => ⟨ln rfl, rfl⟩) ?_ (fun s e h => ⟨e, s.2.1, s.2.2, by rw [h]; rfl⟩)) ?_
  · rintro ⟨m, e3, e4⟩ i hi h
    have h : m = Mi.marksN ls i := h
    have hm : m.length = ls.length := by rw [h]; exact Mi.marksN_len ls i
    have hk : ls.length - 1 - i < ls.length := by omega
    obtain ⟨l, hl1⟩ : ∃ l, ls[ls.length - 1 - i]? = some l := ⟨_, List.getElem?_eq_getElem hk⟩
    obtain ⟨bb, hb⟩ : ∃ bb, m[ls.length - 1 - i]? = some bb := ⟨_, List.getElem?_eq_getElem (by omega)⟩
    have es : Mi.marksN ls (i + 1) = Mi.setAll m (if bb = true then Mi.asked l else []) := by
      show Mi.markAt ls (Mi.marksN ls i) _ = _
      rw [← h]
      unfold Mi.markAt
      rw [hb, hl1]
      cases bb <;> rfl
    obtain ⟨v1, v2, v3⟩ := hv _ l hl1
    refine pq_set (d := .int ((ls.length - 1 - i : Nat) : Int)) (Ev.to (ev_sub (ev_sub (lA rfl) ev_int) (ev_im rfl)) (by congr 1; omega)) (ln rfl) ?_
    refine p_forN (α := Nat) (S := List Bool) (l := if bb = true then Mi.asked l else []) (enc := fun (i : Nat) => .int (i : Int)) (fun m e => [.im (.tuple (ls.map encL)), .own (m.map .bool), .im (.int (0 + (i : Int))), .im (.int ((ls.length - 1 - i : Nat) : Int)), e]) (fun m' r => m'.length = ls.length ∧ (∀ j ∈ r, j < ls.length) ∧ Mi.setAll m' r = Mi.marksN ls (i + 1))
      (evp_if (et_B (ev_ixL (ev_own rfl) (ev_im rfl) (j := ls.length - 1 - i) rfl (get_map hb))) (fun e => by subst e; exact (ev_def (ea_cons (ev_ixT (ev_im rfl) (ev_im rfl) (j := ls.length - 1 - i) rfl (get_map hl1)) ea_nil) ⟨l, v1, v3, rfl, rfl, rfl⟩).z) fun e => by subst e; exact (ev_lst ea_nil).z) (s0 := m) (e0 := e4) rfl ⟨hm, fun j hj => ?_, es.symm⟩ (fun _ _ _ => ⟨ln rfl, rfl⟩) ?_ (fun m' e ⟨_, _, h3⟩ => ⟨(m', _, e), _, h3, rfl⟩)
    · cases bb with
      | true => have := v2 j hj; omega
      | false => cases hj
    · rintro m' j r ⟨g1, g2, g3⟩
      exact p_put rfl ev_bl (ev_im rfl) (by rw [List.length_map]; exact ixN_nat (by rw [g1]; exact g2 j List.mem_cons_self)) ⟨m'.set j true, _, ⟨by rw [List.length_set]; exact g1, fun j hj => g2 j (List.mem_cons_of_mem _ hj), g3⟩, by rw [set_bools]; rfl⟩
  · rintro _ ⟨e2, e3, e4, rfl⟩
    exact sg_retOwn rfl ⟨rfl, rfl⟩
/- _law_roots: slots _law_lines 0, _law_marks_here 1, _law_line 2, _law_mark 3; cells [] -/
abbrev s_law_roots : Stmt := topS 36
abbrev n_law_roots : List Str := ["_law_lines", "_law_marks_here", "_law_line", "_law_mark"]
abbrev p_law_roots : List Str := ["_law_lines"]
theorem sc_law_roots : FnScope n_law_roots p_law_roots (defScope s_law_roots) := ⟨rfl, rfl, rfl, by decide +kernel, rfl, by decide +kernel, by decide +kernel⟩
def fLr : List PyData → Kd → PyData → Prop := fun ds k d => ∃ (ls : List Line), Mi.Ls ls ∧ (Mi.gvn (ls.zip (Mi.marks ls))).length < 64 ∧ ds = [.tuple (ls.map encL)] ∧ k = .im ∧ d = .tuple ((Mi.rootsL ls).map .int)
theorem ok_law_roots (b : Bl mg) (c_law_marks : Cal P w K mg base 2 "_law_marks" p_law_marks (SpF K fMarked)) (F : Fun K "_law_roots" "_law_roots" s_law_roots f fd) : FnOk P w K mg base L2.CX0 3 f fd p_law_roots (SpF K fLr) := by
  refine fn_pure F sc_law_roots (fun ds k d h => by obtain ⟨_, _, _, rfl, _⟩ := h; rfl) fun cdv A outer s H E hr ds k d h => ?_
  obtain ⟨ls, hv, hg, rfl, rfl, rfl⟩ := h
  refine ⟨_, (pss_cons (ps_set (i := 1) sc_law_roots.nd rfl (Or.inl rfl) (pe_def c_law_marks hr (pa_cons (pv 0) pa_nil)))
(pss_one (ps_ret (pe_callTy call_tuple_of rfl b.tuple_ (by decide +kernel) (pa_cons (pe_callB (cr_sortedSet rfl) rfl b.sorted_ (by decide +kernel) (pa_cons (pe_callTy (Srt2.cr_setL rfl) rfl b.set_ (by decide +kernel) (pa_cons (pe_lc (own := [("_law_line", 2), ("_law_mark", 3)]) (g := (gTup _ 2 (gCons (gName 2) (gCons (gName 3) gNil)))) rfl sc_law_roots.nd (Zp.pi_zipM rfl b.zip_ (pa_cons (pv 0) (pa_cons (pv 1) pa_nil))) (blkOk_by (own := [("_law_line", 2), ("_law_mark", 3)]) (N := n_law_roots) (sc := defScope s_law_roots) (by decide +kernel)) (fun _ _ _ _ _ => (pg_tup rfl (pgs_cons (pg_name (i := 2) sc_law_roots.nd rfl (Or.inl rfl)) (pgs_cons (pg_name (i := 3) sc_law_roots.nd rfl (Or.inl rfl)) pgs_nil)))) (fun _ _ _ _ _ => (pts_one (PW.pt (pw_and (pt_val (pv 3)) (pw_and1 (pt_cmpR op_eq (pe_ix (ix_tupK K rfl) (pv 2) pe_int (fun _ _ => rfl)) pe_str (nomark _))))))) (fun _ _ _ _ _ => (pe_ix (ix_tupK K rfl) (pv 2) pe_int (fun _ _ => rfl)))) pa_nil)) pa_nil)) pa_nil))))), [.im (.tuple (ls.map encL))], 3, .cons (.tup _) .nil, rfl, 0, ?_⟩
  refine pq_setN (ev_def (ea_cons (ev_im rfl) ea_nil) ⟨ls, hv, rfl, rfl, rfl⟩) (ln rfl) ?_
  have hl := hv.2.1
  refine p_ret (ev_tuple (ev_setSorted (Ev.to (ev_lcZd (ct := 0) (ce := 0) (xs := ls) (ys := Mi.marks ls) (e1 := encL) (e2 := .bool) (p := fun p => p.2 && isGv p.1) (g := fun p => .int (gvN p.1)) (ea_cons (ev_im rfl) (ea_cons (ev_own rfl) ea_nil)) (Mi.marks_len ls).symm (by omega) (by decide) (by decide) (ln rfl) (ln rfl) (fun i x y hx hy => ?_) fun i x y hx hy hp => ?_) (congrArg PyData.list (gvn_filter _))) (by rw [List.length_map]; exact hg)) (.inr rfl)) ⟨rfl, rfl⟩
  · have hvx := (hv.2.2 i x hx).1
    cases x with
    | odd i => exact absurd rfl (hvx i)
    | given n => exact ET.z (ET.to (et_and (et_B (ev_im rfl)) fun _ => et_test (ev_eqS (ev_ixT (ev_im rfl) ev_int (j := 0) rfl rfl) ev_str)) (by cases y <;> first | rfl | decide))
    | chain n ss => exact ET.z (ET.to (et_and (et_B (ev_im rfl)) fun _ => et_test (ev_eqS (ev_ixT (ev_im rfl) ev_int (j := 0) rfl rfl) ev_str)) (by cases y <;> first | rfl | decide))
  · cases x with
    | given n => exact Ev.z (ev_ixT (ev_im rfl) ev_int (j := 1) rfl rfl)
    | chain n ss => exact absurd hp (by simp [isGv])
    | odd i => exact absurd hp (by simp [isGv])
end
end W26

set_option Elab.async false
set_option linter.all false
set_option maxRecDepth 100000
set_option maxHeartbeats 2000000
namespace W26
open PySem PySem.Spec PyProof.Rows L2 Lg
open Mi (Line)
def encB (r : List Nat) : PyData := .tuple (r.map fun (i : Nat) => .int (i : Int))
def Okl (l : Line) : Prop := (∀ i, l ≠ .odd i) ∧ (Mi.asked l).length ≤ 50000
theorem inD_gidx {found : List Line} (n : Nat) (h : ∀ l ∈ found, Okl l) : inD (encL (.given n)) (found.map encL) = (Mi.gidx found n).isSome := by
  unfold inD Mi.gidx
  rw [List.any_map, List.findIdx?_isSome]
  induction found with
  | nil => rfl
  | cons l r ih =>
    rw [List.any_cons, List.any_cons, ih fun l hl => h l (List.mem_cons_of_mem _ hl)]
    show (PyData.eqv (encL l) (encL (.given n)) || _) = _
    rw [eqv_isG l n (h l List.mem_cons_self).1]
section
variable {P : Program} {w : World} {K : PySem.W.Frag} {mg : Str → Option Value} {base : Heap} {f : Addr} {fd : FuncData} {C fI : Addr}
/- _law_drawn_of: slots _law_lines 0, _law_found 1, _law_places 2, _law_marks_here 3, _law_k 4, _law_line 5, _law_fresh 6, _law_steps 7, _law_variable 8, _law_index 9; cells ['_law_places'] -/
abbrev s_law_drawn_of : Stmt := topS 35
abbrev n_law_drawn_of : List Str := ["_law_lines", "_law_found", "_law_places", "_law_marks_here", "_law_k", "_law_line", "_law_fresh", "_law_steps", "_law_variable", "_law_index"]
abbrev p_law_drawn_of : List Str := ["_law_lines"]
theorem sc_law_drawn_of : FnScope n_law_drawn_of p_law_drawn_of (defScope s_law_drawn_of) := ⟨rfl, rfl, rfl, by decide +kernel, rfl, by decide +kernel, by decide +kernel⟩
def fDof : List PyData → Kd → PyData → Prop := fun ds k d => ∃ (ls : List Line), Mi.Ls ls ∧ ds = [.tuple (ls.map encL)] ∧ k = .im ∧ d = .tuple ((Mi.drawnL ls).map encL)
structure DK (ls : List Line) (k : Nat) (rest found : List Line) (pl : List (Nat × Nat)) : Prop where
  go : Mi.dgo (Mi.marks ls) (found, pl) k rest = Mi.dgo (Mi.marks ls) ([], []) 0 ls
  kp : Mi.Kp (Mi.marks ls) k pl
  ok : ∀ l ∈ found, Okl l
  l1 : found.length ≤ k
  l2 : pl.length ≤ k
  dr : rest = ls.drop k
theorem DK.at {ls : List Line} {k : Nat} {x : Line} {rest found : List Line} {pl : List (Nat × Nat)} (j : DK ls k (x :: rest) found pl) : ls[k]? = some x ∧ rest = ls.drop (k + 1) := by
  have h := j.dr
  have hk : ls[k]? = some x := by
    have z : (ls.drop k)[0]? = some x := by rw [← h]; rfl
    rw [List.getElem?_drop, Nat.add_zero] at z
    exact z
  refine ⟨hk, ?_⟩
  rw [drop_cons hk] at h
  exact (List.cons.inj h).2
theorem okl_snoc {found : List Line} {l : Line} (h : ∀ l ∈ found, Okl l) (hl : Okl l) : ∀ x ∈ found ++ [l], Okl x := fun x hx => by
  rcases List.mem_append.mp hx with hx | hx
  · exact h x hx
  · rw [List.mem_singleton] at hx
    subst hx
    exact hl
theorem ok_law_drawn_of (b : Bl mg) (c_law_marks : Cal P w K mg base 2 "_law_marks" p_law_marks (SpF K fMarked))
    (F : Fun K "_law_drawn_of" "_law_drawn_of" s_law_drawn_of f fd) : FnOk P w K mg base L2.CX0 67 f fd p_law_drawn_of (SpF K fDof) := by
  refine fn_pure F sc_law_drawn_of (fun ds k d h => by obtain ⟨_, _, rfl, _⟩ := h; rfl) fun cdv A outer s H E hr ds k d h => ?_
  have hu65 : (A.deeper (envOfC "_law_drawn_of" (defScope s_law_drawn_of) s.heap.objs.size f cdv)).units + 65 < cLine := by have := hr.un; omega
  have hu : (A.deeper (envOfC "_law_drawn_of" (defScope s_law_drawn_of) s.heap.objs.size f cdv)).units + 1 < cLine := by omega
  obtain ⟨ls, lsv, rfl, rfl, rfl⟩ := h
  obtain ⟨h0, hl, hv⟩ := lsv
  refine ⟨_, (pss_cons (ps_asg (pe_tup (pa_cons (pe_lst pa_nil) (pa_cons pe_dnewK (pa_cons (pe_def c_law_marks hr (pa_cons (pv 0) pa_nil)) pa_nil)))) (pg_tup rfl (pgs_cons (pg_name (i := 1) sc_law_drawn_of.nd rfl (Or.inl rfl)) (pgs_cons (pg_name (i := 2) sc_law_drawn_of.nd rfl (Or.inr rfl)) (pgs_cons (pg_name (i := 3) sc_law_drawn_of.nd rfl (Or.inl rfl)) pgs_nil)))))
(pss_cons (ps_for PassesOwn.never rfl (Zp.pi_enumT rfl b.enumerate_ (pa_cons (pv 0) pa_nil)) (pg_tup rfl (pgs_cons (pg_name (i := 4) sc_law_drawn_of.nd rfl (Or.inl rfl)) (pgs_cons (pg_name (i := 5) sc_law_drawn_of.nd rfl (Or.inl rfl)) pgs_nil)))
(pss_one (ps_if (pt_val (pe_ix (ix_listK K rfl) (pv 3) (pv 4) (fun _ _ => rfl)))
(pss_cons (ps_set (i := 6) sc_law_drawn_of.nd rfl (Or.inl rfl) (pv 5))
(pss_cons (ps_if (pt_cmpR op_eq (pe_ix (ix_tupK K rfl) (pv 5) pe_int (fun _ _ => rfl)) pe_str (nomark _))
(pss_cons (ps_set (i := 7) sc_law_drawn_of.nd rfl (Or.inl rfl) (pe_callTy call_tuple_of rfl b.tuple_ (by decide +kernel) (pa_cons (pe_lc (own := [("_law_variable", 8), ("_law_index", 9)]) (g := (gTup _ 2 (gCons (gName 8) (gCons (gName 9) gNil)))) (tt := tYes) rfl sc_law_drawn_of.nd (pi_tup (pe_ix (ix_tupK K rfl) (pv 5) pe_int (fun _ _ => rfl))) (blkOk_by (own := [("_law_variable", 8), ("_law_index", 9)]) (N := n_law_drawn_of) (sc := defScope s_law_drawn_of) (by decide +kernel)) (fun _ _ _ _ _ => (pg_tup rfl (pgs_cons (pg_name (i := 8) sc_law_drawn_of.nd rfl (Or.inl rfl)) (pgs_cons (pg_name (i := 9) sc_law_drawn_of.nd rfl (Or.inl rfl)) pgs_nil)))) (fun _ _ _ _ _ => pts_nil) (fun _ _ _ _ _ => (pe_tup (pa_cons (pv 8) (pa_cons (pe_dget hu (pv 2) (pv 9) (fun _ _ => rfl)) pa_nil))))) pa_nil)))
(pss_one (ps_set (i := 6) sc_law_drawn_of.nd rfl (Or.inl rfl) (pe_tup (pa_cons pe_str (pa_cons (pe_dget hu (pv 2) (pe_ix (ix_tupK K rfl) (pv 5) pe_int (fun _ _ => rfl)) (fun _ _ => rfl)) (pa_cons (pv 7) pa_nil)))))))
pss_nil)
(pss_one (ps_if (PW.pt (pw_and (pt_cmpR op_eq (pe_ix (ix_tupK K rfl) (pv 5) pe_int (fun _ _ => rfl)) pe_str (nomark _)) (pw_and1 (pt_cmpR (op_inD hu65) (pv 5) (pv 1) (by rfl)))))
(pss_one (ps_dput hu (pv 2) (pv 4) (pe_bm PySem.F.plainAttrs_list PySem.F.slot_list_index PySem.F.type_list_index (mt_indexD hu65) (pv 1) (pa_cons (pv 5) pa_nil)) rfl))
(pss_cons (ps_dput hu (pv 2) (pv 4) (pe_callB call_len_seq rfl b.len_ (by decide +kernel) (pa_cons (pv 1) pa_nil)) rfl)
(pss_one (ps_expr (pe_bm PySem.F.plainAttrs_list PySem.F.slot_list_append PySem.F.type_list_append mt_append (pv 1) (pa_cons (pv 6) pa_nil)))))))))
pss_nil)))
(pss_one (ps_ret (pe_callTy call_tuple_of rfl b.tuple_ (by decide +kernel) (pa_cons (pv 1) pa_nil)))))), [.im (.tuple (ls.map encL))], 9, .cons (.tup _) .nil, rfl, 0, ?_⟩
  refine p_seq (N1 := fun Γ' => Γ' = [.im (.tuple (ls.map encL)), .own [], .dc [], .own ((Mi.marks ls).map .bool), .un, .un, .un, .un, .un, .un]) (sg_asg3 (ev_def (ea_cons (ev_im rfl) ea_nil) ⟨ls, ⟨h0, hl, hv⟩, rfl, rfl, rfl⟩) (ln rfl) (ln rfl) (ln rfl) rfl) ?_
  rintro _ rfl
  refine p_seq (N1 := fun Γ' => ∃ (pl : List (Nat × Nat)) (e4 e5 e6 e7 : En), Γ' = [.im (.tuple (ls.map encL)), .own ((Mi.drawnL ls).map encL), .dc (dcN pl), .own ((Mi.marks ls).map .bool), e4, e5, e6, e7, .un, .un])
    (p_forE (α := Line) (S := List Line × List (Nat × Nat) × En × En) (l := ls) (enc := encL)
      (fun s e4 e5 => [.im (.tuple (ls.map encL)), .own (s.1.map encL), .dc (dcN s.2.1), .own ((Mi.marks ls).map .bool), e4, e5, s.2.2.1, s.2.2.2, .un, .un])
      (fun s k rest => DK ls k rest s.1 s.2.1) (ea_cons (ev_im rfl) ea_nil) (s0 := ([], [], .un, .un)) (e0 := .un) (f0 := .un) rfl
      ⟨rfl, ⟨fun j hj => absurd hj (Nat.not_lt_zero _), fun j hj => by simp [Mi.getN] at hj⟩, (fun l hl => by cases hl), Nat.le_refl _, Nat.le_refl _, rfl⟩ (fun _ _ _ _ _ => ⟨ln rfl, ln rfl, rfl⟩) ?_ (fun s e4 e5 j => ⟨s.2.1, e4, e5, s.2.2.1, s.2.2.2, by rw [show s.1 = Mi.drawnL ls from congrArg Prod.fst j.go]⟩)) ?_
  · rintro ⟨found, pl, e6, e7⟩ k x rest hk j
    have j : DK ls k (x :: rest) found pl := j
    obtain ⟨hx1, hr1⟩ := j.at
    have hkl : k < ls.length := by omega
    obtain ⟨mb, hmb⟩ : ∃ mb, (Mi.marks ls)[k]? = some mb := ⟨_, List.getElem?_eq_getElem (by rw [Mi.marks_len]; exact hkl)⟩
    have hgo := j.go
    have hvx := hv k x hx1
    refine p_if (et_B (ev_ixL (ev_own rfl) (ev_im rfl) (j := k) rfl (get_map hmb))) (fun e => ?_) fun e => ?_
    · have hm : mb = true := e
      subst hm
      have hgo : Mi.dgo (Mi.marks ls) (Mi.dstep (found, pl) k x) (k + 1) rest = Mi.dgo (Mi.marks ls) ([], []) 0 ls := by
        rw [← hgo]
        show _ = Mi.dgo _ (if _ then _ else _) _ _
        rw [hmb, if_pos rfl]
      have kp1 := Mi.Kp.step (s := (found, pl)) j.kp hvx.1
      have hnew := kp_new j.kp
      have lF : ∀ {Γ : List En}, Γ[1]? = some (.own (found.map encL)) → Ev K none .im (tCB (rLen1 K) (tCons (tVar 1) tNil)) Γ 0 (Is (.int (found.length : Int))) := fun h => Ev.to (ev_len (ev_own h) (.inr rfl)) (by rw [List.length_map])
      have hfl : (found.map encL).length < 100000 := by have := j.l1; rw [List.length_map]; omega
      have hpl : (dcN pl).length < 100000 := by have := j.l2; rw [dcN_len]; omega
      refine pq_set (ev_im rfl) (ln rfl) ?_
      cases x with
      | odd i => exact absurd rfl (hvx.1 i)
      | given n =>
        refine p_when (et_test (ev_eqS (ev_ixT (ev_im rfl) ev_int (j := 0) rfl rfl) ev_str)) (fun e => absurd e (by decide)) fun _ => ?_
        have hshp : SeqAt.shaped (encL (.given n)) = true := flat_shaped (flat_line (l := .given n) (Nat.zero_le _))
        have hshl : SeqAt.shaped (.list (found.map encL)) = true := flat_shapedL (n := 3) fun x hx => by
          obtain ⟨l, hl, rfl⟩ := List.mem_map.mp hx
          exact flat_line (j.ok l hl).2
        refine p_if (ET.to (et_and (et_test (ev_eqS (ev_ixT (ev_im rfl) ev_int (j := 0) rfl rfl) ev_str)) fun _ => et_test (ev_inD (ev_im rfl) (ev_own rfl) hshp hshl)) (show _ = (Mi.gidx found n).isSome by rw [inD_gidx n j.ok]; cases Mi.gidx found n <;> rfl)) (fun e => ?_) fun e => ?_
        · obtain ⟨p, hp⟩ := Option.isSome_iff_exists.mp e
          have hst : Mi.dstep (found, pl) k (.given n) = (found, pl ++ [(k, p)]) := by simp only [Mi.dstep, hp]
          rw [hst] at hgo kp1
          obtain ⟨hp1, hp2, hp3⟩ := List.findIdx?_eq_some_iff_getElem.mp hp
          have hg : (found.map encL)[p]? = some (encL found[p]) := get_map (List.getElem?_eq_getElem hp1)
          refine p_dput rfl (ev_indexD (ev_own rfl) (ev_im rfl) hshp hshl hg (by rw [eqv_isG _ n (j.ok _ (List.getElem_mem hp1)).1]; exact hp2) fun i z hi hz => ?_) (ev_im rfl) hpl ⟨(found, pl ++ [(k, p)], _, e7), _, _, ⟨hgo, kp1, j.ok, Nat.le_succ_of_le j.l1, by rw [List.length_append]; exact Nat.succ_le_succ j.l2, hr1⟩, by rw [dcN_put hnew]; rfl⟩
          rw [List.getElem?_map, List.getElem?_eq_getElem (show i < found.length by omega)] at hz
          cases hz
          have := hp3 i hi
          rw [eqv_isG _ n (j.ok _ (List.getElem_mem _)).1]
          simpa using this
        · have hp : Mi.gidx found n = none := by
            cases hq : Mi.gidx found n with
            | none => rfl
            | some p => rw [hq] at e; cases e
          have hst : Mi.dstep (found, pl) k (.given n) = (found ++ [.given n], pl ++ [(k, found.length)]) := by simp only [Mi.dstep, hp]
          rw [hst] at hgo kp1
          refine p_seq (N1 := fun Γ' => Γ' = [.im (.tuple (ls.map encL)), .own (found.map encL), .dc (dcN (pl ++ [(k, found.length)])), .own ((Mi.marks ls).map .bool), .im (.int (k : Nat)), .im (encL (.given n)), .im (encL (.given n)), e7, .un, .un]) (p_dput rfl (lF rfl) (ev_im rfl) hpl (by rw [dcN_put hnew]; rfl)) ?_
          rintro _ rfl
          exact p_app rfl (ev_im rfl) hfl ⟨(found ++ [.given n], pl ++ [(k, found.length)], _, e7), _, _, ⟨hgo, kp1, okl_snoc j.ok ⟨hvx.1, Nat.zero_le _⟩, by rw [List.length_append]; exact Nat.succ_le_succ j.l1, by rw [List.length_append]; exact Nat.succ_le_succ j.l2, hr1⟩, by rw [List.map_append]; rfl⟩
      | chain n ss =>
        have hst : Mi.dstep (found, pl) k (.chain n ss) = (found ++ [.chain (Mi.getD pl n) (ss.map fun p => (p.1, Mi.getD pl p.2))], pl ++ [(k, found.length)]) := rfl
        rw [hst] at hgo kp1
        have hpa : ∀ i, i ∈ Mi.asked (.chain n ss) → getI (dcN pl) (i : Int) = some ((Mi.getD pl i : Nat) : Int) := fun i hi => by
          obtain ⟨q1, q2⟩ := places_at ⟨h0, hl, hv⟩ j.kp hx1 hmb hi
          rw [dcN_get, q2]
          rfl
        have hss : (ss.map (·.2)).length + 1 ≤ 50000 := hvx.2.2
        rw [List.length_map] at hss
        refine p_when (et_test (ev_eqS (ev_ixT (ev_im rfl) ev_int (j := 0) rfl rfl) ev_str)) (fun _ => ?_) fun e => absurd e (by decide)
        refine p_seq (N1 := fun Γ' => Γ' = [.im (.tuple (ls.map encL)), .own (found.map encL), .dc (dcN pl), .own ((Mi.marks ls).map .bool), .im (.int (k : Nat)), .im (encL (.chain n ss)), .im (encL (.chain (Mi.getD pl n) (ss.map fun p => (p.1, Mi.getD pl p.2)))), .im (.tuple ((ss.map fun p => (p.1, Mi.getD pl p.2)).map encP)), .un, .un]) ?_ ?_
        · refine pq_set (d := .tuple ((ss.map fun p => (p.1, Mi.getD pl p.2)).map encP)) (ev_tuple (Ev.to (ev_lcT2d (xs := ss) (e1 := fun p => .int (p.1 : Int)) (e2 := fun p => .int (p.2 : Int)) (g := fun p => encP (p.1, Mi.getD pl p.2)) (p := fun _ => true) (ev_ixT (ev_im rfl) ev_int (j := 2) rfl rfl) (by omega) (by decide) (by decide) (ln rfl) (ln rfl) (fun _ _ _ => et_yes) fun i y hy _ => ev_tup (ei_cons (ev_im rfl) (ei_cons (ev_dget rfl (ev_im rfl) (hpa y.2 (List.mem_cons_of_mem _ (List.mem_map_of_mem (List.mem_of_getElem? hy))))) ea_nil))) (by rw [filt_all, List.map_map]; rfl)) (.inr rfl)) (ln rfl) ?_
          exact p_set (ev_tup (ei_cons ev_str (ei_cons (ev_dget rfl (ev_ixT (ev_im rfl) ev_int (j := 1) rfl rfl) (hpa n List.mem_cons_self)) (ei_cons (ev_im rfl) ea_nil)))) (ln rfl) rfl
        rintro _ rfl
        refine p_if (et_and0 (ET.to (et_test (ev_eqS (ev_ixT (ev_im rfl) ev_int (j := 0) rfl rfl) ev_str)) (by decide))) (fun e => absurd e (by decide)) fun _ => ?_
        refine p_seq (N1 := fun Γ' => Γ' = [.im (.tuple (ls.map encL)), .own (found.map encL), .dc (dcN (pl ++ [(k, found.length)])), .own ((Mi.marks ls).map .bool), .im (.int (k : Nat)), .im (encL (.chain n ss)), .im (encL (.chain (Mi.getD pl n) (ss.map fun p => (p.1, Mi.getD pl p.2)))), .im (.tuple ((ss.map fun p => (p.1, Mi.getD pl p.2)).map encP)), .un, .un]) (p_dput rfl (lF rfl) (ev_im rfl) hpl (by rw [dcN_put hnew]; rfl)) ?_
        rintro _ rfl
        exact p_app rfl (ev_im rfl) hfl ⟨(found ++ [.chain (Mi.getD pl n) (ss.map fun p => (p.1, Mi.getD pl p.2))], pl ++ [(k, found.length)], _, _), _, _, ⟨hgo, kp1, okl_snoc j.ok ⟨fun i => by simp, by show (((ss.map fun p => (p.1, Mi.getD pl p.2)).map (·.2)).length + 1) ≤ 50000; rw [List.length_map, List.length_map]; exact hss⟩, by rw [List.length_append]; exact Nat.succ_le_succ j.l1, by rw [List.length_append]; exact Nat.succ_le_succ j.l2, hr1⟩, by rw [List.map_append]; rfl⟩
    · have hm : mb = false := e
      subst hm
      refine sg_next ⟨(found, pl, e6, e7), _, _, ⟨?_, j.kp.skip (by rw [hmb]; simp), j.ok, Nat.le_succ_of_le j.l1, Nat.le_succ_of_le j.l2, hr1⟩, rfl⟩
      rw [← hgo]
      show _ = Mi.dgo _ (if _ then _ else _) _ _
      rw [hmb, if_neg (by simp)]
  · rintro _ ⟨pl, e4, e5, e6, e7, rfl⟩
    exact p_ret (ev_tuple (ev_own rfl) (.inr rfl)) ⟨rfl, rfl⟩
/- _law_longer: slots _law_rows_here 0, _law_many 1, _law_found 2, _law_row 3, _law_number 4; cells ['_law_row'] -/
abbrev s_law_longer : Stmt := topS 24
abbrev n_law_longer : List Str := ["_law_rows_here", "_law_many", "_law_found", "_law_row", "_law_number"]
abbrev p_law_longer : List Str := ["_law_rows_here", "_law_many"]
theorem sc_law_longer : FnScope n_law_longer p_law_longer (defScope s_law_longer) := ⟨rfl, rfl, rfl, by decide +kernel, rfl, by decide +kernel, by decide +kernel⟩
def fLong : List PyData → Kd → PyData → Prop := fun ds k d => ∃ (rows : List (List Nat)), rows.length ≤ 1000 ∧ (∀ r ∈ rows, r.length ≤ 1000) ∧ ds = [.list (rows.map encB), .int 2] ∧ k = .nw ∧ d = .list ((Mi.longer 2 rows).map encB)
theorem ok_law_longer (b : Bl mg) (F : Fun K "_law_longer" "_law_longer" s_law_longer f fd) : FnOk P w K mg base L2.CX0 1 f fd p_law_longer (SpF K fLong) := by
  refine fn_pure F sc_law_longer (fun ds k d h => by obtain ⟨_, _, _, rfl, _⟩ := h; rfl) fun cdv A outer s H E hr ds k d h => ?_
  obtain ⟨rows, hl, hr2, rfl, rfl, rfl⟩ := h
  refine ⟨_, (pss_cons (ps_set (i := 2) sc_law_longer.nd rfl (Or.inl rfl) (pe_lst pa_nil))
(pss_cons (ps_for PassesOwn.never rfl (pi_list (pv 0)) (pg_name (i := 3) sc_law_longer.nd rfl (Or.inr rfl))
(pss_one (ps_set (i := 2) sc_law_longer.nd rfl (Or.inl rfl) (pe_op op_cat (pv 2) (pe_lc (own := [("_law_number", 4)]) (g := (gName 4)) (tt := tYes) rfl sc_law_longer.nd (pi_range1 rfl b.range_ (pa_cons (pv 1) pa_nil)) (blkOk_by (own := [("_law_number", 4)]) (N := n_law_longer) (sc := defScope s_law_longer) (by decide +kernel)) (fun _ _ _ _ _ => (pg_name (i := 4) sc_law_longer.nd rfl (Or.inl rfl))) (fun _ _ _ _ _ => pts_nil) (fun _ _ _ _ _ => (pe_op (op_catK K rfl) (pv 3) (pe_tup (pa_cons (pv 4) pa_nil)))))))))
(pss_one (ps_ret (pv 2))))), [.ro (.list (rows.map encB)), .im (.int 2)], 3, .cons (.ro _) (.cons (.int _) .nil), rfl, 0, ?_⟩
  refine pq_setN (ev_lst ea_nil) (ln rfl) ?_
  refine p_seq (N1 := fun Γ' => ∃ e, Γ' = [.ro (.list (rows.map encB)), .im (.int 2), .own ((Mi.longer 2 rows).map encB), e, .un]) (p_forP (i0 := 0) (α := List Nat) (S := List (List Nat)) (l := rows) (enc := encB) (fun s e => [.ro (.list (rows.map encB)), .im (.int 2), .own (s.map encB), e, .un]) (fun s rest => s ++ Mi.longer 2 rest = Mi.longer 2 rows ∧ s.length + 2 * rest.length ≤ 2000 ∧ ∀ r ∈ rest, r.length ≤ 1000) (fun _ _ => rfl) (s0 := []) (e0 := .un) rfl ⟨rfl, by show 0 + 2 * rows.length ≤ 2000; omega, hr2⟩ (fun _ _ _ => ⟨ln rfl, rfl⟩) ?_ (fun s e ⟨h1, _, _⟩ => ⟨e, by rw [show s = Mi.longer 2 rows by rw [← h1]; exact (List.append_nil s).symm]⟩)) ?_
  · rintro s r rest ⟨h1, h2, h3⟩
    have h2 : s.length + 2 * (rest.length + 1) ≤ 2000 := h2
    have hrl := h3 r List.mem_cons_self
    refine p_setN (ds := (s ++ (List.range 2).map fun i => r ++ [i]).map encB) (Ev.to (ev_cat (ev_own rfl) (Ev.to (ev_lcR1d (n := 2) (g := fun i => encB (r ++ [i])) (p := fun _ => true) (ea_cons (ev_im rfl) ea_nil) (by decide) (by decide) (ln rfl) (fun _ _ => et_yes) fun i hi _ => Ev.to (ev_catT (ev_im rfl) (ev_tup (ei_cons (ev_im rfl) ea_nil)) (by rw [List.length_map]; show r.length + 1 ≤ 100000; omega)) ?_) (by rw [filt_all])) (by rw [List.length_map, List.length_map]; show s.length + 2 ≤ 100000; omega)) ?_) (ln rfl) ⟨s ++ (List.range 2).map fun i => r ++ [i], _, ⟨?_, ?_, fun q hq => h3 q (List.mem_cons_of_mem _ hq)⟩, rfl⟩
    · unfold encB
      rw [List.map_append, Int.zero_add]
      rfl
    · rw [List.map_append, List.map_map]
      rfl
    · rw [← h1]
      unfold Mi.longer
      rw [List.flatMap_cons, List.append_assoc]
    · rw [List.length_append, List.length_map, List.length_range]
      omega
  · rintro _ ⟨e, rfl⟩
    exact sg_retOwn rfl ⟨rfl, rfl⟩
/- _law_rows: slots _law_many 0, _law_rows_here 1, _law_k 2; cells [] -/
abbrev s_law_rows : Stmt := topS 25
abbrev n_law_rows : List Str := ["_law_many", "_law_rows_here", "_law_k"]
abbrev p_law_rows : List Str := ["_law_many"]
theorem sc_law_rows : FnScope n_law_rows p_law_rows (defScope s_law_rows) := ⟨rfl, rfl, rfl, by decide +kernel, rfl, by decide +kernel, by decide +kernel⟩
def fRws : List PyData → Kd → PyData → Prop := fun ds k d => ∃ m : Nat, m ≤ 5 ∧ ds = [.int (m : Int)] ∧ k = .nw ∧ d = .list ((Mi.rowsL m).map encB)
theorem ok_law_rows (b : Bl mg) (c_law_longer : Cal P w K mg base 1 "_law_longer" p_law_longer (SpF K fLong)) (F : Fun K "_law_rows" "_law_rows" s_law_rows f fd) : FnOk P w K mg base L2.CX0 2 f fd p_law_rows (SpF K fRws) := by
  refine fn_pure F sc_law_rows (fun ds k d h => by obtain ⟨_, _, rfl, _⟩ := h; rfl) fun cdv A outer s H E hr ds k d h => ?_
  obtain ⟨m, hm, rfl, rfl, rfl⟩ := h
  refine ⟨_, (pss_cons (ps_set (i := 1) sc_law_rows.nd rfl (Or.inl rfl) (pe_lst (pa_cons (pe_tup pa_nil) pa_nil)))
(pss_cons (ps_for PassesOwn.never rfl (pi_range1 rfl b.range_ (pa_cons (pv 0) pa_nil)) (pg_name (i := 2) sc_law_rows.nd rfl (Or.inl rfl))
(pss_one (ps_set (i := 1) sc_law_rows.nd rfl (Or.inl rfl) (pe_def c_law_longer hr (pa_cons (pv 1) (pa_cons pe_int pa_nil))))))
(pss_one (ps_ret (pv 1))))), [.im (.int (m : Int))], 2, .cons (.int _) .nil, rfl, 0, ?_⟩
  refine pq_setN (ds := [.tuple []]) (ev_lst (ei_cons (ev_tup ea_nil) ea_nil)) (ln rfl) ?_
  refine p_seq (N1 := fun Γ' => ∃ e, Γ' = [.im (.int (m : Int)), .own ((Mi.rowsL m).map encB), e]) (p_forR1 (n := m) (S := Nat) (fun s e => [.im (.int (m : Int)), .own ((Mi.rowsL s).map encB), e]) (fun s i => s = i) (ea_cons (ev_im rfl) ea_nil) (by omega) (s0 := 0) (e0 := .un) rfl rfl (fun _ _ _ => ⟨ln rfl, rfl⟩) ?_ (fun s e h => ⟨e, by rw [h]⟩)) ?_
  · rintro s i hi rfl
    have h32 : 2 ^ s ≤ 2 ^ 5 := Nat.pow_le_pow_right (by decide) (by omega)
    exact p_setN (ev_def (ea_cons (ev_own rfl) (ea_cons ev_int ea_nil)) ⟨Mi.rowsL s, by rw [Mi.rowsL_len]; omega, fun r hr => by rw [(Mi.rowsL_mem hr).1]; omega, rfl, rfl, rfl⟩) (ln rfl) ⟨s + 1, _, rfl, rfl⟩
  · rintro _ ⟨e, rfl⟩
    exact sg_retOwn rfl ⟨rfl, rfl⟩
/- _law_fits: slots _law_assignment 0, _law_clause 1, _law_number 2; cells ['_law_assignment'] -/
abbrev s_law_fits : Stmt := topS 37
abbrev n_law_fits : List Str := ["_law_assignment", "_law_clause", "_law_number"]
abbrev p_law_fits : List Str := ["_law_assignment", "_law_clause"]
theorem sc_law_fits : FnScope n_law_fits p_law_fits (defScope s_law_fits) := ⟨rfl, rfl, rfl, by decide +kernel, rfl, by decide +kernel, by decide +kernel⟩
def fFits : List PyData → Kd → PyData → Prop := fun ds k d => ∃ (bs : List Nat) (c : List Int), (∀ n ∈ c, n ≠ 0 ∧ n.natAbs ≤ bs.length) ∧ c.length ≤ 1000 ∧ ds = [encB bs, encC c] ∧ k = .im ∧ d = .bool (Mi.fits bs c)
theorem isEmpty_any {α : Type} {p : α → Bool} {g : α → PyData} : ∀ l : List α, (!((l.filter p).map g).isEmpty) = l.any p
  | [] => rfl
  | x :: r => by
    have ih := isEmpty_any (p := p) (g := g) r
    rw [List.filter_cons, List.any_cons]
    cases p x with
    | true => rfl
    | false =>
      rw [if_neg (by simp), Bool.false_or]
      exact ih
theorem ok_law_fits (b : Bl mg) (F : Fun K "_law_fits" "_law_fits" s_law_fits f fd) : FnOk P w K mg base L2.CX0 65 f fd p_law_fits (SpF K fFits) := by
  refine fn_pure F sc_law_fits (fun ds k d h => by obtain ⟨_, _, _, _, rfl, _⟩ := h; rfl) fun cdv A outer s H E hr ds k d h => ?_
  have hu64 := hr.units
  obtain ⟨bs, c, hc, hl, rfl, rfl, rfl⟩ := h
  refine ⟨_, (pss_one (ps_ret (pe_cmpR (op_neD hu64) (pe_lc (own := [("_law_number", 2)]) (g := (gName 2)) rfl sc_law_fits.nd (pi_tup (pv 1)) (blkOk_by (own := [("_law_number", 2)]) (N := n_law_fits) (sc := defScope s_law_fits) (by decide +kernel)) (fun _ _ _ _ _ => (pg_name (i := 2) sc_law_fits.nd rfl (Or.inl rfl))) (fun _ _ _ _ _ => (pts_one (pt_cmpR op_eq (pe_ix (ix_tupK K rfl) (pv 0) (pe_op op_sub (pe_callB call_abs rfl b.abs_ (by decide +kernel) (pa_cons (pv 2) pa_nil)) pe_int) (fun _ _ => rfl)) (pe_callTy call_int1 rfl b.int_ (by decide +kernel) (pa_cons (pe_cmpR op_gt (pv 2) pe_int (nomark _)) pa_nil)) (nomark _)))) (fun _ _ _ _ _ => pe_int)) (pe_lst pa_nil) (nomark _)))), [.im (encB bs), .im (encC c)], 1, .cons (.tup _) (.cons (.tup _) .nil), rfl, 0, ?_⟩
  refine p_ret (Ev.to (ev_neD (ev_lcTd (ct := 0) (l := c) (enc := PyData.int) (g := fun _ => PyData.int 1) (p := fun n => decide ((((bs[n.natAbs - 1]?).getD 0 : Nat) : Int) = if decide (0 < n) = true then 1 else 0)) (ev_im rfl) (by omega) (by decide) (ln rfl) (fun i n hn => ?_) fun _ _ _ _ => ev_int) (ev_lst ea_nil) (ones_flat _) nil_flat) ?_) ⟨rfl, rfl⟩
  · obtain ⟨h1, h2⟩ := hc n (List.mem_of_getElem? hn)
    obtain ⟨bv, hb⟩ : ∃ bv, bs[n.natAbs - 1]? = some bv := ⟨_, List.getElem?_eq_getElem (by omega)⟩
    rw [hb]
    exact ET.z (et_test (ev_eqI (ev_ixT (ev_im rfl) (ev_sub (ev_abs (ev_im rfl)) ev_int) (j := n.natAbs - 1) (by unfold iabs; split <;> omega) (get_map hb)) (ev_intB (ev_gt (ev_im rfl) ev_int))))
  · rw [eqv_nil, isEmpty_any]
    rfl
/- _law_models: slots _law_many 0, _law_clauses 1, _law_assumed 2, _law_found 3, _law_bits 4, _law_clause 5, _law_number 6; cells ['_law_bits'] -/
abbrev s_law_models : Stmt := topS 38
abbrev n_law_models : List Str := ["_law_many", "_law_clauses", "_law_assumed", "_law_found", "_law_bits", "_law_clause", "_law_number"]
abbrev p_law_models : List Str := ["_law_many", "_law_clauses", "_law_assumed"]
theorem sc_law_models : FnScope n_law_models p_law_models (defScope s_law_models) := ⟨rfl, rfl, rfl, by decide +kernel, rfl, by decide +kernel, by decide +kernel⟩
def fMod : List PyData → Kd → PyData → Prop := fun ds k d => ∃ (m : Nat) (cls : List (List Int)) (asm : List Int), m ≤ 5 ∧ cls.length ≤ 1000 ∧ asm.length ≤ 1000 ∧ (∀ c ∈ cls, Mi.Gd m c) ∧ (∀ n ∈ asm, n ≠ 0 ∧ n.natAbs ≤ m) ∧ ds = [.int (m : Int), .tuple (cls.map encC), .tuple (asm.map .int)] ∧ k = .nw ∧ d = .list ((Mi.modelsL m cls asm).map encB)
theorem isEmpty_all {α : Type} {p : α → Bool} {g : α → PyData} (l : List α) : ((l.filter fun x => !p x).map g).isEmpty = l.all p := by
  have := isEmpty_any (p := fun x => !p x) (g := g) l
  rw [← Bool.not_not (List.isEmpty _), this, List.all_eq_not_any_not]
theorem ok_law_models (b : Bl mg) (c_law_rows : Cal P w K mg base 2 "_law_rows" p_law_rows (SpF K fRws)) (c_law_fits : Cal P w K mg base 65 "_law_fits" p_law_fits (SpF K fFits))
    (F : Fun K "_law_models" "_law_models" s_law_models f fd) : FnOk P w K mg base L2.CX0 66 f fd p_law_models (SpF K fMod) := by
  refine fn_pure F sc_law_models (fun ds k d h => by obtain ⟨_, _, _, _, _, _, _, _, rfl, _⟩ := h; rfl) fun cdv A outer s H E hr ds k d h => ?_
  have hu64 : (A.deeper (envOfC "_law_models" (defScope s_law_models) s.heap.objs.size f cdv)).units + 64 < cLine := (hr.mono (show 64 ≤ 65 by decide)).units
  obtain ⟨m, cls, asm, hm, hl1, hl2, hg, ha, rfl, rfl, rfl⟩ := h
  refine ⟨_, (pss_cons (ps_set (i := 3) sc_law_models.nd rfl (Or.inl rfl) (pe_lst pa_nil))
(pss_cons (ps_for PassesOwn.never rfl (pi_list (pe_def c_law_rows hr (pa_cons (pv 0) pa_nil))) (pg_name (i := 4) sc_law_models.nd rfl (Or.inr rfl))
(pss_one (ps_if (pt_cmpR (op_eqD hu64) (pe_lc (own := [("_law_clause", 5)]) (g := (gName 5)) rfl sc_law_models.nd (pi_tup (pv 1)) (blkOk_by (own := [("_law_clause", 5)]) (N := n_law_models) (sc := defScope s_law_models) (by decide +kernel)) (fun _ _ _ _ _ => (pg_name (i := 5) sc_law_models.nd rfl (Or.inl rfl))) (fun _ _ _ _ _ => (pts_one (pt_not (pt_val (pe_def c_law_fits hr (pa_cons (pv 4) (pa_cons (pv 5) pa_nil))))))) (fun _ _ _ _ _ => pe_int)) (pe_lst pa_nil) (nomark _))
(pss_one (ps_if (pt_cmpR (op_eqD hu64) (pe_lc (own := [("_law_number", 6)]) (g := (gName 6)) rfl sc_law_models.nd (pi_tup (pv 2)) (blkOk_by (own := [("_law_number", 6)]) (N := n_law_models) (sc := defScope s_law_models) (by decide +kernel)) (fun _ _ _ _ _ => (pg_name (i := 6) sc_law_models.nd rfl (Or.inl rfl))) (fun _ _ _ _ _ => (pts_one (pt_not (pt_val (pe_def c_law_fits hr (pa_cons (pv 4) (pa_cons (pe_tup (pa_cons (pv 6) pa_nil)) pa_nil))))))) (fun _ _ _ _ _ => pe_int)) (pe_lst pa_nil) (nomark _))
(pss_one (ps_expr (pe_bm PySem.F.plainAttrs_list PySem.F.slot_list_append PySem.F.type_list_append mt_append (pv 3) (pa_cons (pv 4) pa_nil))))
pss_nil))
pss_nil)))
(pss_one (ps_ret (pv 3))))), [.im (.int (m : Int)), .im (.tuple (cls.map encC)), .im (.tuple (asm.map .int))], 4, .cons (.int _) (.cons (.tup _) (.cons (.tup _) .nil)), rfl, 0, ?_⟩
  refine pq_setN (ev_lst ea_nil) (ln rfl) ?_
  refine p_seq (N1 := fun Γ' => ∃ e, Γ' = [.im (.int (m : Int)), .im (.tuple (cls.map encC)), .im (.tuple (asm.map .int)), .own ((Mi.modelsL m cls asm).map encB), e, .un, .un])
    (p_forN (α := List Nat) (S := List (List Nat)) (l := Mi.rowsL m) (enc := encB) (fun s e => [.im (.int (m : Int)), .im (.tuple (cls.map encC)), .im (.tuple (asm.map .int)), .own (s.map encB), e, .un, .un]) (fun s rest => s ++ (rest.filter fun bs => cls.all (Mi.fits bs) && asm.all fun n => Mi.fits bs [n]) = Mi.modelsL m cls asm ∧ s.length + rest.length ≤ 1000 ∧ ∀ r ∈ rest, r.length = m)
      (ev_def (ea_cons (ev_im rfl) ea_nil) ⟨m, hm, rfl, rfl, rfl⟩) (s0 := []) (e0 := .un) rfl ⟨rfl, by
        have h32 : 2 ^ m ≤ 2 ^ 5 := Nat.pow_le_pow_right (by decide) hm
        rw [Mi.rowsL_len]
        show 0 + 2 ^ m ≤ 1000
        omega, fun r hr => (Mi.rowsL_mem hr).1⟩ (fun _ _ _ => ⟨ln rfl, rfl⟩) ?_ (fun s e ⟨h1, _, _⟩ => ⟨e, by rw [← h1]; simp⟩)) ?_
  · rintro s r rest ⟨h1, h2, h3⟩
    have hrl := h3 r List.mem_cons_self
    have h2 : s.length + (rest.length + 1) ≤ 1000 := h2
    have hrest : ∀ q ∈ rest, q.length = m := fun q hq => h3 q (List.mem_cons_of_mem _ hq)
    rw [List.filter_cons] at h1
    refine p_if (ET.to (et_test (ev_eqD (ev_lcTd (ct := 0) (l := cls) (enc := encC) (g := fun _ => PyData.int 1) (p := fun c => !Mi.fits r c) (ev_im rfl) (by omega) (by decide) (ln rfl) (fun i c hc => ET.z (et_not (et_B (ev_def (k := .im) (ea_cons (ev_im rfl) (ea_cons (ev_im rfl) ea_nil)) ⟨r, c, fun n hn => by rw [hrl]; exact (hg c (List.mem_of_getElem? hc)).1 n hn, by have := (hg c (List.mem_of_getElem? hc)).2; omega, rfl, rfl, rfl⟩)))) fun _ _ _ _ => ev_int) (ev_lst ea_nil) (ones_flat _) nil_flat)) (by rw [eqv_nil, isEmpty_all])) (fun e => ?_) fun e => ?_
    · refine p_if (ET.to (et_test (ev_eqD (ev_lcTd (ct := 0) (l := asm) (enc := PyData.int) (g := fun _ => PyData.int 1) (p := fun n => !Mi.fits r [n]) (ev_im rfl) (by omega) (by decide) (ln rfl) (fun i n hn => ET.z (et_not (et_B (ev_def (k := .im) (ea_cons (ev_im rfl) (ea_cons (ev_tup (ei_cons (ev_im rfl) ea_nil)) ea_nil)) ⟨r, [n], fun n' hn' => by
          rw [List.mem_singleton] at hn'
          subst hn'
          rw [hrl]
          exact ha _ (List.mem_of_getElem? hn), Nat.le_of_ble_eq_true rfl, rfl, rfl, rfl⟩)))) fun _ _ _ _ => ev_int) (ev_lst ea_nil) (ones_flat _) nil_flat)) (by rw [eqv_nil, isEmpty_all])) (fun e2 => ?_) fun e2 => ?_
      · rw [if_pos (by rw [e, e2]; rfl)] at h1
        refine p_app rfl (ev_im rfl) (by rw [List.length_map]; omega) ⟨s ++ [r], _, ⟨by rw [← h1, List.append_assoc]; rfl, by rw [List.length_append]; show s.length + 1 + rest.length ≤ 1000; omega, hrest⟩, by rw [List.map_append]; rfl⟩
      · rw [if_neg (by rw [e, e2]; simp)] at h1
        exact sg_next ⟨s, _, ⟨h1, by omega, hrest⟩, rfl⟩
    · rw [if_neg (by rw [e]; simp)] at h1
      exact sg_next ⟨s, _, ⟨h1, by omega, hrest⟩, rfl⟩
  · rintro _ ⟨e, rfl⟩
    exact sg_retOwn rfl ⟨rfl, rfl⟩
end
end W26

set_option Elab.async false
set_option linter.all false
set_option maxRecDepth 100000
set_option maxHeartbeats 2000000
namespace W26
open PySem PySem.Spec PyProof.Rows L2 Lg
open Mi (Line)
section
variable {K : PySem.W.Frag} {m : Md} {k k1 k2 : Kd} {te : TE} {t u w : TS} {Γ : List En} {c : Nat} {N Bk Ct : Po} {Rt : Kd → PyData → List En → Prop}
theorem ev_at {i : Nat} {l : Addr} {ds : List PyData} (h : Γ[i]? = some (.at_ l ds)) : Ev K m .da (tVar i) Γ 0 (Is (.list ds)) := fun H0 P H σ B o Q q => by
  obtain ⟨xs, e, _, r1, r2⟩ := o.sl i _ h
  exact ⟨_, e, q _ H _ o (Gx.refl _ _) rfl (.inr ⟨l, xs, ds, rfl, rfl, r1, r2⟩)⟩
theorem p_appA {i : Nat} {l : Addr} {ds : List PyData} {d : PyData} (hi : Γ[i]? = some (.at_ l ds)) (he : Ev K none .im te Γ c (Is d)) (hl : ds.length < 100000) (h : N (Γ.set i (.at_ l (ds ++ [d])))) : Sg K none (tDrop (tBM K "list" rAppend (tVar i) (tCons te tNil))) Γ 0 N Bk Ct Rt := fun H0 P H σ B D o q1 _ _ _ => by
  obtain ⟨xs, e1, e2, e3, e4⟩ := o.sl i _ hi
  refine ⟨_, e1, .inl ⟨rfl, _, SqL.of e3⟩, ?_⟩
  refine he H0 P H σ B o.free _ fun v H' d' o' g r e => ?_
  subst r
  have hl' : H' l = some (.lst xs) := g.l e3
  exact ⟨l, xs, v, rfl, rfl, hl', by rw [e4.length]; exact z_lt hl, q1 _ _ _ h (o'.writeA hi hl' (ImA.snoc e (e4.mono g)))⟩
theorem ok_re {H0 : Hp} {P : Pn} {H : Hp} {σ : L2.St} {B i : Nat} {e e' : En} (o : Ok K m H0 P H σ Γ B) (he : Γ[i]? = some e) (h1 : OwnE e = true) (h2 : OwnE e' = true) (h : SlOk K m H0 H σ i e') : Ok K m H0 P H σ (Γ.set i e') B := by
  have hi : i < Γ.length := (List.getElem?_eq_some_iff.mp he).1
  have key : ∀ j a, OwnAt (Γ.set i e') σ j a → OwnAt Γ σ j a := fun j a ⟨⟨e2, z1, z2⟩, z3⟩ => by
    by_cases hj : i = j
    · subst hj
      exact ⟨⟨e, he, h1⟩, z3⟩
    · rw [get_set_ne hj] at z1
      exact ⟨⟨e2, z1, z2⟩, z3⟩
  refine ⟨by rw [List.length_set]; exact o.len, o.fr, o.pen, fun j e2 z => ?_, fun j k a z1 z2 => o.dis j k a (key j a z1) (key k a z2), fun q hq => ⟨(o.pin q hq).1, fun j z => (o.pin q hq).2 j (key j _ z)⟩, o.tk⟩
  by_cases hj : i = j
  · subst hj
    rw [get_set_eq hi] at z
    cases z
    exact h
  · rw [get_set_ne hj] at z
    exact o.sl j e2 z
/-- what _law_refuted gives; ds': the lines behind it -/
def RPost (m : Nat) (cl : List (List Int)) (tr : List Int) (ls : List Line) (n : Nat) (ds' : List PyData) (d : PyData) : Prop :=
  d = .tuple [.none, .none] ∨ ∃ ws c, ds' = (ls ++ ws).map encL ∧ d = .tuple [.int (((ls ++ ws).length - 1 : Nat) : Int), encC c] ∧ Mi.Ref m cl tr ls n ws c
structure RPre (m : Nat) (cl : List (List Int)) (tr : List Int) (ls : List Line) (n : Nat) : Prop where
  m5 : m ≤ 5
  cl1 : cl.length ≤ 1000
  gd : ∀ c ∈ cl, Mi.Gd m c
  tr1 : tr.length + (Mi.freeV m tr).length ≤ 5
  con : Mi.Con tr
  fr : (Mi.freeV m tr).length ≤ n
  all : ∃ cs, Mi.allC cl ls = some cs
  len : ls.length + 2 ^ (n + 1) ≤ 1000
def SpRf (K : PySem.W.Frag) : Nat → Sp
  | 0 => fun _ _ _ _ => False
  | n + 1 => fun vs H Q _ => ∃ (m : Nat) (cl : List (List Int)) (tr : List Int) (ls : List Line) (v1 : V) (lt l : Addr) (xt xs : List V),
    vs = [.int (m : Int), v1, .ref lt, .ref l] ∧ Im K H v1 (.tuple (cl.map encC)) ∧ lt ≠ l ∧ H lt = some (.lst xt) ∧ ImA K H xt (tr.map .int) ∧ H l = some (.lst xs) ∧ ImA K H xs (ls.map encL) ∧ RPre m cl tr ls n ∧
    ∀ v H' xs' ds' d, (∀ b o, b ≠ l → H b = some o → H' b = some o) → H' l = some (.lst xs') → ImA K H' xs' ds' → Im K H' v d → RPost m cl tr ls n ds' d → Q v H'
theorem p_callRf {n i j m : Nat} {cl : List (List Int)} {tr : List Int} {ls : List Line} {l : Addr} {E : XK} (h0 : Γ[0]? = some (.im (.int (m : Int)))) (h1 : Γ[1]? = some (.im (.tuple (cl.map encC)))) (he : Ev K none .nw te Γ c (Is (.list (tr.map .int)))) (h3 : Γ[3]? = some (.at_ l (ls.map encL)))
    (hi : i < Γ.length) (hj : j < Γ.length) (hp : RPre m cl tr ls n) (hN : ∀ ds' x y, RPost m cl tr ls n ds' (.tuple [x, y]) → N (((Γ.set 3 (.at_ l ds')).set i (.im x)).set j (.im y))) :
    Sg K none (tAsg (tCall (SpRf K (n + 1)) [] E (tCons (tVar 0) (tCons (tVar 1) (tCons te (tCons (tVar 3) tNil))))) (gTup K 2 (gCons (gName i) (gCons (gName j) gNil)))) Γ 0 N Bk Ct Rt := fun H0 P H σ B D o q1 _ _ _ => by
  obtain ⟨v0, e0, i0⟩ := o.sl 0 _ h0
  obtain ⟨v1, e1, i1⟩ := o.sl 1 _ h1
  obtain rfl : v0 = .int (m : Int) := by cases i0; rfl
  refine ⟨_, e0, _, e1, ?_⟩
  obtain ⟨xs0, _, _, l30, _⟩ := o.sl 3 _ h3
  refine he H0 P H σ B o.free _ fun vt H1 d o1 g r e => ?_
  subst r
  obtain ⟨lt, xt, ds, rfl, e2, hn, hlt, ha⟩ := e
  cases e2
  obtain ⟨xs, s3, n3, l3, a3⟩ := o1.sl 3 _ h3
  have hne : lt ≠ l := fun z => by
    rw [z, l30] at hn
    cases hn
  refine ⟨_, s3, m, cl, tr, ls, v1, lt, l, xt, xs, rfl, i1.mono g, hne, hlt, ha, l3, a3, hp, fun v H' xs' ds' d hk hl' ha' hv hq => ?_⟩
  obtain ⟨x, y, rfl⟩ : ∃ x y, d = .tuple [x, y] := by
    rcases hq with rfl | ⟨_, _, _, rfl, _⟩ <;> exact ⟨_, _, rfl⟩
  obtain ⟨H1', s1, l1', a1', eu⟩ := mut_heap l3 hk hl' ha'
  have o3 := (o1.same s1).writeA h3 l1' a1'
  rw [eu] at o3
  obtain ⟨a, ys, rfl, sq, q⟩ := (show Dat K H' v _ from .inl hv).tup
  cases q with
  | cons q2 q3 =>
    cases q3 with
    | cons q3 q4 =>
      cases q4
      exact ⟨a, _, rfl, sq, rfl, _, _, rfl, _, _, rfl, rfl, q1 _ _ _ (hN ds' x y hq) (put2 o3 (by rw [List.length_set]; exact hi) (by rw [List.length_set]; exact hj) q2 q3)⟩
end
section
variable {P : Program} {w : World} {K : PySem.W.Frag} {mg : Str → Option Value} {base : Heap} {f : Addr} {fd : FuncData} {C fI : Addr}
/- _law_next_variable: slots _law_many 0, _law_clauses 1, _law_trues 2, _law_clause 3, _law_left 4, _law_variable 5, _law_number 6; cells ['_law_trues'] -/
abbrev s_law_next_variable : Stmt := topS 39
abbrev n_law_next_variable : List Str := ["_law_many", "_law_clauses", "_law_trues", "_law_clause", "_law_left", "_law_variable", "_law_number"]
abbrev p_law_next_variable : List Str := ["_law_many", "_law_clauses", "_law_trues"]
theorem sc_law_next_variable : FnScope n_law_next_variable p_law_next_variable (defScope s_law_next_variable) := ⟨rfl, rfl, rfl, by decide +kernel, rfl, by decide +kernel, by decide +kernel⟩
def oI : Option Int → PyData
  | none => .none
  | some v => .int v
def fNext : List PyData → Kd → PyData → Prop := fun ds k d => ∃ (m : Nat) (cl : List (List Int)) (tr : List Int), m ≤ 5 ∧ (∀ c ∈ cl, Mi.Gd m c) ∧ tr.length ≤ 1000 ∧ ds = [.int (m : Int), .tuple (cl.map encC), .list (tr.map .int)] ∧ k = .im ∧ d = oI (Mi.nextV m cl tr)
theorem ints_shaped (l : List Int) : SeqAt.shaped (.list (l.map PyData.int)) = true := flat_shapedL (n := 0) fun x hx => by
  obtain ⟨_, _, rfl⟩ := List.mem_map.mp hx
  rfl
theorem ok_law_next_variable (b : Bl mg) (F : Fun K "_law_next_variable" "_law_next_variable" s_law_next_variable f fd) : FnOk P w K mg base L2.CX0 1 f fd p_law_next_variable (SpF K fNext) := by
  refine fn_pure F sc_law_next_variable (fun ds k d h => by obtain ⟨_, _, _, _, _, _, rfl, _⟩ := h; rfl) fun cdv A outer s H E hr ds k d h => ?_
  have hu64 := hr.units
  obtain ⟨m, cl, tr, hm, hg, ht, rfl, rfl, rfl⟩ := h
  refine ⟨_, (pss_cons (ps_for PassesOwn.never rfl (pi_tup (pv 1)) (pg_name (i := 3) sc_law_next_variable.nd rfl (Or.inl rfl))
(pss_cons (ps_setLc (i := 4) (own := [("_law_number", 6)]) (g := (gName 6)) rfl sc_law_next_variable.nd rfl rfl (sw_true rfl rfl rfl (by decide +kernel)) (pi_tup (pv 3)) (blkOk_by (own := [("_law_number", 6)]) (N := n_law_next_variable) (sc := defScope s_law_next_variable) (by decide +kernel)) (fun _ _ _ _ _ => (pg_name (i := 6) sc_law_next_variable.nd rfl (Or.inl rfl))) (fun _ _ _ _ _ => (pts_one (pt_cmpR (op_niK K rfl) (pe_un un_neg (pv 6)) (pv 2) (by rfl)))) (fun _ _ _ _ _ => (pv 6)))
(pss_one (ps_if (PW.pt (pw_and (pt_cmpR op_eq (pe_callB call_len_seq rfl b.len_ (by decide +kernel) (pa_cons (pv 4) pa_nil)) pe_int (nomark _)) (pw_and1 (pt_cmpR (op_niK K rfl) (pe_ix (ix_listK K rfl) (pv 4) pe_int (fun _ _ => rfl)) (pv 2) (by rfl)))))
(pss_one (ps_ret (pe_callB call_abs rfl b.abs_ (by decide +kernel) (pa_cons (pe_ix (ix_listK K rfl) (pv 4) pe_int (fun _ _ => rfl)) pa_nil))))
pss_nil))))
(pss_cons (ps_setLc (i := 4) (own := [("_law_variable", 5)]) (g := (gName 5)) rfl sc_law_next_variable.nd rfl rfl (sw_true rfl rfl rfl (by decide +kernel)) (pi_range2 rfl b.range_ (pa_cons pe_int (pa_cons (pe_op op_add (pv 0) pe_int) pa_nil))) (blkOk_by (own := [("_law_variable", 5)]) (N := n_law_next_variable) (sc := defScope s_law_next_variable) (by decide +kernel)) (fun _ _ _ _ _ => (pg_name (i := 5) sc_law_next_variable.nd rfl (Or.inl rfl))) (fun _ _ _ _ _ => (pts_one (PW.pt (pw_and (pt_cmpR (op_niK K rfl) (pv 5) (pv 2) (by rfl)) (pw_and1 (pt_cmpR (op_niK K rfl) (pe_un un_neg (pv 5)) (pv 2) (by rfl))))))) (fun _ _ _ _ _ => (pv 5)))
(pss_one (ps_ret (pe_ifExp (pt_cmpR (op_neD hu64) (pv 4) (pe_lst pa_nil) (nomark _)) (pe_ix (ix_listK K rfl) (pv 4) pe_int (fun _ _ => rfl)) pe_non))))), [.im (.int (m : Int)), .im (.tuple (cl.map encC)), .ro (.list (tr.map .int))], 4, .cons (.int _) (.cons (.tup _) (.cons (.ro _) .nil)), rfl, 0, ?_⟩
  refine p_seq (N1 := fun Γ' => Mi.nextC tr cl = none ∧ ∃ e3 e4, Γ' = [.im (.int (m : Int)), .im (.tuple (cl.map encC)), .ro (.list (tr.map .int)), e3, e4, .un, .un])
    (p_forT (α := List Int) (S := En) (l := cl) (enc := encC) (fun e4 e => [.im (.int (m : Int)), .im (.tuple (cl.map encC)), .ro (.list (tr.map .int)), e, e4, .un, .un]) (fun _ rest => Mi.nextC tr rest = Mi.nextC tr cl ∧ ∀ c ∈ rest, Mi.Gd m c) (ev_im rfl) (s0 := .un) (e0 := .un) rfl ⟨rfl, hg⟩ (fun _ _ _ => ⟨ln rfl, rfl⟩) ?_ (fun e4 e ⟨h1, _⟩ => ⟨h1.symm, e, e4, rfl⟩)) ?_
  · rintro e4 c rest ⟨h1, h2⟩
    have hc := h2 c List.mem_cons_self
    have h2' : ∀ c ∈ rest, Mi.Gd m c := fun c hc => h2 c (List.mem_cons_of_mem _ hc)
    refine pq_setN (ds := (Mi.live tr c).map .int) (ev_lcTd (l := c) (enc := PyData.int) (g := PyData.int) (p := fun n => !decide (-n ∈ tr)) (ev_im rfl) (by have := hc.2; omega) (by decide) (ln rfl) (fun i n _ => et_test (ev_niI (ev_neg (ev_im rfl)) (ev_ro rfl) (.inr rfl))) fun i n _ _ => ev_im rfl) (ln rfl) ?_
    have lL : ∀ {Γ : List En}, Γ[4]? = some (.own ((Mi.live tr c).map .int)) → Ev K none .im (tCB (rLen1 K) (tCons (tVar 4) tNil)) Γ 0 (Is (.int ((Mi.live tr c).length : Int))) := fun h => Ev.to (ev_len (ev_own h) (.inr rfl)) (by rw [List.length_map])
    have h1 : (match Mi.live tr c with
      | [n] => if n ∈ tr then Mi.nextC tr rest else some (if n < 0 then -n else n)
      | _ => Mi.nextC tr rest) = Mi.nextC tr cl := h1
    cases hl : Mi.live tr c with
    | nil =>
      rw [hl] at h1 lL
      exact p_if (et_and0 (ET.to (et_test (ev_eqI (lL rfl) ev_int)) rfl)) (fun e => absurd e (by decide)) fun _ => sg_next ⟨_, _, ⟨h1, h2'⟩, rfl⟩
    | cons n r =>
      cases r with
      | cons n2 r2 =>
        rw [hl] at h1 lL
        refine p_if (et_and0 (ET.to (et_test (ev_eqI (lL rfl) ev_int)) ?_)) (fun e => absurd e (by decide)) fun _ => sg_next ⟨_, _, ⟨h1, h2'⟩, rfl⟩
        rw [decide_eq_false_iff_not, List.length_cons, List.length_cons]
        omega
      | nil =>
        rw [hl] at h1 lL
        refine p_if (et_and (et_test (ev_eqI (lL rfl) ev_int)) fun _ => et_test (ev_niI (ev_ixL (ev_own rfl) ev_int (j := 0) rfl rfl) (ev_ro rfl) (.inr rfl))) (fun e => ?_) fun e => ?_
        · have hn : n ∉ tr := by simpa using e
          have h1 : (if n ∈ tr then Mi.nextC tr rest else some (if n < 0 then -n else n)) = Mi.nextC tr cl := h1
          rw [if_neg hn] at h1
          refine p_ret (ev_abs (ev_ixL (ev_own rfl) ev_int (j := 0) rfl rfl)) ⟨rfl, ?_⟩
          unfold Mi.nextV
          rw [← h1]
          rfl
        · have hn : n ∈ tr := by simpa using e
          have h1 : (if n ∈ tr then Mi.nextC tr rest else some (if n < 0 then -n else n)) = Mi.nextC tr cl := h1
          rw [if_pos hn] at h1
          exact sg_next ⟨_, _, ⟨h1, h2'⟩, rfl⟩
  · rintro _ ⟨h1, e3, e4, rfl⟩
    refine pq_setN (ds := (Mi.freeV m tr).map fun (i : Nat) => .int (1 + (i : Int))) (ev_lcR2d (n := m) (g := fun (i : Nat) => .int (1 + (i : Int))) (p := fun i => !decide ((1 + (i : Int)) ∈ tr) && !decide (-(1 + (i : Int)) ∈ tr)) (ea_cons ev_int (ea_cons (ev_add (ev_im rfl) ev_int) ea_nil)) (by omega) (by decide) (ln rfl) (fun i _ => et_and (et_test (ev_niI (ev_im rfl) (ev_ro rfl) (.inr rfl))) fun _ => et_test (ev_niI (ev_neg (ev_im rfl)) (ev_ro rfl) (.inr rfl))) fun i _ _ => ev_im rfl) (ln rfl) ?_
    have e0 : (Mi.freeV m tr).map (fun (i : Nat) => PyData.int (1 + (i : Int))) = ((Mi.freeV m tr).map fun (i : Nat) => (1 + (i : Int))).map PyData.int := by rw [List.map_map]; rfl
    refine p_ret (evp_if (ET.to (et_test (ev_neD (ev_own rfl) (ev_lst ea_nil) (by rw [e0]; exact ints_shaped _) nil_flat)) (by rw [eqv_nil])) (fun e => ?_) fun e => ?_) ⟨rfl, rfl⟩
    · unfold Mi.nextV
      rw [h1]
      cases hf : Mi.freeV m tr with
      | nil => rw [hf] at e; exact absurd (show false = true from e) Bool.false_ne_true
      | cons i r => exact (ev_ixL (ev_own rfl) ev_int (j := 0) rfl rfl).z
    · unfold Mi.nextV
      rw [h1]
      cases hf : Mi.freeV m tr with
      | cons i r => rw [hf] at e; exact absurd (show true = false from e) (by decide)
      | nil => exact ev_non
/- _law_refuted: slots _law_many 0, _law_clauses 1, _law_trues 2, _law_lines 3, _law_n 4, _law_clause 5, _law_variable 6, _law_first 7, _law_one 8, _law_second 9, _law_two 10, _law_number 11; cells ['_law_trues'] -/
abbrev s_law_refuted : Stmt := topS 40
abbrev n_law_refuted : List Str := ["_law_many", "_law_clauses", "_law_trues", "_law_lines", "_law_n", "_law_clause", "_law_variable", "_law_first", "_law_one", "_law_second", "_law_two", "_law_number"]
abbrev p_law_refuted : List Str := ["_law_many", "_law_clauses", "_law_trues", "_law_lines"]
theorem sc_law_refuted : FnScope n_law_refuted p_law_refuted (defScope s_law_refuted) := ⟨rfl, rfl, rfl, by decide +kernel, rfl, by decide +kernel, by decide +kernel⟩
theorem ok_law_refuted (b : Bl mg) (c_law_next_variable : Cal P w K mg base 1 "_law_next_variable" p_law_next_variable (SpF K fNext)) (c_law_resolved : Cal P w K mg base 66 "_law_resolved" p_law_resolved (SpF K fResolvent))
    (F : Fun K "_law_refuted" "_law_refuted" s_law_refuted f fd) (hm : mg "_law_refuted" = some (.ref f)) (hk : PySem.W.keepIn K (.ref f) = true) (hb : Binds K fd p_law_refuted []) : ∀ n, FnOk P w K mg base L2.CX0 (67 + n) f fd p_law_refuted (SpRf K n)
  | 0 => F.ok sc_law_refuted (fun _ _ _ _ z => z.elim) fun _ _ _ _ _ _ _ _ _ z => z.elim
  | n + 1 => by
    have c_law_refuted : Cal P w K mg base (67 + n) "_law_refuted" p_law_refuted (SpRf K n) := ⟨f, fd, ok_law_refuted b c_law_next_variable c_law_resolved F hm hk hb n, hm, hk, hb⟩
    have hj : 67 + n ≤ 67 + n := Nat.le_refl _
    have hj_law_next_variable : 1 ≤ 67 + n := by omega
    have hj_law_resolved : 66 ≤ 67 + n := by omega
    refine F.ok (k := 67 + n) sc_law_refuted (fun vs H Q E h => by obtain ⟨_, _, _, _, _, _, _, _, _, rfl, _⟩ := h; rfl) fun cdv A outer s H vs Q E hr h => ?_
    have hu64 := hr.units
    obtain ⟨m, cl, tr, ls, v1, lt, l, xt, xs, rfl, i1, hne, hlt, hxt, hl, hxs, hp, q⟩ := h
    refine ⟨_, (pss_cons (ps_for PassesOwn.never rfl (Zp.pi_enumT rfl b.enumerate_ (pa_cons (pv 1) pa_nil)) (pg_tup rfl (pgs_cons (pg_name (i := 4) sc_law_refuted.nd rfl (Or.inl rfl)) (pgs_cons (pg_name (i := 5) sc_law_refuted.nd rfl (Or.inl rfl)) pgs_nil)))
(pss_one (ps_if (pt_cmpR (op_eqD hu64) (pe_lc (own := [("_law_number", 11)]) (g := (gName 11)) rfl sc_law_refuted.nd (pi_tup (pv 5)) (blkOk_by (own := [("_law_number", 11)]) (N := n_law_refuted) (sc := defScope s_law_refuted) (by decide +kernel)) (fun _ _ _ _ _ => (pg_name (i := 11) sc_law_refuted.nd rfl (Or.inl rfl))) (fun _ _ _ _ _ => (pts_one (pt_cmpR (op_niK K rfl) (pe_un un_neg (pv 11)) (pv 2) (by rfl)))) (fun _ _ _ _ _ => pe_int)) (pe_lst pa_nil) (nomark _))
(pss_cons (ps_expr (pe_bm PySem.F.plainAttrs_list PySem.F.slot_list_append PySem.F.type_list_append mt_append (pv 3) (pa_cons (pe_tup (pa_cons pe_str (pa_cons (pv 4) pa_nil))) pa_nil)))
(pss_one (ps_ret (pe_tup (pa_cons (pe_op op_sub (pe_callB call_len_seq rfl b.len_ (by decide +kernel) (pa_cons (pv 3) pa_nil)) pe_int) (pa_cons (pv 5) pa_nil))))))
pss_nil)))
(pss_cons (ps_set (i := 6) sc_law_refuted.nd rfl (Or.inl rfl) (pe_def c_law_next_variable hr (pa_cons (pv 0) (pa_cons (pv 1) (pa_cons (pv 2) pa_nil))) (hj := hj_law_next_variable)))
(pss_cons (ps_if (pt_cmpR op_isN (pv 6) pe_non (nomark _))
(pss_one (ps_ret (pe_tup (pa_cons pe_non (pa_cons pe_non pa_nil)))))
pss_nil)
(pss_cons (ps_asg (pe_def c_law_refuted hr (pa_cons (pv 0) (pa_cons (pv 1) (pa_cons (pe_op op_cat (pv 2) (pe_lst (pa_cons (pv 6) pa_nil))) (pa_cons (pv 3) pa_nil)))) (hj := hj)) (pg_tup rfl (pgs_cons (pg_name (i := 7) sc_law_refuted.nd rfl (Or.inl rfl)) (pgs_cons (pg_name (i := 8) sc_law_refuted.nd rfl (Or.inl rfl)) pgs_nil))))
(pss_cons (ps_if (PW.pt (pw_or (pt_cmpR op_isN (pv 7) pe_non (nomark _)) (pw_or1 (pt_cmpR (op_niK K rfl) (pe_un un_neg (pv 6)) (pv 8) (by rfl)))))
(pss_one (ps_ret (pe_tup (pa_cons (pv 7) (pa_cons (pv 8) pa_nil)))))
pss_nil)
(pss_cons (ps_asg (pe_def c_law_refuted hr (pa_cons (pv 0) (pa_cons (pv 1) (pa_cons (pe_op op_cat (pv 2) (pe_lst (pa_cons (pe_un un_neg (pv 6)) pa_nil))) (pa_cons (pv 3) pa_nil)))) (hj := hj)) (pg_tup rfl (pgs_cons (pg_name (i := 9) sc_law_refuted.nd rfl (Or.inl rfl)) (pgs_cons (pg_name (i := 10) sc_law_refuted.nd rfl (Or.inl rfl)) pgs_nil))))
(pss_cons (ps_if (PW.pt (pw_or (pt_cmpR op_isN (pv 9) pe_non (nomark _)) (pw_or1 (pt_cmpR (op_niK K rfl) (pv 6) (pv 10) (by rfl)))))
(pss_one (ps_ret (pe_tup (pa_cons (pv 9) (pa_cons (pv 10) pa_nil)))))
pss_nil)
(pss_cons (ps_expr (pe_bm PySem.F.plainAttrs_list PySem.F.slot_list_append PySem.F.type_list_append mt_append (pv 3) (pa_cons (pe_tup (pa_cons pe_str (pa_cons (pv 7) (pa_cons (pe_tup (pa_cons (pe_tup (pa_cons (pv 6) (pa_cons (pv 9) pa_nil))) pa_nil)) pa_nil)))) pa_nil)))
(pss_one (ps_ret (pe_tup (pa_cons (pe_op op_sub (pe_callB call_len_seq rfl b.len_ (by decide +kernel) (pa_cons (pv 3) pa_nil)) pe_int) (pa_cons (pe_def c_law_resolved hr (pa_cons (pv 8) (pa_cons (pv 10) (pa_cons (pv 6) pa_nil))) (hj := hj_law_resolved)) pa_nil))))))))))))), ?_⟩
    have o : Ok K none (fun a => if a = l then none else H a) (H, []) H (L2.start n_law_refuted [.int (m : Int), v1, .ref lt, .ref l]) [.im (.int (m : Int)), .im (.tuple (cl.map encC)), .ro (.list (tr.map .int)), .at_ l (ls.map encL), .un, .un, .un, .un, .un, .un, .un, .un] 0 := by
      refine ⟨rfl, fun a u e _ => ?_, (fun _ _ z => nomatch z), fun i e he => ?_, fun i j a z1 z2 => ?_, fun _ z => by simp at z, fun _ _ z _ => z⟩
      · by_cases ha : a = l
        · rw [if_pos ha] at e
          cases e
        · rw [if_neg ha] at e
          exact e
      · match i, he with
        | 0, he => cases he; exact ⟨_, rfl, .int _⟩
        | 1, he => cases he; exact ⟨_, rfl, i1⟩
        | 2, he => cases he; exact ⟨_, rfl, .inr ⟨lt, xt, _, rfl, rfl, by show (if lt = l then none else H lt) ≠ none; rw [if_neg hne, hlt]; simp, hlt, hxt⟩⟩
        | 3, he => cases he; exact ⟨xs, rfl, if_pos rfl, hl, hxs⟩
        | i + 4, he =>
          have : e = .un := by
            have z : (List.replicate 8 En.un)[i]? = some e := he
            rw [List.getElem?_replicate] at z
            split at z
            · exact (Option.some.inj z).symm
            · cases z
          subst this
          exact True.intro
      · have k1 : ∀ i a, OwnAt [.im (.int (m : Int)), .im (.tuple (cl.map encC)), .ro (.list (tr.map .int)), .at_ l (ls.map encL), .un, .un, .un, .un, .un, .un, .un, .un] (L2.start n_law_refuted [.int (m : Int), v1, .ref lt, .ref l]) i a → i = 3 := fun i a z => by
          obtain ⟨⟨e, he, ho⟩, _⟩ := z
          match i, he with
          | 0, he => cases he; cases ho
          | 1, he => cases he; cases ho
          | 2, he => cases he; cases ho
          | 3, he => rfl
          | i + 4, he =>
            have : e = .un := by
              have z : (List.replicate 8 En.un)[i]? = some e := he
              rw [List.getElem?_replicate] at z
              split at z
              · exact (Option.some.inj z).symm
              · cases z
            subst this
            cases ho
        rw [k1 i a z1, k1 j a z2]
    have fin : ∀ {t : TS}, Sg K none t [.im (.int (m : Int)), .im (.tuple (cl.map encC)), .ro (.list (tr.map .int)), .at_ l (ls.map encL), .un, .un, .un, .un, .un, .un, .un, .un] 0 no no no (fun k d Γ' => k = .im ∧ ∃ ds', Γ'[3]? = some (.at_ l ds') ∧ RPost m cl tr ls n ds' d) → t { nx := fun _ H' => Q .non H', rt := Q } (L2.start n_law_refuted [.int (m : Int), v1, .ref lt, .ref l]) H := fun sg => by
      refine sg _ _ _ _ 0 _ o (fun _ _ _ z _ => z.elim) (fun _ _ _ z _ => z.elim) (fun _ _ _ z _ => z.elim) fun v H' σ' Γ' k d ⟨e1, ds', e2, e3⟩ o' r => ?_
      subst e1
      obtain ⟨xs', _, _, hl', hx'⟩ := o'.sl 3 _ e2
      exact q v H' xs' ds' d (fun a u ha e => o'.fr a u (by rw [if_neg ha]; exact e) fun _ _ z => nomatch z) hl' hx' r e3
    refine fin ?_
    have hm5 := hp.m5
    obtain ⟨cs, hcs⟩ := hp.all
    have hll := hp.len
    have htr := hp.tr1
    have hpow : 2 ≤ 2 ^ (n + 1) := by
      have : 2 ^ 1 ≤ 2 ^ (n + 1) := Nat.pow_le_pow_right (by decide) (by omega)
      omega
    have lA : ∀ {Γ : List En} {lz : List Line}, Γ[3]? = some (.at_ l (lz.map encL)) → 0 < lz.length → Ev K none .im (tOp (rI0 fun i j => .int (i - j)) (tCB (rLen1 K) (tCons (tVar 3) tNil)) (tC (.int 1))) Γ 0 (Is (.int ((lz.length - 1 : Nat) : Int))) := fun h hz => Ev.to (ev_sub (ev_len (ev_at h) (.inr rfl)) ev_int) (by rw [List.length_map]; congr 1; omega)
    refine p_seq (N1 := fun Γ' => ∃ e4 e5, Γ' = [.im (.int (m : Int)), .im (.tuple (cl.map encC)), .ro (.list (tr.map .int)), .at_ l (ls.map encL), e4, e5, .un, .un, .un, .un, .un, .un])
      (p_forE (α := List Int) (S := Unit) (l := cl) (enc := encC) (fun _ e4 e5 => [.im (.int (m : Int)), .im (.tuple (cl.map encC)), .ro (.list (tr.map .int)), .at_ l (ls.map encL), e4, e5, .un, .un, .un, .un, .un, .un]) (fun _ i rest => rest = cl.drop i) (ea_cons (ev_im rfl) ea_nil) (s0 := ()) (e0 := .un) (f0 := .un) rfl rfl (fun _ _ _ _ _ => ⟨ln rfl, ln rfl, rfl⟩) ?_ (fun _ e4 e5 _ => ⟨e4, e5, rfl⟩)) ?_
    · rintro _ i c rest hi hd
      have hci : cl[i]? = some c := by
        have z : (cl.drop i)[0]? = some c := by rw [← hd]; rfl
        rw [List.getElem?_drop, Nat.add_zero] at z
        exact z
      have hdr : rest = cl.drop (i + 1) := by
        rw [drop_cons hci] at hd
        exact (List.cons.inj hd).2
      have hgc := hp.gd c (List.mem_of_getElem? hci)
      refine p_if (ET.to (et_test (ev_eqD (ev_lcTd (l := c) (enc := PyData.int) (g := fun _ => PyData.int 1) (p := fun x => !decide (-x ∈ tr)) (ev_im rfl) (by have := hgc.2; omega) (by decide) (ln rfl) (fun i n _ => et_test (ev_niI (ev_neg (ev_im rfl)) (ev_ro rfl) (.inr rfl))) fun _ _ _ _ => ev_int) (ev_lst ea_nil) (ones_flat _) nil_flat)) (by rw [eqv_nil, isEmpty_all])) (fun e => ?_) fun e => sg_next ⟨(), _, _, hdr, rfl⟩
      have hneg : ∀ x ∈ c, -x ∈ tr := fun x hx => of_decide_eq_true (List.all_eq_true.mp e x hx)
      refine p_seq (N1 := fun Γ' => Γ' = [.im (.int (m : Int)), .im (.tuple (cl.map encC)), .ro (.list (tr.map .int)), .at_ l ((ls ++ [Line.given i]).map encL), .im (.int (i : Nat)), .im (encC c), .un, .un, .un, .un, .un, .un]) (p_appA rfl (ev_tup (ei_cons ev_str (ei_cons (ev_im rfl) ea_nil))) (by rw [List.length_map]; omega) (by rw [List.map_append]; rfl)) ?_
      rintro _ rfl
      exact p_ret (ev_tup (ei_cons (lA (lz := ls ++ [Line.given i]) rfl (by simp)) (ei_cons (ev_im rfl) ea_nil))) ⟨rfl, _, rfl, .inr ⟨[Line.given i], c, rfl, rfl, Mi.Ref.leaf hcs hci hneg hgc⟩⟩
    rintro _ ⟨e4, e5, rfl⟩
    refine pq_set (ev_def (k := .im) (ea_cons (ev_im rfl) (ea_cons (ev_im rfl) (ea_cons (ev_ro rfl) ea_nil))) ⟨m, cl, tr, hm5, hp.gd, by omega, rfl, rfl, rfl⟩) (ln rfl) ?_
    cases hv : Mi.nextV m cl tr with
    | none => exact p_when (ET.to (et_test (ev_isN (ev_im rfl))) rfl) (fun _ => p_endRet (ev_tup (ei_cons ev_non (ei_cons ev_non ea_nil))) ⟨rfl, _, rfl, .inl rfl⟩) fun e => absurd e (by decide)
    | some v =>
      have hf := Mi.nextV_free hp.gd hv
      obtain ⟨v, rfl⟩ : ∃ u : Nat, v = (u : Int) := ⟨v.toNat, by have := hf.1; omega⟩
      refine p_when (et_test (ev_isN (ev_im rfl))) (fun e => absurd (show false = true from e) Bool.false_ne_true) fun _ => ?_
      have f1 := Mi.freeV_lt hf (u := (v : Int)) (.inl rfl)
      have f2 := Mi.freeV_lt hf (u := -(v : Int)) (.inr rfl)
      obtain ⟨n, rfl⟩ : ∃ n', n = n' + 1 := ⟨n - 1, by have := hp.fr; omega⟩
      have pe : 2 ^ (n + 1 + 1) = 2 ^ (n + 1) + 2 ^ (n + 1) := by rw [Nat.pow_succ]; omega
      have hpf := hp.fr
      refine p_seq (p_callRf (tr := tr ++ [(v : Int)]) (ls := ls) rfl rfl (Ev.to (ev_cat (ev_ro rfl) (ev_lst (ei_cons (ev_im rfl) ea_nil)) (by rw [List.length_map]; show tr.length + 1 ≤ 100000; omega)) (by rw [List.map_append]; rfl)) rfl (ln rfl) (ln rfl) ⟨hm5, hp.cl1, hp.gd, by rw [List.length_append]; show tr.length + 1 + _ ≤ 5; omega, hp.con.snoc hf (.inl rfl), by omega, hp.all, by omega⟩ (N := fun Γ' => ∃ ds' x y, RPost m cl (tr ++ [(v : Int)]) ls n ds' (.tuple [x, y]) ∧ Γ' = [.im (.int (m : Int)), .im (.tuple (cl.map encC)), .ro (.list (tr.map .int)), .at_ l ds', e4, e5, .im (.int (v : Int)), .im x, .im y, .un, .un, .un]) fun ds' x y h => ⟨ds', x, y, h, rfl⟩) ?_
      rintro _ ⟨ds1, x1, y1, h1, rfl⟩
      rcases h1 with h1 | ⟨w1, c1, rfl, h1, r1⟩
      · cases h1
        refine p_when (et_or1 (ET.to (et_test (ev_isN (ev_im rfl))) rfl)) (fun _ => p_endRet (ev_tup (ei_cons (ev_im rfl) (ei_cons (ev_im rfl) ea_nil))) ⟨rfl, _, rfl, .inl rfl⟩) fun e => absurd e (by decide)
      cases h1
      have l1 := r1.len
      refine p_when (et_or (et_test (ev_isN (ev_im rfl))) fun _ => et_test (ev_niI (ev_neg (ev_im rfl)) (ev_im rfl) (.inl rfl))) (fun e => ?_) fun e => ?_
      · have hz : -(v : Int) ∉ c1 := by simpa [Lg.isNon] using e
        exact p_endRet (ev_tup (ei_cons (ev_im rfl) (ei_cons (ev_im rfl) ea_nil))) ⟨rfl, _, rfl, .inr ⟨w1, c1, rfl, rfl, r1.drop hz⟩⟩
      have hz1 : -(v : Int) ∈ c1 := by simpa [Lg.isNon] using e
      refine p_seq (p_callRf (tr := tr ++ [-(v : Int)]) (ls := ls ++ w1) rfl rfl (Ev.to (ev_cat (ev_ro rfl) (ev_lst (ei_cons (ev_neg (ev_im rfl)) ea_nil)) (by rw [List.length_map]; show tr.length + 1 ≤ 100000; omega)) (by rw [List.map_append]; rfl)) rfl (ln rfl) (ln rfl) ⟨hm5, hp.cl1, hp.gd, by rw [List.length_append]; show tr.length + 1 + _ ≤ 5; omega, hp.con.snoc hf (.inr rfl), by omega, ⟨_, r1.all.choose_spec⟩, by rw [List.length_append]; omega⟩ (N := fun Γ' => ∃ ds' x y, RPost m cl (tr ++ [-(v : Int)]) (ls ++ w1) n ds' (.tuple [x, y]) ∧ Γ' = [.im (.int (m : Int)), .im (.tuple (cl.map encC)), .ro (.list (tr.map .int)), .at_ l ds', e4, e5, .im (.int (v : Int)), .im (.int (((ls ++ w1).length - 1 : Nat) : Int)), .im (encC c1), .im x, .im y, .un]) fun ds' x y h => ⟨ds', x, y, h, rfl⟩) ?_
      rintro _ ⟨ds2, x2, y2, h2, rfl⟩
      rcases h2 with h2 | ⟨w2, c2, rfl, h2, r2⟩
      · cases h2
        refine p_when (et_or1 (ET.to (et_test (ev_isN (ev_im rfl))) rfl)) (fun _ => p_endRet (ev_tup (ei_cons (ev_im rfl) (ei_cons (ev_im rfl) ea_nil))) ⟨rfl, _, rfl, .inl rfl⟩) fun e => absurd e (by decide)
      cases h2
      have l2 := r2.len
      refine p_when (et_or (et_test (ev_isN (ev_im rfl))) fun _ => et_test (ev_niI (ev_im rfl) (ev_im rfl) (.inl rfl))) (fun e => ?_) fun e => ?_
      · have hz : (v : Int) ∉ c2 := by simpa [Lg.isNon] using e
        exact p_endRet (ev_tup (ei_cons (ev_im rfl) (ei_cons (ev_im rfl) ea_nil))) ⟨rfl, _, rfl, .inr ⟨w1 ++ w2, c2, by rw [List.append_assoc], by rw [List.append_assoc], r1.second r2 hz⟩⟩
      have hz2 : (v : Int) ∈ c2 := by simpa [Lg.isNon] using e
      obtain ⟨c, hc, rc⟩ := Mi.Ref.chain hm5 hf hp.con r1 r2 hz1 hz2
      refine p_seq (N1 := fun Γ' => Γ' = [.im (.int (m : Int)), .im (.tuple (cl.map encC)), .ro (.list (tr.map .int)), .at_ l ((ls ++ w1 ++ w2 ++ [Line.chain ((ls ++ w1).length - 1) [(v, (ls ++ w1 ++ w2).length - 1)]]).map encL), e4, e5, .im (.int (v : Int)), .im (.int (((ls ++ w1).length - 1 : Nat) : Int)), .im (encC c1), .im (.int (((ls ++ w1 ++ w2).length - 1 : Nat) : Int)), .im (encC c2), .un]) (p_appA rfl (ev_tup (ei_cons ev_str (ei_cons (ev_im rfl) (ei_cons (ev_tup (ei_cons (ev_tup (ei_cons (ev_im rfl) (ei_cons (ev_im rfl) ea_nil))) ea_nil)) ea_nil)))) (by rw [List.length_map, List.length_append, List.length_append]; omega) (by rw [List.map_append (l₁ := ls ++ w1 ++ w2)]; rfl)) ?_
      rintro _ rfl
      refine p_ret (ev_tup (ei_cons (lA (lz := ls ++ w1 ++ w2 ++ [Line.chain ((ls ++ w1).length - 1) [(v, (ls ++ w1 ++ w2).length - 1)]]) rfl (by rw [List.length_append, List.length_singleton]; exact Nat.succ_pos _)) (ei_cons (Ev.to (ev_def (k := .im) (ea_cons (ev_im rfl) (ea_cons (ev_im rfl) (ea_cons (ev_im rfl) ea_nil))) ⟨c1, c2, (v : Int), rfl, by have := r1.gd.2; have := r2.gd.2; omega, rfl, rfl⟩) (show _ = encC c by rw [hc]; rfl)) ea_nil))) ⟨rfl, _, rfl, .inr ⟨w1 ++ w2 ++ [Line.chain ((ls ++ w1).length - 1) [(v, (ls ++ w1 ++ w2).length - 1)]], c, by simp only [List.append_assoc], by simp only [List.append_assoc], rc⟩⟩
end
end W26

set_option Elab.async false
set_option linter.all false
set_option maxRecDepth 100000
set_option maxHeartbeats 2000000
namespace W26
open PySem PySem.Spec PyProof.Rows L2 Lg
open Mi (Line)
/-- a promise that tells the answer by what holds of it -/
def SpQ (K : PySem.W.Frag) (pre : List PyData → Prop) (post : List PyData → PyData → Prop) : Sp := fun vs H Q _ => ∃ ds, DatA K H vs ds ∧ pre ds ∧ ∀ d v H', post ds d → Same H H' → Im K H' v d → Q v H'
theorem ev_defQ {K : PySem.W.Frag} {m : Md} {Γ : List En} {c : Nat} {t : TA} {pre : List PyData → Prop} {post : List PyData → PyData → Prop} {ds : List PyData} {E : XK} (ha : EA K m .da t Γ c (Is ds)) (hp : pre ds) : Ev K m .im (tCall (SpQ K pre post) [] E t) Γ c (post ds) :=
  ev_call (c2 := 0) ha fun H0 P H σ B o vs ds' e1 e2 Q q => by
    subst e1
    rw [List.append_nil]
    exact ⟨_, e2, hp, fun d v H' h s r => q v H' d (o.same s) (.of s) h r⟩
theorem fn_q {P : Program} {w : World} {K : PySem.W.Frag} {mg : Str → Option Value} {base : Heap} {x : Str} {st : Stmt} {f : Addr} {fd : FuncData} {N ps : List Str} {j : Nat} {pre : List PyData → Prop} {post : List PyData → PyData → Prop} (F : Fun K x x st f fd) (S : FnScope N ps (defScope st))
    (hlen : ∀ ds, pre ds → ds.length = ps.length)
    (hb : ∀ (cdv : Value) (A : Around) (outer : List Env) (s : Shared) (H : Hp) (E : XK), Room j (A.deeper (envOfC x (defScope st) s.heap.objs.size f cdv)) → ∀ ds, pre ds →
      ∃ t, PSs (cxOf CX0 P w K mg base N x (defScope st) f cdv A outer s H E).nox (defBody st) t ∧ ∃ es n c, Pars ds es ∧ N.length = es.length + n ∧ Sg K none t (es ++ List.replicate n .un) c no no no (fun k d _ => k = .im ∧ post ds d)) :
    FnOk P w K mg base CX0 (j + 1) f fd ps (SpQ K pre post) := by
  refine F.ok S (fun vs H Q E ⟨ds, h1, h2, _⟩ => by rw [h1.length]; exact hlen _ h2) fun cdv A outer s H vs Q E hr ⟨ds, h1, h2, q⟩ => ?_
  obtain ⟨t, ht, es, n, c, hp, hn, sg⟩ := hb cdv A outer s H E hr ds h2
  refine ⟨t, ht, sg H (H, []) H _ 0 _ (Ok.start h1 hp hn) (fun _ _ _ z _ => z.elim) (fun _ _ _ z _ => z.elim) (fun _ _ _ z _ => z.elim) fun v H' σ' Γ' k' d' ⟨e1, e2⟩ o r => ?_⟩
  subst e1
  exact q d' v H' e2 o.fr.same r
section
variable {P : Program} {w : World} {K : PySem.W.Frag} {mg : Str → Option Value} {base : Heap} {f : Addr} {fd : FuncData} {C fI : Addr}
/- _law_paper: slots _law_many 0, _law_clauses 1, _law_assumed 2, _law_lines 3, _law_last 4, _law_clause 5; cells [] -/
abbrev s_law_paper : Stmt := topS 41
abbrev n_law_paper : List Str := ["_law_many", "_law_clauses", "_law_assumed", "_law_lines", "_law_last", "_law_clause"]
abbrev p_law_paper : List Str := ["_law_many", "_law_clauses", "_law_assumed"]
theorem sc_law_paper : FnScope n_law_paper p_law_paper (defScope s_law_paper) := ⟨rfl, rfl, rfl, by decide +kernel, rfl, by decide +kernel, by decide +kernel⟩
structure PapPre (m : Nat) (cl : List (List Int)) : Prop where
  m5 : m ≤ 5
  cl1 : cl.length ≤ 1000
  gd : ∀ c ∈ cl, Mi.Gd m c
def preP : List PyData → Prop := fun ds => ∃ (m : Nat) (cl : List (List Int)), PapPre m cl ∧ ds = [.int (m : Int), .tuple (cl.map encC), .tuple []]
def postP : List PyData → PyData → Prop := fun ds d => d = .none ∨ ∃ (m : Nat) (cl : List (List Int)) (ws : List Line) (c : List Int), ds = [.int (m : Int), .tuple (cl.map encC), .tuple []] ∧ d = .tuple (ws.map encL) ∧ Mi.Ref m cl [] [] 5 ws c
theorem freeV_le (m : Nat) (tr : List Int) : (Mi.freeV m tr).length ≤ m := by
  unfold Mi.freeV
  have := List.length_filter_le (fun i : Nat => !decide ((1 + (i : Int)) ∈ tr) && !decide (-(1 + (i : Int)) ∈ tr)) (List.range m)
  rw [List.length_range] at this
  exact this
theorem ok_law_paper (b : Bl mg) (c_law_refuted : Cal P w K mg base 73 "_law_refuted" p_law_refuted (SpRf K 6))
    (F : Fun K "_law_paper" "_law_paper" s_law_paper f fd) : FnOk P w K mg base L2.CX0 74 f fd p_law_paper (SpQ K preP postP) := by
  have hj_law_refuted : 73 ≤ 73 := Nat.le_refl _
  refine fn_q F sc_law_paper (fun ds h => by obtain ⟨_, _, _, rfl⟩ := h; rfl) fun cdv A outer s H E hr ds h => ?_
  obtain ⟨m, cl, ⟨hm, hcl, hg⟩, rfl⟩ := h
  refine ⟨_, (pss_cons (ps_set (i := 3) sc_law_paper.nd rfl (Or.inl rfl) (pe_lst pa_nil))
(pss_cons (ps_asg (pe_def c_law_refuted hr (pa_cons (pv 0) (pa_cons (pv 1) (pa_cons (pe_callTy call_list_of rfl b.list_ (by decide +kernel) (pa_cons (pv 2) pa_nil)) (pa_cons (pv 3) pa_nil)))) (hj := hj_law_refuted)) (pg_tup rfl (pgs_cons (pg_name (i := 4) sc_law_paper.nd rfl (Or.inl rfl)) (pgs_cons (pg_name (i := 5) sc_law_paper.nd rfl (Or.inl rfl)) pgs_nil))))
(pss_one (ps_ret (pe_ifExp (pt_cmpR op_isN (pv 4) pe_non (nomark _)) pe_non (pe_callTy call_tuple_of rfl b.tuple_ (by decide +kernel) (pa_cons (pe_slice sl_list (pv 3) po_none (po_some (pe_op op_add (pv 4) pe_int))) pa_nil))))))), [.im (.int (m : Int)), .im (.tuple (cl.map encC)), .im (.tuple [])], 3, 0, .cons (.int _) (.cons (.tup _) (.cons (.tup _) .nil)), rfl, ?_⟩
  refine pq_setN (ev_lst ea_nil) (ln rfl) ?_
  refine p_seq (N1 := fun Γ' => ∃ ds' x y, RPost m cl [] [] 5 ds' (.tuple [x, y]) ∧ Γ' = [.im (.int (m : Int)), .im (.tuple (cl.map encC)), .im (.tuple []), .own ds', .im x, .im y]) ?_ ?_
  · intro H0 P H σ B D o q1 q2 q3 q4
    obtain ⟨l, xs, e1, e2, e3, e4⟩ := o.sl 3 (.own []) rfl
    have o' := ok_re (e' := .at_ l []) o (i := 3) rfl rfl rfl ⟨xs, e1, e2, e3, e4⟩
    have fr := freeV_le m []
    refine p_callRf (n := 5) (m := m) (cl := cl) (tr := []) (ls := []) (l := l) (i := 4) (j := 5) (Bk := no) (Ct := no) (Rt := fun _ _ _ => False) (N := fun Γ' => ∃ ds' x y, RPost m cl [] [] 5 ds' (.tuple [x, y]) ∧ Γ' = [.im (.int (m : Int)), .im (.tuple (cl.map encC)), .im (.tuple []), .at_ l ds', .im x, .im y]) rfl rfl (ev_list (ev_im rfl) (.inl rfl)) rfl (ln rfl) (ln rfl) ⟨hm, hcl, hg, by show 0 + _ ≤ 5; omega, (fun n hn => by cases hn), by omega, ⟨[], rfl⟩, by show 0 + 2 ^ 6 ≤ 1000; decide⟩ (fun ds' x y h => ⟨ds', x, y, h, rfl⟩) H0 P H σ B _ o' (fun σ' H' Γ' ⟨ds', x, y, h, e⟩ o2 => ?_) (fun _ _ _ z _ => z.elim) (fun _ _ _ z _ => z.elim) (fun _ _ _ _ _ _ z => z.elim)
    subst e
    obtain ⟨xs', z1, z2, z3, z4⟩ := o2.sl 3 (.at_ l ds') rfl
    exact q1 σ' H' _ ⟨ds', x, y, h, rfl⟩ (ok_re (e' := .own ds') o2 (i := 3) rfl rfl rfl ⟨l, xs', z1, z2, z3, z4⟩)
  · rintro _ ⟨ds', x, y, h, rfl⟩
    rcases h with h | ⟨ws, c, rfl, h, r⟩
    · cases h
      exact p_ret (d := .none) (evp_if (ET.to (et_test (ev_isN (ev_im rfl))) rfl) (fun _ => ev_non) fun e => absurd e (by decide)) ⟨rfl, .inl rfl⟩
    · cases h
      have hl := r.len
      obtain ⟨cs, hcs⟩ := r.all
      have hws : 0 < ws.length := by
        have := Mi.allC_len hcs
        rw [List.nil_append, List.length_append, List.length_singleton] at this
        omega
      refine p_ret (d := .tuple (ws.map encL)) (evp_if (et_test (ev_isN (ev_im rfl))) (fun e => absurd (show false = true from e) Bool.false_ne_true) fun _ => (Ev.to (ev_tuple (ev_take (n := ws.length) (ev_own rfl) (ev_add (ev_im rfl) ev_int) (by rw [List.nil_append]; omega) (by rw [List.length_map, List.nil_append]; exact Nat.le_refl _)) (.inr rfl)) (by rw [List.nil_append, ← List.map_take, List.take_length])).z) ⟨rfl, .inr ⟨m, cl, ws, c, rfl, rfl, r⟩⟩
end
end W26

set_option Elab.async false
set_option linter.all false
set_option maxRecDepth 100000
set_option maxHeartbeats 2000000
namespace W26
open PySem PySem.Spec PyProof.Rows L2 Lg
open Mi (Line)
theorem iteT {b : Bool} {A B : Prop} (h : b = true) (q : A) : if b = true then A else B := by rw [if_pos h]; exact q
theorem iteF {b : Bool} {A B : Prop} (h : b = false) (q : B) : if b = true then A else B := by rw [h, if_neg Bool.false_ne_true]; exact q
theorem pow_big : ((10 : Int) ^ (18 : Int).toNat) = 1000000000000000000 := by decide +kernel
section
variable {P : Program} {w : World} {K : PySem.W.Frag} {mg : Str → Option Value} {base : Heap} {f : Addr} {fd : FuncData} {C fI : Addr}
/- _law_draw: slots _law_pen_here 0, _law_many 1, _law_cell 2, _law_digit 3, _law_blend 4; cells [] -/
abbrev s_law_draw : Stmt := topS 21
abbrev n_law_draw : List Str := ["_law_pen_here", "_law_many", "_law_cell", "_law_digit", "_law_blend"]
abbrev p_law_draw : List Str := ["_law_pen_here", "_law_many"]
theorem sc_law_draw : FnScope n_law_draw p_law_draw (defScope s_law_draw) := ⟨rfl, rfl, rfl, by decide +kernel, rfl, by decide +kernel, by decide +kernel⟩
def preD : List PyData → Prop := fun ds => ∃ m : Int, 1 ≤ m ∧ m ≤ 1000000 ∧ ds = [.int m]
def postD : List PyData → PyData → Prop := fun ds d => ∃ m r : Int, ds = [.int m] ∧ d = .int r ∧ 0 ≤ r ∧ r < m
theorem ok_law_draw (b : Bl mg) (F : Fun K "_law_draw" "_law_draw" s_law_draw f fd) : FnOk P w K mg base L2.CX0 1 f fd p_law_draw (SpP K (fun _ => 1) preD postD) := by
  refine F.ok sc_law_draw (fun vs H Q E ⟨p, c, vs', ds, B, e, h1, h2, _⟩ => by
    obtain ⟨m, _, _, rfl⟩ := h2
    rw [e, List.length_cons, h1.length]
    rfl) fun cdv A outer s H vs Q E hr ⟨p, c, vs', ds, B, ev, h1, h2, hk, q⟩ => ?_
  subst ev
  have hu64 := hr.units
  have hu : (A.deeper (envOfC "_law_draw" (defScope s_law_draw) s.heap.objs.size f cdv)).units + 1 < cLine := by omega
  obtain ⟨m, hm1, hm2, rfl⟩ := h2
  cases h1 with
  | @cons v0 _ _ _ i1 i2 =>
    cases i2
    obtain rfl : v0 = .int m := i1.int
    refine ⟨_, (pss_cons (ps_dput hu (pv 0) pe_str (pe_op op_add (pe_dget hu (pv 0) pe_str (fun _ _ => rfl)) pe_int) rfl)
(pss_cons (ps_if (PW.pt (pw_and (pt_cmpR op_eq (pe_dget hu (pv 0) pe_str (fun _ _ => rfl)) pe_int (nomark _)) (pw_and1 (pt_cmpR op_lt (pe_dget hu (pv 0) pe_str (fun _ _ => rfl)) (pe_callB call_len_seq rfl b.len_ (by decide +kernel) (pa_cons (pe_dget hu (pv 0) pe_str (fun _ _ => rfl)) pa_nil)) (nomark _)))))
(pss_cons (ps_set (i := 2) sc_law_draw.nd rfl (Or.inl rfl) (pe_ix (ix_listK K rfl) (pe_dget hu (pv 0) pe_str (fun _ _ => rfl)) (pe_dget hu (pv 0) pe_str (fun _ _ => rfl)) (fun _ _ => rfl)))
(pss_cons (ps_dput hu (pv 0) pe_str (pe_op op_add (pe_dget hu (pv 0) pe_str (fun _ _ => rfl)) pe_int) rfl)
(pss_one (ps_if (pt_cmpR op_ge (pv 2) (pe_op op_pow pe_int pe_int) (nomark _))
(pss_one (ps_dput hu (pv 0) pe_str (pe_op op_sub (pv 2) (pe_op op_pow pe_int pe_int)) rfl))
(pss_one (ps_dput hu (pv 0) pe_str (pe_op op_mod (pe_callTy call_int1 rfl b.int_ (by decide +kernel) (pa_cons (pe_op op_add (pe_op op_mul (pe_dget hu (pv 0) pe_str (fun _ _ => rfl)) pe_int) (pv 2)) pa_nil)) pe_int) rfl))))))
pss_nil)
(pss_cons (ps_if (pt_cmpR op_gt (pe_dget hu (pv 0) pe_str (fun _ _ => rfl)) pe_int (nomark _))
(pss_cons (ps_set (i := 3) sc_law_draw.nd rfl (Or.inl rfl) (pe_op op_mod (pe_callTy call_int1 rfl b.int_ (by decide +kernel) (pa_cons (pe_dget hu (pv 0) pe_str (fun _ _ => rfl)) pa_nil)) (pv 1)))
(pss_cons (ps_dput hu (pv 0) pe_str (pe_op op_fdivW (pe_dget hu (pv 0) pe_str (fun _ _ => rfl)) (pv 1)) rfl)
(pss_one (ps_ret (pv 3)))))
pss_nil)
(pss_cons (ps_set (i := 4) sc_law_draw.nd rfl (Or.inl rfl) (pe_op op_add (pe_op op_add (pe_dget hu (pv 0) pe_str (fun _ _ => rfl)) (pe_op op_mul (pe_dget hu (pv 0) pe_str (fun _ _ => rfl)) pe_int)) pe_int))
(pss_one (ps_ret (pe_op op_mod (pe_op op_fdivW (pe_callTy call_int1 rfl b.int_ (by decide +kernel) (pa_cons (pe_op op_mod (pe_op op_pow (pv 4) pe_int) pe_int) pa_nil)) pe_int) (pv 1)))))))), ?_⟩
    obtain ⟨cells, a, d, n, fo, kvs, k1, k2, _, k4, k5, k6, k7, k8, k9, k10, k11, k12, _, k14, k15, k16, k17⟩ := hk
    have pv0 : PV H p c cells a d n fo kvs := ⟨k1, k4, k5, k6, k7, k8, k9, k10⟩
    have k15 : n + ((B + 1 : Nat) : Int) ≤ (cap : Int) := k15
    have hcap : (cap : Int) = 1099511627776 := rfl
    -- count
    refine ⟨_, rfl, p, .int n, rfl, pv0.g4, n, 1, rfl, rfl, _, rfl, p, _, rfl, (pv0.p4 (z := n + 1)).1, ?_⟩
    have pv1 := (pv0.p4 (z := n + 1)).2
    have gx1 : Gx (some (p, c)) H (upd H p (.dK (putK kvs (Sum.inr "count") (.int (n + 1))))) := gx_pen (Gx.refl _ _) pv0.hp
    generalize upd H p (.dK (putK kvs (Sum.inr "count") (.int (n + 1)))) = H1 at pv1 gx1 ⊢
    generalize putK kvs (Sum.inr "count") (.int (n + 1)) = kv1 at pv1
    have fin : ∀ {H2 : Hp} {a d f : Int} {kv : List (Key × V)} {r : Int}, PV H2 p c cells a d (n + 1) f kv → Gx (some (p, c)) H H2 → 0 ≤ a → 0 ≤ d → 0 ≤ f → f < 2147483648 → 0 ≤ r → r < m → Q (.int r) H2 := fun {H2 a d f kv r} pv g h1 h2 h3 h4 h5 h6 =>
      q (.int r) (.int r) H2 ⟨m, r, rfl, rfl, h5, h6⟩ g ⟨cells, a, d, n + 1, f, kv, pv.hc, k2, True.intro, pv.hp, pv.v1, pv.v2, pv.v3, pv.v4, pv.v5, pv.ln, h1, h2, True.intro, by omega, by omega, h3, h4⟩ (.int r)
    have tail : ∀ {x2 : Option V} {H2 : Hp} {a d f : Int} {kv : List (Key × V)}, PV H2 p c cells a d (n + 1) f kv → Gx (some (p, c)) H H2 → 0 ≤ a → 0 ≤ d → 0 ≤ f → f < 2147483648 →
        (tSeq (tIfS (tTest (tOp (rI0 fun i j => .bl (decide (j < i))) (tDGet (tVar 0) (tC (.str "digits"))) (tC (.int 0))))
          (tSeq (tAsg (tOp (rI (fun _ j => 0 < j) fun i j => .int (i % j)) (tCB rInt1 (tCons (tDGet (tVar 0) (tC (.str "digits"))) tNil)) (tVar 1)) (gName 3)) (tSeq (sDPut (tVar 0) (tC (.str "digits")) (tOp (rI CDivW fun i j => .int (i / j)) (tDGet (tVar 0) (tC (.str "digits"))) (tVar 1))) (tRet (tVar 3)))) tNext)
          (tSeq (tAsg (tOp (rI0 fun i j => .int (i + j)) (tOp (rI0 fun i j => .int (i + j)) (tDGet (tVar 0) (tC (.str "fold"))) (tOp (rI CMul fun i j => .int (i * j)) (tDGet (tVar 0) (tC (.str "count"))) (tC (.int 7907)))) (tC (.int 43))) (gName 4))
            (tRet (tOp (rI (fun _ j => 0 < j) fun i j => .int (i % j)) (tOp (rI CDivW fun i j => .int (i / j)) (tCB rInt1 (tCons (tOp (rI (fun _ j => 0 < j) fun i j => .int (i % j)) (tOp (rI CPow fun i j => .int (i ^ j.toNat)) (tVar 4) (tC (.int 17))) (tC (.int 2305843009213693951))) tNil)) (tC (.int 128))) (tVar 1)))))
          { nx := fun _ H' => Q .non H', rt := Q } [some (.ref p), some (.int m), x2, none, none] H2 := fun {x2 H2 a d f kv} pv g h1 h2 h3 h4 => by
      refine ⟨_, rfl, p, .int d, rfl, pv.g3, d, 0, rfl, rfl, _, rfl, ?_⟩
      have hmod : ∀ x : Int, 0 ≤ x % m ∧ x % m < m := fun x => ⟨Int.emod_nonneg _ (by omega), Int.emod_lt_of_pos _ (by omega)⟩
      have hlog : m.natAbs.log2 < 9000 := by
        have : m.natAbs.log2 < 20 := (Nat.log2_lt (by omega)).mpr (by omega)
        omega
      by_cases hd : 0 < d
      · refine iteT (decide_eq_true hd) ?_
        refine ⟨_, rfl, p, .int d, rfl, pv.g3, .inl ⟨d, rfl, _, rfl, d, m, rfl, rfl, by omega, ?_⟩⟩
        refine ⟨_, rfl, p, .int d, rfl, pv.g3, _, rfl, d, m, rfl, rfl, ⟨by omega, hlog⟩, _, rfl, p, _, rfl, (pv.p3 (z := d / m)).1, ?_⟩
        refine ⟨_, rfl, ?_⟩
        exact fin (pv.p3 (z := d / m)).2 (gx_pen g pv.hp) h1 (Int.ediv_nonneg h2 (by omega)) h3 h4 (hmod d).1 (hmod d).2
      · refine iteF (decide_eq_false hd) ?_
        refine ⟨_, rfl, p, .int f, rfl, pv.g5, _, rfl, p, .int (n + 1), rfl, pv.g4, n + 1, 7907, rfl, rfl, .inr (by omega), f, (n + 1) * 7907, rfl, rfl, f + (n + 1) * 7907, 43, rfl, rfl, ?_⟩
        refine ⟨_, rfl, _, 17, rfl, rfl, ⟨by decide, by decide, ?_⟩, _, 2305843009213693951, rfl, rfl, (show (0 : Int) < 2305843009213693951 by decide), .inl ⟨_, rfl, _, 128, rfl, rfl, ⟨by decide, by decide +kernel⟩, _, rfl, _, m, rfl, rfl, by omega, ?_⟩⟩
        · omega
        · exact fin pv g h1 h2 h3 h4 (hmod _).1 (hmod _).2
    -- the cells
    refine ⟨_, rfl, p, .int d, rfl, pv1.g3, rfl, _, rfl, ?_⟩
    have ed : ∀ x : Int, decide (V.int d = V.int x) = decide (d = x) := fun x => by simp
    by_cases hd : d = 0
    · rw [ed]
      refine iteT (decide_eq_true hd) ?_
      refine ⟨_, rfl, p, .int a, rfl, pv1.g2, _, rfl, p, .ref c, rfl, pv1.g1, c, _, rfl, .inl (SqL.of pv1.hc), a, _, rfl, rfl, _, rfl, ?_⟩
      by_cases ha : a < ((cells.map V.int).length : Int)
      · refine iteT (decide_eq_true ha) ?_
        rw [List.length_map] at ha
        obtain ⟨j, rfl⟩ : ∃ j : Nat, a = (j : Int) := ⟨a.toNat, by omega⟩
        obtain ⟨x, hx⟩ : ∃ x, cells[j]? = some x := ⟨_, List.getElem?_eq_getElem (by omega)⟩
        refine ⟨_, rfl, p, .ref c, rfl, pv1.g1, _, rfl, p, .int (j : Int), rfl, pv1.g2, c, _, (j : Int), .int x, rfl, rfl, SqL.of pv1.hc, atI_nat (by rw [List.getElem?_map, hx]; rfl), ?_⟩
        refine ⟨_, rfl, p, .int (j : Int), rfl, pv1.g2, (j : Int), 1, rfl, rfl, _, rfl, p, _, rfl, (pv1.p2 (z := (j : Int) + 1)).1, ?_⟩
        have pv2 := (pv1.p2 (z := (j : Int) + 1)).2
        have gx2 := gx_pen (o := .dK (putK kv1 (Sum.inr "at") (.int ((j : Int) + 1)))) gx1 pv1.hp
        generalize upd H1 p (.dK (putK kv1 (Sum.inr "at") (.int ((j : Int) + 1)))) = H2 at pv2 gx2 ⊢
        generalize putK kv1 (Sum.inr "at") (.int ((j : Int) + 1)) = kv2 at pv2
        refine ⟨_, rfl, 10, 18, rfl, rfl, ⟨by decide, by decide, by decide⟩, x, _, rfl, rfl, _, rfl, ?_⟩
        rw [pow_big]
        by_cases hx1 : (1000000000000000000 : Int) ≤ x
        · refine iteT (decide_eq_true hx1) ?_
          refine ⟨_, rfl, 10, 18, rfl, rfl, ⟨by decide, by decide, by decide⟩, x, _, rfl, rfl, _, rfl, p, _, rfl, (pv2.p3 (z := x - (10 : Int) ^ (18 : Int).toNat)).1, ?_⟩
          refine tail (pv2.p3 (z := x - (10 : Int) ^ (18 : Int).toNat)).2 (gx_pen gx2 pv2.hp) (by omega) ?_ k16 k17
          rw [pow_big]
          omega
        · refine iteF (decide_eq_false hx1) ?_
          refine ⟨_, rfl, p, .int fo, rfl, pv2.g5, fo, 69069, rfl, rfl, .inr (by omega), _, rfl, fo * 69069, x, rfl, rfl, .inl ⟨fo * 69069 + x, rfl, fo * 69069 + x, 2147483587, rfl, rfl, (show (0 : Int) < 2147483587 by decide), _, rfl, p, _, rfl, (pv2.p5 (z := (fo * 69069 + x) % 2147483587)).1, ?_⟩⟩
          have e1 := Int.emod_nonneg (fo * 69069 + x) (show (2147483587 : Int) ≠ 0 by decide)
          have e2 := Int.emod_lt_of_pos (fo * 69069 + x) (show (0 : Int) < 2147483587 by decide)
          exact tail (pv2.p5 (z := (fo * 69069 + x) % 2147483587)).2 (gx_pen gx2 pv2.hp) (by omega) k12 e1 (by omega)
      · refine iteF (decide_eq_false ha) ?_
        exact tail pv1 gx1 k11 k12 k16 k17
    · rw [ed]
      refine iteF (decide_eq_false hd) (iteF rfl ?_)
      exact tail pv1 gx1 k11 k12 k16 k17
end
end W26

set_option Elab.async false
set_option linter.all false
set_option maxRecDepth 100000
set_option maxHeartbeats 2000000
namespace W26
open PySem PySem.Spec PyProof.Rows L2 Lg
open Mi (Line)
section
variable {K : PySem.W.Frag} {m : Md} {k k1 k2 : Kd} {te ta tb : TE} {tt : TT} {t u w : TS} {Γ : List En} {c c1 c2 : Nat} {N Bk Ct : Po} {Rt : Kd → PyData → List En → Prop}
theorem ev_ixLn {ds : List PyData} {R : PyData → Prop} (ha : Ev K m k1 ta Γ c1 (Is (.list ds))) (hb : Ev K m k2 tb Γ c2 R) (hR : ∀ d, R d → ∃ j : Nat, j < ds.length ∧ d = .int (j : Int)) : Ev K m .im (tOp (rIxL K) ta tb) Γ (c1 + c2) (fun d => d ∈ ds) :=
  ev_op ha hb fun H x y d1 d2 e1 e2 h1 h2 Q q => by
    subst e1
    obtain ⟨j, hj, rfl⟩ := hR _ e2
    obtain ⟨a, xs, rfl, s, r⟩ := h1.lst
    rw [h2.int]
    obtain ⟨v, e, hv⟩ := r.get (List.getElem?_eq_getElem hj)
    exact ⟨a, xs, j, v, rfl, rfl, SqL.of s, atI_nat e, q _ _ (List.getElem_mem hj) hv⟩
/-- x = x if t else e, x a list of ours -/
theorem sg_ifKeep {i : Nat} {b : Bool} {ds : List PyData} (h : ET K m tt Γ c1 (Is b)) (hi : Γ[i]? = some (.own ds)) (h1 : b = true → N Γ) (h2 : b = false → Sg K m (tAsg te (gName i)) Γ c2 N Bk Ct Rt) : Sg K m (tAsg (tIf tt (tVar i) te) (gName i)) Γ (c1 + c2) N Bk Ct Rt := fun H0 P H σ B D o q1 q2 q3 q4 => by
  refine h H0 P H σ (B + c2) (o.le (by omega)) _ fun b' H1 o1 g r => ?_
  subst r
  cases b' with
  | true =>
    obtain ⟨l, xs, e1, _⟩ := o1.sl i _ hi
    refine ⟨_, e1, ?_⟩
    have hlt := (List.getElem?_eq_some_iff.mp e1)
    have e : σ.set i (some (.ref l)) = σ := by
      obtain ⟨z1, z2⟩ := hlt
      rw [← z2, List.set_getElem_self]
    show D.nx (σ.set i (some (.ref l))) H1
    rw [e]
    exact q1 _ _ _ (h1 rfl) (o1.le (by omega))
  | false => exact h2 rfl H0 P H1 σ B D o1 q1 q2 q3 q4
theorem ev_mul {i : Int} (ha : Ev K m k1 ta Γ c1 (Is (.int i))) {R : PyData → Prop} {S : PyData → Prop} (hb : Ev K m k2 tb Γ c2 R) (hR : ∀ d, R d → ∃ j : Int, d = .int j ∧ CMul i j ∧ S (.int (i * j))) : Ev K m .im (tOp (rI CMul fun i j => .int (i * j)) ta tb) Γ (c1 + c2) S :=
  ev_op ha hb fun H x y d1 d2 e1 e2 h1 h2 Q q => by
    subst e1
    obtain ⟨j, rfl, h3, h4⟩ := hR _ e2
    rw [h1.int, h2.int]
    exact ⟨i, j, rfl, rfl, h3, q _ _ h4 (.int _)⟩
theorem ev_ltR {i : Int} {R : PyData → Prop} (ha : Ev K m k1 ta Γ c1 R) (hR : ∀ d, R d → ∃ j : Int, d = .int j) (hb : Ev K m k2 tb Γ c2 (Is (.int i))) : ET K m (tTest (tOp (rI0 fun i j => .bl (decide (i < j))) ta tb)) Γ (c1 + c2) (fun _ => True) := fun H0 P H σ B o Q q => by
  refine ha H0 P H σ (B + c2) (o.le (by omega)) _ fun x H1 d1 o1 g1 r1 e1 => ?_
  obtain ⟨j, rfl⟩ := hR _ r1
  refine hb H0 P H1 σ B o1 _ fun y H2 d2 o2 g2 r2 e2 => ?_
  subst r2
  rw [e1.dat.int, e2.dat.int]
  exact ⟨j, i, rfl, rfl, _, rfl, q _ H2 o2 (g1.trans g2) True.intro⟩
theorem ev_eqR {i : Int} {R : PyData → Prop} (ha : Ev K m k1 ta Γ c1 R) (hR : ∀ d, R d → ∃ j : Int, d = .int j) (hb : Ev K m k2 tb Γ c2 (Is (.int i))) : ET K m (tTest (tOp rEq ta tb)) Γ (c1 + c2) (fun _ => True) := fun H0 P H σ B o Q q => by
  refine ha H0 P H σ (B + c2) (o.le (by omega)) _ fun x H1 d1 o1 g1 r1 e1 => ?_
  obtain ⟨j, rfl⟩ := hR _ r1
  refine hb H0 P H1 σ B o1 _ fun y H2 d2 o2 g2 r2 e2 => ?_
  subst r2
  rw [e1.dat.int, e2.dat.int]
  exact ⟨rfl, _, rfl, q _ H2 o2 (g1.trans g2) True.intro⟩
theorem ev_addR {i : Int} {R S : PyData → Prop} (ha : Ev K m k1 ta Γ c1 (Is (.int i))) (hb : Ev K m k2 tb Γ c2 R) (hR : ∀ d, R d → ∃ j : Int, d = .int j ∧ S (.int (i + j))) : Ev K m .im (tOp (rI0 fun i j => .int (i + j)) ta tb) Γ (c1 + c2) S :=
  ev_op ha hb fun H x y d1 d2 e1 e2 h1 h2 Q q => by
    subst e1
    obtain ⟨j, rfl, h4⟩ := hR _ e2
    rw [h1.int, h2.int]
    exact ⟨i, j, rfl, rfl, q _ _ h4 (.int _)⟩
end
section
variable {P : Program} {w : World} {K : PySem.W.Frag} {mg : Str → Option Value} {base : Heap} {f : Addr} {fd : FuncData} {C fI : Addr}
/- _law_pick: slots _law_pen_here 0, _law_some 1; cells [] -/
abbrev s_law_pick : Stmt := topS 22
abbrev n_law_pick : List Str := ["_law_pen_here", "_law_some"]
abbrev p_law_pick : List Str := ["_law_pen_here", "_law_some"]
theorem sc_law_pick : FnScope n_law_pick p_law_pick (defScope s_law_pick) := ⟨rfl, rfl, rfl, by decide +kernel, rfl, by decide +kernel, by decide +kernel⟩
def prePk : List PyData → Prop := fun ds => ∃ xs : List PyData, xs ≠ [] ∧ xs.length ≤ 1000000 ∧ ds = [.list xs]
def postPk : List PyData → PyData → Prop := fun ds d => ∃ xs : List PyData, ds = [.list xs] ∧ d ∈ xs
abbrev SpDraw (K : PySem.W.Frag) : Sp := SpP K (fun _ => 1) preD postD
abbrev SpPick (K : PySem.W.Frag) : Sp := SpP K (fun _ => 1) prePk postPk
theorem draw_int {m : Int} {d : PyData} (h : postD [.int m] d) : ∃ j : Int, d = .int j ∧ 0 ≤ j ∧ j < m := by
  obtain ⟨m', r, e, rfl, h1, h2⟩ := h
  cases e
  exact ⟨r, rfl, h1, h2⟩
theorem draw_nat {m : Nat} {d : PyData} (h : postD [.int (m : Int)] d) : ∃ j : Nat, d = .int (j : Int) ∧ j < m := by
  obtain ⟨j, rfl, h1, h2⟩ := draw_int h
  exact ⟨j.toNat, by congr 1; omega, by omega⟩
theorem ok_law_pick (b : Bl mg) (c_law_draw : Cal P w K mg base 1 "_law_draw" p_law_draw (SpDraw K)) (F : Fun K "_law_pick" "_law_pick" s_law_pick f fd) : FnOk P w K mg base L2.CX0 2 f fd p_law_pick (SpPick K) := by
  refine fn_pen F sc_law_pick (fun ds h => by obtain ⟨_, _, _, rfl⟩ := h; rfl) fun cdv A outer s H E hr ds h => ?_
  obtain ⟨xs, hx, hl, rfl⟩ := h
  have hpos : 0 < xs.length := List.length_pos_iff.mpr hx
  refine ⟨_, (pss_one (ps_ret (pe_ix (ix_listK K rfl) (pv 1) (pe_def c_law_draw hr (pa_cons (pv 0) (pa_cons (pe_callB call_len_seq rfl b.len_ (by decide +kernel) (pa_cons (pv 1) pa_nil)) pa_nil))) (fun _ _ => rfl)))), [.ro (.list xs)], 0, .cons (.ro _) .nil, rfl, fun p c => ⟨_, ?_, sg_ret (ev_ixLn (ev_ro rfl) (ev_callP rfl (ea_cons (ev_len (ev_ro rfl) (.inr rfl)) ea_nil) ⟨(xs.length : Int), by omega, by omega, rfl⟩) fun d h => ?_) fun d h => ⟨rfl, xs, rfl, h⟩⟩⟩
  · show 0 + (0 + 0 + 1) ≤ 1
    decide
  · obtain ⟨j, rfl, hj⟩ := draw_nat h
    exact ⟨j, hj, rfl⟩
/- _law_drawn_clause: slots _law_pen_here 0, _law_many 1, _law_most 2, _law_some 3, _law_variable 4; cells ['_law_many', '_law_most', '_law_pen_here'] -/
abbrev s_law_drawn_clause : Stmt := topS 26
abbrev n_law_drawn_clause : List Str := ["_law_pen_here", "_law_many", "_law_most", "_law_some", "_law_variable"]
abbrev p_law_drawn_clause : List Str := ["_law_pen_here", "_law_many", "_law_most"]
theorem sc_law_drawn_clause : FnScope n_law_drawn_clause p_law_drawn_clause (defScope s_law_drawn_clause) := ⟨rfl, rfl, rfl, by decide +kernel, rfl, by decide +kernel, by decide +kernel⟩
def preC : List PyData → Prop := fun ds => ∃ (m : Nat) (q : Int), 1 ≤ m ∧ m ≤ 5 ∧ ds = [.int (m : Int), .int q]
def postC : List PyData → PyData → Prop := fun ds d => ∃ (m : Nat) (q : Int) (c : List Int), ds = [.int (m : Int), .int q] ∧ d = encC c ∧ Mi.Gd m c
abbrev SpDc (K : PySem.W.Frag) : Sp := SpP K (fun _ => 20) preC postC
theorem pick_sign {d : PyData} (h : postPk [.list [.int 1, .int (-1)]] d) : d = .int 1 ∨ d = .int (-1) := by
  obtain ⟨xs, e, hm⟩ := h
  cases e
  rcases List.mem_cons.mp hm with h | h
  · exact .inl h
  · exact .inr (List.mem_singleton.mp h)
theorem ok_law_drawn_clause (b : Bl mg) (c_law_draw : Cal P w K mg base 1 "_law_draw" p_law_draw (SpDraw K)) (c_law_pick : Cal P w K mg base 2 "_law_pick" p_law_pick (SpPick K))
    (F : Fun K "_law_drawn_clause" "_law_drawn_clause" s_law_drawn_clause f fd) : FnOk P w K mg base L2.CX0 3 f fd p_law_drawn_clause (SpDc K) := by
  refine fn_pen F sc_law_drawn_clause (fun ds h => by obtain ⟨_, _, _, _, rfl⟩ := h; rfl) fun cdv A outer s H E hr ds h => ?_
  have hu64 := hr.units
  obtain ⟨m, q, hm1, hm5, rfl⟩ := h
  refine ⟨_, (pss_cons (ps_setLc (i := 3) (own := [("_law_variable", 4)]) (g := (gName 4)) rfl sc_law_drawn_clause.nd rfl rfl (sw_true rfl rfl rfl (by decide +kernel)) (pi_range2 rfl b.range_ (pa_cons pe_int (pa_cons (pe_op op_add (pv 1) pe_int) pa_nil))) (blkOk_by (own := [("_law_variable", 4)]) (N := n_law_drawn_clause) (sc := defScope s_law_drawn_clause) (by decide +kernel)) (fun _ _ _ _ _ => (pg_name (i := 4) sc_law_drawn_clause.nd rfl (Or.inl rfl))) (fun _ _ _ _ _ => (pts_one (pt_cmpR op_lt (pe_def c_law_draw hr (pa_cons (pv 0) (pa_cons (pv 1) pa_nil))) (pv 2) (nomark _)))) (fun _ _ _ _ _ => (pv 4)))
(pss_cons (ps_set (i := 3) sc_law_drawn_clause.nd rfl (Or.inl rfl) (pe_ifExp (pt_cmpR (op_neD hu64) (pv 3) (pe_lst pa_nil) (nomark _)) (pv 3) (pe_lst (pa_cons (pe_op op_add pe_int (pe_def c_law_draw hr (pa_cons (pv 0) (pa_cons (pv 1) pa_nil)))) pa_nil))))
(pss_one (ps_ret (pe_callTy call_tuple_of rfl b.tuple_ (by decide +kernel) (pa_cons (pe_lc (own := [("_law_variable", 4)]) (g := (gName 4)) (tt := tYes) rfl sc_law_drawn_clause.nd (pi_list (pv 3)) (blkOk_by (own := [("_law_variable", 4)]) (N := n_law_drawn_clause) (sc := defScope s_law_drawn_clause) (by decide +kernel)) (fun _ _ _ _ _ => (pg_name (i := 4) sc_law_drawn_clause.nd rfl (Or.inl rfl))) (fun _ _ _ _ _ => pts_nil) (fun _ _ _ _ _ => (pe_op op_mul (pv 4) (pe_def c_law_pick hr (pa_cons (pv 0) (pa_cons (pe_lst (pa_cons pe_int (pa_cons (pe_un un_neg pe_int) pa_nil))) pa_nil)))))) pa_nil)))))), [.im (.int (m : Int)), .im (.int q)], 2, .cons (.int _) (.cons (.int _) .nil), rfl, fun p c => ?_⟩
  have hdr : preD [.int (m : Int)] := ⟨(m : Int), by omega, by omega, rfl⟩
  refine ⟨_, ?_, q_asgN (R := fun d => ∃ l : List Nat, d = .list (l.map fun (n : Nat) => .int (n : Int)) ∧ l.length ≤ m ∧ ∀ n ∈ l, 1 ≤ n ∧ n ≤ m) (c2 := 7) (Ev.imp (ev_lcR2 (ct := 1) (ce := 0) (n := m) (ea_cons ev_int (ea_cons (ev_add (ev_im rfl) ev_int) ea_nil)) (by omega) (by decide) (ln rfl)
    (fun i es => ∃ l : List Nat, es = l.map (fun (n : Nat) => PyData.int (n : Int)) ∧ l.length ≤ i ∧ ∀ n ∈ l, 1 ≤ n ∧ n ≤ m) (fun _ _ => True) (fun i => Is (.int ((i + 1 : Nat) : Int))) ⟨[], rfl, Nat.le_refl _, fun n hn => by cases hn⟩
    (fun i hi => ev_ltR (ev_callP rfl (ea_cons (ev_im rfl) ea_nil) hdr) (fun d h => let ⟨j, e, _⟩ := draw_int h; ⟨j, e⟩) (ev_im rfl)) (fun i hi _ => Ev.to (ev_im rfl) (by congr 1; omega))
    (fun i es hi ⟨l, e, h1, h2⟩ _ => ⟨l, e, by omega, h2⟩) fun i es e hi ⟨l, e1, h1, h2⟩ _ e2 => ⟨l ++ [i + 1], by rw [e1, e2, List.map_append]; rfl, by rw [List.length_append]; show l.length + 1 ≤ i + 1; omega, fun n hn => ?_⟩) ?_) (ln rfl) fun ds ⟨l, e, h1, h2⟩ => ?_⟩
  · show 0 + (0 + 0 + 0) + m * (1 + 0) + 7 ≤ 20
    omega
  · rcases List.mem_append.mp hn with hn | hn
    · exact h2 n hn
    · rw [List.mem_singleton] at hn
      omega
  · rintro d ⟨es, rfl, l, rfl, h1, h2⟩
    exact ⟨l, rfl, h1, h2⟩
  · cases e
    have e0 : l.map (fun (n : Nat) => PyData.int (n : Int)) = (l.map fun (n : Nat) => (n : Int)).map PyData.int := by rw [List.map_map]; rfl
    refine Sg.le (sg_seq (c1 := 2) (c2 := 5) (N1 := fun Γ' => ∃ l : List Nat, Γ' = [.pen, .im (.int (m : Int)), .im (.int q), .own (l.map fun (n : Nat) => .int (n : Int)), .un] ∧ l ≠ [] ∧ l.length ≤ m ∧ ∀ n ∈ l, 1 ≤ n ∧ n ≤ m) (Sg.le (sg_ifKeep (ET.to (et_test (ev_neD (ev_own rfl) (ev_lst ea_nil) (by rw [e0]; exact ints_shaped _) nil_flat)) (by rw [eqv_nil])) rfl (fun e => ⟨l, rfl, fun z => by rw [z] at e; exact absurd (show false = true from e) Bool.false_ne_true, h1, h2⟩) fun e => sg_asgN (ev_lstR (ei_consR (ev_addR ev_int (ev_callP rfl (ea_cons (ev_im rfl) ea_nil) hdr) (S := fun d => ∃ j : Nat, d = .int (j : Int) ∧ 1 ≤ j ∧ j ≤ m) fun d h => ?_) ea_nil (RB := fun ds => ∃ j : Nat, ds = [.int (j : Int)] ∧ 1 ≤ j ∧ j ≤ m) fun d r h1 h2 => ?_) fun ds h => ?_) (ln rfl) fun ds h => ?_) (by decide)) fun Γ' h => ?_) (by decide)
    · obtain ⟨j, rfl, hj⟩ := draw_nat h
      exact ⟨_, rfl, j + 1, by congr 1; omega, by omega, by omega⟩
    · obtain ⟨j, rfl, q1, q2⟩ := h1
      cases h2
      exact ⟨j, rfl, q1, q2⟩
    · obtain ⟨j, rfl, _⟩ := h
      exact Nat.le_of_ble_eq_true rfl
    · obtain ⟨ds', e1, j, e2, q1, q2⟩ := h
      cases e1
      subst e2
      exact ⟨[j], rfl, by simp, hm1, fun n hn => by rw [List.mem_singleton] at hn; subst hn; exact ⟨q1, q2⟩⟩
    · obtain ⟨l, rfl, hne, h1, h2⟩ := h
      refine Sg.le (sg_ret (R := fun d => ∃ c, d = encC c ∧ Mi.Gd m c) (ev_tupleR (ev_lcL (ct := 0) (ce := 1) (ds := l.map fun (n : Nat) => .int (n : Int)) (ev_own rfl) (by rw [List.length_map]; omega) (by decide) (ln rfl) (fun i es => ∃ c : List Int, es = c.map PyData.int ∧ c.length ≤ i ∧ ∀ x ∈ c, x ≠ 0 ∧ x.natAbs ≤ m) (fun _ _ => Is true) (fun _ _ d => ∃ x : Int, d = .int x ∧ x ≠ 0 ∧ x.natAbs ≤ m) ⟨[], rfl, Nat.le_refl _, fun x hx => by cases hx⟩ (fun _ _ _ => et_yes) (fun i d hd _ => ?_) (fun i d es hd _ z => absurd z (by simp [Is])) fun i d es e hd ⟨c, e1, g1, g2⟩ _ ⟨x, e2, g3, g4⟩ => ⟨c ++ [x], by rw [e1, e2, List.map_append]; rfl, by rw [List.length_append]; show c.length + 1 ≤ i + 1; omega, fun y hy => ?_⟩) fun d ⟨es, e1, c, e2, g1, g2⟩ => ⟨es, .inr e1, c, by rw [e2]; rfl, g2, by rw [List.length_map] at g1; omega⟩) fun d ⟨c, e1, e2⟩ => ⟨rfl, m, q, c, rfl, e1, e2⟩) ?_
      · rw [List.getElem?_map] at hd
        obtain ⟨n, hn, rfl⟩ := Option.map_eq_some_iff.mp hd
        obtain ⟨g1, g2⟩ := h2 n (List.mem_of_getElem? hn)
        refine ev_mul (ev_im rfl) (ev_callP rfl (ea_cons (ev_lst (ei_cons ev_int (ei_cons (ev_neg ev_int) ea_nil))) ea_nil) ⟨_, by simp, by decide, rfl⟩) fun d h => ?_
        rcases pick_sign h with rfl | rfl
        · exact ⟨1, rfl, .inr (by decide), (n : Int) * 1, rfl, by omega, by omega⟩
        · exact ⟨-1, rfl, .inr (by decide), (n : Int) * -1, rfl, by omega, by omega⟩
      · rcases List.mem_append.mp hy with hy | hy
        · exact g2 y hy
        · rw [List.mem_singleton] at hy
          subst hy
          exact ⟨g3, g4⟩
      · rw [List.length_map]
        omega
end
end W26

set_option Elab.async false
set_option linter.all false
set_option maxRecDepth 100000
set_option maxHeartbeats 2000000
namespace W26
open PySem PySem.Spec PyProof.Rows L2 Lg
open Mi (Line)
section
variable {K : PySem.W.Frag} {m : Md} {k k1 k2 : Kd} {te ta tb : TE} {tt tu : TT} {t u w : TS} {Γ : List En} {c c1 c2 : Nat} {N Bk Ct : Po} {Rt : Kd → PyData → List En → Prop}
/-- a, b = e, f: two new lists -/
theorem sg_asgNN {i j : Nat} {R1 R2 : PyData → Prop} (h1 : Ev K m .nw ta Γ c1 R1) (h2 : Ev K m .nw tb Γ c2 R2) (hi : i < Γ.length) (hj : j < Γ.length) (h : ∀ ds es, R1 (.list ds) → R2 (.list es) → N ((Γ.set i (.own ds)).set j (.own es))) :
    Sg K m (tAsg (tTup (tCons ta (tCons tb tNil))) (gTup K 2 (gCons (gName i) (gCons (gName j) gNil)))) Γ (c1 + c2) N Bk Ct Rt := fun H0 P H σ B D o q1 _ _ _ => by
  refine h1 H0 P H σ (B + c2) (o.le (by omega)) _ fun v1 H1 d1 o1 g1 r1 e1 => ?_
  obtain ⟨l1, xs1, ds1, rfl, rfl, n1, z1, a1⟩ := e1
  have oV1 := (o.le (show B + c2 ≤ B + (c1 + c2) by omega)).putNew o1 hi n1 z1 a1
  refine h2 H0 P H1 σ B o1 _ fun v2 H2 d2 o2 g2 r2 e2 => ?_
  obtain ⟨l2, xs2, ds2, rfl, rfl, n2, z2, a2⟩ := e2
  have oV1' := oV1.grow (B' := B) g2 fun p c e => (o2.pen p c e).2.2
  have oV2 := oV1.putNew oV1' (i := j) (by rw [List.length_set]; exact hj) n2 z2 a2
  refine ⟨by show 2 ≤ sizeLine; decide, fun T hT => ?_⟩
  exact ⟨T, _, rfl, SqT.of upd_same, rfl, _, _, rfl, _, _, rfl, rfl, q1 _ _ _ (h ds1 ds2 r1 r2) (oV2.same (same_new hT))⟩
/-- a, b = e, f: a thing and a new list -/
theorem sg_asgIN {i j : Nat} {R1 R2 : PyData → Prop} (h1 : Ev K m .im ta Γ c1 R1) (h2 : Ev K m .nw tb Γ c2 R2) (hi : i < Γ.length) (hj : j < Γ.length) (h : ∀ d es, R1 d → R2 (.list es) → N ((Γ.set i (.im d)).set j (.own es))) :
    Sg K m (tAsg (tTup (tCons ta (tCons tb tNil))) (gTup K 2 (gCons (gName i) (gCons (gName j) gNil)))) Γ (c1 + c2) N Bk Ct Rt := fun H0 P H σ B D o q1 _ _ _ => by
  refine h1 H0 P H σ (B + c2) (o.le (by omega)) _ fun v1 H1 d1 o1 g1 r1 e1 => ?_
  have oV1 := o1.putIm hi e1
  refine h2 H0 P H1 σ B o1 _ fun v2 H2 d2 o2 g2 r2 e2 => ?_
  obtain ⟨l2, xs2, ds2, rfl, rfl, n2, z2, a2⟩ := e2
  have oV1' := oV1.grow (B' := B) g2 fun p c e => (o2.pen p c e).2.2
  have oV2 := oV1.putNew oV1' (i := j) (by rw [List.length_set]; exact hj) n2 z2 a2
  refine ⟨by show 2 ≤ sizeLine; decide, fun T hT => ?_⟩
  exact ⟨T, _, rfl, SqT.of upd_same, rfl, _, _, rfl, _, _, rfl, rfl, q1 _ _ _ (h d1 ds2 r1 r2) (oV2.same (same_new hT))⟩
theorem et_orR {R1 R2 : Bool → Prop} (h1 : ET K m tt Γ c1 R1) (h2 : ET K m tu Γ c2 R2) : ET K m (tOr tt tu) Γ (c1 + c2) (fun _ => True) := fun H0 P H σ B o Q q => by
  refine h1 H0 P H σ (B + c2) (o.le (by omega)) _ fun a' H1 o1 g1 r1 => ?_
  cases a' with
  | false =>
    show tu σ H1 Q
    exact h2 H0 P H1 σ B o1 Q fun b' H2 o2 g2 r2 => q _ H2 o2 (g1.trans g2) True.intro
  | true =>
    show Q true H1
    exact q _ H1 (o1.le (by omega)) g1 True.intro
theorem q_ifR {Rb : Bool → Prop} (h : ET K m tt Γ c1 Rb) (h1 : Rb true → Sg K m (tSeq t w) Γ c2 N Bk Ct Rt) (h2 : Rb false → Sg K m (tSeq u w) Γ c2 N Bk Ct Rt) : Sg K m (tSeq (tIfS tt t u) w) Γ (c1 + c2) N Bk Ct Rt := fun H0 P H σ B D o q1 q2 q3 q4 => by
  refine h H0 P H σ (B + c2) (o.le (by omega)) _ fun b' H1 o1 g r => ?_
  cases b' with
  | true => exact h1 r H0 P H1 σ B D o1 q1 q2 q3 q4
  | false => exact h2 r H0 P H1 σ B D o1 q1 q2 q3 q4
theorem sg_nextW (h : Sg K m w Γ c N Bk Ct Rt) : Sg K m (tSeq tNext w) Γ c N Bk Ct Rt := fun H0 P H σ B D o q1 q2 q3 q4 => h H0 P H σ B D o q1 q2 q3 q4
end
section
variable {P : Program} {w : World} {K : PySem.W.Frag} {mg : Str → Option Value} {base : Heap} {f : Addr} {fd : FuncData} {C fI : Addr}
/- _law_drawn_row: slots _law_pen_here 0, _law_many 1, _law_rows_here 2, _law_k 3; cells ['_law_many', '_law_pen_here'] -/
abbrev s_law_drawn_row : Stmt := topS 27
abbrev n_law_drawn_row : List Str := ["_law_pen_here", "_law_many", "_law_rows_here", "_law_k"]
abbrev p_law_drawn_row : List Str := ["_law_pen_here", "_law_many", "_law_rows_here"]
theorem sc_law_drawn_row : FnScope n_law_drawn_row p_law_drawn_row (defScope s_law_drawn_row) := ⟨rfl, rfl, rfl, by decide +kernel, rfl, by decide +kernel, by decide +kernel⟩
def preR : List PyData → Prop := fun ds => ∃ m n : Nat, 1 ≤ m ∧ m ≤ 5 ∧ n ≤ 14 ∧ ds = [.int (m : Int), .int (n : Int)]
def postR : List PyData → PyData → Prop := fun ds d => ∃ (m n : Nat) (cl : List (List Int)), ds = [.int (m : Int), .int (n : Int)] ∧ d = .tuple (cl.map encC) ∧ cl.length = n ∧ ∀ c ∈ cl, Mi.Gd m c
abbrev SpDr (K : PySem.W.Frag) : Sp := SpP K (fun _ => 300) preR postR
theorem pick_most {d : PyData} (h : postPk [.list [.int 1, .int 2, .int 2, .int 3]] d) : ∃ q : Int, d = .int q := by
  obtain ⟨xs, e, hm⟩ := h
  cases e
  simp only [List.mem_cons, List.not_mem_nil, or_false] at hm
  rcases hm with h | h | h | h <;> exact ⟨_, h⟩
theorem ev_callPR {K : PySem.W.Frag} {m : Md} {Γ : List En} {c i a : Nat} {t : TA} {pre : List PyData → Prop} {post : List PyData → PyData → Prop} {RA : List PyData → Prop} {R : PyData → Prop} {E : XK} (h : Γ[i]? = some .pen) (ha : EA K m .da t Γ c RA) (hp : ∀ ds, RA ds → pre ds) (hq : ∀ ds d, RA ds → post ds d → R d) :
    Ev K m .im (tCall (SpP K (fun _ => a) pre post) [] E (tCons (tVar i) t)) Γ (c + a) R := fun H0 P H σ B o Q q => by
  obtain ⟨p, cc, e, hm⟩ := o.sl i _ h
  subst hm
  refine ⟨_, e, ?_⟩
  refine ha H0 P H σ (B + a) (o.le (by omega)) _ fun vs H1 ds' o1 g1 e1 e2 => ?_
  show SpP K (fun _ => a) pre post ((V.ref p :: vs) ++ []) H1 Q E
  rw [List.append_nil]
  exact ⟨p, cc, vs, _, B, rfl, e2, hp _ e1, (o1.pen p cc rfl).2.2, fun d v H' h g pk i => q v H' d (o1.grow g fun p' c' e => by cases e; exact pk) (g1.trans g) (hq _ _ e1 h) i⟩
theorem ok_law_drawn_row (b : Bl mg) (c_law_pick : Cal P w K mg base 2 "_law_pick" p_law_pick (SpPick K)) (c_law_drawn_clause : Cal P w K mg base 3 "_law_drawn_clause" p_law_drawn_clause (SpDc K))
    (F : Fun K "_law_drawn_row" "_law_drawn_row" s_law_drawn_row f fd) : FnOk P w K mg base L2.CX0 4 f fd p_law_drawn_row (SpDr K) := by
  refine fn_pen F sc_law_drawn_row (fun ds h => by obtain ⟨_, _, _, _, _, rfl⟩ := h; rfl) fun cdv A outer s H E hr ds h => ?_
  obtain ⟨m, n, hm1, hm5, hn, rfl⟩ := h
  refine ⟨_, (pss_one (ps_ret (pe_callTy call_tuple_of rfl b.tuple_ (by decide +kernel) (pa_cons (pe_lc (own := [("_law_k", 3)]) (g := (gName 3)) (tt := tYes) rfl sc_law_drawn_row.nd (pi_range1 rfl b.range_ (pa_cons (pv 2) pa_nil)) (blkOk_by (own := [("_law_k", 3)]) (N := n_law_drawn_row) (sc := defScope s_law_drawn_row) (by decide +kernel)) (fun _ _ _ _ _ => (pg_name (i := 3) sc_law_drawn_row.nd rfl (Or.inl rfl))) (fun _ _ _ _ _ => pts_nil) (fun _ _ _ _ _ => (pe_def c_law_drawn_clause hr (pa_cons (pv 0) (pa_cons (pv 1) (pa_cons (pe_def c_law_pick hr (pa_cons (pv 0) (pa_cons (pe_lst (pa_cons pe_int (pa_cons pe_int (pa_cons pe_int (pa_cons pe_int pa_nil))))) pa_nil))) pa_nil)))))) pa_nil)))), [.im (.int (m : Int)), .im (.int (n : Int))], 1, .cons (.int _) (.cons (.int _) .nil), rfl, fun p c => ?_⟩
  refine ⟨_, ?_, sg_ret (R := fun d => ∃ cl : List (List Int), d = .tuple (cl.map encC) ∧ cl.length = n ∧ ∀ c ∈ cl, Mi.Gd m c) (ev_tupleR (ev_lcR1 (n := n) (ct := 0) (ce := 21) (ea_cons (ev_im rfl) ea_nil) (by omega) (by decide) (ln rfl) (fun i es => ∃ cl : List (List Int), es = cl.map encC ∧ cl.length = i ∧ ∀ c ∈ cl, Mi.Gd m c) (fun _ => Is true) (fun _ d => ∃ c, d = encC c ∧ Mi.Gd m c) ⟨[], rfl, rfl, fun c hc => by cases hc⟩ (fun _ _ => et_yes)
    (fun i hi _ => Ev.le (ev_callPR (a := 20) rfl (ea_consR (RB := fun ds => ∃ q : Int, ds = [.int (m : Int), .int q]) (R := Is (.int (m : Int))) (ev_im rfl) (ea_consR (RB := fun ds => ∃ q : Int, ds = [.int q]) (ev_callP rfl (ea_cons (ev_lst (ei_cons ev_int (ei_cons ev_int (ei_cons ev_int (ei_cons ev_int ea_nil))))) ea_nil) ⟨_, by simp, by decide, rfl⟩) ea_nil fun d r h1 h2 => ?_) fun d r h1 ⟨q, h2⟩ => ⟨q, by rw [h1, h2]⟩) (fun ds ⟨q, e⟩ => ⟨m, q, hm1, hm5, e⟩) fun ds d ⟨q, e⟩ ⟨m', q', c, e1, e2, e3⟩ => ?_) (by decide))
    (fun i es hi _ z => absurd z (by simp [Is])) fun i es e hi ⟨cl, e1, h1, h2⟩ _ ⟨c, e2, h3⟩ => ⟨cl ++ [c], by rw [e1, e2, List.map_append]; rfl, by rw [List.length_append, h1]; rfl, fun x hx => ?_⟩) fun d ⟨es, e1, cl, e2, h1, h2⟩ => ⟨es, .inr e1, cl, by rw [e2], h1, h2⟩) fun d ⟨cl, e1, e2, e3⟩ => ⟨rfl, m, n, cl, rfl, e1, e2, e3⟩⟩
  · show 0 + 0 + n * (0 + 21) ≤ 300
    omega
  · obtain ⟨q, rfl⟩ := pick_most h1
    cases h2
    exact ⟨q, rfl⟩
  · rw [e] at e1
    cases e1
    exact ⟨c, e2, e3⟩
  · rcases List.mem_append.mp hx with hx | hx
    · exact h2 x hx
    · rw [List.mem_singleton] at hx
      subst hx
      exact h3
end
end W26

set_option Elab.async false
set_option linter.all false
set_option maxRecDepth 100000
set_option maxHeartbeats 2000000
namespace W26
open PySem PySem.Spec PyProof.Rows L2 Lg
open Mi (Line)
theorem iabs_nat (n : Int) : iabs n = ((n.natAbs : Nat) : Int) := by unfold iabs; split <;> omega
section
variable {P : Program} {w : World} {K : PySem.W.Frag} {mg : Str → Option Value} {base : Heap} {f : Addr} {fd : FuncData} {C fI : Addr}
/- _law_drawn_lines: slots _law_pen_here 0, _law_clauses 1, _law_many 2, _law_lines 3, _law_found 4, _law_lap 5, _law_first 6, _law_clause 7, _law_steps 8, _law_turn 9, _law_ways 10, _law_k 11, _law_some 12, _law_number 13, _law_one 14; cells ['_law_clause', '_law_found', '_law_k'] -/
abbrev s_law_drawn_lines : Stmt := topS 42
abbrev n_law_drawn_lines : List Str := ["_law_pen_here", "_law_clauses", "_law_many", "_law_lines", "_law_found", "_law_lap", "_law_first", "_law_clause", "_law_steps", "_law_turn", "_law_ways", "_law_k", "_law_some", "_law_number", "_law_one"]
abbrev p_law_drawn_lines : List Str := ["_law_pen_here", "_law_clauses", "_law_many"]
theorem sc_law_drawn_lines : FnScope n_law_drawn_lines p_law_drawn_lines (defScope s_law_drawn_lines) := ⟨rfl, rfl, rfl, by decide +kernel, rfl, by decide +kernel, by decide +kernel⟩
structure DlPre (m : Nat) (cl : List (List Int)) (n : Nat) : Prop where
  m5 : m ≤ 5
  c1 : 1 ≤ cl.length
  c2 : cl.length ≤ 1000
  gd : ∀ c ∈ cl, Mi.Gd m c
  n1 : n ≤ 11
def preDl : List PyData → Prop := fun ds => ∃ (m : Nat) (cl : List (List Int)) (n : Nat), DlPre m cl n ∧ ds = [.tuple (cl.map encC), .int (n : Int)]
/-- lines that were drawn -/
structure Dls (cl : List (List Int)) (ls : List Line) : Prop where
  all : ∃ cs, Mi.allC cl ls = some cs
  l1 : 1 ≤ ls.length
  l2 : ls.length ≤ 12
  as : ∀ l ∈ ls, (Mi.asked l).length ≤ 10
def postDl : List PyData → PyData → Prop := fun ds d => ∃ (cl : List (List Int)) (n : Nat) (ls : List Line), ds = [.tuple (cl.map encC), .int (n : Int)] ∧ d = .tuple (ls.map encL) ∧ Dls cl ls
abbrev SpDl (K : PySem.W.Frag) : Sp := SpP K (fun _ => 100) preDl postDl
theorem lit_flat {x : PyData} (h : isS x = true) : Flat 0 x := h
theorem pairs_shaped (wl : List (Nat × Nat)) : SeqAt.shaped (.list (wl.map encP)) = true := flat_shapedL (n := 1) fun x hx => by
  obtain ⟨p, _, rfl⟩ := List.mem_map.mp hx
  refine .inr ⟨_, rfl, by show 2 ≤ 100000; decide, fun x hx => ?_⟩
  rcases List.mem_cons.mp hx with rfl | hx
  · rfl
  rcases List.mem_cons.mp hx with rfl | hx
  · rfl
  cases hx
theorem ok_law_drawn_lines (b : Bl mg) (c_law_draw : Cal P w K mg base 1 "_law_draw" p_law_draw (SpDraw K)) (c_law_pick : Cal P w K mg base 2 "_law_pick" p_law_pick (SpPick K)) (c_law_line_clauses : Cal P w K mg base 68 "_law_line_clauses" p_law_line_clauses (SpF K fLlc))
    (c_law_resolved : Cal P w K mg base 66 "_law_resolved" p_law_resolved (SpF K fResolvent))
    (F : Fun K "_law_drawn_lines" "_law_drawn_lines" s_law_drawn_lines f fd) : FnOk P w K mg base L2.CX0 69 f fd p_law_drawn_lines (SpDl K) := by
  refine fn_pen F sc_law_drawn_lines (fun ds h => by obtain ⟨_, _, _, _, rfl⟩ := h; rfl) fun cdv A outer s H E hr ds h => ?_
  have hu64 := hr.units
  obtain ⟨m, cl, n, hp, rfl⟩ := h
  have hm5 := hp.m5
  have hgds : Gds cl := ⟨by have := hp.c2; omega, m, hm5, hp.gd⟩
  refine ⟨_, (pss_cons (ps_asg (pe_tup (pa_cons (pe_lst (pa_cons (pe_tup (pa_cons pe_str (pa_cons (pe_def c_law_draw hr (pa_cons (pv 0) (pa_cons (pe_callB call_len_seq rfl b.len_ (by decide +kernel) (pa_cons (pv 1) pa_nil)) pa_nil))) pa_nil))) pa_nil)) (pa_cons (pe_lst pa_nil) pa_nil))) (pg_tup rfl (pgs_cons (pg_name (i := 3) sc_law_drawn_lines.nd rfl (Or.inl rfl)) (pgs_cons (pg_name (i := 4) sc_law_drawn_lines.nd rfl (Or.inr rfl)) pgs_nil))))
(pss_cons (ps_for PassesOwn.never rfl (pi_range1 rfl b.range_ (pa_cons (pv 2) pa_nil)) (pg_name (i := 5) sc_law_drawn_lines.nd rfl (Or.inl rfl))
(pss_cons (ps_set (i := 4) sc_law_drawn_lines.nd rfl (Or.inr rfl) (pe_def c_law_line_clauses hr (pa_cons (pv 1) (pa_cons (pe_callTy call_tuple_of rfl b.tuple_ (by decide +kernel) (pa_cons (pv 3) pa_nil)) pa_nil))))
(pss_cons (ps_if (PW.pt (pw_or (pt_cmpR op_eq (pe_def c_law_draw hr (pa_cons (pv 0) (pa_cons pe_int pa_nil))) pe_int (nomark _)) (pw_or1 (pt_cmpR op_lt (pe_callB call_len_seq rfl b.len_ (by decide +kernel) (pa_cons (pv 3) pa_nil)) pe_int (nomark _)))))
(pss_cons (ps_expr (pe_bm PySem.F.plainAttrs_list PySem.F.slot_list_append PySem.F.type_list_append mt_append (pv 3) (pa_cons (pe_tup (pa_cons pe_str (pa_cons (pe_def c_law_draw hr (pa_cons (pv 0) (pa_cons (pe_callB call_len_seq rfl b.len_ (by decide +kernel) (pa_cons (pv 1) pa_nil)) pa_nil))) pa_nil))) pa_nil)))
(pss_one ps_continue))
pss_nil)
(pss_cons (ps_set (i := 6) sc_law_drawn_lines.nd rfl (Or.inl rfl) (pe_def c_law_draw hr (pa_cons (pv 0) (pa_cons (pe_callB call_len_seq rfl b.len_ (by decide +kernel) (pa_cons (pv 3) pa_nil)) pa_nil))))
(pss_cons (ps_asg (pe_tup (pa_cons (pe_ix (ix_tupK K rfl) (pv 4) (pv 6) (fun _ _ => rfl)) (pa_cons (pe_lst pa_nil) pa_nil))) (pg_tup rfl (pgs_cons (pg_name (i := 7) sc_law_drawn_lines.nd rfl (Or.inr rfl)) (pgs_cons (pg_name (i := 8) sc_law_drawn_lines.nd rfl (Or.inl rfl)) pgs_nil))))
(pss_cons (ps_for PassesOwn.never rfl (pi_range1 rfl b.range_ (pa_cons (pe_op op_add pe_int (pe_def c_law_draw hr (pa_cons (pv 0) (pa_cons pe_int pa_nil)))) pa_nil)) (pg_name (i := 9) sc_law_drawn_lines.nd rfl (Or.inl rfl))
(pss_cons (ps_set (i := 10) sc_law_drawn_lines.nd rfl (Or.inl rfl) (pe_lst pa_nil))
(pss_cons (ps_for PassesOwn.never rfl (pi_range1 rfl b.range_ (pa_cons (pe_callB call_len_seq rfl b.len_ (by decide +kernel) (pa_cons (pv 3) pa_nil)) pa_nil)) (pg_name (i := 11) sc_law_drawn_lines.nd rfl (Or.inr rfl))
(pss_cons (ps_setLc (i := 12) (own := [("_law_number", 13)]) (g := (gName 13)) rfl sc_law_drawn_lines.nd rfl rfl (sw_true rfl rfl rfl (by decide +kernel)) (pi_tup (pv 7)) (blkOk_by (own := [("_law_number", 13)]) (N := n_law_drawn_lines) (sc := defScope s_law_drawn_lines) (by decide +kernel)) (fun _ _ _ _ _ => (pg_name (i := 13) sc_law_drawn_lines.nd rfl (Or.inl rfl))) (fun _ _ _ _ _ => (pts_one (pt_cmpR (op_inK K rfl) (pe_un un_neg (pv 13)) (pe_ix (ix_tupK K rfl) (pv 4) (pv 11) (fun _ _ => rfl)) (by rfl)))) (fun _ _ _ _ _ => (pe_callB call_abs rfl b.abs_ (by decide +kernel) (pa_cons (pv 13) pa_nil))))
(pss_one (ps_set (i := 10) sc_law_drawn_lines.nd rfl (Or.inl rfl) (pe_op op_cat (pv 10) (pe_lc (own := [("_law_one", 14)]) (g := (gName 14)) rfl sc_law_drawn_lines.nd (pi_list (pv 12)) (blkOk_by (own := [("_law_one", 14)]) (N := n_law_drawn_lines) (sc := defScope s_law_drawn_lines) (by decide +kernel)) (fun _ _ _ _ _ => (pg_name (i := 14) sc_law_drawn_lines.nd rfl (Or.inl rfl))) (fun _ _ _ _ _ => (pts_one (pt_cmpR op_notN (pe_def c_law_resolved hr (pa_cons (pv 7) (pa_cons (pe_ix (ix_tupK K rfl) (pv 4) (pv 11) (fun _ _ => rfl)) (pa_cons (pv 14) pa_nil)))) pe_non (nomark _)))) (fun _ _ _ _ _ => (pe_tup (pa_cons (pv 14) (pa_cons (pv 11) pa_nil))))))))))
(pss_one (ps_if (pt_cmpR (op_neD hu64) (pv 10) (pe_lst pa_nil) (nomark _))
(pss_cons (ps_expr (pe_bm PySem.F.plainAttrs_list PySem.F.slot_list_append PySem.F.type_list_append mt_append (pv 8) (pa_cons (pe_def c_law_pick hr (pa_cons (pv 0) (pa_cons (pv 10) pa_nil))) pa_nil)))
(pss_one (ps_set (i := 7) sc_law_drawn_lines.nd rfl (Or.inr rfl) (pe_def c_law_resolved hr (pa_cons (pv 7) (pa_cons (pe_ix (ix_tupK K rfl) (pv 4) (pe_ix (ix_tupK K rfl) (pe_ix (ix_listK K rfl) (pv 8) (pe_un un_neg pe_int) (fun _ _ => rfl)) pe_int (fun _ _ => rfl)) (fun _ _ => rfl)) (pa_cons (pe_ix (ix_tupK K rfl) (pe_ix (ix_listK K rfl) (pv 8) (pe_un un_neg pe_int) (fun _ _ => rfl)) pe_int (fun _ _ => rfl)) pa_nil)))))))
pss_nil)))))
(pss_one (ps_if (pt_cmpR (op_neD hu64) (pv 8) (pe_lst pa_nil) (nomark _))
(pss_one (ps_expr (pe_bm PySem.F.plainAttrs_list PySem.F.slot_list_append PySem.F.type_list_append mt_append (pv 3) (pa_cons (pe_tup (pa_cons pe_str (pa_cons (pv 6) (pa_cons (pe_callTy call_tuple_of rfl b.tuple_ (by decide +kernel) (pa_cons (pv 8) pa_nil)) pa_nil)))) pa_nil))))
pss_nil))))))))
(pss_one (ps_ret (pe_callTy call_tuple_of rfl b.tuple_ (by decide +kernel) (pa_cons (pv 3) pa_nil)))))), [.im (.tuple (cl.map encC)), .im (.int (n : Int))], 12, .cons (.tup _) (.cons (.int _) .nil), rfl, fun p c => ⟨67, by decide, ?_⟩⟩
  have lC : ∀ {Γ : List En}, Γ[1]? = some (.im (.tuple (cl.map encC))) → Ev K (some (p, c)) .im (tCB (rLen1 K) (tCons (tVar 1) tNil)) Γ 0 (Is (.int (cl.length : Int))) := fun h => Ev.to (ev_len (ev_im h) (.inl rfl)) (by rw [List.length_map])
  have lL : ∀ {Γ : List En} {ls : List Line}, Γ[3]? = some (.own (ls.map encL)) → Ev K (some (p, c)) .im (tCB (rLen1 K) (tCons (tVar 3) tNil)) Γ 0 (Is (.int (ls.length : Int))) := fun h => Ev.to (ev_len (ev_own h) (.inr rfl)) (by rw [List.length_map])
  have hdc : preD [.int (cl.length : Int)] := ⟨_, by have := hp.c1; omega, by have := hp.c2; omega, rfl⟩
  have dgiven : ∀ {Γ : List En}, Γ[0]? = some .pen → Γ[1]? = some (.im (.tuple (cl.map encC))) → Ev K (some (p, c)) .im (tTup (tCons (tC (.str "given")) (tCons (tCall (SpDraw K) [] L2.E0 (tCons (tVar 0) (tCons (tCB (rLen1 K) (tCons (tVar 1) tNil)) tNil))) tNil))) Γ 1 (fun d => ∃ j : Nat, j < cl.length ∧ d = encL (.given j)) := fun h0 h1 =>
    Ev.le (Ev.imp (ev_tupR (ei_consR (RB := fun ds => ∃ j : Nat, j < cl.length ∧ ds = [.str "given", .int (j : Int)]) (R := Is (.str "given")) ev_str (ei_consR (RB := fun ds => ∃ j : Nat, j < cl.length ∧ ds = [.int (j : Int)]) (ev_callP h0 (ea_cons (lC h1) ea_nil) hdc) ea_nil fun d r h1 h2 => by
      obtain ⟨j, rfl, hj⟩ := draw_nat h1
      cases h2
      exact ⟨j, hj, rfl⟩) fun d r h1 ⟨j, hj, h2⟩ => ⟨j, hj, by rw [h1, h2]⟩) fun ds ⟨j, _, e⟩ => by rw [e]; exact Nat.le_of_ble_eq_true rfl) fun d ⟨ds, e1, j, hj, e2⟩ => ⟨j, hj, by rw [e1, e2]; rfl⟩) (by decide)
  have given_ok : ∀ {ls : List Line} {i : Nat} {j : Nat}, j < cl.length → (∃ cs, Mi.allC cl ls = some cs) → ∃ cs, Mi.allC cl (ls ++ [.given j]) = some cs := fun {ls i j} hj ⟨cs, h⟩ => ⟨_, Mi.allC_snoc h (c := cl[j]) (by show cl[j]? = _; exact List.getElem?_eq_getElem hj)⟩
  refine Sg.le (sg_seq (c1 := 1) (c2 := 66) (N1 := fun Γ' => ∃ j : Nat, j < cl.length ∧ Γ' = [.pen, .im (.tuple (cl.map encC)), .im (.int (n : Int)), .own ([Line.given j].map encL), .own [], .un, .un, .un, .un, .un, .un, .un, .un, .un, .un]) (Sg.le (sg_asgNN (R1 := fun d => ∃ j : Nat, j < cl.length ∧ d = .list [encL (.given j)]) (Ev.imp (ev_lstR (ei_consR (RB := fun ds => ∃ j : Nat, j < cl.length ∧ ds = [encL (.given j)]) (dgiven rfl rfl) ea_nil fun d r ⟨j, hj, h1⟩ h2 => ⟨j, hj, by rw [h1, h2]⟩) fun ds ⟨j, _, e⟩ => by rw [e]; exact Nat.le_of_ble_eq_true rfl) fun d ⟨ds, e1, j, hj, e2⟩ => ⟨j, hj, by rw [e1, e2]⟩) (ev_lst ea_nil) (ln rfl) (ln rfl) fun ds es ⟨j, hj, e1⟩ e2 => ?_) (by decide)) fun Γ' ⟨j0, hj0, e⟩ => ?_) (by decide)
  · cases e1
    cases e2
    exact ⟨j, hj, rfl⟩
  subst e
  refine Sg.le (sg_seq (c1 := n * 6) (c2 := 0) (N1 := fun Γ' => ∃ (ls : List Line) (e4 e5 e6 e7 e8 e9 e10 e11 e12 : En), Dls cl ls ∧ Γ' = [.pen, .im (.tuple (cl.map encC)), .im (.int (n : Int)), .own (ls.map encL), e4, e5, e6, e7, e8, e9, e10, e11, e12, .un, .un])
    (Sg.le (sg_forR1s (n := n) (S := List Line × En × En × En × En × En × En × En × En) (fun s e => [.pen, .im (.tuple (cl.map encC)), .im (.int (n : Int)), .own (s.1.map encL), s.2.1, e, s.2.2.1, s.2.2.2.1, s.2.2.2.2.1, s.2.2.2.2.2.1, s.2.2.2.2.2.2.1, s.2.2.2.2.2.2.2.1, s.2.2.2.2.2.2.2.2, .un, .un])
      (fun s i => (∃ cs, Mi.allC cl s.1 = some cs) ∧ 1 ≤ s.1.length ∧ s.1.length ≤ 1 + i ∧ ∀ l ∈ s.1, (Mi.asked l).length ≤ 10) (ea_cons (ev_im rfl) ea_nil) (by have := hp.n1; omega) 6 (s0 := ([Line.given j0], .own [], .un, .un, .un, .un, .un, .un, .un)) (e0 := .un) rfl ⟨given_ok (ls := []) (i := 0) hj0 ⟨[], rfl⟩, Nat.le_refl _, Nat.le_refl _, fun l hl => by rw [List.mem_singleton] at hl; subst hl; exact Nat.zero_le _⟩ (fun _ _ _ => ⟨ln rfl, rfl⟩) ?_ (fun s e ⟨h1, h2, h3, h4⟩ => ⟨s.1, s.2.1, e, s.2.2.1, s.2.2.2.1, s.2.2.2.2.1, s.2.2.2.2.2.1, s.2.2.2.2.2.2.1, s.2.2.2.2.2.2.2.1, s.2.2.2.2.2.2.2.2, ⟨h1, h2, by have := hp.n1; omega, h4⟩, rfl⟩)) (by omega)) fun Γ' ⟨ls, e4, e5, e6, e7, e8, e9, e10, e11, e12, hd, e⟩ => ?_) (by have := hp.n1; omega)
  · rintro ⟨ls, e4, e6, e7, e8, e9, e10, e11, e12⟩ i hi ⟨⟨cs, hcs⟩, h1, h2, h4⟩
    have hcs : Mi.allC cl ls = some cs := hcs
    have h1 : 1 ≤ ls.length := h1
    have h2 : ls.length ≤ 1 + i := h2
    have h4 : ∀ l ∈ ls, (Mi.asked l).length ≤ 10 := h4
    have hn := hp.n1
    have hcl := Mi.allC_len hcs
    have hgc : ∀ c ∈ cs, Mi.Gd m c := Mi.allF_gd hm5 hp.gd (fun c hc => by cases hc) hcs
    refine Sg.le (q_set (c1 := 0) (c2 := 6) (ev_def (ea_cons (ev_im rfl) (ea_cons (ev_tuple (ev_own rfl) (.inr rfl)) ea_nil)) ⟨_, cl, ls, cs, .inl rfl, hgds, by omega, fun l hl => by have := h4 l hl; omega, hcs, rfl, rfl, rfl⟩) (ln rfl) ?_) (by decide)
    refine Sg.le (q_ifR (c1 := 1) (c2 := 5) (et_orR (ev_eqR (ev_callP rfl (ea_cons ev_int ea_nil) ⟨3, by decide, by decide, rfl⟩) (fun d h => let ⟨j, e, _⟩ := draw_int h; ⟨j, e⟩) ev_int) (et_test (ev_lt (lL rfl) ev_int))) (fun _ => ?_) fun _ => sg_nextW ?_) (by decide)
    · refine Sg.le (q_end (sg_seq (c1 := 1) (c2 := 0) (N1 := fun Γ' => ∃ j : Nat, j < cl.length ∧ Γ' = [.pen, .im (.tuple (cl.map encC)), .im (.int (n : Int)), .own ((ls ++ [Line.given j]).map encL), .im (.tuple (cs.map encC)), .im (.int (0 + (i : Int))), e6, e7, e8, e9, e10, e11, e12, .un, .un]) (sg_app rfl (dgiven rfl rfl) (by rw [List.length_map]; omega) fun d ⟨j, hj, e⟩ => ⟨j, hj, by rw [e, List.map_append]; rfl⟩) fun Γ' ⟨j, hj, e⟩ => ?_)) (by decide)
      subst e
      refine sg_cont ⟨(ls ++ [Line.given j], _, e6, e7, e8, e9, e10, e11, e12), _, ⟨given_ok (i := 0) hj ⟨cs, hcs⟩, by rw [List.length_append]; show 1 ≤ ls.length + 1; omega, by rw [List.length_append]; show ls.length + 1 ≤ _; omega, fun l hl => ?_⟩, rfl⟩
      rcases List.mem_append.mp hl with hl | hl
      · exact h4 l hl
      · rw [List.mem_singleton] at hl
        subst hl
        exact Nat.zero_le _
    refine Sg.le (q_asg (R := fun d => ∃ j : Nat, j < ls.length ∧ d = .int (j : Int)) (c1 := 1) (c2 := 4) (Ev.imp (ev_callP rfl (ea_cons (lL rfl) ea_nil) ⟨(ls.length : Int), by omega, by omega, rfl⟩) fun d h => let ⟨j, e, hj⟩ := draw_nat h; ⟨j, hj, e⟩) (ln rfl) fun d ⟨fst, hfst, e⟩ => ?_) (by decide)
    subst e
    obtain ⟨c0, hc0⟩ : ∃ c0, cs[fst]? = some c0 := ⟨_, List.getElem?_eq_getElem (by omega)⟩
    refine Sg.le (sg_seq (c1 := 0) (c2 := 4) (N1 := fun Γ' => Γ' = [.pen, .im (.tuple (cl.map encC)), .im (.int (n : Int)), .own (ls.map encL), .im (.tuple (cs.map encC)), .im (.int (0 + (i : Int))), .im (.int (fst : Int)), .im (encC c0), .own [], e9, e10, e11, e12, .un, .un]) (sg_asgIN (R1 := Is (encC c0)) (ev_ixT (ev_im rfl) (ev_im rfl) (j := fst) rfl (get_map hc0)) (ev_lst ea_nil) (ln rfl) (ln rfl) fun d es e1 e2 => by cases e1; cases e2; rfl) fun Γ' e => ?_) (by decide)
    subst e
    have hg0 : Mi.Gd m c0 := hgc c0 (List.mem_of_getElem? hc0)
    refine Sg.le (sg_seq (c1 := 4) (c2 := 0) (N1 := fun Γ' => ∃ (cc : List Int) (ss : List (Nat × Nat)) (e9 e10 e11 e12 : En), Mi.steps cs c0 ss = some cc ∧ ss.length ≤ 3 ∧ Γ' = [.pen, .im (.tuple (cl.map encC)), .im (.int (n : Int)), .own (ls.map encL), .im (.tuple (cs.map encC)), .im (.int (0 + (i : Int))), .im (.int (fst : Int)), .im (encC cc), .own (ss.map encP), e9, e10, e11, e12, .un, .un])
      (Sg.le (sg_forR1R (n := 3) (RA := fun ds => ∃ z : Nat, ds = [.int (z : Int)] ∧ z ≤ 3) (ea_consR (ev_addR ev_int (ev_callP rfl (ea_cons ev_int ea_nil) ⟨3, by decide, by decide, rfl⟩) (S := fun d => ∃ z : Nat, d = .int (z : Int) ∧ z ≤ 3) fun d h => by obtain ⟨j, rfl, q1, q2⟩ := draw_int h; exact ⟨j, rfl, (1 + j).toNat, by congr 1; omega, by omega⟩) ea_nil fun d r ⟨z, e1, e2⟩ e3 => ⟨z, by rw [e1, e3], e2⟩) (fun ds h => h) (by decide)
        (fun z i' Γ' => ∃ (cc : List Int) (ss : List (Nat × Nat)) (e9 e10 e11 e12 : En), Mi.steps cs c0 ss = some cc ∧ ss.length ≤ i' ∧ Γ' = [.pen, .im (.tuple (cl.map encC)), .im (.int (n : Int)), .own (ls.map encL), .im (.tuple (cs.map encC)), .im (.int (0 + (i : Int))), .im (.int (fst : Int)), .im (encC cc), .own (ss.map encP), e9, e10, e11, e12, .un, .un]) 1
        (fun z _ => ⟨c0, [], e9, e10, e11, e12, rfl, Nat.le_refl _, rfl⟩) (fun z i' Γ' hz hi' ⟨cc, ss, e9, e10, e11, e12, hst, hsl, e⟩ => ?_) fun z Γ' hz ⟨cc, ss, e9, e10, e11, e12, hst, hsl, e⟩ => ⟨cc, ss, e9, e10, e11, e12, hst, by omega, e⟩) (by decide)) fun Γ' ⟨cc, ss, e9, e10, e11, e12, hst, hsl, e⟩ => ?_) (by decide)
    · subst e
      refine ⟨ln rfl, ?_⟩
      have hgcc : Mi.Gd m cc := Mi.steps_gd hm5 hgc hg0 hst
      refine Sg.le (q_setN (c1 := 0) (c2 := 1) (ev_lst ea_nil) (ln rfl) ?_) (by decide)
      refine Sg.le (sg_seq (c1 := 0) (c2 := 1) (N1 := fun Γ' => ∃ (wl : List (Nat × Nat)) (e11 e12 : En), wl.length ≤ 11 * ls.length ∧ (∀ p ∈ wl, p.1 ≠ 0 ∧ ∃ b e, cs[p.2]? = some b ∧ Mi.resv cc b p.1 = some e) ∧ Γ' = [.pen, .im (.tuple (cl.map encC)), .im (.int (n : Int)), .own (ls.map encL), .im (.tuple (cs.map encC)), .im (.int (0 + (i : Int))), .im (.int (fst : Int)), .im (encC cc), .own (ss.map encP), .im (.int (0 + (i' : Int))), .own (wl.map encP), e11, e12, .un, .un])
        (Sg.le (sg_forR1s (n := ls.length) (S := List (Nat × Nat) × En) (fun s e => [.pen, .im (.tuple (cl.map encC)), .im (.int (n : Int)), .own (ls.map encL), .im (.tuple (cs.map encC)), .im (.int (0 + (i : Int))), .im (.int (fst : Int)), .im (encC cc), .own (ss.map encP), .im (.int (0 + (i' : Int))), .own (s.1.map encP), e, s.2, .un, .un])
          (fun s k => s.1.length ≤ 11 * k ∧ ∀ p ∈ s.1, p.1 ≠ 0 ∧ ∃ b e, cs[p.2]? = some b ∧ Mi.resv cc b p.1 = some e) (ea_cons (lL rfl) ea_nil) (by omega) 0 (s0 := ([], e12)) (e0 := e11) rfl ⟨Nat.zero_le _, fun p hp => by cases hp⟩ (fun _ _ _ => ⟨ln rfl, rfl⟩) ?_ (fun s e ⟨h1, h2⟩ => ⟨s.1, e, s.2, h1, h2, rfl⟩)) (by omega)) fun Γ' ⟨wl, e11, e12, hwl, hwp, e⟩ => ?_) (by decide)
      · rintro ⟨wl, e12⟩ k hk ⟨hwl, hwp⟩
        have hwl : wl.length ≤ 11 * k := hwl
        have hwp : ∀ p ∈ wl, p.1 ≠ 0 ∧ ∃ b e, cs[p.2]? = some b ∧ Mi.resv cc b p.1 = some e := hwp
        obtain ⟨ck, hck⟩ : ∃ ck, cs[k]? = some ck := ⟨_, List.getElem?_eq_getElem (by omega)⟩
        have hgk : Mi.Gd m ck := hgc ck (List.mem_of_getElem? hck)
        have hcc11 := hgcc.2
        have hck11 := hgk.2
        have fle := List.length_filter_le (fun x => decide (-x ∈ ck)) cc
        refine Sg.le (q_setN (ds := ((cc.filter fun x => decide (-x ∈ ck)).map Int.natAbs).map fun (a : Nat) => .int (a : Int)) (c1 := 0) (c2 := 0) (Ev.le (Ev.to (ev_lcTd (ct := 0) (ce := 0) (l := cc) (enc := PyData.int) (g := fun x => .int (iabs x)) (p := fun x => decide (-x ∈ ck)) (ev_im rfl) (by omega) (by decide) (ln rfl) (fun _ x _ => ET.le (et_test (ev_inI (ev_neg (ev_im rfl)) (ev_ixT (ev_im rfl) (ev_im rfl) (j := k) (by omega) (get_map hck)) (.inl rfl))) (by decide)) fun _ x _ _ => ev_abs (ev_im rfl)) ?_) (by simp)) (ln rfl) ?_) (by decide)
        · rw [List.map_map]
          refine congrArg PyData.list (List.map_congr_left fun x _ => ?_)
          show PyData.int (iabs x) = .int ((x.natAbs : Nat) : Int)
          rw [iabs_nat]
        have hsl : ((cc.filter fun x => decide (-x ∈ ck)).map Int.natAbs).length ≤ 11 := by rw [List.length_map]; omega
        have hsp : ∀ a ∈ (cc.filter fun x => decide (-x ∈ ck)).map Int.natAbs, a ≠ 0 := fun a ha => by
          obtain ⟨x, hx, rfl⟩ := List.mem_map.mp ha
          have := (hgcc.1 x (List.mem_filter.mp hx).1).1
          omega
        generalize (cc.filter fun x => decide (-x ∈ ck)).map Int.natAbs = sl at hsl hsp ⊢
        have fl2 := List.length_filter_le (fun a : Nat => (Mi.resv cc ck (a : Int)).isSome) sl
        refine sg_setN (ds := (wl ++ (sl.filter fun (a : Nat) => (Mi.resv cc ck (a : Int)).isSome).map fun a => (a, k)).map encP) (Ev.le (Ev.to (ev_cat (ev_own rfl) (ev_lcLd (ct := 0) (ce := 0) (l := sl) (enc := fun (a : Nat) => .int (a : Int)) (g := fun a => encP (a, k)) (p := fun (a : Nat) => (Mi.resv cc ck (a : Int)).isSome) (ev_own rfl) (by omega) (by decide) (ln rfl) (fun _ a _ => ET.le (ET.to (et_test (ev_notN (ev_def (k := .im) (ea_cons (ev_im rfl) (ea_cons (ev_ixT (ev_im rfl) (ev_im rfl) (j := k) (by omega) (get_map hck)) (ea_cons (ev_im rfl) ea_nil))) ⟨cc, ck, (a : Int), rfl, by omega, rfl, rfl⟩))) (by rw [isNon_oC, Bool.not_not])) (by decide)) fun _ a _ _ => Ev.le (Ev.to (ev_tup (ei_cons (ev_im rfl) (ei_cons (ev_im rfl) ea_nil))) (by show PyData.tuple [_, .int (0 + (k : Int))] = _; rw [Int.zero_add]; rfl)) (by decide)) (by rw [List.length_map, List.length_map]; omega)) (by rw [List.map_append, List.map_map]; rfl)) (by simp)) (ln rfl) ⟨(wl ++ (sl.filter fun (a : Nat) => (Mi.resv cc ck (a : Int)).isSome).map fun a => (a, k), _), _, ⟨by rw [List.length_append, List.length_map]; omega, fun p hp => ?_⟩, rfl⟩
        rcases List.mem_append.mp hp with hp | hp
        · exact hwp p hp
        · obtain ⟨a, ha, rfl⟩ := List.mem_map.mp hp
          obtain ⟨ha1, ha2⟩ := List.mem_filter.mp ha
          obtain ⟨e, he⟩ := Option.isSome_iff_exists.mp ha2
          exact ⟨hsp a ha1, ck, e, hck, he⟩
      · subst e
        refine Sg.le (sg_if (c1 := 0) (c2 := 1) (ET.le (ET.to (et_test (ev_neD (ev_own rfl) (ev_lst ea_nil) (pairs_shaped _) nil_flat)) (by rw [eqv_nil])) (by decide)) (fun e => ?_) fun e => Sg.le (sg_next ⟨cc, ss, _, _, _, _, hst, by omega, rfl⟩) (by decide)) (by decide)
        have hwne : wl ≠ [] := fun z => by rw [z] at e; exact absurd (show false = true from e) Bool.false_ne_true
        refine Sg.le (sg_seq (c1 := 1) (c2 := 0) (N1 := fun Γ' => ∃ p ∈ wl, Γ' = [.pen, .im (.tuple (cl.map encC)), .im (.int (n : Int)), .own (ls.map encL), .im (.tuple (cs.map encC)), .im (.int (0 + (i : Int))), .im (.int (fst : Int)), .im (encC cc), .own ((ss ++ [p]).map encP), .im (.int (0 + (i' : Int))), .own (wl.map encP), e11, e12, .un, .un]) (sg_app rfl (R := fun d => ∃ p ∈ wl, d = encP p) (Ev.imp (ev_callP rfl (ea_cons (ev_own rfl) ea_nil) ⟨wl.map encP, by simpa using hwne, by rw [List.length_map]; omega, rfl⟩) fun d h => ?_) (by rw [List.length_map]; omega) fun d ⟨p, hp, e⟩ => ⟨p, hp, by rw [e, List.map_append]; rfl⟩) fun Γ' ⟨p, hp, e⟩ => ?_) (by decide)
        · obtain ⟨xs, e1, hm⟩ := h
          cases e1
          obtain ⟨p, hp, rfl⟩ := List.mem_map.mp hm
          exact ⟨p, hp, rfl⟩
        subst e
        obtain ⟨hp0, bk, ek, hbk, hek⟩ := hwp p hp
        have hgb : Mi.Gd m bk := hgc bk (List.mem_of_getElem? hbk)
        have hlast : ((ss ++ [p]).map encP)[((ss ++ [p]).map encP).length - 1]? = some (encP p) := by
          rw [List.map_append, List.length_append, List.map_cons, List.map_nil, List.length_singleton, Nat.add_sub_cancel, List.getElem?_append_right (Nat.le_refl _), Nat.sub_self]
          rfl
        refine Sg.le (sg_set (d := encC ek) (Ev.to (ev_def (k := .im) (ea_cons (ev_im rfl) (ea_cons (ev_ixT (ev_im rfl) (ev_ixT (ev_lastL (ev_own rfl) (ev_neg ev_int) hlast) ev_int (j := 1) rfl rfl) (j := p.2) rfl (get_map hbk)) (ea_cons (ev_ixT (ev_lastL (ev_own rfl) (ev_neg ev_int) hlast) ev_int (j := 0) rfl rfl) ea_nil))) ⟨cc, bk, (p.1 : Int), rfl, by have := hgcc.2; have := hgb.2; omega, rfl, rfl⟩) (show _ = encC ek by rw [hek]; rfl)) (ln rfl) ⟨ek, ss ++ [p], _, _, _, _, Mi.steps_snoc hst hp0 hbk hek, by rw [List.length_append]; show ss.length + 1 ≤ i' + 1; omega, rfl⟩) (by decide)
    · subst e
      refine Sg.le (sg_if (c1 := 0) (c2 := 0) (ET.le (ET.to (et_test (ev_neD (ev_own rfl) (ev_lst ea_nil) (pairs_shaped _) nil_flat)) (by rw [eqv_nil])) (by decide)) (fun e => ?_) fun e => sg_next ⟨(ls, _, _, _, _, _, _, _, _), _, ⟨⟨cs, hcs⟩, h1, by show ls.length ≤ _; omega, h4⟩, rfl⟩) (by decide)
      have hsne : ss ≠ [] := fun z => by rw [z] at e; exact absurd (show false = true from e) Bool.false_ne_true
      refine Sg.le (s_app (d := encL (.chain fst ss)) rfl (ev_tup (ei_cons ev_str (ei_cons (ev_im rfl) (ei_cons (ev_tuple (ev_own rfl) (.inr rfl)) ea_nil)))) (by rw [List.length_map]; omega) ⟨(ls ++ [Line.chain fst ss], _, _, _, _, _, _, _, _), _, ⟨⟨_, Mi.allC_snoc hcs (c := cc) (by simp only [Mi.lineC, hc0]; rw [if_neg hsne]; exact hst)⟩, by rw [List.length_append]; show 1 ≤ ls.length + 1; omega, by rw [List.length_append]; show ls.length + 1 ≤ _; omega, fun l hl => ?_⟩, by rw [List.map_append]; rfl⟩) (by decide)
      rcases List.mem_append.mp hl with hl | hl
      · exact h4 l hl
      · rw [List.mem_singleton] at hl
        subst hl
        show (ss.map (·.2)).length + 1 ≤ 10
        rw [List.length_map]
        omega
  · subst e
    exact sg_retD (ev_tuple (ev_own rfl) (.inr rfl)) ⟨rfl, cl, n, ls, rfl, rfl, hd⟩
end
end W26

set_option Elab.async false
set_option linter.all false
set_option maxRecDepth 100000
set_option maxHeartbeats 2000000
namespace W26
open PySem PySem.Spec PyProof.Rows L2 Lg
open Mi (Line)
section
variable {P : Program} {w : World} {K : PySem.W.Frag} {mg : Str → Option Value} {base : Heap} {f : Addr} {fd : FuncData} {C fI : Addr}
/- _law_pen: slots _law_script 0, _law_fold 1, _law_cell 2; cells [] -/
abbrev s_law_pen : Stmt := topS 20
abbrev n_law_pen : List Str := ["_law_script", "_law_fold", "_law_cell"]
abbrev p_law_pen : List Str := ["_law_script"]
theorem sc_law_pen : FnScope n_law_pen p_law_pen (defScope s_law_pen) := ⟨rfl, rfl, rfl, by decide +kernel, rfl, by decide +kernel, by decide +kernel⟩
def budget : Nat := 100000
def SpPen (K : PySem.W.Frag) : Sp := fun vs H Q _ => ∃ (a : Addr) (ns : List Int), vs = [.ref a] ∧ SqL K H a (ns.map V.int) ∧ ns.length ≤ 63 ∧ ∀ p c H', Same H H' → H p = none → H c = none → PenOk H' p c budget → Q (.ref p) H'
theorem SqL.same {H H' : Hp} {a : Addr} {xs : List V} (h : SqL K H a xs) (e : Same H H') : SqL K H' a xs := by
  rcases h with (h | ⟨o, h⟩) | h
  · exact .inl (.inl (e _ _ h))
  · exact .inl (.inr ⟨o, e _ _ h⟩)
  · exact .inr h
theorem ok_law_pen (b : Bl mg) (F : Fun K "_law_pen" "_law_pen" s_law_pen f fd) : FnOk P w K mg base L2.CX0 1 f fd p_law_pen (SpPen K) := by
  refine F.ok sc_law_pen (fun vs H Q E ⟨a, ns, e, _⟩ => by rw [e]; rfl) fun cdv A outer s H vs Q E hr ⟨a, ns, ev, hs, hn, q⟩ => ?_
  subst ev
  refine ⟨_, (pss_cons (ps_set (i := 1) sc_law_pen.nd rfl (Or.inl rfl) pe_int)
(pss_cons (ps_for PassesOwn.never rfl (pi_list (pv 0)) (pg_name (i := 2) sc_law_pen.nd rfl (Or.inl rfl))
(pss_one (ps_set (i := 1) sc_law_pen.nd rfl (Or.inl rfl) (pe_op op_mod (pe_callTy call_int1 rfl b.int_ (by decide +kernel) (pa_cons (pe_op op_add (pe_op op_mul (pv 1) pe_int) (pv 2)) pa_nil)) pe_int))))
(pss_one (ps_ret (pe_disp (pps_cons pe_str (pe_callTy call_list_of rfl b.list_ (by decide +kernel) (pa_cons (pv 0) pa_nil)) (pps_cons pe_str pe_int (pps_cons pe_str pe_int (pps_cons pe_str pe_int (pps_cons pe_str (pv 1) pps_nil))))) rfl rfl (by simp) (by decide)))))), ?_⟩
  refine ⟨_, rfl, a, rfl, ⟨_, hs⟩, for_list (K := K) (a := a) (xs := ns.map V.int) (fun _ σ' H' => H' = H ∧ ∃ (f : Int) (x : Option V), 0 ≤ f ∧ f < 1000000007 ∧ σ' = [some (.ref a), some (.int f), x]) ⟨rfl, 0, none, by decide, by decide, rfl⟩ (fun i σ' H' _ h => by rw [h.1]; exact hs) ?_ ?_⟩
  · rintro i x σ' H' hx ⟨rfl, f, y, h1, h2, rfl⟩
    rw [List.getElem?_map] at hx
    obtain ⟨z, hz, rfl⟩ := Option.map_eq_some_iff.mp hx
    refine ⟨_, rfl, f, 47, rfl, rfl, .inr (by decide), _, rfl, f * 47, z, rfl, rfl, .inl ⟨f * 47 + z, rfl, f * 47 + z, 1000000007, rfl, rfl, (show (0 : Int) < 1000000007 by decide), rfl, (f * 47 + z) % 1000000007, some (.int z), ?_, ?_, rfl⟩⟩
    · exact Int.emod_nonneg _ (by decide)
    · exact Int.emod_lt_of_pos _ (by decide)
  · rintro σ' H' ⟨rfl, f, y, h1, h2, rfl⟩
    intro p hp
    have s1 : Same H' (upd H' p (.dK [])) := same_new hp
    refine ⟨_, rfl, a, _, rfl, .inl (SqL.same hs s1), fun c hc => ?_⟩
    have s2 : Same (upd H' p (.dK [])) (upd (upd H' p (.dK [])) c (.lst (ns.map V.int))) := same_new hc
    have hcp : p ≠ c := fun z => by
      rw [← z, upd_same] at hc
      cases hc
    have hc0 : H' c = none := by
      rw [upd_ne hcp.symm] at hc
      exact hc
    refine ⟨_, rfl, by rw [upd_ne hcp, upd_same], [(Sum.inr "cells", .ref c), (Sum.inr "at", .int 0), (Sum.inr "digits", .int 0), (Sum.inr "count", .int 0), (Sum.inr "fold", .int f)], rfl, Nat.le_of_ble_eq_true rfl, ?_⟩
    have hm : mergeK ([] : List (Key × V)) [(Sum.inr "cells", V.ref c), (Sum.inr "at", .int 0), (Sum.inr "digits", .int 0), (Sum.inr "count", .int 0), (Sum.inr "fold", .int f)] = putK (putK (putK (putK (putK ([] : List (Key × V)) (Sum.inr "cells") (V.ref c)) (Sum.inr "at") (.int 0)) (Sum.inr "digits") (.int 0)) (Sum.inr "count") (.int 0)) (Sum.inr "fold") (.int f) := rfl
    rw [hm]
    have hlen : (putK (putK (putK (putK (putK ([] : List (Key × V)) (Sum.inr "cells") (V.ref c)) (Sum.inr "at") (.int 0)) (Sum.inr "digits") (.int 0)) (Sum.inr "count") (.int 0)) (Sum.inr "fold") (.int f)).length ≤ 5 := by
      have := length_mergeK [(Sum.inr "cells", V.ref c), (Sum.inr "at", .int 0), (Sum.inr "digits", .int 0), (Sum.inr "count", .int 0), (Sum.inr "fold", .int f)] []
      rw [hm] at this
      exact this
    generalize hkv : putK (putK (putK (putK (putK ([] : List (Key × V)) (Sum.inr "cells") (V.ref c)) (Sum.inr "at") (.int 0)) (Sum.inr "digits") (.int 0)) (Sum.inr "count") (.int 0)) (Sum.inr "fold") (.int f) = kv at hlen
    have n1 : ("cells" : Str) ≠ "at" := by decide
    have n2 : ("cells" : Str) ≠ "digits" := by decide
    have n3 : ("cells" : Str) ≠ "count" := by decide
    have n4 : ("cells" : Str) ≠ "fold" := by decide
    have n5 : ("at" : Str) ≠ "digits" := by decide
    have n6 : ("at" : Str) ≠ "count" := by decide
    have n7 : ("at" : Str) ≠ "fold" := by decide
    have n8 : ("digits" : Str) ≠ "count" := by decide
    have n9 : ("digits" : Str) ≠ "fold" := by decide
    have n0 : ("count" : Str) ≠ "fold" := by decide
    refine q p c _ (fun d u e => ?_) hp hc0 ⟨ns, 0, 0, 0, f, kv, by rw [upd_ne hcp.symm, upd_same], hn, True.intro, upd_same, ?_, ?_, ?_, ?_, ?_, hlen, by decide, by decide, True.intro, by decide, by decide, h1, by omega⟩
    · have hdp : d ≠ p := fun z => by rw [z, hp] at e; cases e
      rw [upd_ne hdp]
      exact s2 _ _ (s1 _ _ e)
    · rw [← hkv, valV_put, if_neg (ne_str n4), valV_put, if_neg (ne_str n3), valV_put, if_neg (ne_str n2), valV_put, if_neg (ne_str n1), valV_put, if_pos rfl]
    · rw [← hkv, valV_put, if_neg (ne_str n7), valV_put, if_neg (ne_str n6), valV_put, if_neg (ne_str n5), valV_put, if_pos rfl]
    · rw [← hkv, valV_put, if_neg (ne_str n9), valV_put, if_neg (ne_str n8), valV_put, if_pos rfl]
    · rw [← hkv, valV_put, if_neg (ne_str n0), valV_put, if_pos rfl]
    · rw [← hkv, valV_put, if_pos rfl]
end
end W26

set_option Elab.async false
set_option linter.all false
set_option maxRecDepth 100000
set_option maxHeartbeats 2000000
namespace W26
open PySem PySem.Spec PyProof.Rows L2 Lg
open Mi (Line)
/- _law_fault: slots _law_call 0, _law_told 1, error 2; cells [] -/
abbrev s_law_fault : Stmt := topS 43
abbrev n_law_fault : List Str := ["_law_call", "_law_told", "error"]
abbrev p_law_fault : List Str := ["_law_call"]
theorem sc_law_fault : FnScope n_law_fault p_law_fault (defScope s_law_fault) := ⟨rfl, rfl, rfl, by decide +kernel, rfl, by decide +kernel, by decide +kernel⟩
/-- what _law_fault makes of a lambda that raises BadRow -/
def TTf (C : Addr) : (XK → Hp → VK → Prop) → Hp → VK → Prop := fun tl H Q => ∀ (p0 : Addr) (Qn : VK), H p0 = none →
  tl (fun cls d H' => cls = .ref C ∧ ∃ (dd : Addr) (v : V), d = some dd ∧ H' dd = some (.xd [(("row" : Str), v)]) ∧ ∀ p, H' p = none → Q (.ref p) (upd H' p (.tup [.str "row", v]))) (upd H p0 (.tup [.str "none"])) Qn
theorem fault_gives {X : Cx} {q : Str} {g C fI : Addr} {cdg : Value} (hT : PySem.BRX.Txt X.prog X.K X.mg C fI) : LamX.GivesTo X n_law_fault "_law_fault" (defScope s_law_fault) g cdg (defBody s_law_fault) "_law_call" q (TTf C) := by
  intro f c' s H Q tl act hc h
  have hex : PySem.W.exmOne X.K (.ref C) (.ref C) = some true := hT.te
  have XF : XfC X.K C := ⟨hT.ga, hT.gg, hT.exC, hT.hdC⟩
  refine ⟨_, (pss_cons (ps_set (i := 1) sc_law_fault.nd rfl (Or.inl rfl) (pe_tup (pa_cons pe_str pa_nil)))
    (pss_cons (ps_try_first (X := (cxOf C8.CX0 X.prog X.w X.K X.mg X.base n_law_fault "_law_fault" (defScope s_law_fault) g cdg X.A X.stack s H C8.E0).nox) (c := .ref C) (i := 2)
      (tb := fun W D σ H => ∃ Ech : XK, (∀ cls d σ' H', Ech cls d H' → W cls d σ' H') ∧ σ[0]? = some (some (.ref f)) ∧ H c' = some (LamX.CodeO c' q) ∧ tl Ech H fun _ H' => D.nx σ H')
      (ts := fun a cls d => tAsg (tTup (tCons (tC (.str "row")) (tCons (tXf a cls d C "row" (tVar 2)) tNil))) (gName 1))
      rfl rfl sc_law_fault.nd rfl rfl rfl (by decide) hT.gC (fun W pn xe tk => ?_) (fun a oe cls d pn hz hf => pss_one (ps_set (i := 1) sc_law_fault.nd rfl (Or.inl rfl) (pe_tup (pa_cons pe_str (pa_cons (pe_xf XF hT.noN hz hf (pv 2)) pa_nil))))))
      (pss_one (ps_ret (pv 1))))), ?_⟩
  · refine ⟨fun pins s' σ H' D I h' => ?_⟩
    obtain ⟨Ech, hW, h1, h2, h3⟩ := h'
    exact (pss_one (ps_expr (act W pn xe Ech _ _ tk hW))).run pins s' σ H' D I ⟨h1, h2, h3⟩
  · refine ⟨by show 1 ≤ sizeLine; decide, fun p0 hp0 => ?_⟩
    have hne : c' ≠ p0 := fun z => by rw [z, hp0] at hc; cases hc
    refine ⟨fun cls d H' => cls = .ref C ∧ ∃ (dd : Addr) (v : V), d = some dd ∧ H' dd = some (.xd [(("row" : Str), v)]) ∧ ∀ p, H' p = none → Q (.ref p) (upd H' p (.tup [.str "row", v])), fun cls d σ' H' ⟨e1, dd, v, e2, e3, e4⟩ => ⟨by rw [e1]; exact hex, fun a ha hlen => ?_⟩, rfl, by rw [upd_ne hne]; exact hc, ?_⟩
    · obtain ⟨x0, x1, x2, rfl⟩ : ∃ x0 x1 x2, σ' = [x0, x1, x2] := by
        match σ', hlen with
        | [x0, x1, x2], _ => exact ⟨x0, x1, x2, rfl⟩
      refine ⟨_, rfl, rfl, e1, dd, [(("row" : Str), v)], v, e2, e3, by simp [List.lookup], by show 2 ≤ sizeLine; decide, fun p hp => ?_⟩
      exact ⟨_, rfl, e4 p hp⟩
    · exact h p0 _ hp0
end W26

set_option Elab.async false
set_option linter.all false
set_option maxRecDepth 100000
set_option maxHeartbeats 4000000
namespace W26
open PySem PySem.Spec PyProof.Rows L2 Lg
open Mi (Line)
def qLam : Str := ("law" : Str) ++ ".<locals>." ++ "<lambda>"
def tq (Pt : Addr) : List (Addr × Str) := [(Pt, qLam)]
/-- a block of the law: it ends in True -/
def SgL (K : PySem.W.Frag) (m : Md) (T : List (Addr × Str)) (t : TS) (Γ : List En) (c : Nat) : Prop := ∀ H0 P H σ B (D : Ends), Ok K m H0 P H σ Γ (B + c) → LamX.Tabs T H0 → (∀ H', D.rt (.bl true) H') → t D σ H
section
variable {K : PySem.W.Frag} {m : Md} {T : List (Addr × Str)} {k k1 k2 : Kd} {te ta tb : TE} {tt tu : TT} {t u w : TS} {Γ : List En} {c c1 c2 c3 : Nat} {N Bk Ct : Po} {Rt : Kd → PyData → List En → Prop}
theorem SgL.le (h : SgL K m T t Γ c) (l : c ≤ c1) : SgL K m T t Γ c1 := fun H0 P H σ B D o => h H0 P H σ B D (o.le (by omega))
theorem sgl_seq (h1 : Sg K m t Γ c1 N no no (fun _ _ _ => False)) (h2 : ∀ Γ', N Γ' → SgL K m T u Γ' c2) : SgL K m T (tSeq t u) Γ (c1 + c2) := fun H0 P H σ B D o hT hq =>
  h1 H0 P H σ (B + c2) { D with nx := u D } (o.le (by omega)) (fun σ' H' Γ' a o' => h2 Γ' a H0 P H' σ' B D o' hT hq) (fun _ _ _ z _ => z.elim) (fun _ _ _ z _ => z.elim) fun _ _ _ _ _ _ z => z.elim
theorem sgl_not (h : ET K m tt Γ c1 (Is false)) (h2 : SgL K m T w Γ c2) : SgL K m T (tSeq (tIfS tt t tNext) w) Γ (c1 + c2) := fun H0 P H σ B D o hT hq =>
  h H0 P H σ (B + c2) (o.le (by omega)) _ fun b H1 o1 g r => by
    subst r
    exact h2 H0 P H1 σ B D o1 hT hq
theorem et_orA {a : Bool} {R2 : Bool → Prop} (h1 : ET K m tt Γ c1 (Is a)) (h2 : ET K m tu Γ c2 R2) : ET K m (tOr tt tu) Γ (c1 + c2) (fun b => b = true ∨ a = false) := fun H0 P H σ B o Q q => by
  refine h1 H0 P H σ (B + c2) (o.le (by omega)) _ fun a' H1 o1 g1 r1 => ?_
  subst r1
  cases a' with
  | false =>
    show tu σ H1 Q
    exact h2 H0 P H1 σ B o1 Q fun b' H2 o2 g2 r2 => q _ H2 o2 (g1.trans g2) (.inr rfl)
  | true =>
    show Q true H1
    exact q _ H1 (o1.le (by omega)) g1 (.inl rfl)
/-- a, b, c = e, f, g -/
theorem sg_par3 {i j l : Nat} {d e f : PyData} {tc : TE} (h1 : Ev K m .im ta Γ c1 (Is d)) (h2 : Ev K m .im tb Γ c2 (Is e)) (h3 : Ev K m .im tc Γ c3 (Is f)) (hi : i < Γ.length) (hj : j < Γ.length) (hl : l < Γ.length) (h : N (((Γ.set i (.im d)).set j (.im e)).set l (.im f))) :
    Sg K m (tPar3 i j l (tCons ta (tCons tb (tCons tc tNil)))) Γ (c1 + (c2 + c3)) N Bk Ct Rt := fun H0 P H σ B D o q1 _ _ _ => by
  refine h1 H0 P H σ (B + (c2 + c3)) (o.le (by omega)) _ fun x H1 d1 o1 g1 r1 e1 => ?_
  subst r1
  refine h2 H0 P H1 σ (B + c3) (o1.le (by omega)) _ fun y H2 d2 o2 g2 r2 e2 => ?_
  subst r2
  refine h3 H0 P H2 σ B o2 _ fun z H3 d3 o3 g3 r3 e3 => ?_
  subst r3
  exact ⟨x, y, z, rfl, q1 _ _ _ h ((put2 o3 hi hj (Im.mono e1 (g2.trans g3)) (Im.mono e2 g3)).putIm (by rw [List.length_set, List.length_set]; exact hl) e3)⟩
end
mutual
theorem eqv_refl : ∀ (n : Nat) (d : PyData), Flat n d → PyData.eqv d d = true
  | 0, d, h => by
    cases d <;> first | rfl | exact absurd (show false = true from h) Bool.false_ne_true | simp [PyData.eqv]
  | n + 1, d, h => by
    rcases h with h | ⟨ds, rfl, _, h⟩
    · cases d <;> first | rfl | exact absurd (show false = true from h) Bool.false_ne_true | simp [PyData.eqv]
    · simp only [PyData.eqv]
      exact eqvAll_refl n ds h
theorem eqvAll_refl : ∀ (n : Nat) (ds : List PyData), (∀ x ∈ ds, Flat n x) → PyData.eqvAll ds ds = true
  | n, [], _ => by simp [PyData.eqvAll]
  | n, d :: ds, h => by
    simp only [PyData.eqvAll]
    rw [eqv_refl n d (h d List.mem_cons_self), eqvAll_refl n ds fun x hx => h x (List.mem_cons_of_mem _ hx)]
    rfl
end
theorem flat_ints (l : List Int) (h : l.length ≤ 100000) : Flat 1 (.tuple (l.map .int)) := .inr ⟨_, rfl, by rw [List.length_map]; exact h, fun x hx => by
  obtain ⟨_, _, rfl⟩ := List.mem_map.mp hx
  rfl⟩
theorem flat_lines {ls : List Line} (h : ls.length ≤ 50000) (ha : ∀ l ∈ ls, (Mi.asked l).length ≤ 10) : Flat 4 (.tuple (ls.map encL)) := .inr ⟨_, rfl, by rw [List.length_map]; omega, fun x hx => by
  obtain ⟨l, hl, rfl⟩ := List.mem_map.mp hx
  exact flat_line (by have := ha l hl; omega)⟩
end W26

set_option Elab.async false
set_option linter.all false
set_option maxRecDepth 100000
set_option maxHeartbeats 8000000
namespace W26
open PySem PySem.Spec PyProof.Rows L2 Lg
open Mi (Line)
/-! the odd documents -/
theorem tabs_gx {m : Md} {T : List (Addr × Str)} {H H' : Hp} (t : LamX.Tabs T H) (g : Gx m H H') : LamX.Tabs T H' := fun p hp => by
  obtain ⟨ps, h1, h2, h3⟩ := t p hp
  refine ⟨ps, g _ _ h1 fun z => absurd (show false = true from z) Bool.false_ne_true, h2, fun pos cv hc => ?_⟩
  obtain ⟨c, e1, e2⟩ := h3 pos cv hc
  exact ⟨c, e1, g _ _ e2 fun z => absurd (show false = true from z) Bool.false_ne_true⟩
theorem lam_ok {K : PySem.W.Frag} {C : Addr} {T : List (Addr × Str)} {fX : List PyData → Kd → PyData → Prop} {σ : L2.St} {H : Hp} {v3 v12 : V} {row odd : PyData} (hT : LamX.Tabs T H) (s3 : σ[3]? = some (some v3)) (s12 : σ[12]? = some (some v12)) (i3 : Im K H v3 row) (i12 : Im K H v12 odd)
    (hg : gSome [row, odd] odd) (Q : VK) (q : ∀ p H' v, TKeep H H' → LamX.Tabs T H' → H' p = some (.tup [.str "row", v]) → Im K H' v odd → Q (.ref p) H') :
    LamX.tLam T (TTf C) (fun E => tCall (SpR K C fX gSome) [] E (tCons (tVar 3) (tCons (tVar 12) tNil))) σ H Q := by
  refine ⟨hT, fun H1 eN T1 => fun p0 Qn hp0 => ?_⟩
  have k1 : TKeep H H1 := fun a o h z => eN a o h fun ps e => by rcases z with ⟨_, rfl⟩ | ⟨_, _, rfl⟩ <;> cases e
  have s1 : Same H1 (upd H1 p0 (.tup [.str "none"])) := same_new hp0
  have k2 : TKeep H (upd H1 p0 (.tup [.str "none"])) := k1.trans fun a o h _ => s1 a o h
  refine ⟨v3, s3, v12, s12, ?_⟩
  refine (show SpR K C fX gSome [v3, v12] (upd H1 p0 (.tup [.str "none"])) Qn (fun cls d H' => cls = .ref C ∧ ∃ (dd : Addr) (v : V), d = some dd ∧ H' dd = some (.xd [(("row" : Str), v)]) ∧ ∀ p, H' p = none → Q (.ref p) (upd H' p (.tup [.str "row", v]))) from ?_)
  refine ⟨[row, odd], .cons (.inl (Im.keep k2 _ _ i3)) (.cons (.inl (Im.keep k2 _ _ i12)) .nil), .inr ⟨odd, hg, fun dd v H' sm hdd im => ⟨rfl, dd, v, rfl, hdd, fun p hp => ?_⟩⟩⟩
  have s2 : Same H' (upd H' p (.tup [.str "row", v])) := same_new hp
  exact q p _ v ((k2.trans fun a o h _ => sm a o h).trans fun a o h _ => s2 a o h) (((T1.ext s1).ext sm).ext s2) upd_same (Im.keep (fun a o h _ => s2 a o h) _ _ im)
theorem sgl_odd {K : PySem.W.Frag} {C : Addr} {m : Md} {T : List (Addr × Str)} {f1 f2 : List PyData → Kd → PyData → Prop} {Γ : List En} {row odd : PyData} (h3 : Γ[3]? = some (.im row)) (h12 : Γ[12]? = some (.im odd)) (hg : gSome [row, odd] odd) (hf : Flat 4 odd) (hn : SeqAt.shaped (.tuple [.str "row", odd]) = true) :
    SgL K m T (tSeq (tIfS (tTest (tOp (rNeD K) (LamX.tLam T (TTf C) (fun E => tCall (SpR K C f1 gSome) [] E (tCons (tVar 3) (tCons (tVar 12) tNil)))) (tTup (tCons (tC (.str "row")) (tCons (tVar 12) tNil))))) (tRet (tC (.bl false))) tNext)
      (tRet (tOp (rEqD K) (LamX.tLam T (TTf C) (fun E => tCall (SpR K C f2 gSome) [] E (tCons (tVar 3) (tCons (tVar 12) tNil)))) (tTup (tCons (tC (.str "row")) (tCons (tVar 12) tNil)))))) Γ 0 := fun H0 P H σ B D o hT hq => by
  obtain ⟨v3, s3, i3⟩ := o.sl 3 _ h3
  obtain ⟨v12, s12, i12⟩ := o.sl 12 _ h12
  have he : PyData.eqv (.tuple [.str "row", odd]) (.tuple [.str "row", odd]) = true := eqv_refl 5 _ (.inr ⟨_, rfl, by show 2 ≤ 100000; decide, fun x hx => by
    rcases List.mem_cons.mp hx with rfl | hx
    · exact .inl (show isS (.str "row") = true from by decide +kernel)
    · rw [List.mem_singleton.mp hx]; exact hf⟩)
  have dp : ∀ {H' : Hp} {p : Addr} {v : V}, H' p = some (.tup [.str "row", v]) → Im K H' v odd → Dp K H' (.ref p) (.tuple [.str "row", odd]) := fun h1 h2 => Im.dp _ _ (.tup (.inl (.inl h1)) (.cons (.str _) (.cons h2 .nil)))
  refine lam_ok (tabs_gx hT o.fr) s3 s12 i3 i12 hg _ fun p H1 v k1 T1 hp iv => ?_
  refine ⟨v12, s12, by show 2 ≤ sizeLine; decide, fun p2 hp2 => ?_⟩
  have s1 : Same H1 (upd H1 p2 (.tup [.str "row", v12])) := same_new hp2
  have t1 : TKeep H1 (upd H1 p2 (.tup [.str "row", v12])) := fun a o h _ => s1 a o h
  refine ⟨_, _, dp (s1 _ _ hp) (Im.keep t1 _ _ iv), dp upd_same (Im.keep (k1.trans t1) _ _ i12), hn, hn, _, rfl, ?_⟩
  rw [he]
  refine iteF rfl ?_
  refine (show tRet (tOp (rEqD K) (LamX.tLam T (TTf C) (fun E => tCall (SpR K C f2 gSome) [] E (tCons (tVar 3) (tCons (tVar 12) tNil)))) (tTup (tCons (tC (.str "row")) (tCons (tVar 12) tNil)))) D σ (upd H1 p2 (.tup [.str "row", v12])) from ?_)
  refine lam_ok (T1.ext s1) s3 s12 (Im.keep (k1.trans t1) _ _ i3) (Im.keep (k1.trans t1) _ _ i12) hg _ fun p H2 v k2 T2 hp iv => ?_
  refine ⟨v12, s12, by show 2 ≤ sizeLine; decide, fun p3 hp3 => ?_⟩
  have s2 : Same H2 (upd H2 p3 (.tup [.str "row", v12])) := same_new hp3
  have t2 : TKeep H2 (upd H2 p3 (.tup [.str "row", v12])) := fun a o h _ => s2 a o h
  refine ⟨_, _, dp (s2 _ _ hp) (Im.keep t2 _ _ iv), dp upd_same (Im.keep (((k1.trans t1).trans k2).trans t2) _ _ i12), hn, hn, ?_⟩
  rw [he]
  exact hq _
theorem ok_startL {K : PySem.W.Frag} {H : Hp} {p c : Addr} {a : Addr} {n B : Nat} (hk : PenOk H p c B) : Ok K (some (p, c)) H (H, []) H (some (.ref a) :: some (.ref p) :: List.replicate n none) (.un :: .pen :: List.replicate n .un) B := by
  have hat := hk.at
  have key : ∀ i e, (En.un :: En.pen :: List.replicate n En.un)[i]? = some e → OwnE e = false ∧ SlOk K (some (p, c)) H H (some (.ref a) :: some (.ref p) :: List.replicate n none) i e := fun i e he => by
    match i, he with
    | 0, he => cases he; exact ⟨rfl, True.intro⟩
    | 1, he => cases he; exact ⟨rfl, p, c, rfl, rfl⟩
    | i + 2, he =>
      have he : (List.replicate n En.un)[i]? = some e := he
      rw [List.getElem?_replicate] at he
      split at he
      · cases he; exact ⟨rfl, True.intro⟩
      · cases he
  refine ⟨by simp, Gx.refl _ _, fun p' c' e => by cases e; exact ⟨hat.2, hat.1, hk⟩, fun i e he => (key i e he).2, fun i j a ⟨⟨e, h1, h2⟩, _⟩ _ => ?_, fun _ z => by simp at z, fun _ _ z _ => z⟩
  have z := (key i e h1).1
  rw [h2] at z
  cases z
section
variable {K : PySem.W.Frag} {m : Md} {T : List (Addr × Str)} {te : TE} {tt : TT} {t u w : TS} {Γ : List En} {c c1 : Nat} {R : PyData → Prop}
theorem sgl_asg {i : Nat} (c2 : Nat) (he : Ev K m .im te Γ c1 R) (hi : i < Γ.length) (h : ∀ d, R d → SgL K m T u (Γ.set i (.im d)) c2) (hc : c1 + c2 ≤ c := by decide) : SgL K m T (tSeq (tAsg te (gName i)) u) Γ c :=
  SgL.le (sgl_seq (N := fun Γ' => ∃ d, R d ∧ Γ' = Γ.set i (.im d)) (sg_asg he hi fun d r => ⟨d, r, rfl⟩) fun Γ' ⟨d, r, e⟩ => by subst e; exact h d r) hc
theorem sgl_set {i : Nat} {d : PyData} (c2 : Nat) (he : Ev K m .im te Γ c1 (Is d)) (hi : i < Γ.length) (h : SgL K m T u (Γ.set i (.im d)) c2) (hc : c1 + c2 ≤ c := by decide) : SgL K m T (tSeq (tAsg te (gName i)) u) Γ c :=
  sgl_asg c2 he hi (fun _ e => by cases e; exact h) hc
theorem sgl_setN {i : Nat} {ds : List PyData} (c2 : Nat) (he : Ev K m .nw te Γ c1 (Is (.list ds))) (hi : i < Γ.length) (h : SgL K m T u (Γ.set i (.own ds)) c2) (hc : c1 + c2 ≤ c := by decide) : SgL K m T (tSeq (tAsg te (gName i)) u) Γ c :=
  SgL.le (sgl_seq (N := fun Γ' => Γ' = Γ.set i (.own ds)) (sg_setN he hi rfl) fun Γ' e => by subst e; exact h) hc
end
theorem ins_len (n : Int) : ∀ l : List Int, (Mi.ins n l).length ≤ l.length + 1
  | [] => Nat.le_refl _
  | x :: xs => by
    have := ins_len n xs
    unfold Mi.ins
    split
    · simp
    · split
      · simp
      · rw [List.length_cons, List.length_cons]; omega
theorem sst_len : ∀ l : List Int, (Mi.sst l).length ≤ l.length
  | [] => Nat.le_refl _
  | n :: ns => by
    have h1 := sst_len ns
    have h2 := ins_len n (Mi.sst ns)
    show (Mi.ins n (Mi.sst ns)).length ≤ ns.length + 1
    omega
theorem sh_bool (b : Bool) : SeqAt.shaped (.bool b) = true := by cases b <;> decide +kernel
theorem encC_inj {a b : List Int} (h : encC a = encC b) : a = b := by
  injection h with h
  exact (List.map_inj_right fun x y e => by injection e).mp h
theorem mapC_inj {a b : List (List Int)} (h : a.map encC = b.map encC) : a = b := (List.map_inj_right fun x y e => encC_inj e).mp h
structure Good9 (cl : List (List Int)) (ls : List Line) : Prop where
  all : ∃ cs, Mi.allC cl ls = some cs
  l1 : 1 ≤ ls.length
  l2 : ls.length ≤ 90
  gv : Mi.gvs ls ≤ 35
  as : ∀ l ∈ ls, (Mi.asked l).length ≤ 10
theorem Good9.good {cl : List (List Int)} {ls : List Line} (g : Good9 cl ls) : Mi.Good cl ls := ⟨g.all, g.l1, by have := g.l2; omega, by have := g.gv; omega, g.as⟩
theorem good_ref {m : Nat} {cl : List (List Int)} {ws : List Line} {c : List Int} (r : Mi.Ref m cl [] [] 5 ws c) : Good9 cl ws := by
  obtain ⟨cs, h⟩ := r.all
  have h : Mi.allC cl ws = some (cs ++ [c]) := h
  have hl := Mi.allC_len h
  rw [List.length_append] at hl
  have h2 := r.len
  have h3 := r.gv
  exact ⟨⟨_, h⟩, by simp at hl; omega, by omega, by omega, fun l hl => by have := (r.ok l hl).2; omega⟩
theorem good_dls {cl : List (List Int)} {ls : List Line} (h : Dls cl ls) : Good9 cl ls := ⟨h.all, h.l1, by have := h.l2; omega, by
  have := h.l2
  have : Mi.gvs ls ≤ ls.length := List.length_filter_le _ _
  omega, h.as⟩
theorem good_moved {cl : List (List Int)} {ls : List Line} {j : Nat} (g : Good9 cl ls) (hj : j < cl.length) : Mi.Good cl (.given j :: ls.map Mi.shiftL) := by
  obtain ⟨cs, h⟩ := g.all
  refine ⟨⟨_, Mi.allC_moved h (List.getElem?_eq_getElem hj)⟩, by simp, by have := g.l2; simp; omega, ?_, fun l hl => ?_⟩
  · have e : Mi.gvs (.given j :: ls.map Mi.shiftL) = Mi.gvs ([.given j] ++ ls.map Mi.shiftL) := rfl
    rw [e, Mi.gvs_app, Mi.gvs_shift]
    have := g.gv
    show 1 + _ ≤ 40
    omega
  · rcases List.mem_cons.mp hl with rfl | hl
    · exact Nat.zero_le _
    · obtain ⟨l', hl', rfl⟩ := List.mem_map.mp hl
      rw [Mi.asked_shift]
      exact g.as l' hl'
theorem sgl_pen {K : PySem.W.Frag} {Pt : Addr} {u : TS} {H : Hp} {Q : VK} {n : Nat} {a : Addr} {ns : List Int} (hs : SqL K H a (ns.map V.int)) (hn : ns.length ≤ 63) (hPt : H Pt = some (.tbl #[])) (q : ∀ H', Q (.bl true) H')
    (S : ∀ p c, SgL K (some (p, c)) (tq Pt) u (.un :: .pen :: List.replicate n .un) 5000) :
    tSeq (tAsg (tCall (SpPen K) [] L2.E0 (tCons (tVar 0) tNil)) (gName 1)) u { nx := fun _ H' => Q .non H', rt := Q } (some (.ref a) :: none :: List.replicate n none) H := by
  refine ⟨_, rfl, a, ns, rfl, hs, hn, fun p c' H1 s1 hp hc pk => ?_⟩
  have hTT : LamX.Tabs (tq Pt) H1 := fun p hp => by
    rw [List.mem_singleton.mp hp]
    exact .nil (s1 _ _ hPt)
  exact S p c' H1 (H1, []) H1 _ 0 { nx := fun _ H' => Q .non H', rt := Q } ((ok_startL (a := a) pk).le (by decide)) hTT fun H' => q H'
section
variable {P : Program} {w : World} {K : PySem.W.Frag} {mg : Str → Option Value} {base : Heap} {f : Addr} {fd : FuncData} {C fI : Addr}
/- law: slots _law_script 0, _law_pen_here 1, _law_many 2, _law_row 3, _law_lines 4, _law_extra 5, _law_moved 6, _law_line 7, _law_roots_here 8, _law_told 9, _law_last 10, _law_some 11, _law_odd 12, _law_n 13, _law_number 14, _law_v 15, _law_k 16; cells ['_law_odd', '_law_row'] -/
abbrev s_law : Stmt := topS 44
abbrev n_law : List Str := ["_law_script", "_law_pen_here", "_law_many", "_law_row", "_law_lines", "_law_extra", "_law_moved", "_law_line", "_law_roots_here", "_law_told", "_law_last", "_law_some", "_law_odd", "_law_n", "_law_number", "_law_v", "_law_k"]
abbrev p_law : List Str := ["_law_script"]
theorem sc_law : FnScope n_law p_law (defScope s_law) := ⟨rfl, rfl, rfl, by decide +kernel, rfl, by decide +kernel, by decide +kernel⟩
def SpLaw (K : PySem.W.Frag) (Pt : Addr) : Sp := fun vs H Q _ => ∃ (a : Addr) (ns : List Int), vs = [.ref a] ∧ SqL K H a (ns.map V.int) ∧ ns.length ≤ 63 ∧ H Pt = some (.tbl #[]) ∧ ∀ H', Q (.bl true) H'
theorem ok_law {c Pt g : Addr} {dV kV doc pm ct oc : Value} {an od : Option Addr} {osl : Array (Option Value)} {dV2 kV2 doc2 pm2 cdv2 ct2 oc2 : Value} {an2 od2 : Option Addr} {osl2 : Array (Option Value)}
    (b : Bl mg) (hT : PySem.BRX.Txt P K mg C fI) (TB : LamX.TabB base mg c Pt)
    (lk : K.lookup f = some ⟨oc, od, .func (PySem.W.fnOf "law" "law" (defArgs s_law) (defBody s_law) (defScope s_law) dV kV doc pm an (.ref c) ct), osl⟩) (hcd : PySem.W.codeIn K (.ref c) "law" = true)
    (hmf : mg "_law_fault" = some (.ref g)) (hkf : PySem.W.keepIn K (.ref g) = true)
    (lkf : K.lookup g = some ⟨oc2, od2, .func (PySem.W.fnOf "_law_fault" "_law_fault" (defArgs s_law_fault) (defBody s_law_fault) (defScope s_law_fault) dV2 kV2 doc2 pm2 an2 cdv2 ct2), osl2⟩) (hcf : PySem.W.codeIn K cdv2 "_law_fault" = true)
    (hbf : L2.Binds K (PySem.W.fnOf "_law_fault" "_law_fault" (defArgs s_law_fault) (defBody s_law_fault) (defScope s_law_fault) dV2 kV2 doc2 pm2 an2 cdv2 ct2) ["_law_call"] [])
    {ar : Addr} (har : ∀ H, SqT K H ar [])
    (c_law_pen : Cal P w K mg base 1 "_law_pen" p_law_pen (SpPen K)) (c_law_draw : Cal P w K mg base 1 "_law_draw" p_law_draw (SpDraw K)) (c_law_pick : Cal P w K mg base 2 "_law_pick" p_law_pick (SpPick K))
    (c_law_drawn_row : Cal P w K mg base 4 "_law_drawn_row" p_law_drawn_row (SpDr K)) (c_law_paper : Cal P w K mg base 74 "_law_paper" p_law_paper (SpQ K preP postP)) (c_law_drawn_lines : Cal P w K mg base 69 "_law_drawn_lines" p_law_drawn_lines (SpDl K))
    (c_roots_of : CalR P w K mg base 71 "roots_of" p_roots_of (SpR K C fRoots gSome)) (c_drawn : CalR P w K mg base 71 "drawn" p_drawn (SpR K C fDrawn gSome)) (c_line_clauses : CalR P w K mg base 69 "line_clauses" p_line_clauses (SpR K C fLcs gLcs))
    (c_law_line_clauses : Cal P w K mg base 68 "_law_line_clauses" p_law_line_clauses (SpF K fLlc)) (c_law_roots : Cal P w K mg base 3 "_law_roots" p_law_roots (SpF K fLr)) (c_law_drawn_of : Cal P w K mg base 67 "_law_drawn_of" p_law_drawn_of (SpF K fDof))
    (c_law_models : Cal P w K mg base 66 "_law_models" p_law_models (SpF K fMod)) (c_is_refutation : CalD P w K mg base 69 "is_refutation" p_is_refutation (SpF K fRef) ar) :
    FnOk P w K mg base L2.CX0 81 f (PySem.W.fnOf "law" "law" (defArgs s_law) (defBody s_law) (defScope s_law) dV kV doc pm an (.ref c) ct) p_law (SpLaw K Pt) := by
  refine fn_of (N := n_law) lk hcd sc_law (fun vs H Q E ⟨a, ns, e, _⟩ => by rw [e]; rfl) fun A outer s H vs Q E hr ⟨a, ns, ev, hs, hn, hPt, q⟩ => ?_
  subst ev
  have hu64 := hr.units
  have hr73 := hr.mono (show 73 ≤ 80 by decide)
  have hx := @passL ((cxOf L2.CX0 P w K mg base n_law "law" (defScope s_law) f (.ref c) A outer s H E).nox)
  suffices hh : ∃ t, PSs (cxOf L2.CX0 P w K mg base n_law "law" (defScope s_law) f (.ref c) A outer s H E).nox (defBody s_law) t ∧ t { nx := fun _ H' => Q .non H', rt := Q } (L2.start n_law [.ref a]) H from by
    obtain ⟨t, h1, h2⟩ := hh
    exact ⟨t, h1.nox, h2⟩
  refine ⟨_, (pss_cons (ps_set (i := 1) sc_law.nd rfl (Or.inl rfl) (pe_def c_law_pen hr (pa_cons (pv 0) pa_nil)))
(pss_cons (ps_set (i := 2) sc_law.nd rfl (Or.inl rfl) (pe_op op_add pe_int (pe_def c_law_draw hr (pa_cons (pv 1) (pa_cons pe_int pa_nil)))))
(pss_cons (ps_set (i := 3) sc_law.nd rfl (Or.inr rfl) (pe_def c_law_drawn_row hr (pa_cons (pv 1) (pa_cons (pv 2) (pa_cons (pe_op op_add pe_int (pe_def c_law_draw hr (pa_cons (pv 1) (pa_cons pe_int pa_nil)))) pa_nil)))))
(pss_cons (ps_set (i := 4) sc_law.nd rfl (Or.inl rfl) (pe_def c_law_paper hr (pa_cons (pv 2) (pa_cons (pv 3) (pa_cons (pe_tup pa_nil) pa_nil)))))
(pss_cons (ps_if (PW.pt (pw_or (pt_cmpR op_isN (pv 4) pe_non (nomark _)) (pw_or1 (pt_cmpR op_eq (pe_def c_law_draw hr (pa_cons (pv 1) (pa_cons pe_int pa_nil))) pe_int (nomark _)))))
(pss_one (ps_set (i := 4) sc_law.nd rfl (Or.inl rfl) (pe_def c_law_drawn_lines hr (pa_cons (pv 1) (pa_cons (pv 3) (pa_cons (pe_op op_add pe_int (pe_def c_law_draw hr (pa_cons (pv 1) (pa_cons pe_int pa_nil)))) pa_nil))))))
pss_nil)
(pss_cons (ps_set (i := 5) sc_law.nd rfl (Or.inl rfl) (pe_tup (pa_cons pe_str (pa_cons (pe_def c_law_draw hr (pa_cons (pv 1) (pa_cons (pe_callB call_len_seq rfl b.len_ (by decide +kernel) (pa_cons (pv 3) pa_nil)) pa_nil))) pa_nil))))
(pss_cons (ps_set (i := 6) sc_law.nd rfl (Or.inl rfl) (pe_lst (pa_cons (pv 5) pa_nil)))
(pss_cons (ps_for PassesOwn.never rfl (pi_tup (pv 4)) (pg_name (i := 7) sc_law.nd rfl (Or.inl rfl))
(pss_cons (ps_if (pt_cmpR op_eq (pe_ix (ix_tupK K rfl) (pv 7) pe_int (fun _ _ => rfl)) pe_str (nomark _))
(pss_one (ps_set (i := 7) sc_law.nd rfl (Or.inl rfl) (pe_tup (pa_cons pe_str (pa_cons (pe_op op_add (pe_ix (ix_tupK K rfl) (pv 7) pe_int (fun _ _ => rfl)) pe_int) (pa_cons (pe_callTy call_tuple_of rfl b.tuple_ (by decide +kernel) (pa_cons (pe_lc (own := [("_law_v", 15), ("_law_k", 16)]) (g := (gTup _ 2 (gCons (gName 15) (gCons (gName 16) gNil)))) (tt := tYes) rfl sc_law.nd (pi_tup (pe_ix (ix_tupK K rfl) (pv 7) pe_int (fun _ _ => rfl))) (blkOk_by (own := [("_law_v", 15), ("_law_k", 16)]) (N := n_law) (sc := defScope s_law) (by decide +kernel)) (fun _ _ _ _ _ => (pg_tup rfl (pgs_cons (pg_name (i := 15) sc_law.nd rfl (Or.inl rfl)) (pgs_cons (pg_name (i := 16) sc_law.nd rfl (Or.inl rfl)) pgs_nil)))) (fun _ _ _ _ _ => pts_nil) (fun _ _ _ _ _ => (pe_tup (pa_cons (pv 15) (pa_cons (pe_op op_add (pv 16) pe_int) pa_nil))))) pa_nil)) pa_nil))))))
pss_nil)
(pss_one (ps_expr (pe_bm PySem.F.plainAttrs_list PySem.F.slot_list_append PySem.F.type_list_append mt_append (pv 6) (pa_cons (pv 7) pa_nil))))))
(pss_cons (ps_set (i := 4) sc_law.nd rfl (Or.inl rfl) (pe_def c_law_pick hr (pa_cons (pv 1) (pa_cons (pe_lst (pa_cons (pv 4) (pa_cons (pe_callTy call_tuple_of rfl b.tuple_ (by decide +kernel) (pa_cons (pv 6) pa_nil)) pa_nil))) pa_nil))))
(pss_cons (ps_par3 rfl sc_law.nd (i := 8) (j := 9) (l := 10) rfl rfl rfl (by decide) (by decide) (by decide) rfl rfl rfl (pa_cons (pe_defR c_roots_of hr hx (pa_cons (pv 3) (pa_cons (pv 4) pa_nil))) (pa_cons (pe_defR c_drawn hr hx (pa_cons (pv 3) (pa_cons (pv 4) pa_nil))) (pa_cons (pe_ix (ix_tupK K rfl) (pe_def c_law_line_clauses hr (pa_cons (pv 3) (pa_cons (pv 4) pa_nil))) (pe_un un_neg pe_int) (fun _ _ => rfl)) pa_nil))) rfl)
(pss_cons (ps_if (PW.pt (pw_or (pt_cmpR (op_neD hu64) (pv 8) (pe_def c_law_roots hr (pa_cons (pv 4) pa_nil)) (nomark _)) (pw_or (pt_cmpR (op_neD hu64) (pv 9) (pe_def c_law_drawn_of hr (pa_cons (pv 4) pa_nil)) (nomark _)) (pw_or1 (pt_cmpR (op_neD hu64) (pe_ix (ix_tupK K rfl) (pe_defR c_line_clauses hr hx (pa_cons (pv 3) (pa_cons (pv 9) pa_nil))) (pe_un un_neg pe_int) (fun _ _ => rfl)) (pv 10) (nomark _))))))
(pss_one (ps_ret pe_bl))
pss_nil)
(pss_cons (ps_if (PW.pt (pw_or (pt_cmpR (op_neD hu64) (pe_defR c_drawn hr hx (pa_cons (pv 3) (pa_cons (pv 9) pa_nil))) (pv 9) (nomark _)) (pw_or (pt_cmpR (op_neD hu64) (pe_defR c_roots_of hr hx (pa_cons (pv 3) (pa_cons (pv 9) pa_nil))) (pv 8) (nomark _)) (pw_or1 (pt_cmpR (op_neD hu64) (pe_defR c_drawn hr hx (pa_cons (pe_callTy call_list_of rfl b.list_ (by decide +kernel) (pa_cons (pv 3) pa_nil)) (pa_cons (pv 4) pa_nil))) (pv 9) (nomark _))))))
(pss_one (ps_ret pe_bl))
pss_nil)
(pss_cons (ps_set (i := 11) sc_law.nd rfl (Or.inl rfl) (pe_callTy call_tuple_of rfl b.tuple_ (by decide +kernel) (pa_cons (pe_lc (own := [("_law_n", 13)]) (g := (gName 13)) (tt := tYes) rfl sc_law.nd (pi_tup (pv 8)) (blkOk_by (own := [("_law_n", 13)]) (N := n_law) (sc := defScope s_law) (by decide +kernel)) (fun _ _ _ _ _ => (pg_name (i := 13) sc_law.nd rfl (Or.inl rfl))) (fun _ _ _ _ _ => pts_nil) (fun _ _ _ _ _ => (pe_ix (ix_tupK K rfl) (pv 3) (pv 13) (fun _ _ => rfl)))) pa_nil)))
(pss_cons (ps_if (pt_cmpR (op_neD hu64) (pe_def c_law_models hr (pa_cons (pv 2) (pa_cons (pv 11) (pa_cons (pe_callTy call_tuple_of rfl b.tuple_ (by decide +kernel) (pa_cons (pe_lc (own := [("_law_number", 14)]) (g := (gName 14)) (tt := tYes) rfl sc_law.nd (pi_tup (pv 10)) (blkOk_by (own := [("_law_number", 14)]) (N := n_law) (sc := defScope s_law) (by decide +kernel)) (fun _ _ _ _ _ => (pg_name (i := 14) sc_law.nd rfl (Or.inl rfl))) (fun _ _ _ _ _ => pts_nil) (fun _ _ _ _ _ => (pe_un un_neg (pv 14)))) pa_nil)) pa_nil)))) (pe_lst pa_nil) (nomark _))
(pss_one (ps_ret pe_bl))
pss_nil)
(pss_cons (ps_if (pt_cmpR (op_neD hu64) (pe_defD c_is_refutation hr (pa_cons (pv 3) (pa_cons (pv 9) pa_nil))) (pe_cmpR (op_eqD hu64) (pv 10) (pe_tup pa_nil) (nomark _)) (nomark _))
(pss_one (ps_ret pe_bl))
pss_nil)
(pss_cons (ps_set (i := 11) sc_law.nd rfl (Or.inl rfl) (pe_lst (pa_cons pe_non (pa_cons pe_int (pa_cons (pe_tup (pa_cons (pe_tup (pa_cons pe_str (pa_cons (pe_callB call_len_seq rfl b.len_ (by decide +kernel) (pa_cons (pv 3) pa_nil)) pa_nil))) pa_nil)) (pa_cons (pe_tup (pa_cons (pe_tup (pa_cons pe_str (pa_cons pe_int (pa_cons (pe_tup (pa_cons (pe_tup (pa_cons pe_int (pa_cons pe_int pa_nil))) pa_nil)) pa_nil)))) pa_nil)) (pa_cons (pe_op (op_catK K rfl) (pv 4) (pe_tup (pa_cons pe_non pa_nil))) pa_nil)))))))
(pss_cons (ps_set (i := 12) sc_law.nd rfl (Or.inr rfl) (pe_def c_law_pick hr (pa_cons (pv 1) (pa_cons (pe_op op_cat (pv 11) (pe_lst (pa_cons pe_str (pa_cons (pe_tup (pa_cons pe_int pa_nil)) (pa_cons (pe_tup pa_nil) pa_nil))))) pa_nil))))
(pss_cons (ps_if (pt_cmpR (op_neD hu64) (LamX.pe_lamcall (k := 71) (T := tq Pt) (TT := TTf C) (t := fun E => tCall (SpR K C fDrawn gSome) [] E (tCons (tVar 3) (tCons (tVar 12) tNil))) rfl hmf hkf lkf hcf hbf sc_law_fault rfl (Or.inl rfl) (fault_gives hT) TB rfl (List.mem_singleton.mpr rfl) (fun p hp _ => by rw [List.mem_singleton.mp hp]; rfl) hr73 (show LamX.LamS (defScope s_law) _ from LamX.lamS_by (by decide +kernel)) rfl (fun _ _ _ _ _ => rfl) (fun A outer s H E f c' hr => pe_defR c_drawn hr (passes_call (takes_of rfl rfl rfl rfl) fun _ _ _ _ z => z) (pa_cons (pv 3) (pa_cons (pv 12) pa_nil)))) (pe_tup (pa_cons pe_str (pa_cons (pv 12) pa_nil))) (nomark _))
(pss_one (ps_ret pe_bl))
pss_nil)
(pss_one (ps_ret (pe_cmpR (op_eqD hu64) (LamX.pe_lamcall (k := 71) (T := tq Pt) (TT := TTf C) (t := fun E => tCall (SpR K C fRoots gSome) [] E (tCons (tVar 3) (tCons (tVar 12) tNil))) rfl hmf hkf lkf hcf hbf sc_law_fault rfl (Or.inl rfl) (fault_gives hT) TB rfl (List.mem_singleton.mpr rfl) (fun p hp _ => by rw [List.mem_singleton.mp hp]; rfl) hr73 (show LamX.LamS (defScope s_law) _ from LamX.lamS_by (by decide +kernel)) rfl (fun _ _ _ _ _ => rfl) (fun A outer s H E f c' hr => pe_defR c_roots_of hr (passes_call (takes_of rfl rfl rfl rfl) fun _ _ _ _ z => z) (pa_cons (pv 3) (pa_cons (pv 12) pa_nil)))) (pe_tup (pa_cons pe_str (pa_cons (pv 12) pa_nil))) (nomark _)))))))))))))))))))))), ?_⟩
  refine sgl_pen (n := 15) hs hn hPt q fun p c' => ?_
  clear q hPt hn hs
  refine sgl_asg 4990 (ev_addR ev_int (ev_callP rfl (ea_cons ev_int ea_nil) ⟨5, by decide, by decide, rfl⟩) (S := fun d => ∃ m : Nat, d = .int (m : Int) ∧ 1 ≤ m ∧ m ≤ 5) fun d h => ?_) (ln rfl) fun d ⟨m, e, hm1, hm5⟩ => ?_
  · obtain ⟨j, rfl, q1, q2⟩ := draw_int h
    exact ⟨j, rfl, (1 + j).toNat, by congr 1; omega, by omega, by omega⟩
  subst e
  refine sgl_asg 4600 (ev_callPR (RA := fun ds => ∃ n : Nat, 3 ≤ n ∧ n ≤ 14 ∧ ds = [.int (m : Int), .int (n : Int)]) (R := fun d => ∃ cl : List (List Int), d = .tuple (cl.map encC) ∧ 3 ≤ cl.length ∧ cl.length ≤ 14 ∧ ∀ c ∈ cl, Mi.Gd m c) rfl
    (ea_consR (R := Is (.int (m : Int))) (ev_im rfl) (ea_consR (RB := fun ds => ∃ n : Nat, 3 ≤ n ∧ n ≤ 14 ∧ ds = [.int (n : Int)]) (ev_addR ev_int (ev_callP rfl (ea_cons ev_int ea_nil) ⟨12, by decide, by decide, rfl⟩) (S := fun d => ∃ n : Nat, d = .int (n : Int) ∧ 3 ≤ n ∧ n ≤ 14) fun d h => ?_) ea_nil fun d r ⟨n, e, h1, h2⟩ e2 => ?_) fun d r e1 ⟨n, h1, h2, e2⟩ => ?_) (fun ds ⟨n, h1, h2, e⟩ => ⟨m, n, hm1, hm5, h2, e⟩) (fun ds d ⟨n, h1, h2, e⟩ ⟨m', n', cl, e1, e2, h3, h4⟩ => ?_)) (ln rfl) fun d ⟨cl, e, hc3, hc14, hgd⟩ => ?_
  · obtain ⟨j, rfl, q1, q2⟩ := draw_int h
    exact ⟨j, rfl, (3 + j).toNat, by congr 1; omega, by omega, by omega⟩
  · cases e2
    exact ⟨n, h1, h2, by rw [e]⟩
  · exact ⟨n, h1, h2, by rw [e1, e2]⟩
  · rw [e] at e1
    cases e1
    exact ⟨cl, e2, by omega, by omega, h4⟩
  subst e
  have hgds : Gds cl := ⟨by omega, m, hm5, hgd⟩
  refine sgl_asg 4600 (ev_defQ (ea_cons (ev_im rfl) (ea_cons (ev_im rfl) (ea_cons (ev_tup ea_nil) ea_nil))) ⟨m, cl, ⟨hm5, by omega, hgd⟩, rfl⟩) (ln rfl) fun d hd => ?_
  have hP : isNon d = false → ∃ ls : List Line, Good9 cl ls ∧ d = .tuple (ls.map encL) := fun hz => by
    rcases hd with rfl | ⟨m', cl', ws, c, e1, rfl, r⟩
    · exact absurd hz (by decide)
    · injection e1 with _ e1
      injection e1 with e1 _
      injection e1 with e1
      rw [← mapC_inj e1] at r
      exact ⟨ws, good_ref r, rfl⟩
  refine SgL.le (sgl_seq (c1 := 103) (c2 := 4400) (N := fun Γ' => ∃ ls : List Line, Good9 cl ls ∧ Γ' = [.un, .pen, .im (.int (m : Int)), .im (.tuple (cl.map encC)), .im (.tuple (ls.map encL)), .un, .un, .un, .un, .un, .un, .un, .un, .un, .un, .un, .un])
    (Sg.le (sg_ifR (c1 := 1) (c2 := 101) (et_orA (et_test (ev_isN (ev_im rfl))) (ev_eqR (ev_callP rfl (ea_cons ev_int ea_nil) ⟨2, by decide, by decide, rfl⟩) (fun d h => let ⟨j, e, _⟩ := draw_int h; ⟨j, e⟩) ev_int))
      (fun _ => sg_asg (ev_callPR (RA := fun ds => ∃ n : Nat, n ≤ 11 ∧ ds = [.tuple (cl.map encC), .int (n : Int)]) (R := fun d => ∃ ls : List Line, Good9 cl ls ∧ d = .tuple (ls.map encL)) rfl
        (ea_consR (R := Is (.tuple (cl.map encC))) (ev_im rfl) (ea_consR (RB := fun ds => ∃ n : Nat, n ≤ 11 ∧ ds = [.int (n : Int)]) (ev_addR ev_int (ev_callP rfl (ea_cons ev_int ea_nil) ⟨8, by decide, by decide, rfl⟩) (S := fun d => ∃ n : Nat, d = .int (n : Int) ∧ n ≤ 11) fun d h => ?_) ea_nil fun d r ⟨n, e, h1⟩ e2 => ?_) fun d r e1 ⟨n, h1, e2⟩ => ?_) (fun ds ⟨n, h1, e⟩ => ⟨m, cl, n, ⟨hm5, by omega, by omega, hgd, h1⟩, e⟩) (fun ds d ⟨n, h1, e⟩ ⟨cl', n', ls, e1, e2, h3⟩ => ?_)) (ln rfl) fun d ⟨ls, g, e⟩ => ⟨ls, g, by rw [e]; rfl⟩)
      (fun h => Sg.le (sg_next ?_) (by decide))) (by decide)) fun Γ' ⟨ls, g9, e⟩ => ?_) (by decide)
  · obtain ⟨j, rfl, q1, q2⟩ := draw_int h
    exact ⟨j, rfl, (4 + j).toNat, by congr 1; omega, by omega⟩
  · cases e2
    exact ⟨n, h1, by rw [e]⟩
  · exact ⟨n, h1, by rw [e1, e2]⟩
  · rw [e] at e1
    injection e1 with e1 _
    injection e1 with e1
    rw [← mapC_inj e1] at h3
    exact ⟨ls, good_dls h3, e2⟩
  · rcases h with h | h
    · cases h
    · obtain ⟨ls, g, e⟩ := hP h
      exact ⟨ls, g, by rw [e]; rfl⟩
  subst e
  clear hP hd
  refine sgl_asg (R := fun d => ∃ j : Nat, j < cl.length ∧ d = encL (.given j)) 4390 (Ev.imp (ev_tupR (ei_consR (RB := fun ds => ∃ j : Nat, j < cl.length ∧ ds = [.str "given", .int (j : Int)]) (R := Is (.str "given")) ev_str (ei_consR (RB := fun ds => ∃ j : Nat, j < cl.length ∧ ds = [.int (j : Int)]) (ev_callP rfl (ea_cons (Ev.to (ev_len (ev_im rfl) (.inl rfl)) (by rw [List.length_map])) ea_nil) ⟨(cl.length : Int), by omega, by omega, rfl⟩) ea_nil fun d r h1 h2 => ?_) fun d r h1 ⟨j, hj, h2⟩ => ⟨j, hj, by rw [h1, h2]⟩) fun ds ⟨j, _, e⟩ => by rw [e]; exact Nat.le_of_ble_eq_true rfl) fun d ⟨ds, e1, j, hj, e2⟩ => ⟨j, hj, by rw [e1, e2]; rfl⟩) (ln rfl) fun d ⟨j, hj, e⟩ => ?_
  · obtain ⟨j, rfl, hj⟩ := draw_nat h1
    cases h2
    exact ⟨j, hj, rfl⟩
  subst e
  refine sgl_setN (ds := [encL (.given j)]) 4390 (ev_lst (ei_cons (ev_im rfl) ea_nil)) (ln rfl) ?_
  refine SgL.le (sgl_seq (c1 := 0) (c2 := 4390) (N := fun Γ' => ∃ e7, Γ' = [.un, .pen, .im (.int (m : Int)), .im (.tuple (cl.map encC)), .im (.tuple (ls.map encL)), .im (encL (.given j)), .own ((Line.given j :: ls.map Mi.shiftL).map encL), e7, .un, .un, .un, .un, .un, .un, .un, .un, .un])
    (Sg.le (sg_forTs (α := Line) (S := List Line) (l := ls) (enc := encL) (fun s e => [.un, .pen, .im (.int (m : Int)), .im (.tuple (cl.map encC)), .im (.tuple (ls.map encL)), .im (encL (.given j)), .own ((Line.given j :: s.map Mi.shiftL).map encL), e, .un, .un, .un, .un, .un, .un, .un, .un, .un]) (fun s r => s ++ r = ls) (ev_im rfl) 0 (s0 := []) (e0 := .un) rfl rfl (fun _ _ _ => ⟨ln rfl, rfl⟩) ?_ (fun s e h => ⟨e, by rw [List.append_nil] at h; rw [h]⟩)) (by simp)) fun Γ' ⟨e7, e⟩ => ?_) (by decide)
  · rintro s l r hJ
    have hmem : l ∈ ls := by rw [← hJ]; simp
    have has := g9.as l hmem
    have hsl : s.length ≤ 90 := by
      have := g9.l2
      rw [← hJ, List.length_append] at this
      omega
    have hlen : ((Line.given j :: s.map Mi.shiftL).map encL).length < 100000 := by simp; omega
    have eq : ∀ x : Line, (Line.given j :: (s ++ [x]).map Mi.shiftL).map encL = (Line.given j :: s.map Mi.shiftL).map encL ++ [encL (Mi.shiftL x)] := fun x => by simp
    have hJ2 : (s ++ [l]) ++ r = ls := by rw [← hJ]; simp
    cases l with
    | odd i =>
      obtain ⟨cs, hcs⟩ := g9.all
      obtain ⟨k, hk⟩ := List.getElem?_of_mem hmem
      obtain ⟨c, h1, _⟩ := Mi.allC_at hcs hk
      cases h1
    | given n =>
      refine Sg.le (q_when (c1 := 0) (c2 := 0) (et_test (ev_eqS (ev_ixT (ev_im rfl) ev_int (j := 0) rfl rfl) ev_str)) (fun e => absurd e (by decide)) fun _ => sg_app rfl (ev_im rfl) hlen fun d e => ⟨s ++ [.given n], .im (encL (.given n)), hJ2, ?_⟩) (by decide)
      cases e
      rw [eq]
      rfl
    | chain f ss =>
      have hss : ss.length ≤ 100000 := by
        have : (ss.map (·.2)).length + 1 ≤ 10 := has
        rw [List.length_map] at this
        omega
      refine Sg.le (q_when (c1 := 0) (c2 := 0) (et_test (ev_eqS (ev_ixT (ev_im rfl) ev_int (j := 0) rfl rfl) ev_str)) (fun _ => Sg.le (q_set (c2 := 0) (d := encL (Mi.shiftL (.chain f ss))) (Ev.to (ev_tup (ei_cons ev_str (ei_cons (ev_add (ev_ixT (ev_im rfl) ev_int (j := 1) rfl rfl) ev_int) (ei_cons (ev_tuple (ev_lcT2d (ct := 0) (ce := 0) (xs := ss) (e1 := fun p => .int (p.1 : Int)) (e2 := fun p => .int (p.2 : Int)) (g := fun p => .tuple [.int (p.1 : Int), .int ((p.2 : Int) + 1)]) (p := fun _ => true) (ev_ixT (ev_im rfl) ev_int (j := 2) rfl rfl) hss (by decide) (by decide) (ln rfl) (ln rfl) (fun _ _ _ => et_yes) fun _ _ _ _ => ev_tup (ei_cons (ev_im rfl) (ei_cons (ev_add (ev_im rfl) ev_int) ea_nil))) (.inr rfl)) ea_nil)))) ?_) (ln rfl) (sg_app rfl (ev_im rfl) hlen fun d e => ⟨s ++ [.chain f ss], .im (encL (Mi.shiftL (.chain f ss))), hJ2, ?_⟩)) (by simp)) fun e => absurd e (by decide)) (by decide)
      · rw [filt_all]
        show _ = PyData.tuple [.str "chain", .int ((f + 1 : Nat) : Int), .tuple ((ss.map fun p => (p.1, p.2 + 1)).map encP)]
        rw [List.map_map]
        rfl
      · cases e
        rw [eq]
        rfl
  subst e
  have gm := good_moved g9 hj
  refine sgl_asg (R := fun d => ∃ ls : List Line, Mi.Good cl ls ∧ d = .tuple (ls.map encL)) 4380 (Ev.imp (ev_callP rfl (ea_cons (ev_lst (ei_cons (ev_im rfl) (ei_cons (ev_tuple (ev_own rfl) (.inr rfl)) ea_nil))) ea_nil) ⟨_, by simp, by show 2 ≤ 1000000; decide, rfl⟩) fun d ⟨xs, e, hm⟩ => ?_) (ln rfl) fun d ⟨l2, g, e⟩ => ?_
  · cases e
    rcases List.mem_cons.mp hm with rfl | hm
    · exact ⟨ls, g9.good, rfl⟩
    · exact ⟨_, gm, List.mem_singleton.mp hm⟩
  subst e
  clear gm g9 hj
  obtain ⟨cs, hcs⟩ := g.all
  have told := Mi.told_of g hcs
  have hlenC := Mi.allC_len hcs
  have hl1 := g.l1
  obtain ⟨last, hlast⟩ : ∃ last, cs[cs.length - 1]? = some last := ⟨_, List.getElem?_eq_getElem (by omega)⟩
  have hV : ∀ {r : PyData}, Row r (cl.map encC) → Vl r cl l2 := fun hr => ⟨hr, hgds, g.all, g.ls, by
    have := Mi.gvn_len (l := l2) (ms := Mi.marks l2)
    have := g.gv
    omega⟩
  have gD := told.good
  have hVD : ∀ {r : PyData}, Row r (cl.map encC) → Vl r cl (Mi.drawnL l2) := fun hr => ⟨hr, hgds, gD.all, gD.ls, by
    have := Mi.gvn_len (l := Mi.drawnL l2) (ms := Mi.marks (Mi.drawnL l2))
    have := gD.gv
    omega⟩
  have hgL := (hV (r := .tuple (cl.map encC)) (.inl rfl)).gv
  obtain ⟨fc, hfc, hfl⟩ := told.last
  rw [hlast] at hfl
  have tw := Mi.drawn_twice told
  have rs := Mi.roots_same told
  have hG : ∀ x ∈ cs, Mi.Gd m x := Mi.allF_gd hm5 hgd (fun c hc => by cases hc) hcs
  have hgl := hG last (List.mem_of_getElem? hlast)
  have hl11 := hgl.2
  have hrl : (Mi.rootsL l2).length ≤ 63 := Nat.le_trans (sst_len _) (by rw [List.length_map]; omega)
  have fR : Flat 1 (.tuple ((Mi.rootsL l2).map .int)) := flat_ints _ (by omega)
  have fD : Flat 4 (.tuple ((Mi.drawnL l2).map encL)) := flat_lines (by have := gD.l2; omega) gD.as
  have fL : Flat 1 (encC last) := flat_ints _ (by omega)
  have docD : DocOk cl (.tuple ((Mi.drawnL l2).map encL)) (some fc) := .inl ⟨_, rfl, by have := gD.l2; omega, fun l hl => by have := gD.as l hl; omega, hfc.symm⟩
  have nR : PyData.eqv (.tuple ((Mi.rootsL l2).map .int)) (.tuple ((Mi.rootsL l2).map .int)) = true := eqv_refl 1 _ fR
  have nD : PyData.eqv (.tuple ((Mi.drawnL l2).map encL)) (.tuple ((Mi.drawnL l2).map encL)) = true := eqv_refl 4 _ fD
  have nL : PyData.eqv (encC last) (encC last) = true := eqv_refl 1 _ fL
  refine SgL.le (sgl_seq (c1 := 0) (c2 := 4380) (N := fun Γ' => ∃ e5 e6 e7, Γ' = [.un, .pen, .im (.int (m : Int)), .im (.tuple (cl.map encC)), .im (.tuple (l2.map encL)), e5, e6, e7, .im (.tuple ((Mi.rootsL l2).map .int)), .im (.tuple ((Mi.drawnL l2).map encL)), .im (encC last), .un, .un, .un, .un, .un, .un])
    (Sg.le (sg_par3 (d := .tuple ((Mi.rootsL l2).map .int)) (e := .tuple ((Mi.drawnL l2).map encL)) (f := encC last) (ev_defR (k := .im) (ea_cons (ev_im rfl) (ea_cons (ev_im rfl) ea_nil)) ⟨_, cl, l2, hV (.inl rfl), rfl, rfl, rfl⟩) (ev_defR (k := .im) (ea_cons (ev_im rfl) (ea_cons (ev_im rfl) ea_nil)) ⟨_, cl, l2, hV (.inl rfl), rfl, rfl, rfl⟩)
      (ev_lastT (ev_def (k := .im) (ea_cons (ev_im rfl) (ea_cons (ev_im rfl) ea_nil)) ⟨_, cl, l2, cs, .inl rfl, hgds, by have := g.l2; omega, fun l hl => by have := g.as l hl; omega, hcs, rfl, rfl, rfl⟩) (ev_neg ev_int) (by rw [List.length_map]; exact get_map hlast)) (ln rfl) (ln rfl) (ln rfl) ⟨_, _, _, rfl⟩) (by decide)) fun Γ' ⟨e5, e6, e7, e⟩ => ?_) (by decide)
  subst e
  refine SgL.le (sgl_not (c1 := 0) (c2 := 4380) (ET.to (et_or (et_test (ev_neD (ev_im rfl) (ev_def (k := .im) (ea_cons (ev_im rfl) ea_nil) ⟨l2, g.ls, hgL, rfl, rfl, rfl⟩) (flat_shaped fR) (flat_shaped fR))) fun _ => et_or (et_test (ev_neD (ev_im rfl) (ev_def (k := .im) (ea_cons (ev_im rfl) ea_nil) ⟨l2, g.ls, rfl, rfl, rfl⟩) (flat_shaped fD) (flat_shaped fD))) fun _ =>
    et_test (ev_neD (ev_lastT (d := encC last) (ev_defR (k := .im) (d := .tuple (fc.map encC)) (ea_cons (ev_im rfl) (ea_cons (ev_im rfl) ea_nil)) ⟨_, cl, _, fc, rfl, .inl rfl, hgds, docD, rfl, rfl⟩) (ev_neg ev_int) (by rw [List.length_map]; exact get_map hfl)) (ev_im rfl) (flat_shaped fL) (flat_shaped fL))) (by rw [nR, nD, nL]; rfl)) ?_) (by decide)
  refine SgL.le (sgl_not (c1 := 0) (c2 := 4380) (ET.to (et_or (et_test (ev_neD (ev_defR (k := .im) (d := .tuple ((Mi.drawnL l2).map encL)) (ea_cons (ev_im rfl) (ea_cons (ev_im rfl) ea_nil)) ⟨_, cl, Mi.drawnL l2, hVD (.inl rfl), rfl, rfl, by rw [tw]⟩) (ev_im rfl) (flat_shaped fD) (flat_shaped fD))) fun _ =>
    et_or (et_test (ev_neD (ev_defR (k := .im) (d := .tuple ((Mi.rootsL l2).map .int)) (ea_cons (ev_im rfl) (ea_cons (ev_im rfl) ea_nil)) ⟨_, cl, Mi.drawnL l2, hVD (.inl rfl), rfl, rfl, by rw [rs]⟩) (ev_im rfl) (flat_shaped fR) (flat_shaped fR))) fun _ =>
    et_test (ev_neD (ev_defR (k := .im) (d := .tuple ((Mi.drawnL l2).map encL)) (ea_cons (ev_list (ev_im rfl) (.inl rfl)) (ea_cons (ev_im rfl) ea_nil)) ⟨_, cl, l2, hV (.inr rfl), rfl, rfl, rfl⟩) (ev_im rfl) (flat_shaped fD) (flat_shaped fD))) (by rw [nR, nD]; rfl)) ?_) (by decide)
  have hroot : ∀ z ∈ Mi.rootsL l2, ∃ (k : Nat) (c : List Int), z = (k : Int) ∧ cl[k]? = some c := fun z hz => by
    obtain ⟨n, rfl, j, h1, _⟩ := Mi.roots_mem.mp hz
    obtain ⟨c, h2, _⟩ := Mi.allC_at hcs h1
    exact ⟨n, c, rfl, h2⟩
  generalize hcls : ((Mi.rootsL l2).map fun z => (cl[z.toNat]?).getD []) = cls
  have hclsG : ∀ c ∈ cls, Mi.Gd m c := fun c hc => by
    rw [← hcls] at hc
    obtain ⟨z, hz, rfl⟩ := List.mem_map.mp hc
    obtain ⟨k, c, rfl, h⟩ := hroot z hz
    rw [Int.toNat_natCast, h]
    exact hgd c (List.mem_of_getElem? h)
  have hclsl : cls.length ≤ 63 := by rw [← hcls, List.length_map]; exact hrl
  have hmod : Mi.modelsL m cls (last.map fun x => -x) = [] := Mi.no_models hm5 hgd g.ls hcs hlast fun n c hj hc => by
    rw [← hcls]
    exact List.mem_map.mpr ⟨(n : Int), Mi.roots_mem.mpr ⟨n, rfl, hj⟩, by rw [Int.toNat_natCast, hc]; rfl⟩
  refine sgl_set 4380 (d := .tuple (cls.map encC)) (Ev.to (ev_tuple (ev_lcTd (ct := 0) (ce := 0) (l := Mi.rootsL l2) (enc := PyData.int) (g := fun z => encC ((cl[z.toNat]?).getD [])) (p := fun _ => true) (ev_im rfl) (by omega) (by decide) (ln rfl) (fun _ _ _ => et_yes) fun i z hz _ => ?_) (.inr rfl)) (by rw [filt_all, ← hcls, List.map_map]; rfl)) (ln rfl) ?_ (by simp)
  · obtain ⟨k, c, rfl, hc⟩ := hroot z (List.mem_of_getElem? hz)
    exact ev_ixT (ev_im rfl) (ev_im rfl) (j := k) rfl (by rw [Int.toNat_natCast, hc]; exact get_map hc)
  have shN : SeqAt.shaped (.list []) = true := flat_shapedL (n := 0) fun x hx => by cases hx
  have eN : PyData.eqv (.list []) (.list []) = true := by simp [PyData.eqv, PyData.eqvAll]
  refine SgL.le (sgl_not (c1 := 0) (c2 := 4380) (ET.le (ET.to (et_test (ev_neD (d := .list []) (ev_def (k := .nw) (ea_cons (ev_im rfl) (ea_cons (ev_im rfl) (ea_cons (Ev.to (ev_tuple (ev_lcTd (ct := 0) (ce := 0) (l := last) (enc := PyData.int) (g := fun x => .int (-x)) (p := fun _ => true) (ev_im rfl) (by omega) (by decide) (ln rfl) (fun _ _ _ => et_yes) fun _ _ _ _ => ev_neg (ev_im rfl)) (.inr rfl)) (show _ = PyData.tuple ((last.map fun x => -x).map PyData.int) from by rw [filt_all, List.map_map]; rfl)) ea_nil)))
    ⟨m, cls, last.map fun x => -x, hm5, by omega, by rw [List.length_map]; omega, hclsG, fun n hn => ?_, rfl, rfl, by rw [hmod]; rfl⟩) (ev_lst ea_nil) shN shN)) (by rw [eN]; rfl)) (by simp)) ?_) (by decide)
  · obtain ⟨x, hx, rfl⟩ := List.mem_map.mp hn
    have := hgl.1 x hx
    omega
  obtain ⟨pre, rfl⟩ : ∃ pre, fc = pre ++ [last] := by
    rcases List.eq_nil_or_concat fc with rfl | ⟨pre, x, rfl⟩
    · simp at hfl
    · have hx : x = last := by simpa using hfl
      exact ⟨pre, by rw [List.concat_eq_append, hx]⟩
  refine SgL.le (sgl_not (c1 := 0) (c2 := 4380) (ET.to (et_test (ev_neD (ev_defD (k := .im) har (ea_cons (ev_im rfl) (ea_cons (ev_im rfl) ea_nil)) ⟨_, cl, Mi.drawnL l2, pre, last, .inl rfl, hgds, hfc, hl11, by have := gD.l2; omega, rfl, rfl, rfl⟩) (ev_eqD (ev_im rfl) (ev_tup ea_nil) (flat_shaped fL) (flat_shaped (n := 1) (.inr ⟨[], rfl, Nat.zero_le _, fun x hx => by cases hx⟩))) (sh_bool _) (sh_bool _))) ?_) ?_) (by decide)
  · have e : PyData.eqv (encC last) (.tuple []) = decide (last = []) := by
      cases last with
      | nil => rw [decide_eq_true rfl]; exact eqv_refl 1 (.tuple []) (.inr ⟨[], rfl, Nat.zero_le _, fun x hx => by cases hx⟩)
      | cons x xs => rw [decide_eq_false (by simp)]; simp [encC, PyData.eqv, PyData.eqvAll]
    rw [e]
    cases decide (last = []) <;> simp [PyData.eqv]
  refine sgl_setN (ds := [.none, .int 5, .tuple [encL (.given cl.length)], .tuple [encL (.chain 0 [(1, 0)])], .tuple (l2.map encL ++ [.none])]) 4380 (ev_lst (ei_cons ev_non (ei_cons ev_int (ei_cons (ev_tup (ei_cons (ev_tup (ei_cons ev_str (ei_cons (Ev.to (ev_len (ev_im rfl) (.inl rfl)) (by rw [List.length_map])) ea_nil))) ea_nil))
    (ei_cons (ev_tup (ei_cons (ev_tup (ei_cons ev_str (ei_cons ev_int (ei_cons (ev_tup (ei_cons (ev_tup (ei_cons ev_int (ei_cons ev_int ea_nil))) ea_nil)) ea_nil)))) ea_nil)) (ei_cons (ev_catT (ev_im rfl) (ev_tup (ei_cons ev_non ea_nil)) (by have := g.l2; simp; omega)) ea_nil)))))) (ln rfl) ?_
  refine sgl_asg (R := fun d => DocOk cl d none ∨ DocOk cl d (some [])) 4370 (Ev.imp (ev_callP rfl (ea_cons (ev_cat (ev_own rfl) (ev_lst (ei_cons ev_str (ei_cons (ev_tup (ei_cons ev_int ea_nil)) (ei_cons (ev_tup ea_nil) ea_nil)))) (by show 5 + 3 ≤ 100000; decide)) ea_nil) ⟨_, by simp, by show 8 ≤ 1000000; decide, rfl⟩) fun d ⟨xs, e, hm⟩ => ?_) (ln rfl) fun d hd => ?_
  · cases e
    have hgl2 := g.l2
    simp only [List.cons_append, List.nil_append, List.mem_cons, List.not_mem_nil, or_false] at hm
    rcases hm with rfl | rfl | rfl | rfl | rfl | rfl | rfl | rfl
    · exact .inl (.inr ⟨rfl, rfl⟩)
    · exact .inl (.inr ⟨rfl, rfl⟩)
    · exact .inl (.inl ⟨[.given cl.length], rfl, by simp, fun l hl => by rw [List.mem_singleton.mp hl]; exact Nat.zero_le _, by simp [Mi.allC, Mi.allF, Mi.lineC]⟩)
    · exact .inl (.inl ⟨[.chain 0 [(1, 0)]], rfl, by simp, fun l hl => by rw [List.mem_singleton.mp hl]; show 2 ≤ 50000; decide, by simp [Mi.allC, Mi.allF, Mi.lineC]⟩)
    · refine .inl (.inl ⟨l2 ++ [.odd none], by rw [List.map_append]; rfl, by simp; omega, fun l hl => ?_, ?_⟩)
      · rcases List.mem_append.mp hl with hl | hl
        · have := g.as l hl
          omega
        · rw [List.mem_singleton.mp hl]
          exact Nat.zero_le _
      · have h := hcs
        unfold Mi.allC at h ⊢
        rw [Mi.allF_app, h]
        rfl
    · exact .inl (.inr ⟨sk_lines, rfl⟩)
    · exact .inl (.inl ⟨[.odd (some 5)], rfl, by simp, fun l hl => by rw [List.mem_singleton.mp hl]; exact Nat.zero_le _, rfl⟩)
    · exact .inr (.inl ⟨[], rfl, by simp, fun l hl => (by cases hl), rfl⟩)
  have hfd : Flat 4 d := hd.elim DocOk.flat DocOk.flat
  exact SgL.le (sgl_odd rfl rfl ⟨_, cl, rfl, .inl rfl, hgds, hd⟩ hfd (flat_shaped (n := 5) (.inr ⟨_, rfl, by show 2 ≤ 100000; decide, fun x hx => by
    rcases List.mem_cons.mp hx with rfl | hx
    · exact .inl sk_row
    · rw [List.mem_singleton.mp hx]; exact hfd⟩))) (by decide)
end
end W26

set_option Elab.async false
set_option linter.all false
set_option maxRecDepth 100000
set_option maxHeartbeats 4000000
namespace W26
open PySem PySem.Spec PyProof.Rows L2 Lg
theorem mkCal {P : Program} {w : World} {K : PySem.W.Frag} {mg : Str → Option Value} {base : Heap} {k : Nat} {f : Addr} {fd : FuncData} {x : Str} {ps : List Str} {sp : Sp} (G : FnOk P w K mg base CX0 k f fd ps sp) (hm : mg x = some (.ref f)) (hk : PySem.W.keepIn K (.ref f) = true) (hb : Binds K fd ps []) : Cal P w K mg base k x ps sp := ⟨f, fd, G, hm, hk, hb⟩
theorem mkCalR {P : Program} {w : World} {K : PySem.W.Frag} {mg : Str → Option Value} {base : Heap} {k : Nat} {f : Addr} {fd : FuncData} {x : Str} {ps : List Str} {sp : Sp} (G : FnOk P w K mg base (L2.CX P w) k f fd ps sp) (hm : mg x = some (.ref f)) (hk : PySem.W.keepIn K (.ref f) = true) (hb : Binds K fd ps []) : CalR P w K mg base k x ps sp := ⟨f, fd, G, hm, hk, hb⟩
theorem all_mk {l : PySem.W.OpenLaw} {w : World} {K : PySem.W.Frag} {h : Heap} {mg : Str → Option Value} {fa c Pt : Addr} (X : K.In h) (G : h.Ns mainGlobals mg) (hfa : mg "law" = some (.ref fa)) (ow : LamX.OwnTab K fa h)
    {f_is_count : Addr} {od_is_count an_is_count : Option Addr} {sl_is_count : Array (Option Value)} {oc_is_count kV_is_count dc_is_count pm_is_count cd_is_count ct_is_count : Value}
    {f_resolvent : Addr} {od_resolvent an_resolvent : Option Addr} {sl_resolvent : Array (Option Value)} {oc_resolvent kV_resolvent dc_resolvent pm_resolvent cd_resolvent ct_resolvent : Value}
    {f_chain_clause : Addr} {od_chain_clause an_chain_clause : Option Addr} {sl_chain_clause : Array (Option Value)} {oc_chain_clause kV_chain_clause dc_chain_clause pm_chain_clause cd_chain_clause ct_chain_clause : Value}
    {f_line_clause : Addr} {od_line_clause an_line_clause : Option Addr} {sl_line_clause : Array (Option Value)} {oc_line_clause kV_line_clause dc_line_clause pm_line_clause cd_line_clause ct_line_clause : Value}
    {f_all_clauses : Addr} {od_all_clauses an_all_clauses : Option Addr} {sl_all_clauses : Array (Option Value)} {oc_all_clauses kV_all_clauses dc_all_clauses pm_all_clauses cd_all_clauses ct_all_clauses : Value}
    {f_as_rows : Addr} {od_as_rows an_as_rows : Option Addr} {sl_as_rows : Array (Option Value)} {oc_as_rows kV_as_rows dc_as_rows pm_as_rows cd_as_rows ct_as_rows : Value}
    {f_asked_by : Addr} {od_asked_by an_asked_by : Option Addr} {sl_asked_by : Array (Option Value)} {oc_asked_by kV_asked_by dc_asked_by pm_asked_by cd_asked_by ct_asked_by : Value}
    {f_marked : Addr} {od_marked an_marked : Option Addr} {sl_marked : Array (Option Value)} {oc_marked kV_marked dc_marked pm_marked cd_marked ct_marked : Value}
    {f_line_clauses : Addr} {od_line_clauses an_line_clauses : Option Addr} {sl_line_clauses : Array (Option Value)} {oc_line_clauses kV_line_clauses dc_line_clauses pm_line_clauses cd_line_clauses ct_line_clauses : Value}
    {f_some_lines : Addr} {od_some_lines an_some_lines : Option Addr} {sl_some_lines : Array (Option Value)} {oc_some_lines kV_some_lines dc_some_lines pm_some_lines cd_some_lines ct_some_lines : Value}
    {f_roots_of : Addr} {od_roots_of an_roots_of : Option Addr} {sl_roots_of : Array (Option Value)} {oc_roots_of kV_roots_of dc_roots_of pm_roots_of cd_roots_of ct_roots_of : Value}
    {f_drawn : Addr} {od_drawn an_drawn : Option Addr} {sl_drawn : Array (Option Value)} {oc_drawn kV_drawn dc_drawn pm_drawn cd_drawn ct_drawn : Value}
    {f_law_is_whole : Addr} {od_law_is_whole an_law_is_whole : Option Addr} {sl_law_is_whole : Array (Option Value)} {oc_law_is_whole kV_law_is_whole dc_law_is_whole pm_law_is_whole cd_law_is_whole ct_law_is_whole : Value}
    {f_law_is_index : Addr} {od_law_is_index an_law_is_index : Option Addr} {sl_law_is_index : Array (Option Value)} {oc_law_is_index kV_law_is_index dc_law_is_index pm_law_is_index cd_law_is_index ct_law_is_index : Value}
    {f_law_sorted : Addr} {od_law_sorted an_law_sorted : Option Addr} {sl_law_sorted : Array (Option Value)} {oc_law_sorted kV_law_sorted dc_law_sorted pm_law_sorted cd_law_sorted ct_law_sorted : Value}
    {f_law_resolved : Addr} {od_law_resolved an_law_resolved : Option Addr} {sl_law_resolved : Array (Option Value)} {oc_law_resolved kV_law_resolved dc_law_resolved pm_law_resolved cd_law_resolved ct_law_resolved : Value}
    {f_law_line_of : Addr} {od_law_line_of an_law_line_of : Option Addr} {sl_law_line_of : Array (Option Value)} {oc_law_line_of kV_law_line_of dc_law_line_of pm_law_line_of cd_law_line_of ct_law_line_of : Value}
    {f_law_line_clauses : Addr} {od_law_line_clauses an_law_line_clauses : Option Addr} {sl_law_line_clauses : Array (Option Value)} {oc_law_line_clauses kV_law_line_clauses dc_law_line_clauses pm_law_line_clauses cd_law_line_clauses ct_law_line_clauses : Value}
    {f_law_asked : Addr} {od_law_asked an_law_asked : Option Addr} {sl_law_asked : Array (Option Value)} {oc_law_asked kV_law_asked dc_law_asked pm_law_asked cd_law_asked ct_law_asked : Value}
    {f_law_marks : Addr} {od_law_marks an_law_marks : Option Addr} {sl_law_marks : Array (Option Value)} {oc_law_marks kV_law_marks dc_law_marks pm_law_marks cd_law_marks ct_law_marks : Value}
    {f_law_roots : Addr} {od_law_roots an_law_roots : Option Addr} {sl_law_roots : Array (Option Value)} {oc_law_roots kV_law_roots dc_law_roots pm_law_roots cd_law_roots ct_law_roots : Value}
    {f_law_drawn_of : Addr} {od_law_drawn_of an_law_drawn_of : Option Addr} {sl_law_drawn_of : Array (Option Value)} {oc_law_drawn_of kV_law_drawn_of dc_law_drawn_of pm_law_drawn_of cd_law_drawn_of ct_law_drawn_of : Value}
    {f_law_longer : Addr} {od_law_longer an_law_longer : Option Addr} {sl_law_longer : Array (Option Value)} {oc_law_longer kV_law_longer dc_law_longer pm_law_longer cd_law_longer ct_law_longer : Value}
    {f_law_rows : Addr} {od_law_rows an_law_rows : Option Addr} {sl_law_rows : Array (Option Value)} {oc_law_rows kV_law_rows dc_law_rows pm_law_rows cd_law_rows ct_law_rows : Value}
    {f_law_fits : Addr} {od_law_fits an_law_fits : Option Addr} {sl_law_fits : Array (Option Value)} {oc_law_fits kV_law_fits dc_law_fits pm_law_fits cd_law_fits ct_law_fits : Value}
    {f_law_models : Addr} {od_law_models an_law_models : Option Addr} {sl_law_models : Array (Option Value)} {oc_law_models kV_law_models dc_law_models pm_law_models cd_law_models ct_law_models : Value}
    {f_law_next_variable : Addr} {od_law_next_variable an_law_next_variable : Option Addr} {sl_law_next_variable : Array (Option Value)} {oc_law_next_variable kV_law_next_variable dc_law_next_variable pm_law_next_variable cd_law_next_variable ct_law_next_variable : Value}
    {f_law_refuted : Addr} {od_law_refuted an_law_refuted : Option Addr} {sl_law_refuted : Array (Option Value)} {oc_law_refuted kV_law_refuted dc_law_refuted pm_law_refuted cd_law_refuted ct_law_refuted : Value}
    {f_law_paper : Addr} {od_law_paper an_law_paper : Option Addr} {sl_law_paper : Array (Option Value)} {oc_law_paper kV_law_paper dc_law_paper pm_law_paper cd_law_paper ct_law_paper : Value}
    {f_law_draw : Addr} {od_law_draw an_law_draw : Option Addr} {sl_law_draw : Array (Option Value)} {oc_law_draw kV_law_draw dc_law_draw pm_law_draw cd_law_draw ct_law_draw : Value}
    {f_law_pick : Addr} {od_law_pick an_law_pick : Option Addr} {sl_law_pick : Array (Option Value)} {oc_law_pick kV_law_pick dc_law_pick pm_law_pick cd_law_pick ct_law_pick : Value}
    {f_law_drawn_clause : Addr} {od_law_drawn_clause an_law_drawn_clause : Option Addr} {sl_law_drawn_clause : Array (Option Value)} {oc_law_drawn_clause kV_law_drawn_clause dc_law_drawn_clause pm_law_drawn_clause cd_law_drawn_clause ct_law_drawn_clause : Value}
    {f_law_drawn_row : Addr} {od_law_drawn_row an_law_drawn_row : Option Addr} {sl_law_drawn_row : Array (Option Value)} {oc_law_drawn_row kV_law_drawn_row dc_law_drawn_row pm_law_drawn_row cd_law_drawn_row ct_law_drawn_row : Value}
    {f_law_drawn_lines : Addr} {od_law_drawn_lines an_law_drawn_lines : Option Addr} {sl_law_drawn_lines : Array (Option Value)} {oc_law_drawn_lines kV_law_drawn_lines dc_law_drawn_lines pm_law_drawn_lines cd_law_drawn_lines ct_law_drawn_lines : Value}
    {f_law_pen : Addr} {od_law_pen an_law_pen : Option Addr} {sl_law_pen : Array (Option Value)} {oc_law_pen kV_law_pen dc_law_pen pm_law_pen cd_law_pen ct_law_pen : Value}
    {f_law_fault : Addr} {od_law_fault an_law_fault : Option Addr} {sl_law_fault : Array (Option Value)} {oc_law_fault kV_law_fault dc_law_fault pm_law_fault cd_law_fault ct_law_fault : Value}
    {f_law : Addr} {od_law an_law : Option Addr} {sl_law : Array (Option Value)} {oc_law kV_law dc_law pm_law ct_law : Value}
    {f_isr Tr : Addr} {od_isr an_isr : Option Addr} {sl_isr : Array (Option Value)} {oc_isr kV_isr dc_isr pm_isr cd_isr ct_isr : Value}
    {ar : Addr} {nT nA : Nat} {oT : Value} {odT odA : Option Addr} {slT slA : Array (Option Value)}
    {C fI : Addr}
    {nm qn : Str} {NC : Addr} {bs bm : List Value} {sn : List Str} {sub : List Value} {ab : Bool} {col : Option Bool} {dd : Option Addr} {k0 k1 k2 k3 k5 : Option Value}
    {oI : Value} {odI : Option Addr} {docI pmI : Value} {anI : Option Addr} {cda cc : Addr} {ctI : Value} {slI : Array (Option Value)} {ccl clI : Value} {cdd cld : Option Addr} {vsI : Array Value} {ccs csl : Array (Option Value)} {file : Str} {tf : Tok}
    {ec : Value} {dc : Option Addr} {vsc : Array Value} {slc : Array (Option Value)}
    (a_is_count : PySem.W.nsIn K mainGlobals "is_count" = some (some (.ref f_is_count)))
    (l_is_count : K.lookup f_is_count = some ⟨oc_is_count, od_is_count, .func (PySem.W.fnOf "is_count" "is_count" (defArgs s_is_count) (defBody s_is_count) (defScope s_is_count) .none kV_is_count dc_is_count pm_is_count an_is_count cd_is_count ct_is_count), sl_is_count⟩)
    (q_is_count : PySem.W.codeIn K cd_is_count "is_count" = true)
    (k_is_count : PySem.W.keepIn K (.ref f_is_count) = true)
    (a_resolvent : PySem.W.nsIn K mainGlobals "resolvent" = some (some (.ref f_resolvent)))
    (l_resolvent : K.lookup f_resolvent = some ⟨oc_resolvent, od_resolvent, .func (PySem.W.fnOf "resolvent" "resolvent" (defArgs s_resolvent) (defBody s_resolvent) (defScope s_resolvent) .none kV_resolvent dc_resolvent pm_resolvent an_resolvent cd_resolvent ct_resolvent), sl_resolvent⟩)
    (q_resolvent : PySem.W.codeIn K cd_resolvent "resolvent" = true)
    (k_resolvent : PySem.W.keepIn K (.ref f_resolvent) = true)
    (a_chain_clause : PySem.W.nsIn K mainGlobals "chain_clause" = some (some (.ref f_chain_clause)))
    (l_chain_clause : K.lookup f_chain_clause = some ⟨oc_chain_clause, od_chain_clause, .func (PySem.W.fnOf "chain_clause" "chain_clause" (defArgs s_chain_clause) (defBody s_chain_clause) (defScope s_chain_clause) .none kV_chain_clause dc_chain_clause pm_chain_clause an_chain_clause cd_chain_clause ct_chain_clause), sl_chain_clause⟩)
    (q_chain_clause : PySem.W.codeIn K cd_chain_clause "chain_clause" = true)
    (k_chain_clause : PySem.W.keepIn K (.ref f_chain_clause) = true)
    (a_line_clause : PySem.W.nsIn K mainGlobals "line_clause" = some (some (.ref f_line_clause)))
    (l_line_clause : K.lookup f_line_clause = some ⟨oc_line_clause, od_line_clause, .func (PySem.W.fnOf "line_clause" "line_clause" (defArgs s_line_clause) (defBody s_line_clause) (defScope s_line_clause) .none kV_line_clause dc_line_clause pm_line_clause an_line_clause cd_line_clause ct_line_clause), sl_line_clause⟩)
    (q_line_clause : PySem.W.codeIn K cd_line_clause "line_clause" = true)
    (k_line_clause : PySem.W.keepIn K (.ref f_line_clause) = true)
    (a_all_clauses : PySem.W.nsIn K mainGlobals "all_clauses" = some (some (.ref f_all_clauses)))
    (l_all_clauses : K.lookup f_all_clauses = some ⟨oc_all_clauses, od_all_clauses, .func (PySem.W.fnOf "all_clauses" "all_clauses" (defArgs s_all_clauses) (defBody s_all_clauses) (defScope s_all_clauses) .none kV_all_clauses dc_all_clauses pm_all_clauses an_all_clauses cd_all_clauses ct_all_clauses), sl_all_clauses⟩)
    (q_all_clauses : PySem.W.codeIn K cd_all_clauses "all_clauses" = true)
    (k_all_clauses : PySem.W.keepIn K (.ref f_all_clauses) = true)
    (a_as_rows : PySem.W.nsIn K mainGlobals "as_rows" = some (some (.ref f_as_rows)))
    (l_as_rows : K.lookup f_as_rows = some ⟨oc_as_rows, od_as_rows, .func (PySem.W.fnOf "as_rows" "as_rows" (defArgs s_as_rows) (defBody s_as_rows) (defScope s_as_rows) .none kV_as_rows dc_as_rows pm_as_rows an_as_rows cd_as_rows ct_as_rows), sl_as_rows⟩)
    (q_as_rows : PySem.W.codeIn K cd_as_rows "as_rows" = true)
    (k_as_rows : PySem.W.keepIn K (.ref f_as_rows) = true)
    (a_asked_by : PySem.W.nsIn K mainGlobals "asked_by" = some (some (.ref f_asked_by)))
    (l_asked_by : K.lookup f_asked_by = some ⟨oc_asked_by, od_asked_by, .func (PySem.W.fnOf "asked_by" "asked_by" (defArgs s_asked_by) (defBody s_asked_by) (defScope s_asked_by) .none kV_asked_by dc_asked_by pm_asked_by an_asked_by cd_asked_by ct_asked_by), sl_asked_by⟩)
    (q_asked_by : PySem.W.codeIn K cd_asked_by "asked_by" = true)
    (k_asked_by : PySem.W.keepIn K (.ref f_asked_by) = true)
    (a_marked : PySem.W.nsIn K mainGlobals "marked" = some (some (.ref f_marked)))
    (l_marked : K.lookup f_marked = some ⟨oc_marked, od_marked, .func (PySem.W.fnOf "marked" "marked" (defArgs s_marked) (defBody s_marked) (defScope s_marked) .none kV_marked dc_marked pm_marked an_marked cd_marked ct_marked), sl_marked⟩)
    (q_marked : PySem.W.codeIn K cd_marked "marked" = true)
    (k_marked : PySem.W.keepIn K (.ref f_marked) = true)
    (a_line_clauses : PySem.W.nsIn K mainGlobals "line_clauses" = some (some (.ref f_line_clauses)))
    (l_line_clauses : K.lookup f_line_clauses = some ⟨oc_line_clauses, od_line_clauses, .func (PySem.W.fnOf "line_clauses" "line_clauses" (defArgs s_line_clauses) (defBody s_line_clauses) (defScope s_line_clauses) .none kV_line_clauses dc_line_clauses pm_line_clauses an_line_clauses cd_line_clauses ct_line_clauses), sl_line_clauses⟩)
    (q_line_clauses : PySem.W.codeIn K cd_line_clauses "line_clauses" = true)
    (k_line_clauses : PySem.W.keepIn K (.ref f_line_clauses) = true)
    (a_some_lines : PySem.W.nsIn K mainGlobals "some_lines" = some (some (.ref f_some_lines)))
    (l_some_lines : K.lookup f_some_lines = some ⟨oc_some_lines, od_some_lines, .func (PySem.W.fnOf "some_lines" "some_lines" (defArgs s_some_lines) (defBody s_some_lines) (defScope s_some_lines) .none kV_some_lines dc_some_lines pm_some_lines an_some_lines cd_some_lines ct_some_lines), sl_some_lines⟩)
    (q_some_lines : PySem.W.codeIn K cd_some_lines "some_lines" = true)
    (k_some_lines : PySem.W.keepIn K (.ref f_some_lines) = true)
    (a_roots_of : PySem.W.nsIn K mainGlobals "roots_of" = some (some (.ref f_roots_of)))
    (l_roots_of : K.lookup f_roots_of = some ⟨oc_roots_of, od_roots_of, .func (PySem.W.fnOf "roots_of" "roots_of" (defArgs s_roots_of) (defBody s_roots_of) (defScope s_roots_of) .none kV_roots_of dc_roots_of pm_roots_of an_roots_of cd_roots_of ct_roots_of), sl_roots_of⟩)
    (q_roots_of : PySem.W.codeIn K cd_roots_of "roots_of" = true)
    (k_roots_of : PySem.W.keepIn K (.ref f_roots_of) = true)
    (a_drawn : PySem.W.nsIn K mainGlobals "drawn" = some (some (.ref f_drawn)))
    (l_drawn : K.lookup f_drawn = some ⟨oc_drawn, od_drawn, .func (PySem.W.fnOf "drawn" "drawn" (defArgs s_drawn) (defBody s_drawn) (defScope s_drawn) .none kV_drawn dc_drawn pm_drawn an_drawn cd_drawn ct_drawn), sl_drawn⟩)
    (q_drawn : PySem.W.codeIn K cd_drawn "drawn" = true)
    (k_drawn : PySem.W.keepIn K (.ref f_drawn) = true)
    (a_law_is_whole : PySem.W.nsIn K mainGlobals "_law_is_whole" = some (some (.ref f_law_is_whole)))
    (l_law_is_whole : K.lookup f_law_is_whole = some ⟨oc_law_is_whole, od_law_is_whole, .func (PySem.W.fnOf "_law_is_whole" "_law_is_whole" (defArgs s_law_is_whole) (defBody s_law_is_whole) (defScope s_law_is_whole) .none kV_law_is_whole dc_law_is_whole pm_law_is_whole an_law_is_whole cd_law_is_whole ct_law_is_whole), sl_law_is_whole⟩)
    (q_law_is_whole : PySem.W.codeIn K cd_law_is_whole "_law_is_whole" = true)
    (k_law_is_whole : PySem.W.keepIn K (.ref f_law_is_whole) = true)
    (a_law_is_index : PySem.W.nsIn K mainGlobals "_law_is_index" = some (some (.ref f_law_is_index)))
    (l_law_is_index : K.lookup f_law_is_index = some ⟨oc_law_is_index, od_law_is_index, .func (PySem.W.fnOf "_law_is_index" "_law_is_index" (defArgs s_law_is_index) (defBody s_law_is_index) (defScope s_law_is_index) .none kV_law_is_index dc_law_is_index pm_law_is_index an_law_is_index cd_law_is_index ct_law_is_index), sl_law_is_index⟩)
    (q_law_is_index : PySem.W.codeIn K cd_law_is_index "_law_is_index" = true)
    (k_law_is_index : PySem.W.keepIn K (.ref f_law_is_index) = true)
    (a_law_sorted : PySem.W.nsIn K mainGlobals "_law_sorted" = some (some (.ref f_law_sorted)))
    (l_law_sorted : K.lookup f_law_sorted = some ⟨oc_law_sorted, od_law_sorted, .func (PySem.W.fnOf "_law_sorted" "_law_sorted" (defArgs s_law_sorted) (defBody s_law_sorted) (defScope s_law_sorted) .none kV_law_sorted dc_law_sorted pm_law_sorted an_law_sorted cd_law_sorted ct_law_sorted), sl_law_sorted⟩)
    (q_law_sorted : PySem.W.codeIn K cd_law_sorted "_law_sorted" = true)
    (k_law_sorted : PySem.W.keepIn K (.ref f_law_sorted) = true)
    (a_law_resolved : PySem.W.nsIn K mainGlobals "_law_resolved" = some (some (.ref f_law_resolved)))
    (l_law_resolved : K.lookup f_law_resolved = some ⟨oc_law_resolved, od_law_resolved, .func (PySem.W.fnOf "_law_resolved" "_law_resolved" (defArgs s_law_resolved) (defBody s_law_resolved) (defScope s_law_resolved) .none kV_law_resolved dc_law_resolved pm_law_resolved an_law_resolved cd_law_resolved ct_law_resolved), sl_law_resolved⟩)
    (q_law_resolved : PySem.W.codeIn K cd_law_resolved "_law_resolved" = true)
    (k_law_resolved : PySem.W.keepIn K (.ref f_law_resolved) = true)
    (a_law_line_of : PySem.W.nsIn K mainGlobals "_law_line_of" = some (some (.ref f_law_line_of)))
    (l_law_line_of : K.lookup f_law_line_of = some ⟨oc_law_line_of, od_law_line_of, .func (PySem.W.fnOf "_law_line_of" "_law_line_of" (defArgs s_law_line_of) (defBody s_law_line_of) (defScope s_law_line_of) .none kV_law_line_of dc_law_line_of pm_law_line_of an_law_line_of cd_law_line_of ct_law_line_of), sl_law_line_of⟩)
    (q_law_line_of : PySem.W.codeIn K cd_law_line_of "_law_line_of" = true)
    (k_law_line_of : PySem.W.keepIn K (.ref f_law_line_of) = true)
    (a_law_line_clauses : PySem.W.nsIn K mainGlobals "_law_line_clauses" = some (some (.ref f_law_line_clauses)))
    (l_law_line_clauses : K.lookup f_law_line_clauses = some ⟨oc_law_line_clauses, od_law_line_clauses, .func (PySem.W.fnOf "_law_line_clauses" "_law_line_clauses" (defArgs s_law_line_clauses) (defBody s_law_line_clauses) (defScope s_law_line_clauses) .none kV_law_line_clauses dc_law_line_clauses pm_law_line_clauses an_law_line_clauses cd_law_line_clauses ct_law_line_clauses), sl_law_line_clauses⟩)
    (q_law_line_clauses : PySem.W.codeIn K cd_law_line_clauses "_law_line_clauses" = true)
    (k_law_line_clauses : PySem.W.keepIn K (.ref f_law_line_clauses) = true)
    (a_law_asked : PySem.W.nsIn K mainGlobals "_law_asked" = some (some (.ref f_law_asked)))
    (l_law_asked : K.lookup f_law_asked = some ⟨oc_law_asked, od_law_asked, .func (PySem.W.fnOf "_law_asked" "_law_asked" (defArgs s_law_asked) (defBody s_law_asked) (defScope s_law_asked) .none kV_law_asked dc_law_asked pm_law_asked an_law_asked cd_law_asked ct_law_asked), sl_law_asked⟩)
    (q_law_asked : PySem.W.codeIn K cd_law_asked "_law_asked" = true)
    (k_law_asked : PySem.W.keepIn K (.ref f_law_asked) = true)
    (a_law_marks : PySem.W.nsIn K mainGlobals "_law_marks" = some (some (.ref f_law_marks)))
    (l_law_marks : K.lookup f_law_marks = some ⟨oc_law_marks, od_law_marks, .func (PySem.W.fnOf "_law_marks" "_law_marks" (defArgs s_law_marks) (defBody s_law_marks) (defScope s_law_marks) .none kV_law_marks dc_law_marks pm_law_marks an_law_marks cd_law_marks ct_law_marks), sl_law_marks⟩)
    (q_law_marks : PySem.W.codeIn K cd_law_marks "_law_marks" = true)
    (k_law_marks : PySem.W.keepIn K (.ref f_law_marks) = true)
    (a_law_roots : PySem.W.nsIn K mainGlobals "_law_roots" = some (some (.ref f_law_roots)))
    (l_law_roots : K.lookup f_law_roots = some ⟨oc_law_roots, od_law_roots, .func (PySem.W.fnOf "_law_roots" "_law_roots" (defArgs s_law_roots) (defBody s_law_roots) (defScope s_law_roots) .none kV_law_roots dc_law_roots pm_law_roots an_law_roots cd_law_roots ct_law_roots), sl_law_roots⟩)
    (q_law_roots : PySem.W.codeIn K cd_law_roots "_law_roots" = true)
    (k_law_roots : PySem.W.keepIn K (.ref f_law_roots) = true)
    (a_law_drawn_of : PySem.W.nsIn K mainGlobals "_law_drawn_of" = some (some (.ref f_law_drawn_of)))
    (l_law_drawn_of : K.lookup f_law_drawn_of = some ⟨oc_law_drawn_of, od_law_drawn_of, .func (PySem.W.fnOf "_law_drawn_of" "_law_drawn_of" (defArgs s_law_drawn_of) (defBody s_law_drawn_of) (defScope s_law_drawn_of) .none kV_law_drawn_of dc_law_drawn_of pm_law_drawn_of an_law_drawn_of cd_law_drawn_of ct_law_drawn_of), sl_law_drawn_of⟩)
    (q_law_drawn_of : PySem.W.codeIn K cd_law_drawn_of "_law_drawn_of" = true)
    (k_law_drawn_of : PySem.W.keepIn K (.ref f_law_drawn_of) = true)
    (a_law_longer : PySem.W.nsIn K mainGlobals "_law_longer" = some (some (.ref f_law_longer)))
    (l_law_longer : K.lookup f_law_longer = some ⟨oc_law_longer, od_law_longer, .func (PySem.W.fnOf "_law_longer" "_law_longer" (defArgs s_law_longer) (defBody s_law_longer) (defScope s_law_longer) .none kV_law_longer dc_law_longer pm_law_longer an_law_longer cd_law_longer ct_law_longer), sl_law_longer⟩)
    (q_law_longer : PySem.W.codeIn K cd_law_longer "_law_longer" = true)
    (k_law_longer : PySem.W.keepIn K (.ref f_law_longer) = true)
    (a_law_rows : PySem.W.nsIn K mainGlobals "_law_rows" = some (some (.ref f_law_rows)))
    (l_law_rows : K.lookup f_law_rows = some ⟨oc_law_rows, od_law_rows, .func (PySem.W.fnOf "_law_rows" "_law_rows" (defArgs s_law_rows) (defBody s_law_rows) (defScope s_law_rows) .none kV_law_rows dc_law_rows pm_law_rows an_law_rows cd_law_rows ct_law_rows), sl_law_rows⟩)
    (q_law_rows : PySem.W.codeIn K cd_law_rows "_law_rows" = true)
    (k_law_rows : PySem.W.keepIn K (.ref f_law_rows) = true)
    (a_law_fits : PySem.W.nsIn K mainGlobals "_law_fits" = some (some (.ref f_law_fits)))
    (l_law_fits : K.lookup f_law_fits = some ⟨oc_law_fits, od_law_fits, .func (PySem.W.fnOf "_law_fits" "_law_fits" (defArgs s_law_fits) (defBody s_law_fits) (defScope s_law_fits) .none kV_law_fits dc_law_fits pm_law_fits an_law_fits cd_law_fits ct_law_fits), sl_law_fits⟩)
    (q_law_fits : PySem.W.codeIn K cd_law_fits "_law_fits" = true)
    (k_law_fits : PySem.W.keepIn K (.ref f_law_fits) = true)
    (a_law_models : PySem.W.nsIn K mainGlobals "_law_models" = some (some (.ref f_law_models)))
    (l_law_models : K.lookup f_law_models = some ⟨oc_law_models, od_law_models, .func (PySem.W.fnOf "_law_models" "_law_models" (defArgs s_law_models) (defBody s_law_models) (defScope s_law_models) .none kV_law_models dc_law_models pm_law_models an_law_models cd_law_models ct_law_models), sl_law_models⟩)
    (q_law_models : PySem.W.codeIn K cd_law_models "_law_models" = true)
    (k_law_models : PySem.W.keepIn K (.ref f_law_models) = true)
    (a_law_next_variable : PySem.W.nsIn K mainGlobals "_law_next_variable" = some (some (.ref f_law_next_variable)))
    (l_law_next_variable : K.lookup f_law_next_variable = some ⟨oc_law_next_variable, od_law_next_variable, .func (PySem.W.fnOf "_law_next_variable" "_law_next_variable" (defArgs s_law_next_variable) (defBody s_law_next_variable) (defScope s_law_next_variable) .none kV_law_next_variable dc_law_next_variable pm_law_next_variable an_law_next_variable cd_law_next_variable ct_law_next_variable), sl_law_next_variable⟩)
    (q_law_next_variable : PySem.W.codeIn K cd_law_next_variable "_law_next_variable" = true)
    (k_law_next_variable : PySem.W.keepIn K (.ref f_law_next_variable) = true)
    (a_law_refuted : PySem.W.nsIn K mainGlobals "_law_refuted" = some (some (.ref f_law_refuted)))
    (l_law_refuted : K.lookup f_law_refuted = some ⟨oc_law_refuted, od_law_refuted, .func (PySem.W.fnOf "_law_refuted" "_law_refuted" (defArgs s_law_refuted) (defBody s_law_refuted) (defScope s_law_refuted) .none kV_law_refuted dc_law_refuted pm_law_refuted an_law_refuted cd_law_refuted ct_law_refuted), sl_law_refuted⟩)
    (q_law_refuted : PySem.W.codeIn K cd_law_refuted "_law_refuted" = true)
    (k_law_refuted : PySem.W.keepIn K (.ref f_law_refuted) = true)
    (a_law_paper : PySem.W.nsIn K mainGlobals "_law_paper" = some (some (.ref f_law_paper)))
    (l_law_paper : K.lookup f_law_paper = some ⟨oc_law_paper, od_law_paper, .func (PySem.W.fnOf "_law_paper" "_law_paper" (defArgs s_law_paper) (defBody s_law_paper) (defScope s_law_paper) .none kV_law_paper dc_law_paper pm_law_paper an_law_paper cd_law_paper ct_law_paper), sl_law_paper⟩)
    (q_law_paper : PySem.W.codeIn K cd_law_paper "_law_paper" = true)
    (k_law_paper : PySem.W.keepIn K (.ref f_law_paper) = true)
    (a_law_draw : PySem.W.nsIn K mainGlobals "_law_draw" = some (some (.ref f_law_draw)))
    (l_law_draw : K.lookup f_law_draw = some ⟨oc_law_draw, od_law_draw, .func (PySem.W.fnOf "_law_draw" "_law_draw" (defArgs s_law_draw) (defBody s_law_draw) (defScope s_law_draw) .none kV_law_draw dc_law_draw pm_law_draw an_law_draw cd_law_draw ct_law_draw), sl_law_draw⟩)
    (q_law_draw : PySem.W.codeIn K cd_law_draw "_law_draw" = true)
    (k_law_draw : PySem.W.keepIn K (.ref f_law_draw) = true)
    (a_law_pick : PySem.W.nsIn K mainGlobals "_law_pick" = some (some (.ref f_law_pick)))
    (l_law_pick : K.lookup f_law_pick = some ⟨oc_law_pick, od_law_pick, .func (PySem.W.fnOf "_law_pick" "_law_pick" (defArgs s_law_pick) (defBody s_law_pick) (defScope s_law_pick) .none kV_law_pick dc_law_pick pm_law_pick an_law_pick cd_law_pick ct_law_pick), sl_law_pick⟩)
    (q_law_pick : PySem.W.codeIn K cd_law_pick "_law_pick" = true)
    (k_law_pick : PySem.W.keepIn K (.ref f_law_pick) = true)
    (a_law_drawn_clause : PySem.W.nsIn K mainGlobals "_law_drawn_clause" = some (some (.ref f_law_drawn_clause)))
    (l_law_drawn_clause : K.lookup f_law_drawn_clause = some ⟨oc_law_drawn_clause, od_law_drawn_clause, .func (PySem.W.fnOf "_law_drawn_clause" "_law_drawn_clause" (defArgs s_law_drawn_clause) (defBody s_law_drawn_clause) (defScope s_law_drawn_clause) .none kV_law_drawn_clause dc_law_drawn_clause pm_law_drawn_clause an_law_drawn_clause cd_law_drawn_clause ct_law_drawn_clause), sl_law_drawn_clause⟩)
    (q_law_drawn_clause : PySem.W.codeIn K cd_law_drawn_clause "_law_drawn_clause" = true)
    (k_law_drawn_clause : PySem.W.keepIn K (.ref f_law_drawn_clause) = true)
    (a_law_drawn_row : PySem.W.nsIn K mainGlobals "_law_drawn_row" = some (some (.ref f_law_drawn_row)))
    (l_law_drawn_row : K.lookup f_law_drawn_row = some ⟨oc_law_drawn_row, od_law_drawn_row, .func (PySem.W.fnOf "_law_drawn_row" "_law_drawn_row" (defArgs s_law_drawn_row) (defBody s_law_drawn_row) (defScope s_law_drawn_row) .none kV_law_drawn_row dc_law_drawn_row pm_law_drawn_row an_law_drawn_row cd_law_drawn_row ct_law_drawn_row), sl_law_drawn_row⟩)
    (q_law_drawn_row : PySem.W.codeIn K cd_law_drawn_row "_law_drawn_row" = true)
    (k_law_drawn_row : PySem.W.keepIn K (.ref f_law_drawn_row) = true)
    (a_law_drawn_lines : PySem.W.nsIn K mainGlobals "_law_drawn_lines" = some (some (.ref f_law_drawn_lines)))
    (l_law_drawn_lines : K.lookup f_law_drawn_lines = some ⟨oc_law_drawn_lines, od_law_drawn_lines, .func (PySem.W.fnOf "_law_drawn_lines" "_law_drawn_lines" (defArgs s_law_drawn_lines) (defBody s_law_drawn_lines) (defScope s_law_drawn_lines) .none kV_law_drawn_lines dc_law_drawn_lines pm_law_drawn_lines an_law_drawn_lines cd_law_drawn_lines ct_law_drawn_lines), sl_law_drawn_lines⟩)
    (q_law_drawn_lines : PySem.W.codeIn K cd_law_drawn_lines "_law_drawn_lines" = true)
    (k_law_drawn_lines : PySem.W.keepIn K (.ref f_law_drawn_lines) = true)
    (a_law_pen : PySem.W.nsIn K mainGlobals "_law_pen" = some (some (.ref f_law_pen)))
    (l_law_pen : K.lookup f_law_pen = some ⟨oc_law_pen, od_law_pen, .func (PySem.W.fnOf "_law_pen" "_law_pen" (defArgs s_law_pen) (defBody s_law_pen) (defScope s_law_pen) .none kV_law_pen dc_law_pen pm_law_pen an_law_pen cd_law_pen ct_law_pen), sl_law_pen⟩)
    (q_law_pen : PySem.W.codeIn K cd_law_pen "_law_pen" = true)
    (k_law_pen : PySem.W.keepIn K (.ref f_law_pen) = true)
    (a_law_fault : PySem.W.nsIn K mainGlobals "_law_fault" = some (some (.ref f_law_fault)))
    (l_law_fault : K.lookup f_law_fault = some ⟨oc_law_fault, od_law_fault, .func (PySem.W.fnOf "_law_fault" "_law_fault" (defArgs s_law_fault) (defBody s_law_fault) (defScope s_law_fault) .none kV_law_fault dc_law_fault pm_law_fault an_law_fault cd_law_fault ct_law_fault), sl_law_fault⟩)
    (q_law_fault : PySem.W.codeIn K cd_law_fault "_law_fault" = true)
    (k_law_fault : PySem.W.keepIn K (.ref f_law_fault) = true)
    (a_law : PySem.W.nsIn K mainGlobals "law" = some (some (.ref f_law)))
    (l_law : K.lookup f_law = some ⟨oc_law, od_law, .func (PySem.W.fnOf "law" "law" (defArgs s_law) (defBody s_law) (defScope s_law) .none kV_law dc_law pm_law an_law (.ref c) ct_law), sl_law⟩)
    (q_law : PySem.W.codeIn K (.ref c) "law" = true)
    (k_law : PySem.W.keepIn K (.ref f_law) = true)
    (a_isr : PySem.W.nsIn K mainGlobals "is_refutation" = some (some (.ref f_isr)))
    (l_isr : K.lookup f_isr = some ⟨oc_isr, od_isr, .func (PySem.W.fnOf "is_refutation" "is_refutation" (defArgs s_is_refutation) (defBody s_is_refutation) (defScope s_is_refutation) (.ref Tr) kV_isr dc_isr pm_isr an_isr cd_isr ct_isr), sl_isr⟩)
    (q_isr : PySem.W.codeIn K cd_isr "is_refutation" = true)
    (k_isr : PySem.W.keepIn K (.ref f_isr) = true)
    (t_isr : K.lookup Tr = some ⟨oT, odT, .seq #[.ref ar] nT, slT⟩)
    (u_isr : K.lookup ar = some ⟨.type "tuple", odA, .seq #[] nA, slA⟩)
    (z_isinstance : PySem.W.nsIn K mainGlobals "isinstance" = some none)
    (z_int : PySem.W.nsIn K mainGlobals "int" = some none)
    (z_bool : PySem.W.nsIn K mainGlobals "bool" = some none)
    (z_tuple : PySem.W.nsIn K mainGlobals "tuple" = some none)
    (z_list : PySem.W.nsIn K mainGlobals "list" = some none)
    (z_len : PySem.W.nsIn K mainGlobals "len" = some none)
    (z_any : PySem.W.nsIn K mainGlobals "any" = some none)
    (z_all : PySem.W.nsIn K mainGlobals "all" = some none)
    (z_sorted : PySem.W.nsIn K mainGlobals "sorted" = some none)
    (z_set : PySem.W.nsIn K mainGlobals "set" = some none)
    (z_abs : PySem.W.nsIn K mainGlobals "abs" = some none)
    (z_range : PySem.W.nsIn K mainGlobals "range" = some none)
    (z_enumerate : PySem.W.nsIn K mainGlobals "enumerate" = some none)
    (z_zip : PySem.W.nsIn K mainGlobals "zip" = some none)
    (z_super : PySem.W.nsIn K mainGlobals "super" = some none)
    (x_gC : PySem.W.nsIn K mainGlobals "BadRow" = some (some (.ref C)))
    (x_cls : K.lookup C = some (PySem.excClassObj nm qn C NC bs bm true sn sub ab col dd k0 k1 k2 k3 k5 "ValueError.__new__"))
    (x_refs : PySem.HandSPX.refsVE bm = true)
    (x_sa : PySem.W.findIn K (.ref C) "__setattr__" = some (some (.builtin "object.__setattr__")))
    (x_ga : PySem.W.findIn K (.ref C) "__getattribute__" = some (some (.builtin "BaseException.__getattribute__")))
    (x_gg : PySem.W.findIn K (.ref C) "__getattr__" = some none)
    (x_noN : PySem.W.findIn K (.ref C) "row" = some none)
    (x_iC : PySem.W.findIn K (.ref C) "__init__" = some (some (.ref fI)))
    (x_tC : PySem.W.typeIn K (.ref fI) = some (.type "function"))
    (x_kC : PySem.W.keepIn K (.ref C) = true)
    (x_exC : PySem.W.subIn K (.ref C) (.type "BaseException") = some true)
    (x_tyC : PySem.W.typeIn K (.ref C) = some (.type "type"))
    (x_hdC : PySem.W.hasDictIn K C = true)
    (x_te : PySem.W.exmOne K (.ref C) (.ref C) = some true)
    (x_st : PySem.W.nsIn K cStatics "thirdparty.any" = some none)
    (x_al : PySem.W.ks_superIn K C C "__init__" = some (some (.builtin "ValueError.__init__")))
    (x_mr : PySem.W.mroIn K C (.ref C) = some true)
    (x_sv : PySem.W.subIn K (.ref C) (.type "ValueError") = some true)
    (x_top : (l.prog.main.scope.names.lookup ("super" : Str)).isSome = false)
    (x_f1 : K.lookup fI = some ⟨oI, odI, .func (PySem.W.ksFn "__init__" "BadRow.__init__" PySem.BRX.iA PySem.BRX.iB PySem.BRX.iS .none .none docI pmI anI (.ref cda) ctI cc), slI⟩)
    (x_f2 : PySem.W.codeIn K (.ref cda) "BadRow.__init__" = true)
    (x_f3 : K.lookup cda = some ⟨ccl, cdd, .fields vsI, ccs⟩)
    (x_f4 : vsI[2]? = some (.str file tf))
    (x_f5 : ((l.prog.main.file : Str) == file) = true)
    (x_f6 : K.lookup cc = some ⟨clI, cld, .cell (some (.ref C)), csl⟩)
    (y1 : K.lookup c = some ⟨ec, dc, .fields vsc, slc⟩)
    (y2 : vsc[11]? = some (.ref Pt))
    (cH : PySem.W.codeHdIn K c Pt = true)
    (nPt : K.lookup Pt = none)
    : LamX.LawAtS l w K CX0 81 63 "_law_script" mg fa h := by
  have e := hfa.symm.trans (PySem.W.mg_of X G a_law)
  cases e
  have hemp : h.get? Pt = some { cls := .none, data := .fields #[] } := ow c Pt _ _ _ _ _ _ l_law rfl rfl y1 y2
  have har : ∀ H, SqT K H ar [] := fun H => .inr ⟨_, _, _, u_isr, rfl, rfl, Nat.zero_le _, .nil⟩
  have b : Bl mg := ⟨PySem.W.mg_none_of X G z_isinstance, PySem.W.mg_none_of X G z_int, PySem.W.mg_none_of X G z_bool, PySem.W.mg_none_of X G z_tuple, PySem.W.mg_none_of X G z_list, PySem.W.mg_none_of X G z_len, PySem.W.mg_none_of X G z_any, PySem.W.mg_none_of X G z_all, PySem.W.mg_none_of X G z_sorted, PySem.W.mg_none_of X G z_set, PySem.W.mg_none_of X G z_abs, PySem.W.mg_none_of X G z_range, PySem.W.mg_none_of X G z_enumerate, PySem.W.mg_none_of X G z_zip, PySem.W.mg_none_of X G z_super⟩
  have hT : PySem.BRX.Txt l.prog K mg C fI := ⟨PySem.W.mg_of X G x_gC, b.super_, ⟨_, _, _, _, _, _, _, _, _, _, _, _, _, _, _, x_cls, x_refs⟩, x_sa, x_ga, x_gg, x_noN, x_iC, x_tC, x_kC, x_exC, x_tyC, x_hdC, x_te, x_st, x_al, x_mr, x_sv, x_top, ⟨_, _, _, _, _, _, _, _, _, _, _, _, _, _, _, _, _, _, x_f1, x_f2, x_f3, x_f4, x_f5, x_f6⟩⟩
  refine ⟨PySem.W.fnOf "law" "law" (defArgs s_law) (defBody s_law) (defScope s_law) .none kV_law dc_law pm_law an_law (.ref c) ct_law, [(c, Pt)], SpLaw K Pt, fun p hp => ?_, fun p hp => ?_, fun p hp => ?_, fun s v => .of_eq rfl, fun H a ns hl _ hP hS => ⟨a, ns, rfl, hS, hl, hP _ (List.mem_singleton.mpr rfl), fun _ => rfl⟩, fun base KB GB hTB => ?_⟩
  · rw [List.mem_singleton.mp hp]; exact hemp
  · rw [List.mem_singleton.mp hp]; exact nPt
  · rw [List.mem_singleton.mp hp]; exact PySem.W.codeHd_of_K X cH
  have TB := hTB _ (List.mem_singleton.mpr rfl)
  have F_is_count := fun_mk (st := s_is_count) l_is_count q_is_count k_is_count
  have b_is_count := F_is_count.binds (ps := p_is_count) fun _ _ _ _ _ _ us hl => match us, hl with | [_], _ => rfl
  have m_is_count := PySem.W.mg_of X G a_is_count
  have c_is_count := mkCal (ok_is_count (P := l.prog) (w := w) (base := base) b F_is_count) m_is_count k_is_count b_is_count
  have F_resolvent := fun_mk (st := s_resolvent) l_resolvent q_resolvent k_resolvent
  have b_resolvent := F_resolvent.binds (ps := p_resolvent) fun _ _ _ _ _ _ us hl => match us, hl with | [_, _, _], _ => rfl
  have m_resolvent := PySem.W.mg_of X G a_resolvent
  have c_resolvent := mkCal (ok_resolvent (P := l.prog) (w := w) (base := base) b F_resolvent) m_resolvent k_resolvent b_resolvent
  have F_chain_clause := fun_mk (st := s_chain_clause) l_chain_clause q_chain_clause k_chain_clause
  have b_chain_clause := F_chain_clause.binds (ps := p_chain_clause) fun _ _ _ _ _ _ us hl => match us, hl with | [_, _], _ => rfl
  have m_chain_clause := PySem.W.mg_of X G a_chain_clause
  have c_chain_clause := mkCal (ok_chain_clause (P := l.prog) (w := w) (base := base) b c_is_count c_resolvent F_chain_clause) m_chain_clause k_chain_clause b_chain_clause
  have F_line_clause := fun_mk (st := s_line_clause) l_line_clause q_line_clause k_line_clause
  have b_line_clause := F_line_clause.binds (ps := p_line_clause) fun _ _ _ _ _ _ us hl => match us, hl with | [_, _, _], _ => rfl
  have m_line_clause := PySem.W.mg_of X G a_line_clause
  have c_line_clause := mkCal (ok_line_clause (P := l.prog) (w := w) (base := base) b c_is_count c_chain_clause F_line_clause) m_line_clause k_line_clause b_line_clause
  have F_all_clauses := fun_mk (st := s_all_clauses) l_all_clauses q_all_clauses k_all_clauses
  have b_all_clauses := F_all_clauses.binds (ps := p_all_clauses) fun _ _ _ _ _ _ us hl => match us, hl with | [_, _], _ => rfl
  have m_all_clauses := PySem.W.mg_of X G a_all_clauses
  have c_all_clauses := mkCal (ok_all_clauses (P := l.prog) (w := w) (base := base) b c_line_clause F_all_clauses) m_all_clauses k_all_clauses b_all_clauses
  have F_as_rows := fun_mk (st := s_as_rows) l_as_rows q_as_rows k_as_rows
  have b_as_rows := F_as_rows.binds (ps := p_as_rows) fun _ _ _ _ _ _ us hl => match us, hl with | [_], _ => rfl
  have m_as_rows := PySem.W.mg_of X G a_as_rows
  have c_as_rows := mkCal (ok_as_rows (P := l.prog) (w := w) (base := base) b F_as_rows m_as_rows k_as_rows b_as_rows 5) m_as_rows k_as_rows b_as_rows
  have F_asked_by := fun_mk (st := s_asked_by) l_asked_by q_asked_by k_asked_by
  have b_asked_by := F_asked_by.binds (ps := p_asked_by) fun _ _ _ _ _ _ us hl => match us, hl with | [_], _ => rfl
  have m_asked_by := PySem.W.mg_of X G a_asked_by
  have c_asked_by := mkCal (ok_asked_by (P := l.prog) (w := w) (base := base) b F_asked_by) m_asked_by k_asked_by b_asked_by
  have F_marked := fun_mk (st := s_marked) l_marked q_marked k_marked
  have b_marked := F_marked.binds (ps := p_marked) fun _ _ _ _ _ _ us hl => match us, hl with | [_], _ => rfl
  have m_marked := PySem.W.mg_of X G a_marked
  have c_marked := mkCal (ok_marked (P := l.prog) (w := w) (base := base) b c_asked_by F_marked) m_marked k_marked b_marked
  have F_line_clauses := fun_mk (st := s_line_clauses) l_line_clauses q_line_clauses k_line_clauses
  have b_line_clauses := F_line_clauses.binds (ps := p_line_clauses) fun _ _ _ _ _ _ us hl => match us, hl with | [_, _], _ => rfl
  have m_line_clauses := PySem.W.mg_of X G a_line_clauses
  have c_line_clauses := mkCalR (ok_line_clauses (P := l.prog) (w := w) (base := base) b hT c_all_clauses c_as_rows F_line_clauses) m_line_clauses k_line_clauses b_line_clauses
  have F_some_lines := fun_mk (st := s_some_lines) l_some_lines q_some_lines k_some_lines
  have b_some_lines := F_some_lines.binds (ps := p_some_lines) fun _ _ _ _ _ _ us hl => match us, hl with | [_, _], _ => rfl
  have m_some_lines := PySem.W.mg_of X G a_some_lines
  have c_some_lines := mkCalR (ok_some_lines (P := l.prog) (w := w) (base := base) b hT c_line_clauses c_as_rows F_some_lines) m_some_lines k_some_lines b_some_lines
  have F_roots_of := fun_mk (st := s_roots_of) l_roots_of q_roots_of k_roots_of
  have b_roots_of := F_roots_of.binds (ps := p_roots_of) fun _ _ _ _ _ _ us hl => match us, hl with | [_, _], _ => rfl
  have m_roots_of := PySem.W.mg_of X G a_roots_of
  have c_roots_of := mkCalR (ok_roots_of (P := l.prog) (w := w) (base := base) b c_some_lines c_marked F_roots_of) m_roots_of k_roots_of b_roots_of
  have F_drawn := fun_mk (st := s_drawn) l_drawn q_drawn k_drawn
  have b_drawn := F_drawn.binds (ps := p_drawn) fun _ _ _ _ _ _ us hl => match us, hl with | [_, _], _ => rfl
  have m_drawn := PySem.W.mg_of X G a_drawn
  have c_drawn := mkCalR (ok_drawn (P := l.prog) (w := w) (base := base) b c_some_lines c_marked F_drawn) m_drawn k_drawn b_drawn
  have F_isr : FunD K "is_refutation" "is_refutation" (defArgs s_is_refutation) (defBody s_is_refutation) (defScope s_is_refutation) [.ref ar] [] f_isr _ := ⟨⟨_, _, _, _, _, _, _, _, _, _, rfl, l_isr, q_isr, .inr ⟨by simp, Tr, _, [.ref ar], _, rfl, t_isr, rfl, .cons rfl .nil⟩, .inl rfl⟩, k_isr⟩
  obtain ⟨ds_isr, v_isr, b_isr⟩ := F_isr.binds1 (ps := p_is_refutation) 2 0 (by simp) rfl fun T kV doc pm an cdv ct us its h1 h2 => match us, its, h1, h2 with | [_, _], [_], _, _ => ⟨_, rfl, rfl⟩
  have c_is_refutation : CalD l.prog w K mg base 69 "is_refutation" p_is_refutation (SpF K fRef) ar := ⟨⟨_, _, _, ok_is_refutation b c_all_clauses F_isr, PySem.W.mg_of X G a_isr, k_isr, b_isr, v_isr⟩, har⟩
  have F_law_is_whole := fun_mk (st := s_law_is_whole) l_law_is_whole q_law_is_whole k_law_is_whole
  have b_law_is_whole := F_law_is_whole.binds (ps := p_law_is_whole) fun _ _ _ _ _ _ us hl => match us, hl with | [_], _ => rfl
  have m_law_is_whole := PySem.W.mg_of X G a_law_is_whole
  have c_law_is_whole := mkCal (ok_law_is_whole (P := l.prog) (w := w) (base := base) b F_law_is_whole) m_law_is_whole k_law_is_whole b_law_is_whole
  have F_law_is_index := fun_mk (st := s_law_is_index) l_law_is_index q_law_is_index k_law_is_index
  have b_law_is_index := F_law_is_index.binds (ps := p_law_is_index) fun _ _ _ _ _ _ us hl => match us, hl with | [_, _], _ => rfl
  have m_law_is_index := PySem.W.mg_of X G a_law_is_index
  have c_law_is_index := mkCal (ok_law_is_index (P := l.prog) (w := w) (base := base) b c_law_is_whole F_law_is_index) m_law_is_index k_law_is_index b_law_is_index
  have F_law_sorted := fun_mk (st := s_law_sorted) l_law_sorted q_law_sorted k_law_sorted
  have b_law_sorted := F_law_sorted.binds (ps := p_law_sorted) fun _ _ _ _ _ _ us hl => match us, hl with | [_], _ => rfl
  have m_law_sorted := PySem.W.mg_of X G a_law_sorted
  have c_law_sorted := mkCal (ok_law_sorted (P := l.prog) (w := w) (base := base) b F_law_sorted) m_law_sorted k_law_sorted b_law_sorted
  have F_law_resolved := fun_mk (st := s_law_resolved) l_law_resolved q_law_resolved k_law_resolved
  have b_law_resolved := F_law_resolved.binds (ps := p_law_resolved) fun _ _ _ _ _ _ us hl => match us, hl with | [_, _, _], _ => rfl
  have m_law_resolved := PySem.W.mg_of X G a_law_resolved
  have c_law_resolved := mkCal (ok_law_resolved (P := l.prog) (w := w) (base := base) b c_law_sorted F_law_resolved) m_law_resolved k_law_resolved b_law_resolved
  have F_law_line_of := fun_mk (st := s_law_line_of) l_law_line_of q_law_line_of k_law_line_of
  have b_law_line_of := F_law_line_of.binds (ps := p_law_line_of) fun _ _ _ _ _ _ us hl => match us, hl with | [_, _, _], _ => rfl
  have m_law_line_of := PySem.W.mg_of X G a_law_line_of
  have c_law_line_of := mkCal (ok_law_line_of (P := l.prog) (w := w) (base := base) b c_law_is_whole c_law_is_index c_law_resolved F_law_line_of) m_law_line_of k_law_line_of b_law_line_of
  have F_law_line_clauses := fun_mk (st := s_law_line_clauses) l_law_line_clauses q_law_line_clauses k_law_line_clauses
  have b_law_line_clauses := F_law_line_clauses.binds (ps := p_law_line_clauses) fun _ _ _ _ _ _ us hl => match us, hl with | [_, _], _ => rfl
  have m_law_line_clauses := PySem.W.mg_of X G a_law_line_clauses
  have c_law_line_clauses := mkCal (ok_law_line_clauses (P := l.prog) (w := w) (base := base) b c_law_line_of F_law_line_clauses) m_law_line_clauses k_law_line_clauses b_law_line_clauses
  have F_law_asked := fun_mk (st := s_law_asked) l_law_asked q_law_asked k_law_asked
  have b_law_asked := F_law_asked.binds (ps := p_law_asked) fun _ _ _ _ _ _ us hl => match us, hl with | [_], _ => rfl
  have m_law_asked := PySem.W.mg_of X G a_law_asked
  have c_law_asked := mkCal (ok_law_asked (P := l.prog) (w := w) (base := base) b F_law_asked) m_law_asked k_law_asked b_law_asked
  have F_law_marks := fun_mk (st := s_law_marks) l_law_marks q_law_marks k_law_marks
  have b_law_marks := F_law_marks.binds (ps := p_law_marks) fun _ _ _ _ _ _ us hl => match us, hl with | [_], _ => rfl
  have m_law_marks := PySem.W.mg_of X G a_law_marks
  have c_law_marks := mkCal (ok_law_marks (P := l.prog) (w := w) (base := base) b c_law_asked F_law_marks) m_law_marks k_law_marks b_law_marks
  have F_law_roots := fun_mk (st := s_law_roots) l_law_roots q_law_roots k_law_roots
  have b_law_roots := F_law_roots.binds (ps := p_law_roots) fun _ _ _ _ _ _ us hl => match us, hl with | [_], _ => rfl
  have m_law_roots := PySem.W.mg_of X G a_law_roots
  have c_law_roots := mkCal (ok_law_roots (P := l.prog) (w := w) (base := base) b c_law_marks F_law_roots) m_law_roots k_law_roots b_law_roots
  have F_law_drawn_of := fun_mk (st := s_law_drawn_of) l_law_drawn_of q_law_drawn_of k_law_drawn_of
  have b_law_drawn_of := F_law_drawn_of.binds (ps := p_law_drawn_of) fun _ _ _ _ _ _ us hl => match us, hl with | [_], _ => rfl
  have m_law_drawn_of := PySem.W.mg_of X G a_law_drawn_of
  have c_law_drawn_of := mkCal (ok_law_drawn_of (P := l.prog) (w := w) (base := base) b c_law_marks F_law_drawn_of) m_law_drawn_of k_law_drawn_of b_law_drawn_of
  have F_law_longer := fun_mk (st := s_law_longer) l_law_longer q_law_longer k_law_longer
  have b_law_longer := F_law_longer.binds (ps := p_law_longer) fun _ _ _ _ _ _ us hl => match us, hl with | [_, _], _ => rfl
  have m_law_longer := PySem.W.mg_of X G a_law_longer
  have c_law_longer := mkCal (ok_law_longer (P := l.prog) (w := w) (base := base) b F_law_longer) m_law_longer k_law_longer b_law_longer
  have F_law_rows := fun_mk (st := s_law_rows) l_law_rows q_law_rows k_law_rows
  have b_law_rows := F_law_rows.binds (ps := p_law_rows) fun _ _ _ _ _ _ us hl => match us, hl with | [_], _ => rfl
  have m_law_rows := PySem.W.mg_of X G a_law_rows
  have c_law_rows := mkCal (ok_law_rows (P := l.prog) (w := w) (base := base) b c_law_longer F_law_rows) m_law_rows k_law_rows b_law_rows
  have F_law_fits := fun_mk (st := s_law_fits) l_law_fits q_law_fits k_law_fits
  have b_law_fits := F_law_fits.binds (ps := p_law_fits) fun _ _ _ _ _ _ us hl => match us, hl with | [_, _], _ => rfl
  have m_law_fits := PySem.W.mg_of X G a_law_fits
  have c_law_fits := mkCal (ok_law_fits (P := l.prog) (w := w) (base := base) b F_law_fits) m_law_fits k_law_fits b_law_fits
  have F_law_models := fun_mk (st := s_law_models) l_law_models q_law_models k_law_models
  have b_law_models := F_law_models.binds (ps := p_law_models) fun _ _ _ _ _ _ us hl => match us, hl with | [_, _, _], _ => rfl
  have m_law_models := PySem.W.mg_of X G a_law_models
  have c_law_models := mkCal (ok_law_models (P := l.prog) (w := w) (base := base) b c_law_rows c_law_fits F_law_models) m_law_models k_law_models b_law_models
  have F_law_next_variable := fun_mk (st := s_law_next_variable) l_law_next_variable q_law_next_variable k_law_next_variable
  have b_law_next_variable := F_law_next_variable.binds (ps := p_law_next_variable) fun _ _ _ _ _ _ us hl => match us, hl with | [_, _, _], _ => rfl
  have m_law_next_variable := PySem.W.mg_of X G a_law_next_variable
  have c_law_next_variable := mkCal (ok_law_next_variable (P := l.prog) (w := w) (base := base) b F_law_next_variable) m_law_next_variable k_law_next_variable b_law_next_variable
  have F_law_refuted := fun_mk (st := s_law_refuted) l_law_refuted q_law_refuted k_law_refuted
  have b_law_refuted := F_law_refuted.binds (ps := p_law_refuted) fun _ _ _ _ _ _ us hl => match us, hl with | [_, _, _, _], _ => rfl
  have m_law_refuted := PySem.W.mg_of X G a_law_refuted
  have c_law_refuted := mkCal (ok_law_refuted (P := l.prog) (w := w) (base := base) b c_law_next_variable c_law_resolved F_law_refuted m_law_refuted k_law_refuted b_law_refuted 6) m_law_refuted k_law_refuted b_law_refuted
  have F_law_paper := fun_mk (st := s_law_paper) l_law_paper q_law_paper k_law_paper
  have b_law_paper := F_law_paper.binds (ps := p_law_paper) fun _ _ _ _ _ _ us hl => match us, hl with | [_, _, _], _ => rfl
  have m_law_paper := PySem.W.mg_of X G a_law_paper
  have c_law_paper := mkCal (ok_law_paper (P := l.prog) (w := w) (base := base) b c_law_refuted F_law_paper) m_law_paper k_law_paper b_law_paper
  have F_law_draw := fun_mk (st := s_law_draw) l_law_draw q_law_draw k_law_draw
  have b_law_draw := F_law_draw.binds (ps := p_law_draw) fun _ _ _ _ _ _ us hl => match us, hl with | [_, _], _ => rfl
  have m_law_draw := PySem.W.mg_of X G a_law_draw
  have c_law_draw := mkCal (ok_law_draw (P := l.prog) (w := w) (base := base) b F_law_draw) m_law_draw k_law_draw b_law_draw
  have F_law_pick := fun_mk (st := s_law_pick) l_law_pick q_law_pick k_law_pick
  have b_law_pick := F_law_pick.binds (ps := p_law_pick) fun _ _ _ _ _ _ us hl => match us, hl with | [_, _], _ => rfl
  have m_law_pick := PySem.W.mg_of X G a_law_pick
  have c_law_pick := mkCal (ok_law_pick (P := l.prog) (w := w) (base := base) b c_law_draw F_law_pick) m_law_pick k_law_pick b_law_pick
  have F_law_drawn_clause := fun_mk (st := s_law_drawn_clause) l_law_drawn_clause q_law_drawn_clause k_law_drawn_clause
  have b_law_drawn_clause := F_law_drawn_clause.binds (ps := p_law_drawn_clause) fun _ _ _ _ _ _ us hl => match us, hl with | [_, _, _], _ => rfl
  have m_law_drawn_clause := PySem.W.mg_of X G a_law_drawn_clause
  have c_law_drawn_clause := mkCal (ok_law_drawn_clause (P := l.prog) (w := w) (base := base) b c_law_draw c_law_pick F_law_drawn_clause) m_law_drawn_clause k_law_drawn_clause b_law_drawn_clause
  have F_law_drawn_row := fun_mk (st := s_law_drawn_row) l_law_drawn_row q_law_drawn_row k_law_drawn_row
  have b_law_drawn_row := F_law_drawn_row.binds (ps := p_law_drawn_row) fun _ _ _ _ _ _ us hl => match us, hl with | [_, _, _], _ => rfl
  have m_law_drawn_row := PySem.W.mg_of X G a_law_drawn_row
  have c_law_drawn_row := mkCal (ok_law_drawn_row (P := l.prog) (w := w) (base := base) b c_law_pick c_law_drawn_clause F_law_drawn_row) m_law_drawn_row k_law_drawn_row b_law_drawn_row
  have F_law_drawn_lines := fun_mk (st := s_law_drawn_lines) l_law_drawn_lines q_law_drawn_lines k_law_drawn_lines
  have b_law_drawn_lines := F_law_drawn_lines.binds (ps := p_law_drawn_lines) fun _ _ _ _ _ _ us hl => match us, hl with | [_, _, _], _ => rfl
  have m_law_drawn_lines := PySem.W.mg_of X G a_law_drawn_lines
  have c_law_drawn_lines := mkCal (ok_law_drawn_lines (P := l.prog) (w := w) (base := base) b c_law_draw c_law_pick c_law_line_clauses c_law_resolved F_law_drawn_lines) m_law_drawn_lines k_law_drawn_lines b_law_drawn_lines
  have F_law_pen := fun_mk (st := s_law_pen) l_law_pen q_law_pen k_law_pen
  have b_law_pen := F_law_pen.binds (ps := p_law_pen) fun _ _ _ _ _ _ us hl => match us, hl with | [_], _ => rfl
  have m_law_pen := PySem.W.mg_of X G a_law_pen
  have c_law_pen := mkCal (ok_law_pen (P := l.prog) (w := w) (base := base) b F_law_pen) m_law_pen k_law_pen b_law_pen
  have F_law_fault := fun_mk (st := s_law_fault) l_law_fault q_law_fault k_law_fault
  have b_law_fault := F_law_fault.binds (ps := ["_law_call"]) fun _ _ _ _ _ _ us hl => match us, hl with | [_], _ => rfl
  exact ok_law b hT TB l_law q_law (PySem.W.mg_of X G a_law_fault) k_law_fault l_law_fault q_law_fault b_law_fault har c_law_pen c_law_draw c_law_pick c_law_drawn_row c_law_paper c_law_drawn_lines c_roots_of c_drawn c_line_clauses c_law_line_clauses c_law_roots c_law_drawn_of c_law_models c_is_refutation
end W26

set_option Elab.async false
set_option linter.all false
set_option maxRecDepth 100000
set_option maxHeartbeats 0
namespace W26
open PySem PySem.Spec PyProof.Rows L2 Lg
theorem walk {l : PySem.W.OpenLaw} {q : Program} {loose : List Str} {XP : (Str → Option Value) → Heap → Prop} {YP : World → Heap → Prop} {d : DefRec} {K : Params → PySem.W.Frag} (hn : l.most = some 63) (hdf : d.params.defaults = []) (hrec : ((recsOf q).any fun e => e.name == d.name) = true)
    (hY : ∀ (w : World) (h : Heap), YP w h → (K w.params).In h)
    (F : ∀ (w : World) (mg : Str → Option Value) (fa : Addr) (h : Heap), (K w.params).In h → h.Ns mainGlobals mg → mg d.name = some (.ref fa) → LamX.OwnTab (K w.params) fa h → LamX.LawAtS l w (K w.params) CX0 81 63 "_law_script" mg fa h) :
    PySem.W.WalkO q loose XP YP l.row.toRowW d [] (fun f vs => PySem.call f vs) :=
  LamX.walk_ofOwn (n := 63) (k := 81) (x := "_law_script") (CX := fun _ => CX0) hn (by decide) hdf ⟨rfl, by decide, by decide⟩ hrec hY (fun w mg fa h _ KX G hm ow => F w mg fa h KX G hm ow) fun _ _ _ _ _ z => z
end W26
open PySem PySem.W PyProof.Rows
set_option maxRecDepth 100000 in
set_option maxHeartbeats 0 in
theorem PySem.Challenge.cw_everycycle_k26_whole_what_refutations_ne_holds : PySem.Challenge.rw_everycycle_k26_whole_what_refutations_ne.Holds := by
  w_on; o_law; k_head; (case hw => w_witness2)
  k_fill
  refine W26.walk (l := PySem.Challenge.rw_everycycle_k26_whole_what_refutations_ne) rfl rfl (by decide +kernel) (fun w h Y => PySem.W.km_in_of Y) ?F
  case F =>
    intro w mg fa h KX G hmg ow
    refine' W26.all_mk KX G hmg ow ?a_is_count ?l_is_count ?q_is_count ?k_is_count ?a_resolvent ?l_resolvent ?q_resolvent ?k_resolvent ?a_chain_clause ?l_chain_clause ?q_chain_clause ?k_chain_clause ?a_line_clause ?l_line_clause ?q_line_clause ?k_line_clause ?a_all_clauses ?l_all_clauses ?q_all_clauses ?k_all_clauses ?a_as_rows ?l_as_rows ?q_as_rows ?k_as_rows ?a_asked_by ?l_asked_by ?q_asked_by ?k_asked_by ?a_marked ?l_marked ?q_marked ?k_marked ?a_line_clauses ?l_line_clauses ?q_line_clauses ?k_line_clauses ?a_some_lines ?l_some_lines ?q_some_lines ?k_some_lines ?a_roots_of ?l_roots_of ?q_roots_of ?k_roots_of ?a_drawn ?l_drawn ?q_drawn ?k_drawn ?a_law_is_whole ?l_law_is_whole ?q_law_is_whole ?k_law_is_whole ?a_law_is_index ?l_law_is_index ?q_law_is_index ?k_law_is_index ?a_law_sorted ?l_law_sorted ?q_law_sorted ?k_law_sorted ?a_law_resolved ?l_law_resolved ?q_law_resolved ?k_law_resolved ?a_law_line_of ?l_law_line_of ?q_law_line_of ?k_law_line_of ?a_law_line_clauses ?l_law_line_clauses ?q_law_line_clauses ?k_law_line_clauses ?a_law_asked ?l_law_asked ?q_law_asked ?k_law_asked ?a_law_marks ?l_law_marks ?q_law_marks ?k_law_marks ?a_law_roots ?l_law_roots ?q_law_roots ?k_law_roots ?a_law_drawn_of ?l_law_drawn_of ?q_law_drawn_of ?k_law_drawn_of ?a_law_longer ?l_law_longer ?q_law_longer ?k_law_longer ?a_law_rows ?l_law_rows ?q_law_rows ?k_law_rows ?a_law_fits ?l_law_fits ?q_law_fits ?k_law_fits ?a_law_models ?l_law_models ?q_law_models ?k_law_models ?a_law_next_variable ?l_law_next_variable ?q_law_next_variable ?k_law_next_variable ?a_law_refuted ?l_law_refuted ?q_law_refuted ?k_law_refuted ?a_law_paper ?l_law_paper ?q_law_paper ?k_law_paper ?a_law_draw ?l_law_draw ?q_law_draw ?k_law_draw ?a_law_pick ?l_law_pick ?q_law_pick ?k_law_pick ?a_law_drawn_clause ?l_law_drawn_clause ?q_law_drawn_clause ?k_law_drawn_clause ?a_law_drawn_row ?l_law_drawn_row ?q_law_drawn_row ?k_law_drawn_row ?a_law_drawn_lines ?l_law_drawn_lines ?q_law_drawn_lines ?k_law_drawn_lines ?a_law_pen ?l_law_pen ?q_law_pen ?k_law_pen ?a_law_fault ?l_law_fault ?q_law_fault ?k_law_fault ?a_law ?l_law ?q_law ?k_law ?a_isr ?l_isr ?q_isr ?k_isr ?t_isr ?u_isr ?z_isinstance ?z_int ?z_bool ?z_tuple ?z_list ?z_len ?z_any ?z_all ?z_sorted ?z_set ?z_abs ?z_range ?z_enumerate ?z_zip ?z_super ?x_gC ?x_cls ?x_refs ?x_sa ?x_ga ?x_gg ?x_noN ?x_iC ?x_tC ?x_kC ?x_exC ?x_tyC ?x_hdC ?x_te ?x_st ?x_al ?x_mr ?x_sv ?x_top ?x_f1 ?x_f2 ?x_f3 ?x_f4 ?x_f5 ?x_f6 ?y1 ?y2 ?cH ?nPt
    (case a_is_count => first | k_is | rfl)
    (case l_is_count => first | k_is | rfl)
    (case q_is_count => first | k_is | rfl)
    (case k_is_count => first | k_is | rfl)
    (case a_resolvent => first | k_is | rfl)
    (case l_resolvent => first | k_is | rfl)
    (case q_resolvent => first | k_is | rfl)
    (case k_resolvent => first | k_is | rfl)
    (case a_chain_clause => first | k_is | rfl)
    (case l_chain_clause => first | k_is | rfl)
    (case q_chain_clause => first | k_is | rfl)
    (case k_chain_clause => first | k_is | rfl)
    (case a_line_clause => first | k_is | rfl)
    (case l_line_clause => first | k_is | rfl)
    (case q_line_clause => first | k_is | rfl)
    (case k_line_clause => first | k_is | rfl)
    (case a_all_clauses => first | k_is | rfl)
    (case l_all_clauses => first | k_is | rfl)
    (case q_all_clauses => first | k_is | rfl)
    (case k_all_clauses => first | k_is | rfl)
    (case a_as_rows => first | k_is | rfl)
    (case l_as_rows => first | k_is | rfl)
    (case q_as_rows => first | k_is | rfl)
    (case k_as_rows => first | k_is | rfl)
    (case a_asked_by => first | k_is | rfl)
    (case l_asked_by => first | k_is | rfl)
    (case q_asked_by => first | k_is | rfl)
    (case k_asked_by => first | k_is | rfl)
    (case a_marked => first | k_is | rfl)
    (case l_marked => first | k_is | rfl)
    (case q_marked => first | k_is | rfl)
    (case k_marked => first | k_is | rfl)
    (case a_line_clauses => first | k_is | rfl)
    (case l_line_clauses => first | k_is | rfl)
    (case q_line_clauses => first | k_is | rfl)
    (case k_line_clauses => first | k_is | rfl)
    (case a_some_lines => first | k_is | rfl)
    (case l_some_lines => first | k_is | rfl)
    (case q_some_lines => first | k_is | rfl)
    (case k_some_lines => first | k_is | rfl)
    (case a_roots_of => first | k_is | rfl)
    (case l_roots_of => first | k_is | rfl)
    (case q_roots_of => first | k_is | rfl)
    (case k_roots_of => first | k_is | rfl)
    (case a_drawn => first | k_is | rfl)
    (case l_drawn => first | k_is | rfl)
    (case q_drawn => first | k_is | rfl)
    (case k_drawn => first | k_is | rfl)
    (case a_law_is_whole => first | k_is | rfl)
    (case l_law_is_whole => first | k_is | rfl)
    (case q_law_is_whole => first | k_is | rfl)
    (case k_law_is_whole => first | k_is | rfl)
    (case a_law_is_index => first | k_is | rfl)
    (case l_law_is_index => first | k_is | rfl)
    (case q_law_is_index => first | k_is | rfl)
    (case k_law_is_index => first | k_is | rfl)
    (case a_law_sorted => first | k_is | rfl)
    (case l_law_sorted => first | k_is | rfl)
    (case q_law_sorted => first | k_is | rfl)
    (case k_law_sorted => first | k_is | rfl)
    (case a_law_resolved => first | k_is | rfl)
    (case l_law_resolved => first | k_is | rfl)
    (case q_law_resolved => first | k_is | rfl)
    (case k_law_resolved => first | k_is | rfl)
    (case a_law_line_of => first | k_is | rfl)
    (case l_law_line_of => first | k_is | rfl)
    (case q_law_line_of => first | k_is | rfl)
    (case k_law_line_of => first | k_is | rfl)
    (case a_law_line_clauses => first | k_is | rfl)
    (case l_law_line_clauses => first | k_is | rfl)
    (case q_law_line_clauses => first | k_is | rfl)
    (case k_law_line_clauses => first | k_is | rfl)
    (case a_law_asked => first | k_is | rfl)
    (case l_law_asked => first | k_is | rfl)
    (case q_law_asked => first | k_is | rfl)
    (case k_law_asked => first | k_is | rfl)
    (case a_law_marks => first | k_is | rfl)
    (case l_law_marks => first | k_is | rfl)
    (case q_law_marks => first | k_is | rfl)
    (case k_law_marks => first | k_is | rfl)
    (case a_law_roots => first | k_is | rfl)
    (case l_law_roots => first | k_is | rfl)
    (case q_law_roots => first | k_is | rfl)
    (case k_law_roots => first | k_is | rfl)
    (case a_law_drawn_of => first | k_is | rfl)
    (case l_law_drawn_of => first | k_is | rfl)
    (case q_law_drawn_of => first | k_is | rfl)
    (case k_law_drawn_of => first | k_is | rfl)
    (case a_law_longer => first | k_is | rfl)
    (case l_law_longer => first | k_is | rfl)
    (case q_law_longer => first | k_is | rfl)
    (case k_law_longer => first | k_is | rfl)
    (case a_law_rows => first | k_is | rfl)
    (case l_law_rows => first | k_is | rfl)
    (case q_law_rows => first | k_is | rfl)
    (case k_law_rows => first | k_is | rfl)
    (case a_law_fits => first | k_is | rfl)
    (case l_law_fits => first | k_is | rfl)
    (case q_law_fits => first | k_is | rfl)
    (case k_law_fits => first | k_is | rfl)
    (case a_law_models => first | k_is | rfl)
    (case l_law_models => first | k_is | rfl)
    (case q_law_models => first | k_is | rfl)
    (case k_law_models => first | k_is | rfl)
    (case a_law_next_variable => first | k_is | rfl)
    (case l_law_next_variable => first | k_is | rfl)
    (case q_law_next_variable => first | k_is | rfl)
    (case k_law_next_variable => first | k_is | rfl)
    (case a_law_refuted => first | k_is | rfl)
    (case l_law_refuted => first | k_is | rfl)
    (case q_law_refuted => first | k_is | rfl)
    (case k_law_refuted => first | k_is | rfl)
    (case a_law_paper => first | k_is | rfl)
    (case l_law_paper => first | k_is | rfl)
    (case q_law_paper => first | k_is | rfl)
    (case k_law_paper => first | k_is | rfl)
    (case a_law_draw => first | k_is | rfl)
    (case l_law_draw => first | k_is | rfl)
    (case q_law_draw => first | k_is | rfl)
    (case k_law_draw => first | k_is | rfl)
    (case a_law_pick => first | k_is | rfl)
    (case l_law_pick => first | k_is | rfl)
    (case q_law_pick => first | k_is | rfl)
    (case k_law_pick => first | k_is | rfl)
    (case a_law_drawn_clause => first | k_is | rfl)
    (case l_law_drawn_clause => first | k_is | rfl)
    (case q_law_drawn_clause => first | k_is | rfl)
    (case k_law_drawn_clause => first | k_is | rfl)
    (case a_law_drawn_row => first | k_is | rfl)
    (case l_law_drawn_row => first | k_is | rfl)
    (case q_law_drawn_row => first | k_is | rfl)
    (case k_law_drawn_row => first | k_is | rfl)
    (case a_law_drawn_lines => first | k_is | rfl)
    (case l_law_drawn_lines => first | k_is | rfl)
    (case q_law_drawn_lines => first | k_is | rfl)
    (case k_law_drawn_lines => first | k_is | rfl)
    (case a_law_pen => first | k_is | rfl)
    (case l_law_pen => first | k_is | rfl)
    (case q_law_pen => first | k_is | rfl)
    (case k_law_pen => first | k_is | rfl)
    (case a_law_fault => first | k_is | rfl)
    (case l_law_fault => first | k_is | rfl)
    (case q_law_fault => first | k_is | rfl)
    (case k_law_fault => first | k_is | rfl)
    (case a_law => first | k_is | rfl)
    (case l_law => first | k_is | rfl)
    (case q_law => first | k_is | rfl)
    (case k_law => first | k_is | rfl)
    (case a_isr => first | k_is | rfl)
    (case l_isr => first | k_is | rfl)
    (case q_isr => first | k_is | rfl)
    (case k_isr => first | k_is | rfl)
    (case t_isr => first | k_is | rfl)
    (case u_isr => first | k_is | rfl)
    (case z_isinstance => first | k_is | rfl)
    (case z_int => first | k_is | rfl)
    (case z_bool => first | k_is | rfl)
    (case z_tuple => first | k_is | rfl)
    (case z_list => first | k_is | rfl)
    (case z_len => first | k_is | rfl)
    (case z_any => first | k_is | rfl)
    (case z_all => first | k_is | rfl)
    (case z_sorted => first | k_is | rfl)
    (case z_set => first | k_is | rfl)
    (case z_abs => first | k_is | rfl)
    (case z_range => first | k_is | rfl)
    (case z_enumerate => first | k_is | rfl)
    (case z_zip => first | k_is | rfl)
    (case z_super => first | k_is | rfl)
    (case x_gC => first | k_is | rfl)
    (case x_cls => first | k_is | rfl)
    (case x_refs => first | rfl | k_is)
    (case x_sa => first | k_is | rfl)
    (case x_ga => first | k_is | rfl)
    (case x_gg => first | k_is | rfl)
    (case x_noN => first | k_is | rfl)
    (case x_iC => first | k_is | rfl)
    (case x_tC => first | k_is | rfl)
    (case x_kC => first | k_is | rfl)
    (case x_exC => first | k_is | rfl)
    (case x_tyC => first | k_is | rfl)
    (case x_hdC => first | k_is | rfl)
    (case x_te => first | k_is | rfl)
    (case x_st => first | k_is | rfl)
    (case x_al => first | k_is | rfl)
    (case x_mr => first | k_is | rfl)
    (case x_sv => first | k_is | rfl)
    (case x_top => first | rfl | decide +kernel)
    (case x_f1 => first | k_is | rfl)
    (case x_f2 => first | k_is | rfl)
    (case x_f3 => first | k_is | rfl)
    (case x_f4 => first | rfl | k_is)
    (case x_f5 => first | rfl | decide +kernel)
    (case x_f6 => first | k_is | rfl)
    (case y1 => first | k_is | rfl)
    (case y2 => first | rfl | k_is)
    (case cH => first | k_is | rfl)
    (case nPt => first | k_is | rfl)
