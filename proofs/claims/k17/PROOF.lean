import PyProof.Rows.All
import Wide.All
import OpenK.AllK
import Wide.FinOn
import HandS.ForMost
import HandS.IsInst
import HandS.Style
import HandS.Walk
import HandS.Deep
import HandS.TupAny
import HandS.TupMul
import HandS.SortInts
import HandS.Codes
import HandS.Flow
import KE.KAssignIn
import PySem.Challenge.RW_keystotext_k17_whole_settlers
set_option Elab.async false
set_option linter.all false
/-! ZA: data and store level. A value is immutable data (PyData) or a number of a mutable
object of a store; what an expression, a statement, a def does is a plain function of slots and
store; what these functions say is sound for the machine, by the hand layer's rules. -/
namespace Zz
open PySem L2
abbrev D := PyData
inductive L where
  | im (d : D)
  | rf (n : Nat)
  | ow (l : List D)
  | sc (l : List D)
inductive MO where
  | dl (l : List D)
  | rl (l : List L)
  | ins (c : Str) (fs : List (Str × L))
  | gone
abbrev S := List MO
inductive Slot where
  | un
  | im (d : D)
  | rf (n : Nat)
  | ol (l : List D)
  | sc (l : List D)
abbrev Ro := List Slot
/-! two lists, item by item -/
inductive A2 {α β : Type} (R : α → β → Prop) : List α → List β → Prop where
  | nil : A2 R [] []
  | cons {a : α} {b : β} {as : List α} {bs : List β} : R a b → A2 R as bs → A2 R (a :: as) (b :: bs)
section
variable {α β : Type} {R R' : α → β → Prop}
theorem A2.length : ∀ {as : List α} {bs : List β}, A2 R as bs → as.length = bs.length
  | _, _, .nil => rfl
  | _, _, .cons _ t => congrArg (· + 1) (A2.length t)
theorem A2.mono (h : ∀ a b, R a b → R' a b) : ∀ {as : List α} {bs : List β}, A2 R as bs → A2 R' as bs
  | _, _, .nil => .nil
  | _, _, .cons r t => .cons (h _ _ r) (A2.mono h t)
theorem A2.append : ∀ {as cs : List α} {bs ds : List β}, A2 R as bs → A2 R cs ds → A2 R (as ++ cs) (bs ++ ds)
  | _, _, _, _, .nil, t => t
  | _, _, _, _, .cons r u, t => .cons r (A2.append u t)
theorem A2.get : ∀ {as : List α} {bs : List β} {i : Nat} {b : β}, A2 R as bs → bs[i]? = some b → ∃ a, as[i]? = some a ∧ R a b
  | _, _, i, b, .nil, h => by simp at h
  | _, _, 0, b, .cons r _, h => by
    simp at h; subst h; exact ⟨_, by simp, r⟩
  | _, _, i + 1, b, .cons _ t, h => by
    simp at h
    obtain ⟨a, h1, h2⟩ := A2.get t h
    exact ⟨a, by simpa using h1, h2⟩
theorem A2.getL : ∀ {as : List α} {bs : List β} {i : Nat} {a : α}, A2 R as bs → as[i]? = some a → ∃ b, bs[i]? = some b ∧ R a b
  | _, _, i, b, .nil, h => by simp at h
  | _, _, 0, b, .cons r _, h => by
    simp at h; subst h; exact ⟨_, by simp, r⟩
  | _, _, i + 1, b, .cons _ t, h => by
    simp at h
    obtain ⟨a, h1, h2⟩ := A2.getL t h
    exact ⟨a, by simpa using h1, h2⟩
theorem A2.set {a : α} {b : β} (r : R a b) : ∀ {as : List α} {bs : List β} (i : Nat), A2 R as bs → A2 R (as.set i a) (bs.set i b)
  | _, _, _, .nil => .nil
  | _, _, 0, .cons _ t => .cons r t
  | _, _, i + 1, .cons q t => .cons q (A2.set r i t)
theorem A2.take : ∀ {as : List α} {bs : List β} (i : Nat), A2 R as bs → A2 R (as.take i) (bs.take i)
  | _, _, i, .nil => by simpa using A2.nil
  | _, _, 0, .cons _ _ => by simpa using A2.nil
  | _, _, i + 1, .cons q t => by simpa using A2.cons q (A2.take i t)
theorem A2.drop : ∀ {as : List α} {bs : List β} (i : Nat), A2 R as bs → A2 R (as.drop i) (bs.drop i)
  | _, _, i, .nil => by simpa using A2.nil
  | _, _, 0, .cons q t => by simpa using A2.cons q t
  | _, _, i + 1, .cons _ t => by simpa using A2.drop i t
theorem A2.eraseIdx : ∀ {as : List α} {bs : List β} (i : Nat), A2 R as bs → A2 R (as.eraseIdx i) (bs.eraseIdx i)
  | _, _, _, .nil => .nil
  | _, _, 0, .cons _ t => by simpa using t
  | _, _, i + 1, .cons q t => by simpa using A2.cons q (A2.eraseIdx i t)
theorem A2.reverse {as : List α} {bs : List β} (h : A2 R as bs) : A2 R as.reverse bs.reverse := by
  induction h with
  | nil => exact .nil
  | cons r _ ih => simpa using ih.append (.cons r .nil)
theorem A2.rep {as : List α} {bs : List β} (h : A2 R as bs) : ∀ k : Nat, A2 R (List.replicate k as).flatten (List.replicate k bs).flatten
  | 0 => .nil
  | k + 1 => by simpa [List.replicate_succ] using h.append (A2.rep h k)
theorem A2.last {as : List α} {bs : List β} (h : A2 R as bs) : A2 R as.dropLast bs.dropLast := by
  rw [List.dropLast_eq_take, List.dropLast_eq_take, h.length]
  exact h.take _
end
/-! data as it lies in a heap: lists are tracked as lists -/
mutual
inductive Dq (K : PySem.W.Frag) (B : Hp) : V → D → Prop where
  | non : Dq K B .non .none
  | bl (b : Bool) : Dq K B (.bl b) (.bool b)
  | int (i : Int) : Dq K B (.int i) (.int i)
  | str (x : Str) : Dq K B (.str x) (.str x)
  | lst {a : Addr} {vs : List V} {ds : List D} : B a = some (.lst vs) → DqA K B vs ds → Dq K B (.ref a) (.list ds)
  | tup {a : Addr} {vs : List V} {ds : List D} : SqT K B a vs → DqA K B vs ds → Dq K B (.ref a) (.tuple ds)
inductive DqA (K : PySem.W.Frag) (B : Hp) : List V → List D → Prop where
  | nil : DqA K B [] []
  | cons {v : V} {vs : List V} {d : D} {ds : List D} : Dq K B v d → DqA K B vs ds → DqA K B (v :: vs) (d :: ds)
end
theorem dpAll_iff {K : PySem.W.Frag} {H : Hp} {vs : List V} {ds : List D} : DqA K H vs ds ↔ A2 (Dq K H) vs ds := by
  constructor
  · intro h
    induction ds generalizing vs with
    | nil => cases h; exact .nil
    | cons d ds ih => cases h with | cons a b => exact .cons a (ih b)
  · intro h
    induction ds generalizing vs with
    | nil => cases h; exact .nil
    | cons d ds ih => cases h with | cons a b => exact .cons a (ih b)
theorem sqL_mono {K : PySem.W.Frag} {B H : Hp} {a : Addr} {xs : List V} (e : ∀ a o, B a = some o → H a = some o) (h : SqL K B a xs) : SqL K H a xs := by
  rcases h with (h | ⟨o, h⟩) | h
  · exact .inl (.inl (e _ _ h))
  · exact .inl (.inr ⟨o, e _ _ h⟩)
  · exact .inr h
theorem sqT_mono {K : PySem.W.Frag} {B H : Hp} {a : Addr} {xs : List V} (e : ∀ a o, B a = some o → H a = some o) (h : SqT K B a xs) : SqT K H a xs := by
  rcases h with (h | ⟨o, h⟩) | h
  · exact .inl (.inl (e _ _ h))
  · exact .inl (.inr ⟨o, e _ _ h⟩)
  · exact .inr h
mutual
theorem dp_mono {K : PySem.W.Frag} {B H : Hp} (e : ∀ a o, B a = some o → H a = some o) : ∀ (d : D) (v : V), Dq K B v d → Dq K H v d
  | _, _, .non => .non
  | _, _, .bl b => .bl b
  | _, _, .int b => .int b
  | _, _, .str b => .str b
  | .list ds, _, .lst s h => .lst (e _ _ s) (dpAll_mono e ds _ h)
  | .tuple ds, _, .tup s h => .tup (sqT_mono e s) (dpAll_mono e ds _ h)
theorem dpAll_mono {K : PySem.W.Frag} {B H : Hp} (e : ∀ a o, B a = some o → H a = some o) : ∀ (ds : List D) (vs : List V), DqA K B vs ds → DqA K H vs ds
  | [], _, .nil => .nil
  | d :: ds, _, .cons h t => .cons (dp_mono e d _ h) (dpAll_mono e ds _ t)
end
mutual
theorem dq_dp {K : PySem.W.Frag} {B : Hp} : ∀ (d : D) (v : V), Dq K B v d → Dp K B v d
  | _, _, .non => .non
  | _, _, .bl b => .bl b
  | _, _, .int b => .int b
  | _, _, .str b => .str b
  | .list ds, _, .lst s h => .lst (SqL.of s) (dqA_dp ds _ h)
  | .tuple ds, _, .tup s h => .tup s (dqA_dp ds _ h)
theorem dqA_dp {K : PySem.W.Frag} {B : Hp} : ∀ (ds : List D) (vs : List V), DqA K B vs ds → DpAll K B vs ds
  | [], _, .nil => .nil
  | d :: ds, _, .cons h t => .cons (dq_dp d _ h) (dqA_dp ds _ t)
end
/-! the worlds: where the store's objects lie, what is immutable, what is there -/
structure Wd where
  m : List Addr
  B : Hp
  H : Hp
structure Stp (w w' : Wd) : Prop where
  m : ∃ e, w'.m = w.m ++ e ∧ ∀ a ∈ e, w.H a = none
  b : ∀ a o, w.B a = some o → w'.B a = some o
  bn : ∀ a, w.B a = none → w'.B a ≠ none → w.H a = none
  fr : ∀ a o, a ∉ w.m → w.H a = some o → w'.H a = some o
  lv : ∀ a, w'.H a = none → w.H a = none
theorem Stp.refl (w : Wd) : Stp w w := ⟨⟨[], by simp, by simp⟩, fun _ _ h => h, fun _ h h' => absurd h h', fun _ _ _ h => h, fun _ h => h⟩
theorem Stp.nm {w w' : Wd} (h : Stp w w') {a : Addr} (n : a ∉ w.m) (ha : w.H a ≠ none) : a ∉ w'.m := by
  obtain ⟨e, he, hn⟩ := h.m
  rw [he, List.mem_append]
  rintro (q | q)
  · exact n q
  · exact ha (hn a q)
theorem Stp.trans {w1 w2 w3 : Wd} (h : Stp w1 w2) (k : Stp w2 w3) : Stp w1 w3 := by
  obtain ⟨e1, he1, hn1⟩ := h.m
  obtain ⟨e2, he2, hn2⟩ := k.m
  refine ⟨⟨e1 ++ e2, by rw [he2, he1, List.append_assoc], fun a ha => ?_⟩, fun a o q => k.b a o (h.b a o q), fun a q q' => ?_, fun a o n q => ?_, fun a q => h.lv a (k.lv a q)⟩
  · rcases List.mem_append.mp ha with z | z
    · exact hn1 a z
    · exact h.lv a (hn2 a z)
  · cases e : w2.B a with
    | none => exact h.lv a (k.bn a e q')
    | some o => exact h.bn a q (by rw [e]; simp)
  · exact k.fr a o (h.nm n (by rw [q]; simp)) (h.fr a o n q)
/-- the class of a name -/
def ClsAt (mg : Str → Option Value) (c : Str) (C : Addr) : Prop := mg c = some (.ref C)
/-- a value that is told -/
def Lv (K : PySem.W.Frag) (w : Wd) (v : V) : L → Prop
  | .im d => Dq K w.B v d
  | .rf n => ∃ a, w.m[n]? = some a ∧ v = .ref a
  | .ow l => ∃ a vs, v = .ref a ∧ a ∉ w.m ∧ w.B a = none ∧ w.H a = some (.lst vs) ∧ A2 (Dq K w.B) vs l
  | .sc l => ∃ a vs, v = .ref a ∧ SqL K w.B a vs ∧ A2 (Dq K w.B) vs l
/-- a value to be kept: no borrowed list -/
def Kv (K : PySem.W.Frag) (w : Wd) (v : V) : L → Prop
  | .im d => Dq K w.B v d
  | .rf n => ∃ a, w.m[n]? = some a ∧ v = .ref a
  | .ow _ => False
  | .sc l => ∃ a vs, v = .ref a ∧ SqL K w.B a vs ∧ A2 (Dq K w.B) vs l
def Mok (K : PySem.W.Frag) (mg : Str → Option Value) (w : Wd) (a : Addr) : MO → Prop
  | .dl l => ∃ vs, w.H a = some (.lst vs) ∧ A2 (Dq K w.B) vs l
  | .rl l => ∃ vs, w.H a = some (.lst vs) ∧ A2 (Kv K w) vs l
  | .ins c fs => ∃ C dx hs, ClsAt mg c C ∧ w.H a = some (.ins C dx hs) ∧ A2 (fun (p : Str × V) (q : Str × L) => p.1 = q.1 ∧ Kv K w p.2 q.2) hs fs
  | .gone => True
structure Wok (K : PySem.W.Frag) (mg : Str → Option Value) (w : Wd) (s : S) : Prop where
  ex : ∀ a o, w.B a = some o → w.H a = some o
  len : w.m.length = s.length
  nd : w.m.Nodup
  fresh : ∀ a ∈ w.m, w.B a = none
  live : ∀ a ∈ w.m, w.H a ≠ none
  ok : ∀ (n : Nat) (a : Addr) (o : MO), w.m[n]? = some a → s[n]? = some o → Mok K mg w a o
def SlotOk (K : PySem.W.Frag) (w0 w : Wd) (v : Option V) : Slot → Prop
  | .un => True
  | .im d => ∃ x, v = some x ∧ Dq K w.B x d
  | .rf n => ∃ a, v = some (.ref a) ∧ w.m[n]? = some a
  | .ol l => ∃ a vs, v = some (.ref a) ∧ a ∉ w.m ∧ w0.H a = none ∧ w.B a = none ∧ w.H a = some (.lst vs) ∧ A2 (Dq K w.B) vs l
  | .sc l => ∃ a vs, v = some (.ref a) ∧ SqL K w.B a vs ∧ A2 (Dq K w.B) vs l
structure FR (K : PySem.W.Frag) (mg : Str → Option Value) (w0 w : Wd) (s : S) (ρ : Ro) (σ : L2.St) : Prop where
  st : Stp w0 w
  wk : Wok K mg w s
  len : σ.length = ρ.length
  sl : ∀ (i : Nat) (z : Slot) (v : Option V), ρ[i]? = some z → σ[i]? = some v → SlotOk K w0 w v z
  di : ∀ (i j : Nat) (l l' : List D) (a : Addr), i ≠ j → ρ[i]? = some (.ol l) → ρ[j]? = some (.ol l') → σ[i]? = some (some (.ref a)) → σ[j]? = some (some (.ref a)) → False
section
variable {K : PySem.W.Frag} {mg : Str → Option Value} {w w' w0 : Wd} {s s' : S} {ρ : Ro} {σ : L2.St}
theorem Stp.get (h : Stp w w') {n : Nat} {a : Addr} (q : w.m[n]? = some a) : w'.m[n]? = some a := by
  obtain ⟨e, he, _⟩ := h.m
  rw [he, List.getElem?_append_left]
  · exact q
  · exact (List.getElem?_eq_some_iff.mp q).1
theorem Stp.dp (h : Stp w w') {v : V} {d : D} (q : Dq K w.B v d) : Dq K w'.B v d := dp_mono h.b d v q
theorem Stp.dps (h : Stp w w') {v : List V} {d : List D} (q : A2 (Dq K w.B) v d) : A2 (Dq K w'.B) v d := q.mono fun _ _ => h.dp
theorem Stp.kv (h : Stp w w') {v : V} {d : L} (q : Kv K w v d) : Kv K w' v d := by
  cases d with
  | im d => exact h.dp q
  | rf n => obtain ⟨a, h1, h2⟩ := q; exact ⟨a, h.get h1, h2⟩
  | ow l => exact q.elim
  | sc l => obtain ⟨a, vs, h1, h2, h3⟩ := q; exact ⟨a, vs, h1, sqL_mono h.b h2, h.dps h3⟩
/-- what is there and not the store's stays the same, and not immutable if it was not -/
theorem Stp.keepB (h : Stp w w') {a : Addr} (q : w.B a = none) (ha : w.H a ≠ none) : w'.B a = none := by
  cases e : w'.B a with
  | none => rfl
  | some o => exact absurd (h.bn a q (by rw [e]; simp)) ha
theorem Stp.lv' (h : Stp w w') {v : V} {d : L} (q : Lv K w v d) : Lv K w' v d := by
  cases d with
  | im d => exact h.dp q
  | rf n => obtain ⟨a, h1, h2⟩ := q; exact ⟨a, h.get h1, h2⟩
  | ow l =>
    obtain ⟨a, vs, h1, h2, h3, h4, h5⟩ := q
    have hn : w.H a ≠ none := by rw [h4]; simp
    exact ⟨a, vs, h1, h.nm h2 hn, h.keepB h3 hn, h.fr a _ h2 h4, h.dps h5⟩
  | sc l => obtain ⟨a, vs, h1, h2, h3⟩ := q; exact ⟨a, vs, h1, sqL_mono h.b h2, h.dps h3⟩
theorem SlotOk.mono (h : Stp w w') {v : Option V} {z : Slot} (q : SlotOk K w0 w v z) : SlotOk K w0 w' v z := by
  cases z with
  | un => exact True.intro
  | im d => obtain ⟨x, h1, h2⟩ := q; exact ⟨x, h1, h.dp h2⟩
  | rf n => obtain ⟨a, h1, h2⟩ := q; exact ⟨a, h1, h.get h2⟩
  | ol l =>
    obtain ⟨a, vs, h1, h2, h0, h3, h4, h5⟩ := q
    have hn : w.H a ≠ none := by rw [h4]; simp
    exact ⟨a, vs, h1, h.nm h2 hn, h0, h.keepB h3 hn, h.fr a _ h2 h4, h.dps h5⟩
  | sc l => obtain ⟨a, vs, h1, h2, h3⟩ := q; exact ⟨a, vs, h1, sqL_mono h.b h2, h.dps h3⟩
theorem FR.step (F : FR K mg w0 w s ρ σ) (h : Stp w w') (k : Wok K mg w' s') : FR K mg w0 w' s' ρ σ :=
  ⟨F.st.trans h, k, F.len, fun i z v a b => (F.sl i z v a b).mono h, F.di⟩
/-- a new immutable object -/
theorem Wok.imm (k : Wok K mg w s) {p : Addr} {o : HO} (hp : w.H p = none) : Stp w ⟨w.m, upd w.B p o, upd w.H p o⟩ ∧ Wok K mg ⟨w.m, upd w.B p o, upd w.H p o⟩ s := by
  have nB : w.B p = none := by
    cases e : w.B p with
    | none => rfl
    | some u => rw [k.ex p u e] at hp; cases hp
  have nm : p ∉ w.m := fun q => k.live p q hp
  have st : Stp w ⟨w.m, upd w.B p o, upd w.H p o⟩ := by
    refine ⟨⟨[], by simp, by simp⟩, fun a u q => ?_, fun a q q' => ?_, fun a u _ q => ?_, fun a q => ?_⟩
    · have ne : a ≠ p := fun z => by rw [z, nB] at q; cases q
      show upd w.B p o a = _
      rw [upd_ne ne]; exact q
    · by_cases z : a = p
      · rw [z]; exact hp
      · exact absurd ((upd_ne (H := w.B) (o := o) z).trans q) q'
    · have ne : a ≠ p := fun z => by rw [z, hp] at q; cases q
      show upd w.H p o a = _
      rw [upd_ne ne]; exact q
    · by_cases z : a = p
      · rw [z]; exact hp
      · have q : upd w.H p o a = none := q
        rw [upd_ne z] at q; exact q
  refine ⟨st, fun a u q => ?_, k.len, k.nd, fun a q => ?_, fun a q q' => ?_, fun n a mo h1 h2 => ?_⟩
  · by_cases z : a = p
    · have q : upd w.B p o a = some u := q
      show upd w.H p o a = some u
      rw [z, upd_same] at q ⊢; exact q
    · have q : upd w.B p o a = some u := q
      show upd w.H p o a = some u
      rw [upd_ne z] at q ⊢; exact k.ex a u q
  · show upd w.B p o a = none
    rw [upd_ne (show a ≠ p from fun z => nm (z ▸ q))]; exact k.fresh a q
  · exact k.live a q (st.lv a q')
  · have ne : a ≠ p := fun z => nm (z ▸ List.mem_of_getElem? h1)
    have hm := k.ok n a mo h1 h2
    cases mo with
    | dl l =>
      obtain ⟨vs, h3, h4⟩ := hm
      exact ⟨vs, (upd_ne ne).trans h3, st.dps h4⟩
    | rl l =>
      obtain ⟨vs, h3, h4⟩ := hm
      exact ⟨vs, (upd_ne ne).trans h3, h4.mono fun _ _ => st.kv⟩
    | ins c fs =>
      obtain ⟨C, dx, hs, h3, h4, h5⟩ := hm
      exact ⟨C, dx, hs, h3, (upd_ne ne).trans h4, h5.mono fun _ _ q => ⟨q.1, st.kv q.2⟩⟩
    | gone => exact True.intro
/-- a new object that nobody tells of (a list of one's own) -/
theorem Wok.own (k : Wok K mg w s) {p : Addr} {o : HO} (hp : w.H p = none) : Stp w ⟨w.m, w.B, upd w.H p o⟩ ∧ Wok K mg ⟨w.m, w.B, upd w.H p o⟩ s ∧ w.B p = none ∧ p ∉ w.m := by
  have nB : w.B p = none := by
    cases e : w.B p with
    | none => rfl
    | some u => rw [k.ex p u e] at hp; cases hp
  have nm : p ∉ w.m := fun q => k.live p q hp
  have st : Stp w ⟨w.m, w.B, upd w.H p o⟩ := by
    refine ⟨⟨[], by simp, by simp⟩, fun a u q => q, fun a q q' => absurd q q', fun a u _ q => ?_, fun a q => ?_⟩
    · have ne : a ≠ p := fun z => by rw [z, hp] at q; cases q
      exact (upd_ne ne).trans q
    · by_cases z : a = p
      · rw [z]; exact hp
      · exact (upd_ne (H := w.H) (o := o) z).symm.trans q
  refine ⟨st, ⟨fun a u q => ?_, k.len, k.nd, k.fresh, fun a q q' => k.live a q (st.lv a q'), fun n a mo h1 h2 => ?_⟩, nB, nm⟩
  · have ne : a ≠ p := fun z => by
      have q : w.B a = some u := q
      rw [z, nB] at q; cases q
    exact (upd_ne ne).trans (k.ex a u q)
  · have ne : a ≠ p := fun z => nm (z ▸ List.mem_of_getElem? h1)
    have hm := k.ok n a mo h1 h2
    cases mo with
    | dl l =>
      obtain ⟨vs, h3, h4⟩ := hm
      exact ⟨vs, (upd_ne ne).trans h3, h4⟩
    | rl l =>
      obtain ⟨vs, h3, h4⟩ := hm
      exact ⟨vs, (upd_ne ne).trans h3, h4.mono fun _ _ => st.kv⟩
    | ins c fs =>
      obtain ⟨C, dx, hs, h3, h4, h5⟩ := hm
      exact ⟨C, dx, hs, h3, (upd_ne ne).trans h4, h5.mono fun _ _ q => ⟨q.1, st.kv q.2⟩⟩
    | gone => exact True.intro
/-- a list of one's own becomes immutable -/
theorem Wok.freeze (k : Wok K mg w s) {p : Addr} {o : HO} (hp : w.H p = some o) (nB : w.B p = none) (nm : p ∉ w.m) : Wok K mg ⟨w.m, upd w.B p o, w.H⟩ s ∧ (∀ a u, w.B a = some u → upd w.B p o a = some u) := by
  have ex : ∀ a u, w.B a = some u → upd w.B p o a = some u := fun a u q => by
    have ne : a ≠ p := fun z => by rw [z, nB] at q; cases q
    exact (upd_ne ne).trans q
  refine ⟨⟨fun a u q => ?_, k.len, k.nd, fun a q => ?_, k.live, fun n a mo h1 h2 => ?_⟩, ex⟩
  · by_cases z : a = p
    · have q : upd w.B p o a = some u := q
      rw [z, upd_same] at q
      rw [z]; exact hp.trans q
    · exact k.ex a u ((upd_ne (H := w.B) (o := o) z).symm.trans q)
  · exact (upd_ne (show a ≠ p from fun z => nm (z ▸ q))).trans (k.fresh a q)
  · have hm := k.ok n a mo h1 h2
    have kk : ∀ v d, Kv K w v d → Kv K ⟨w.m, upd w.B p o, w.H⟩ v d := fun v d q => by
      cases d with
      | im d => exact dp_mono ex d v q
      | rf n => exact q
      | ow l => exact q.elim
      | sc l => obtain ⟨a, vs, h1, h2, h3⟩ := q; exact ⟨a, vs, h1, sqL_mono ex h2, h3.mono fun v d => dp_mono ex d v⟩
    cases mo with
    | dl l =>
      obtain ⟨vs, h3, h4⟩ := hm
      exact ⟨vs, h3, h4.mono fun v d => dp_mono ex d v⟩
    | rl l =>
      obtain ⟨vs, h3, h4⟩ := hm
      exact ⟨vs, h3, h4.mono kk⟩
    | ins c fs =>
      obtain ⟨C, dx, hs, h3, h4, h5⟩ := hm
      exact ⟨C, dx, hs, h3, h4, h5.mono fun _ _ q => ⟨q.1, kk _ _ q.2⟩⟩
    | gone => exact True.intro
/-- the store's n-th object is changed -/
theorem Wok.put (k : Wok K mg w s) {n : Nat} {a : Addr} {o : HO} {mo : MO} (ha : w.m[n]? = some a) (h : Mok K mg ⟨w.m, w.B, upd w.H a o⟩ a mo) : Stp w ⟨w.m, w.B, upd w.H a o⟩ ∧ Wok K mg ⟨w.m, w.B, upd w.H a o⟩ (s.set n mo) := by
  have mem := List.mem_of_getElem? ha
  have nB := k.fresh a mem
  have st : Stp w ⟨w.m, w.B, upd w.H a o⟩ := by
    refine ⟨⟨[], by simp, by simp⟩, fun a u q => q, fun a q q' => absurd q q', fun b u nb q => ?_, fun b q => ?_⟩
    · have ne : b ≠ a := fun z => nb (z ▸ mem)
      exact (upd_ne ne).trans q
    · by_cases z : b = a
      · have q : upd w.H a o b = none := q
        rw [z, upd_same] at q; cases q
      · exact (upd_ne (H := w.H) (o := o) z).symm.trans q
  refine ⟨st, fun b u q => ?_, by rw [List.length_set]; exact k.len, k.nd, k.fresh, fun b q q' => k.live b q (st.lv b q'), fun i b mo' h1 h2 => ?_⟩
  · have ne : b ≠ a := fun z => by
      have q : w.B b = some u := q
      rw [z, nB] at q; cases q
    exact (upd_ne ne).trans (k.ex b u q)
  · by_cases z : i = n
    · subst z
      have e : b = a := Option.some.inj (h1.symm.trans ha)
      subst e
      rw [List.getElem?_set_self (by rw [← k.len]; exact (List.getElem?_eq_some_iff.mp ha).1)] at h2
      cases h2
      exact h
    · rw [List.getElem?_set_ne (fun q => z q.symm)] at h2
      have ne : b ≠ a := fun q => z (by
        subst q
        obtain ⟨l1, e1⟩ := List.getElem?_eq_some_iff.mp h1
        obtain ⟨l2, e2⟩ := List.getElem?_eq_some_iff.mp ha
        exact (List.getElem_inj k.nd).mp (e1.trans e2.symm))
      have hm := k.ok i b mo' h1 h2
      cases mo' with
      | dl l =>
        obtain ⟨vs, h3, h4⟩ := hm
        exact ⟨vs, (upd_ne ne).trans h3, h4⟩
      | rl l =>
        obtain ⟨vs, h3, h4⟩ := hm
        exact ⟨vs, (upd_ne ne).trans h3, h4.mono fun _ _ => st.kv⟩
      | ins c fs =>
        obtain ⟨C, dx, hs, h3, h4, h5⟩ := hm
        exact ⟨C, dx, hs, h3, (upd_ne ne).trans h4, h5.mono fun _ _ q => ⟨q.1, st.kv q.2⟩⟩
      | gone => exact True.intro
/-- a new object of the store, at p -/
theorem Wok.push (k : Wok K mg w s) {p : Addr} {H1 : Hp} {o : HO} {mo : MO} (hp : w.H p = none) (hH : ∀ a u, w.H a = some u → H1 a = some u) (hq : H1 p = none) (h : Mok K mg ⟨w.m ++ [p], w.B, upd H1 p o⟩ p mo) :
    Stp w ⟨w.m ++ [p], w.B, upd H1 p o⟩ ∧ Wok K mg ⟨w.m ++ [p], w.B, upd H1 p o⟩ (s ++ [mo]) := by
  have nB : w.B p = none := by
    cases e : w.B p with
    | none => rfl
    | some u => rw [k.ex p u e] at hp; cases hp
  have nm : p ∉ w.m := fun q => k.live p q hp
  have keep : ∀ a u, w.H a = some u → upd H1 p o a = some u := fun a u q => by
    have ne : a ≠ p := fun z => by rw [z, hp] at q; cases q
    exact (upd_ne ne).trans (hH a u q)
  have st : Stp w ⟨w.m ++ [p], w.B, upd H1 p o⟩ := by
    refine ⟨⟨[p], rfl, by simpa using hp⟩, fun a u q => q, fun a q q' => absurd q q', fun b u _ q => keep b u q, fun b q => ?_⟩
    cases e : w.H b with
    | none => rfl
    | some u =>
      have q : upd H1 p o b = none := q
      rw [keep b u e] at q; cases q
  refine ⟨st, fun a u q => keep a u (k.ex a u q), by simp [k.len], ?_, fun a q => ?_, fun a q => ?_, fun i b mo' h1 h2 => ?_⟩
  · show (w.m ++ [p]).Nodup
    rw [List.nodup_append]
    refine ⟨k.nd, by simp, fun a ha b hb => ?_⟩
    simp at hb
    subst hb
    exact fun z => nm (z ▸ ha)
  · rcases List.mem_append.mp q with z | z
    · exact k.fresh a z
    · simp at z; rw [z]; exact nB
  · rcases List.mem_append.mp q with z | z
    · intro y
      cases e : w.H a with
      | none => exact k.live a z e
      | some u =>
        have y : upd H1 p o a = none := y
        rw [keep a u e] at y; cases y
    · simp at z
      subst z
      intro y
      have y : upd H1 a o a = none := y
      rw [upd_same] at y; cases y
  · by_cases z : i < w.m.length
    · have h1 : (w.m ++ [p])[i]? = some b := h1
      rw [List.getElem?_append_left z] at h1
      rw [List.getElem?_append_left (by rw [← k.len]; exact z)] at h2
      have hm := k.ok i b mo' h1 h2
      cases mo' with
      | dl l =>
        obtain ⟨vs, h3, h4⟩ := hm
        exact ⟨vs, keep _ _ h3, h4⟩
      | rl l =>
        obtain ⟨vs, h3, h4⟩ := hm
        exact ⟨vs, keep _ _ h3, h4.mono fun _ _ => st.kv⟩
      | ins c fs =>
        obtain ⟨C, dx, hs, h3, h4, h5⟩ := hm
        exact ⟨C, dx, hs, h3, keep _ _ h4, h5.mono fun _ _ q => ⟨q.1, st.kv q.2⟩⟩
      | gone => exact True.intro
    · have h1 : (w.m ++ [p])[i]? = some b := h1
      rw [List.getElem?_append_right (by omega)] at h1
      rw [List.getElem?_append_right (by rw [← k.len]; omega)] at h2
      have e1 : i - w.m.length = 0 := by
        have := (List.getElem?_eq_some_iff.mp h1).1
        simp at this; omega
      rw [e1] at h1
      rw [← k.len, e1] at h2
      simp at h1 h2
      subst h1 h2
      exact h
end
end Zz
set_option Elab.async false
set_option linter.all false
/-! ZB: what expressions do, as functions of slots and store -/
namespace Zz
open PySem L2
abbrev FE := Ro → S → Option (L × S)
abbrev FT := Ro → S → Option (Bool × S)
abbrev FA := Ro → S → Option (List L × S)
section
variable (K : PySem.W.Frag) (mg : Str → Option Value)
def EO (t : TE) (f : FE) : Prop := ∀ (w0 w : Wd) (s s' : S) (ρ : Ro) (σ : L2.St) (r : L) (Q : VK), FR K mg w0 w s ρ σ → f ρ s = some (r, s') → (∀ v w', Stp w w' → FR K mg w0 w' s' ρ σ → Lv K w' v r → Q v w'.H) → t σ w.H Q
def TO (t : TT) (f : FT) : Prop := ∀ (w0 w : Wd) (s s' : S) (ρ : Ro) (σ : L2.St) (r : Bool) (Q : Bool → Hp → Prop), FR K mg w0 w s ρ σ → f ρ s = some (r, s') → (∀ w', Stp w w' → FR K mg w0 w' s' ρ σ → Q r w'.H) → t σ w.H Q
def AO (t : TA) (f : FA) : Prop := ∀ (w0 w : Wd) (s s' : S) (ρ : Ro) (σ : L2.St) (r : List L) (Q : List V → Hp → Prop), FR K mg w0 w s ρ σ → f ρ s = some (r, s') → (∀ v w', Stp w w' → FR K mg w0 w' s' ρ σ → A2 (Lv K w') v r → Q v w'.H) → t σ w.H Q
/-- a new list, nobody's yet -/
abbrev FF := Ro → S → Option (List D × S)
def Nw (w : Wd) (v : V) (l : List D) : Prop := ∃ a vs, v = .ref a ∧ a ∉ w.m ∧ w.B a = none ∧ w.H a = some (.lst vs) ∧ A2 (Dq K w.B) vs l
def FO (t : TE) (f : FF) : Prop := ∀ (w0 w : Wd) (s s' : S) (ρ : Ro) (σ : L2.St) (r : List D) (Q : VK), FR K mg w0 w s ρ σ → f ρ s = some (r, s') → (∀ a vs w', Stp w w' → FR K mg w0 w' s' ρ σ → w.H a = none → a ∉ w'.m → w'.B a = none → w'.H a = some (.lst vs) → A2 (Dq K w'.B) vs r → Q (.ref a) w'.H) → t σ w.H Q
/-- two values -/
def RO (r : R2) (g : S → L → L → Option L) : Prop := ∀ (w : Wd) (s : S) (x y : V) (lx ly l : L) (Q : VK), Wok K mg w s → Lv K w x lx → Lv K w y ly → g s lx ly = some l → (∀ v w', Stp w w' → Wok K mg w' s → Lv K w' v l → Q v w'.H) → r x y w.H Q
def UO (r : V → Hp → VK → Prop) (g : S → L → Option L) : Prop := ∀ (w : Wd) (s : S) (x : V) (lx l : L) (Q : VK), Wok K mg w s → Lv K w x lx → g s lx = some l → (∀ v w', Stp w w' → Wok K mg w' s → Lv K w' v l → Q v w'.H) → r x w.H Q
def CO (r : List V → Hp → VK → Prop) (g : S → List L → Option L) : Prop := ∀ (w : Wd) (s : S) (x : List V) (lx : List L) (l : L) (Q : VK), Wok K mg w s → A2 (Lv K w) x lx → g s lx = some l → (∀ v w', Stp w w' → Wok K mg w' s → Lv K w' v l → Q v w'.H) → r x w.H Q
end
structure SE (X : Cx) (e : Expr) (f : FE) : Prop where
  ex : ∃ t, PE X e t ∧ EO X.K X.mg t f
structure ST (X : Cx) (e : Expr) (f : FT) : Prop where
  ex : ∃ t, PT X e t ∧ TO X.K X.mg t f
structure SW (X : Cx) (e : Expr) (f : FT) : Prop where
  ex : ∃ t, PW X e t ∧ TO X.K X.mg t f
structure SA (X : Cx) (e : List Expr) (f : FA) : Prop where
  ex : ∃ t, PA X e t ∧ AO X.K X.mg t f
structure SF (X : Cx) (e : Expr) (f : FF) : Prop where
  ex : ∃ t, PE X e t ∧ FO X.K X.mg t f
/-! ### views -/
def lsV (s : S) : L → Option (List D)
  | .im (.list l) => some l
  | .ow l => some l
  | .rf n => match s[n]? with
    | some (.dl l) => some l
    | _ => none
  | _ => none
def tpV : L → Option (List D)
  | .im (.tuple l) => some l
  | _ => none
/-- any row -/
def sqV (s : S) : L → Option (List D)
  | .im (.list l) => some l
  | .im (.tuple l) => some l
  | .ow l => some l
  | .sc l => some l
  | .rf n => match s[n]? with
    | some (.dl l) => some l
    | _ => none
  | _ => none
/-- as data -/
def vw (s : S) : L → Option D
  | .im d => some d
  | .ow l => some (.list l)
  | .sc l => some (.list l)
  | .rf n => match s[n]? with
    | some (.dl l) => some (.list l)
    | _ => none
section
variable {K : PySem.W.Frag} {mg : Str → Option Value} {w w' w0 : Wd} {s s' : S} {v : V} {x : L} {l : List D}
theorem lsV_at (W : Wok K mg w s) (h : Lv K w v x) (e : lsV s x = some l) : ∃ a vs, v = .ref a ∧ w.H a = some (.lst vs) ∧ A2 (Dq K w.B) vs l := by
  cases x with
  | im d =>
    cases d with
    | list ds =>
      cases e
      cases h with
      | lst h1 h2 => exact ⟨_, _, rfl, W.ex _ _ h1, dpAll_iff.mp h2⟩
    | _ => cases e
  | rf n =>
    obtain ⟨a, h1, rfl⟩ := h
    dsimp only [lsV] at e
    cases q : s[n]? with
    | none => rw [q] at e; cases e
    | some o =>
      rw [q] at e
      have := W.ok n a o h1 q
      cases o with
      | dl l' =>
        cases e
        obtain ⟨vs, h3, h4⟩ := this
        exact ⟨a, vs, rfl, h3, h4⟩
      | _ => cases e
  | ow l' =>
    cases e
    obtain ⟨a, vs, h1, h2, h3, h4, h5⟩ := h
    exact ⟨a, vs, h1, h4, h5⟩
  | sc l' => cases e
theorem tpV_at (h : Lv K w v x) (e : tpV x = some l) : ∃ a vs, v = .ref a ∧ SqT K w.B a vs ∧ A2 (Dq K w.B) vs l := by
  cases x with
  | im d =>
    cases d with
    | tuple ds =>
      cases e
      cases h with
      | tup h1 h2 => exact ⟨_, _, rfl, h1, dpAll_iff.mp h2⟩
    | _ => cases e
  | _ => cases e
theorem sqV_at (W : Wok K mg w s) (h : Lv K w v x) (e : sqV s x = some l) : ∃ a vs, v = .ref a ∧ (SqL K w.H a vs ∨ SqT K w.H a vs) ∧ A2 (Dq K w.B) vs l := by
  have viaL : lsV s x = some l → ∃ a vs, v = .ref a ∧ (SqL K w.H a vs ∨ SqT K w.H a vs) ∧ A2 (Dq K w.B) vs l := fun e => by
    obtain ⟨a, vs, h1, h2, h3⟩ := lsV_at W h e
    exact ⟨a, vs, h1, .inl (SqL.of h2), h3⟩
  cases x with
  | im d =>
    cases d with
    | list ds => exact viaL e
    | tuple ds =>
      obtain ⟨a, vs, h1, h2, h3⟩ := tpV_at h e
      exact ⟨a, vs, h1, .inr (sqT_mono W.ex h2), h3⟩
    | _ => cases e
  | rf n => exact viaL e
  | ow l' => exact viaL e
  | sc l' =>
    cases e
    obtain ⟨a, vs, h1, h2, h3⟩ := h
    exact ⟨a, vs, h1, .inl (sqL_mono W.ex h2), h3⟩
theorem dq_list {a : Addr} {vs : List V} (h1 : w.H a = some (.lst vs)) (W : Wok K mg w s) (h : A2 (Dq K w.B) vs l) : Dq K w.H (.ref a) (.list l) :=
  .lst h1 (dpAll_iff.mpr (h.mono fun _ _ => dp_mono W.ex _ _))
theorem vw_at (W : Wok K mg w s) (h : Lv K w v x) {d : D} (e : vw s x = some d) : Dp K w.H v d := by
  have viaL : ∀ l, lsV s x = some l → d = .list l → Dp K w.H v d := fun l e q => by
    obtain ⟨a, vs, rfl, h2, h3⟩ := lsV_at W h e
    rw [q]
    exact dq_dp _ _ (dq_list h2 W h3)
  cases x with
  | im d' =>
    cases e
    exact dq_dp _ _ (dp_mono W.ex _ _ h)
  | ow l' => cases e; exact viaL _ rfl rfl
  | sc l' =>
    cases e
    obtain ⟨a, vs, rfl, h2, h3⟩ := h
    exact .lst (sqL_mono W.ex h2) (dqA_dp _ _ (dpAll_iff.mpr (h3.mono fun _ _ => dp_mono W.ex _ _)))
  | rf n =>
    dsimp only [vw] at e
    cases q : s[n]? with
    | none => rw [q] at e; cases e
    | some o =>
      rw [q] at e
      cases o with
      | dl l' =>
        cases e
        exact viaL l' (by dsimp only [lsV]; rw [q]) rfl
      | _ => cases e
theorem lv_kv {r : L} (h : Kv K w v r) : Lv K w v r := by
  cases r with
  | im d => exact h
  | rf n => exact h
  | ow l => exact h.elim
  | sc l => exact h
end
/-! ### names, constants -/
def fVar (i : Nat) : FE := fun ρ s => match ρ[i]? with
  | some (.im d) => some (.im d, s)
  | some (.rf n) => some (.rf n, s)
  | some (.ol l) => some (.ow l, s)
  | some (.sc l) => some (.sc l, s)
  | _ => none
def fC (d : D) : FE := fun _ s => some (.im d, s)
section
variable {X : Cx} {e a b c : Expr} {f g h : FE} {pos : Pos}
theorem fr_slot {K : PySem.W.Frag} {mg : Str → Option Value} {w w0 : Wd} {s : S} {ρ : Ro} {σ : L2.St} (F : FR K mg w0 w s ρ σ) {i : Nat} {z : Slot} (h : ρ[i]? = some z) : ∃ v, σ[i]? = some v ∧ SlotOk K w0 w v z := by
  have hl : i < ρ.length := (List.getElem?_eq_some_iff.mp h).1
  have hl' : i < σ.length := by rw [F.len]; exact hl
  exact ⟨σ[i], by simp [hl'], F.sl i z _ h (by simp [hl'])⟩
theorem se_pv (i : Nat) {x : Str} (hN : X.N[i]? = some x := by rfl) (hv : Vis X.env.scope x := by first | exact Or.inl rfl | exact Or.inr (Or.inl rfl) | exact Or.inr (Or.inr rfl)) (hd : (x == ("__debug__" : Str)) = false := by decide)
    (hcd : (x == ("__classdict__" : Str)) = false := by decide) : SE X (.Name x pos) (fVar i) := by
  refine ⟨tVar i, pe_var hN hv hd hcd, fun w0 w s s' ρ σ r Q F e q => ?_⟩
  unfold fVar at e
  cases hz : ρ[i]? with
  | none => rw [hz] at e; cases e
  | some z =>
    rw [hz] at e
    obtain ⟨v, h1, h2⟩ := fr_slot F hz
    cases z with
    | un => cases e
    | im d =>
      cases e
      obtain ⟨x, rfl, h3⟩ := h2
      exact ⟨x, h1, q x w (Stp.refl w) F h3⟩
    | rf n =>
      cases e
      obtain ⟨a, rfl, h3⟩ := h2
      exact ⟨_, h1, q _ w (Stp.refl w) F ⟨a, h3, rfl⟩⟩
    | ol l =>
      cases e
      obtain ⟨a, vs, rfl, h3, h0, h4, h5, h6⟩ := h2
      exact ⟨_, h1, q _ w (Stp.refl w) F ⟨a, vs, rfl, h3, h4, h5, h6⟩⟩
    | sc l =>
      cases e
      obtain ⟨a, vs, rfl, h3, h4⟩ := h2
      exact ⟨_, h1, q _ w (Stp.refl w) F ⟨a, vs, rfl, h3, h4⟩⟩
theorem eo_c {K : PySem.W.Frag} {mg : Str → Option Value} {v : V} {d : D} (h : ∀ B, Dq K B v d) : EO K mg (tC v) (fC d) := by
  intro w0 w s s' ρ σ r Q F e q
  cases e
  exact q v w (Stp.refl w) F (h _)
theorem se_int {i : Int} {j : Nat} : SE X (.Constant (.int i) j pos) (fC (.int i)) := ⟨_, pe_int, eo_c fun _ => .int i⟩
theorem se_bl {i : Bool} {j : Nat} : SE X (.Constant (.bool i) j pos) (fC (.bool i)) := ⟨_, pe_bl, eo_c fun _ => .bl i⟩
theorem se_str {i : Str} {j : Nat} : SE X (.Constant (.str i) j pos) (fC (.str i)) := ⟨_, pe_str, eo_c fun _ => .str i⟩
theorem se_non {j : Nat} : SE X (.Constant .none j pos) (fC .none) := ⟨_, pe_non, eo_c fun _ => .non⟩
/-- a number of the module -/
theorem se_gint {x : Str} {i : Int} {u : Value} (hg : Gl X x) (hm : X.mg x = some u) (r : RelV (.int i) u) (hd : (x == ("__debug__" : Str)) = false := by decide) : SE X (.Name x pos) (fC (.int i)) := ⟨_, pe_glob hg hm r hd, eo_c fun _ => .int i⟩
/-! ### two operands -/
def fOp (g : S → L → L → Option L) (f h : FE) : FE := fun ρ s => (f ρ s).bind fun p => (h ρ p.2).bind fun q => (g q.2 p.1 q.1).bind fun r => some (r, q.2)
def fUn (g : S → L → Option L) (f : FE) : FE := fun ρ s => (f ρ s).bind fun p => (g p.2 p.1).bind fun r => some (r, p.2)
theorem eo_op {K : PySem.W.Frag} {mg : Str → Option Value} {ta tb : TE} {r : R2} {o : S → L → L → Option L} (ha : EO K mg ta f) (hb : EO K mg tb g) (hr : RO K mg r o) : EO K mg (tOp r ta tb) (fOp o f g) := by
  intro w0 w s s' ρ σ l Q F e q
  unfold fOp at e
  obtain ⟨⟨x, s1⟩, e1, e⟩ := Option.bind_eq_some_iff.mp e
  obtain ⟨⟨y, s2⟩, e2, e⟩ := Option.bind_eq_some_iff.mp e
  obtain ⟨lz, e3, e⟩ := Option.bind_eq_some_iff.mp e
  cases e
  refine ha w0 w s s1 ρ σ x _ F e1 fun v w1 st1 F1 r1 => ?_
  refine hb w0 w1 s1 s2 ρ σ y _ F1 e2 fun u w2 st2 F2 r2 => ?_
  exact hr w2 s2 v u x y _ Q F2.wk (st2.lv' r1) r2 e3 fun v3 w3 st3 k3 r3 => q v3 w3 ((st1.trans st2).trans st3) (F2.step st3 k3) r3
theorem eo_un {K : PySem.W.Frag} {mg : Str → Option Value} {ta : TE} {r : V → Hp → VK → Prop} {o : S → L → Option L} (ha : EO K mg ta f) (hr : UO K mg r o) : EO K mg (tUn r ta) (fUn o f) := by
  intro w0 w s s' ρ σ l Q F e q
  unfold fUn at e
  obtain ⟨⟨x, s1⟩, e1, e⟩ := Option.bind_eq_some_iff.mp e
  obtain ⟨lz, e3, e⟩ := Option.bind_eq_some_iff.mp e
  cases e
  refine ha w0 w s s1 ρ σ x _ F e1 fun v w1 st1 F1 r1 => ?_
  exact hr w1 s1 v x _ Q F1.wk r1 e3 fun v3 w3 st3 k3 r3 => q v3 w3 (st1.trans st3) (F1.step st3 k3) r3
theorem RO.or {K : PySem.W.Frag} {mg : Str → Option Value} {r r' : R2} {o o' : S → L → L → Option L} (h : RO K mg r o) (h' : RO K mg r' o') : RO K mg (fun x y H Q => r x y H Q ∨ r' x y H Q) (fun s x y => (o s x y).or (o' s x y)) := by
  intro w s x y lx ly l Q k r1 r2 e q
  cases e1 : o s lx ly with
  | some z =>
    have e : (o s lx ly).or (o' s lx ly) = some l := e
    rw [e1] at e; cases e
    exact .inl (h w s x y lx ly l Q k r1 r2 e1 q)
  | none =>
    have e : (o s lx ly).or (o' s lx ly) = some l := e
    rw [e1] at e
    exact .inr (h' w s x y lx ly l Q k r1 r2 e q)
theorem se_bin {op : Operator} {r : R2} {o : S → L → L → Option L} (ho : OpR X (binaryOp op) r) (hr : RO X.K X.mg r o) (ha : SE X a f) (hb : SE X b g) : SE X (.BinOp a op b pos) (fOp o f g) := by
  obtain ⟨ta, pa, ea⟩ := ha.ex
  obtain ⟨tb, pb, eb⟩ := hb.ex
  exact ⟨_, pe_op ho pa pb, eo_op ea eb hr⟩
theorem se_cmp {op : CmpOp} {r : R2} {o : S → L → L → Option L} (ho : OpR X (compareOp op) r) (hr : RO X.K X.mg r o) (ha : SE X a f) (hb : SE X b g) (hm : behindInMarks op b = false) : SE X (.Compare a [op] [b] pos) (fOp o f g) := by
  obtain ⟨ta, pa, ea⟩ := ha.ex
  obtain ⟨tb, pb, eb⟩ := hb.ex
  exact ⟨_, pe_cmpR ho pa pb hm, eo_op ea eb hr⟩
theorem se_un {op : UnaryOp} {r : V → Hp → VK → Prop} {o : S → L → Option L} (ho : UnR X (unaryOp op) r) (hr : UO X.K X.mg r o) (ha : SE X a f) : SE X (.UnaryOp op a pos) (fUn o f) := by
  obtain ⟨ta, pa, ea⟩ := ha.ex
  exact ⟨_, pe_un ho pa, eo_un ea hr⟩
theorem se_ix {r : R2} {o : S → L → L → Option L} (ho : IxR X r) (hr : RO X.K X.mg r o) (ha : SE X a f) (hb : SE X b g) (hs : PlainIx b := by exact fun _ _ => rfl) : SE X (.Subscript a b pos) (fOp o f g) := by
  obtain ⟨ta, pa, ea⟩ := ha.ex
  obtain ⟨tb, pb, eb⟩ := hb.ex
  exact ⟨_, pe_ix ho pa pb hs, eo_op ea eb hr⟩
end
/-! ints -/
def gI (o : Int → Int → Option D) : S → L → L → Option L
  | _, .im (.int i), .im (.int j) => (o i j).bind fun d => some (.im d)
  | _, _, _ => none
theorem gI_some {o : Int → Int → Option D} {s : S} {x y l : L} (e : gI o s x y = some l) : ∃ i j d, x = .im (.int i) ∧ y = .im (.int j) ∧ o i j = some d ∧ l = .im d := by
  unfold gI at e
  split at e
  · obtain ⟨d, h1, h2⟩ := Option.bind_eq_some_iff.mp e
    cases h2
    exact ⟨_, _, d, rfl, rfl, h1, rfl⟩
  · cases e
section
variable {K : PySem.W.Frag} {mg : Str → Option Value} {w : Wd} {v : V}
theorem lv_int {i : Int} (h : Lv K w v (.im (.int i))) : v = .int i := by cases h; rfl
theorem lv_bl {i : Bool} (h : Lv K w v (.im (.bool i))) : v = .bl i := by cases h; rfl
theorem lv_str {i : Str} (h : Lv K w v (.im (.str i))) : v = .str i := by cases h; rfl
theorem lv_non (h : Lv K w v (.im .none)) : v = .non := by cases h; rfl
theorem ro_I0 {h : Int → Int → Int} : RO K mg (rI0 fun i j => .int (h i j)) (gI fun i j => some (.int (h i j))) := by
  intro w s x y lx ly l Q k r1 r2 e q
  obtain ⟨i, j, d, rfl, rfl, e1, rfl⟩ := gI_some e
  cases e1
  exact ⟨i, j, lv_int r1, lv_int r2, q _ w (Stp.refl w) k (.int _)⟩
theorem ro_B0 {h : Int → Int → Bool} : RO K mg (rI0 fun i j => .bl (h i j)) (gI fun i j => some (.bool (h i j))) := by
  intro w s x y lx ly l Q k r1 r2 e q
  obtain ⟨i, j, d, rfl, rfl, e1, rfl⟩ := gI_some e
  cases e1
  exact ⟨i, j, lv_int r1, lv_int r2, q _ w (Stp.refl w) k (.bl _)⟩
theorem ro_I {C : Int → Int → Prop} [∀ i j, Decidable (C i j)] {h : Int → Int → Int} : RO K mg (rI C fun i j => .int (h i j)) (gI fun i j => if C i j then some (.int (h i j)) else none) := by
  intro w s x y lx ly l Q k r1 r2 e q
  obtain ⟨i, j, d, rfl, rfl, e1, rfl⟩ := gI_some e
  by_cases c : C i j
  · rw [if_pos c] at e1; cases e1
    exact ⟨i, j, lv_int r1, lv_int r2, c, q _ w (Stp.refl w) k (.int _)⟩
  · rw [if_neg c] at e1; cases e1
end
instance (i j : Int) : Decidable (CMul i j) := inferInstanceAs (Decidable (_ ∨ _))
instance (i j : Int) : Decidable (CDivN i j) := inferInstanceAs (Decidable (_ ∧ _))
instance (i j : Int) : Decidable (CDiv i j) := inferInstanceAs (Decidable (_ ∧ _))
/-! sums: ints, lists, tuples -/
def big : Nat := 16777216
theorem big_line {n : Nat} (h : n ≤ big) : n ≤ sizeLine := by rw [sizeLine_eq]; exact h
theorem big_lt {n : Nat} (h : n < big) : n < sizeLine := by rw [sizeLine_eq]; exact h
def gCatL : S → L → L → Option L := fun s x y => (lsV s x).bind fun a => (lsV s y).bind fun b => if a.length + b.length ≤ big then some (.im (.list (a ++ b))) else none
def gCatT : S → L → L → Option L := fun _ x y => (tpV x).bind fun a => (tpV y).bind fun b => if a ≠ [] ∧ a.length + b.length ≤ big then some (.im (.tuple (a ++ b))) else none
section
variable {K : PySem.W.Frag} {mg : Str → Option Value}
theorem new_lst {w : Wd} {s : S} (k : Wok K mg w s) {p : Addr} {vs : List V} {l : List D} (hp : w.H p = none) (h : A2 (Dq K w.B) vs l) {Q : VK} (q : ∀ v w', Stp w w' → Wok K mg w' s → Lv K w' v (.im (.list l)) → Q v w'.H) : Q (.ref p) (upd w.H p (.lst vs)) := by
  obtain ⟨st, k'⟩ := k.imm (o := .lst vs) hp
  exact q (.ref p) _ st k' (.lst upd_same (dpAll_iff.mpr (st.dps h)))
theorem new_tup {w : Wd} {s : S} (k : Wok K mg w s) {p : Addr} {vs : List V} {l : List D} (hp : w.H p = none) (h : A2 (Dq K w.B) vs l) {Q : VK} (q : ∀ v w', Stp w w' → Wok K mg w' s → Lv K w' v (.im (.tuple l)) → Q v w'.H) : Q (.ref p) (upd w.H p (.tup vs)) := by
  obtain ⟨st, k'⟩ := k.imm (o := .tup vs) hp
  exact q (.ref p) _ st k' (.tup (SqT.of upd_same) (dpAll_iff.mpr (st.dps h)))
theorem ro_catL : RO K mg rCat gCatL := by
  intro w s x y lx ly l Q k r1 r2 e q
  obtain ⟨a, e1, e⟩ := Option.bind_eq_some_iff.mp e
  obtain ⟨b, e2, e⟩ := Option.bind_eq_some_iff.mp e
  obtain ⟨p1, v1, rfl, h1, d1⟩ := lsV_at k r1 e1
  obtain ⟨p2, v2, rfl, h2, d2⟩ := lsV_at k r2 e2
  split at e
  · rename_i c
    cases e
    exact ⟨p1, p2, v1, v2, rfl, rfl, h1, h2, by rw [d1.length, d2.length]; exact big_line c, fun p hp => new_lst k hp (d1.append d2) q⟩
  · cases e
theorem A2.ne {α β : Type} {R : α → β → Prop} {as : List α} {bs : List β} (h : A2 R as bs) (n : bs ≠ []) : as ≠ [] := by
  cases h with
  | nil => exact absurd rfl n
  | cons _ _ => simp
theorem ro_catT : RO K mg (rCatT K) gCatT := by
  intro w s x y lx ly l Q k r1 r2 e q
  obtain ⟨a, e1, e⟩ := Option.bind_eq_some_iff.mp e
  obtain ⟨b, e2, e⟩ := Option.bind_eq_some_iff.mp e
  obtain ⟨p1, v1, rfl, h1, d1⟩ := tpV_at r1 e1
  obtain ⟨p2, v2, rfl, h2, d2⟩ := tpV_at r2 e2
  split at e
  · rename_i c
    cases e
    refine ⟨p1, p2, v1, v2, rfl, rfl, sqT_mono k.ex h1, sqT_mono k.ex h2, d1.ne c.1, by rw [d1.length, d2.length]; exact big_line c.2, fun z => ?_, fun _ p hp => new_tup k hp (d1.append d2) q⟩
    subst z
    cases d2
    exact q _ w (Stp.refl w) k (.tup h1 (dpAll_iff.mpr (by simpa using d1)))
  · cases e
end
end Zz
set_option Elab.async false
set_option linter.all false
/-! ZC: operators, tests, displays, built-in calls, places and slices -/
namespace Zz
open PySem L2
/-! ### operators -/
def gCatA : S → L → L → Option L := fun _ x y => (tpV x).bind fun a => (tpV y).bind fun b => if a.length + b.length ≤ big then some (.im (.tuple (a ++ b))) else none
def gStrS : S → L → L → Option L
  | _, .im (.str a), .im (.str b) => if a.length + b.length ≤ big then some (.im (.str (a ++ b))) else none
  | _, _, _ => none
def gAdd : S → L → L → Option L := fun s x y => (gI (fun i j => some (.int (i + j))) s x y).or ((gCatL s x y).or ((gCatA s x y).or (gStrS s x y)))
def gSub : S → L → L → Option L := gI fun i j => some (.int (i - j))
def gRepL : S → L → L → Option L := fun s x y => match lsV s x, y with
  | some l, .im (.int k) => if -(2 ^ 63) ≤ k ∧ k < 2 ^ 63 ∧ l.length * k.toNat ≤ big then some (.im (.list (List.replicate k.toNat l).flatten)) else none
  | _, _ => none
def gRepT : S → L → L → Option L := fun s x y => match tpV x, y with
  | some l, .im (.int k) => if l ≠ [] ∧ 2 ≤ k ∧ k ≤ 1000 ∧ l.length ≤ 1000 then some (.im (.tuple (List.replicate k.toNat l).flatten)) else none
  | _, _ => none
def gMulI : S → L → L → Option L := gI fun i j => if CMul i j then some (.int (i * j)) else none
def gMul : S → L → L → Option L := fun s x y => (gMulI s x y).or ((gRepL s x y).or (gRepT s x y))
def gMod : S → L → L → Option L := gI fun i j => if 0 < j then some (.int (i % j)) else none
def gDiv : S → L → L → Option L := gI fun i j => if CDiv i j then some (.int (i / j)) else none
def gLt : S → L → L → Option L := gI fun i j => some (.bool (decide (i < j)))
def gLe : S → L → L → Option L := gI fun i j => some (.bool (decide (i ≤ j)))
def gGt : S → L → L → Option L := gI fun i j => some (.bool (decide (j < i)))
def gGe : S → L → L → Option L := gI fun i j => some (.bool (decide (j ≤ i)))
def eqS : L → L → Option Bool
  | .im (.int i), .im (.int j) => some (decide (i = j))
  | .im (.bool i), .im (.bool j) => some (decide (i = j))
  | .im (.str i), .im (.str j) => some (decide (i = j))
  | .im .none, .im .none => some true
  | .im .none, .im (.int _) => some false
  | .im (.int _), .im .none => some false
  | .im .none, .im (.bool _) => some false
  | .im (.bool _), .im .none => some false
  | .im .none, .im (.str _) => some false
  | .im (.str _), .im .none => some false
  | .im (.int _), .im (.str _) => some false
  | .im (.str _), .im (.int _) => some false
  | .im (.bool _), .im (.str _) => some false
  | .im (.str _), .im (.bool _) => some false
  | _, _ => none
def okD (d : D) : Bool := SeqAt.shaped d
def gEqS (neg : Bool) : S → L → L → Option L := fun _ x y => (eqS x y).bind fun b => some (.im (.bool (if neg then !b else b)))
def gEqD (neg : Bool) : S → L → L → Option L := fun s x y => (vw s x).bind fun d => (vw s y).bind fun e => if okD d = true ∧ okD e = true then some (.im (.bool (if neg then !PyData.eqv d e else PyData.eqv d e))) else none
def gEq : S → L → L → Option L := fun s x y => (gEqS false s x y).or (gEqD false s x y)
def gNe : S → L → L → Option L := fun s x y => (gEqS true s x y).or (gEqD true s x y)
def isNone : L → Bool
  | .im .none => true
  | _ => false
def gIsN (neg : Bool) : S → L → L → Option L
  | _, x, .im .none => some (.im (.bool (if neg then !isNone x else isNone x)))
  | _, _, _ => none
def gIsB (neg : Bool) : S → L → L → Option L
  | _, .im (.bool a), .im (.bool b) => some (.im (.bool (if neg then !decide (a = b) else decide (a = b))))
  | _, _, _ => none
def gIs : S → L → L → Option L := fun s x y => (gIsN false s x y).or (gIsB false s x y)
def gNotIs : S → L → L → Option L := fun s x y => (gIsN true s x y).or (gIsB true s x y)
def flatD : D → Bool
  | .none => true
  | .bool _ => true
  | .int _ => true
  | .str _ => true
  | _ => false
/-- x in a row of flat things, or in a list of any data -/
def gInF (neg : Bool) : S → L → L → Option L := fun s x y => match x with
  | .im d => (sqV s y).bind fun l => if flatD d = true ∧ l.all flatD = true then some (.im (.bool (if neg then !(l.any fun z => PyData.eqv z d) else l.any fun z => PyData.eqv z d))) else none
  | _ => none
def gInD (neg : Bool) : S → L → L → Option L := fun s x y => (vw s x).bind fun d => (lsV s y).bind fun l => if okD d = true ∧ okD (.list l) = true then some (.im (.bool (if neg then !(l.any fun z => PyData.eqv z d) else l.any fun z => PyData.eqv z d))) else none
def gIn (neg : Bool) : S → L → L → Option L := fun s x y => (gInF neg s x y).or (gInD neg s x y)
section
variable {K : PySem.W.Frag} {mg : Str → Option Value}
theorem ro_catA : RO K mg (rCatA K) gCatA := by
  intro w s x y lx ly l Q k r1 r2 e q
  obtain ⟨a, e1, e⟩ := Option.bind_eq_some_iff.mp e
  obtain ⟨b, e2, e⟩ := Option.bind_eq_some_iff.mp e
  obtain ⟨p1, v1, rfl, h1, d1⟩ := tpV_at r1 e1
  obtain ⟨p2, v2, rfl, h2, d2⟩ := tpV_at r2 e2
  split at e
  · rename_i c
    cases e
    refine ⟨p1, p2, v1, v2, rfl, rfl, sqT_mono k.ex h1, sqT_mono k.ex h2, by rw [d1.length, d2.length]; exact big_line c, ?_⟩
    refine ⟨fun z => ?_, fun _ z => ?_, fun _ _ p hp => new_tup k hp (d1.append d2) q⟩
    · subst z
      cases d1
      exact q _ w (Stp.refl w) k (.tup h2 (dpAll_iff.mpr (by simpa using d2)))
    · subst z
      cases d2
      exact q _ w (Stp.refl w) k (.tup h1 (dpAll_iff.mpr (by simpa using d1)))
  · cases e
theorem ro_strS : RO K mg (fun x y H Q => ∃ i j, x = .str i ∧ y = .str j ∧ i.length + j.length ≤ sizeLine ∧ Q (.str (i ++ j)) H) gStrS := by
  intro w s x y lx ly l Q k r1 r2 e q
  unfold gStrS at e
  split at e
  · split at e
    · rename_i c
      cases e
      exact ⟨_, _, lv_str r1, lv_str r2, big_line c, q _ w (Stp.refl w) k (.str _)⟩
    · cases e
  · cases e
theorem ro_repL : RO K mg rRep gRepL := by
  intro w s x y lx ly l Q k r1 r2 e q
  unfold gRepL at e
  split at e
  · rename_i l' n e1
    obtain ⟨p1, v1, rfl, h1, d1⟩ := lsV_at k r1 e1
    split at e
    · rename_i c
      cases e
      exact ⟨p1, n, v1, rfl, lv_int r2, h1, c.1, c.2.1, by rw [d1.length]; exact big_line c.2.2, fun p hp => new_lst k hp (d1.rep _) q⟩
    · cases e
  · cases e
theorem ro_repT : RO K mg (rRepT K) gRepT := by
  intro w s x y lx ly l Q k r1 r2 e q
  unfold gRepT at e
  split at e
  · rename_i l' n e1
    obtain ⟨p1, v1, rfl, h1, d1⟩ := tpV_at r1 e1
    split at e
    · rename_i c
      cases e
      exact ⟨p1, n, v1, rfl, lv_int r2, sqT_mono k.ex h1, d1.ne c.1, c.2.1, c.2.2.1, by rw [d1.length]; exact c.2.2.2, fun p hp => new_tup k hp (d1.rep _) q⟩
    · cases e
  · cases e
theorem eqS_at {w : Wd} {x y : V} {lx ly : L} {b : Bool} (r1 : Lv K w x lx) (r2 : Lv K w y ly) (e : eqS lx ly = some b) : scal x y = true ∧ decide (x = y) = b := by
  unfold eqS at e
  split at e <;> first | cases e | skip
  all_goals (cases r1; cases r2; refine ⟨rfl, ?_⟩; first | rfl | simp)
theorem ro_eqS : RO K mg rEq (gEqS false) := by
  intro w s x y lx ly l Q k r1 r2 e q
  obtain ⟨b, e1, e⟩ := Option.bind_eq_some_iff.mp e
  cases e
  obtain ⟨h1, h2⟩ := eqS_at r1 r2 e1
  exact ⟨h1, by rw [h2]; exact q _ w (Stp.refl w) k (.bl _)⟩
theorem ro_neS : RO K mg rNe (gEqS true) := by
  intro w s x y lx ly l Q k r1 r2 e q
  obtain ⟨b, e1, e⟩ := Option.bind_eq_some_iff.mp e
  cases e
  obtain ⟨h1, h2⟩ := eqS_at r1 r2 e1
  exact ⟨h1, by rw [h2]; exact q _ w (Stp.refl w) k (.bl _)⟩
theorem ro_eqD : RO K mg (rEqD K) (gEqD false) := by
  intro w s x y lx ly l Q k r1 r2 e q
  obtain ⟨d, e1, e⟩ := Option.bind_eq_some_iff.mp e
  obtain ⟨d', e2, e⟩ := Option.bind_eq_some_iff.mp e
  split at e
  · rename_i c
    cases e
    exact ⟨d, d', vw_at k r1 e1, vw_at k r2 e2, c.1, c.2, q _ w (Stp.refl w) k (.bl _)⟩
  · cases e
theorem ro_neD : RO K mg (rNeD K) (gEqD true) := by
  intro w s x y lx ly l Q k r1 r2 e q
  obtain ⟨d, e1, e⟩ := Option.bind_eq_some_iff.mp e
  obtain ⟨d', e2, e⟩ := Option.bind_eq_some_iff.mp e
  split at e
  · rename_i c
    cases e
    exact ⟨d, d', vw_at k r1 e1, vw_at k r2 e2, c.1, c.2, q _ w (Stp.refl w) k (.bl _)⟩
  · cases e
theorem isNone_at {w : Wd} {x : V} {lx : L} (r : Lv K w x lx) : decide (x = .non) = isNone lx := by
  cases lx with
  | im d => cases r <;> rfl
  | rf n => obtain ⟨a, _, rfl⟩ := r; rfl
  | ow l => obtain ⟨a, _, rfl, _⟩ := r; rfl
  | sc l => obtain ⟨a, _, rfl, _⟩ := r; rfl
theorem ro_isN : RO K mg (fun x y H Q => y = .non ∧ Q (.bl (decide (x = .non))) H) (gIsN false) := by
  intro w s x y lx ly l Q k r1 r2 e q
  unfold gIsN at e
  split at e
  · cases e
    exact ⟨lv_non r2, by rw [isNone_at r1]; exact q _ w (Stp.refl w) k (.bl _)⟩
  · cases e
theorem ro_notN : RO K mg (fun x y H Q => y = .non ∧ Q (.bl (!decide (x = .non))) H) (gIsN true) := by
  intro w s x y lx ly l Q k r1 r2 e q
  unfold gIsN at e
  split at e
  · cases e
    exact ⟨lv_non r2, by rw [isNone_at r1]; exact q _ w (Stp.refl w) k (.bl _)⟩
  · cases e
theorem ro_isB : RO K mg rIsB (gIsB false) := by
  intro w s x y lx ly l Q k r1 r2 e q
  unfold gIsB at e
  split at e
  · cases e
    exact ⟨_, _, lv_bl r1, lv_bl r2, q _ w (Stp.refl w) k (.bl _)⟩
  · cases e
theorem ro_notB : RO K mg rNotB (gIsB true) := by
  intro w s x y lx ly l Q k r1 r2 e q
  unfold gIsB at e
  split at e
  · cases e
    exact ⟨_, _, lv_bl r1, lv_bl r2, q _ w (Stp.refl w) k (.bl _)⟩
  · cases e
theorem flat_at {B : Hp} {v : V} {d : D} (h : Dq K B v d) (f : flatD d = true) : flatV v = true := by
  cases h <;> first | rfl | cases f
theorem eqV_at {B : Hp} {v u : V} {d e : D} (h : Dq K B v d) (f : flatD d = true) (h' : Dq K B u e) (f' : flatD e = true) : eqV v u = PyData.eqv d e := by
  cases h <;> first
    | (cases h' <;> first | rfl | (simp [eqV, PyData.eqv]; done) | (exact absurd f' (by simp [flatD])))
    | exact absurd f (by simp [flatD])
theorem allF_at {B : Hp} {vs : List V} {l : List D} (h : A2 (Dq K B) vs l) (f : l.all flatD = true) : vs.all flatV = true := by
  induction h with
  | nil => rfl
  | cons r _ ih =>
    simp only [List.all_cons, Bool.and_eq_true] at f ⊢
    exact ⟨flat_at r f.1, ih f.2⟩
theorem inV_at {B : Hp} {vs : List V} {l : List D} {x : V} {d : D} (h : A2 (Dq K B) vs l) (f : l.all flatD = true) (r : Dq K B x d) (fd : flatD d = true) : inV x vs = l.any fun z => PyData.eqv z d := by
  unfold inV
  induction h with
  | nil => rfl
  | cons q _ ih =>
    simp only [List.all_cons, Bool.and_eq_true, List.any_cons] at f ⊢
    rw [ih f.2, eqV_at q f.1 r fd]
theorem ro_inF (neg : Bool) : RO K mg (rIn K neg) (gInF neg) := by
  intro w s x y lx ly l Q k r1 r2 e q
  unfold gInF at e
  split at e
  · rename_i d
    obtain ⟨ds, e1, e⟩ := Option.bind_eq_some_iff.mp e
    obtain ⟨p, vs, rfl, h1, h2⟩ := sqV_at k r2 e1
    split at e
    · rename_i c
      cases e
      refine ⟨p, vs, rfl, h1, flat_at r1 c.1, allF_at h2 c.2, ?_⟩
      rw [inV_at h2 c.2 r1 c.1]
      exact q _ w (Stp.refl w) k (.bl _)
    · cases e
  · cases e
theorem in_lst {w : Wd} {s : S} (k : Wok K mg w s) {y : V} {ly : L} {ds : List D} (r2 : Lv K w y ly) (e2 : lsV s ly = some ds) : Dp K w.H y (.list ds) := by
  obtain ⟨p, vs, rfl, h1, h2⟩ := lsV_at k r2 e2
  exact dq_dp _ _ (dq_list h1 k h2)
theorem ro_inD : RO K mg (rInD K) (gInD false) := by
  intro w s x y lx ly l Q k r1 r2 e q
  obtain ⟨d, e1, e⟩ := Option.bind_eq_some_iff.mp e
  obtain ⟨ds, e2, e⟩ := Option.bind_eq_some_iff.mp e
  split at e
  · rename_i c
    cases e
    exact ⟨d, ds, vw_at k r1 e1, in_lst k r2 e2, c.1, c.2, q _ w (Stp.refl w) k (.bl _)⟩
  · cases e
theorem ro_notInD : RO K mg (rNotInD K) (gInD true) := by
  intro w s x y lx ly l Q k r1 r2 e q
  obtain ⟨d, e1, e⟩ := Option.bind_eq_some_iff.mp e
  obtain ⟨ds, e2, e⟩ := Option.bind_eq_some_iff.mp e
  split at e
  · rename_i c
    cases e
    exact ⟨d, ds, vw_at k r1 e1, in_lst k r2 e2, c.1, c.2, q _ w (Stp.refl w) k (.bl _)⟩
  · cases e
end
section
variable {X : Cx} {a b c : Expr} {f g h : FE} {pos : Pos}
theorem se_add (ha : SE X a f) (hb : SE X b g) : SE X (.BinOp a .Add b pos) (fOp gAdd f g) := se_bin (op_add.or (op_cat.or (op_catA.or op_add_str))) ((ro_I0 (h := fun i j => i + j)).or (ro_catL.or (ro_catA.or ro_strS))) ha hb
theorem se_sub (ha : SE X a f) (hb : SE X b g) : SE X (.BinOp a .Sub b pos) (fOp gSub f g) := se_bin op_sub (ro_I0 (h := fun i j => i - j)) ha hb
theorem se_mul (ha : SE X a f) (hb : SE X b g) : SE X (.BinOp a .Mult b pos) (fOp gMul f g) := se_bin (op_mul.or (op_rep.or op_repT)) ((ro_I (C := CMul) (h := fun i j => i * j)).or (ro_repL.or ro_repT)) ha hb
theorem se_mod (ha : SE X a f) (hb : SE X b g) : SE X (.BinOp a .Mod b pos) (fOp gMod f g) := se_bin op_mod (ro_I (C := fun _ j => 0 < j) (h := fun i j => i % j)) ha hb
theorem se_div (ha : SE X a f) (hb : SE X b g) : SE X (.BinOp a .FloorDiv b pos) (fOp gDiv f g) := se_bin op_fdiv (ro_I (C := CDiv) (h := fun i j => i / j)) ha hb
theorem se_lt (ha : SE X a f) (hb : SE X b g) : SE X (.Compare a [.Lt] [b] pos) (fOp gLt f g) := se_cmp op_lt (ro_B0 (h := fun i j => decide (i < j))) ha hb (nomark _)
theorem se_le (ha : SE X a f) (hb : SE X b g) : SE X (.Compare a [.LtE] [b] pos) (fOp gLe f g) := se_cmp op_le (ro_B0 (h := fun i j => decide (i ≤ j))) ha hb (nomark _)
theorem se_gt (ha : SE X a f) (hb : SE X b g) : SE X (.Compare a [.Gt] [b] pos) (fOp gGt f g) := se_cmp op_gt (ro_B0 (h := fun i j => decide (j < i))) ha hb (nomark _)
theorem se_ge (ha : SE X a f) (hb : SE X b g) : SE X (.Compare a [.GtE] [b] pos) (fOp gGe f g) := se_cmp op_ge (ro_B0 (h := fun i j => decide (j ≤ i))) ha hb (nomark _)
theorem se_eq {k : Nat} (hr : Room k X.A) (ha : SE X a f) (hb : SE X b g) : SE X (.Compare a [.Eq] [b] pos) (fOp gEq f g) := se_cmp (op_eq.or (op_eqD hr.units)) (ro_eqS.or ro_eqD) ha hb (nomark _)
theorem se_ne {k : Nat} (hr : Room k X.A) (ha : SE X a f) (hb : SE X b g) : SE X (.Compare a [.NotEq] [b] pos) (fOp gNe f g) := se_cmp (op_ne.or (op_neD hr.units)) (ro_neS.or ro_neD) ha hb (nomark _)
theorem se_is (ha : SE X a f) (hb : SE X b g) : SE X (.Compare a [.Is] [b] pos) (fOp gIs f g) := se_cmp (op_isN.or op_isBl) (ro_isN.or ro_isB) ha hb (nomark _)
theorem se_isnot (ha : SE X a f) (hb : SE X b g) : SE X (.Compare a [.IsNot] [b] pos) (fOp gNotIs f g) := se_cmp (op_notN.or op_notBl) (ro_notN.or ro_notB) ha hb (nomark _)
theorem room65 {k : Nat} {A : Around} (hr : Room k A) : A.units + 65 < cLine := by have := hr.un; omega
theorem se_in {k : Nat} (hr : Room k X.A) (ha : SE X a f) (hb : SE X b g) (hm : behindInMarks .In b = false := by rfl) : SE X (.Compare a [.In] [b] pos) (fOp (gIn false) f g) := se_cmp (op_in_seq.or (op_inD (room65 hr))) ((ro_inF false).or ro_inD) ha hb hm
theorem se_notin {k : Nat} (hr : Room k X.A) (ha : SE X a f) (hb : SE X b g) (hm : behindInMarks .NotIn b = false := by rfl) : SE X (.Compare a [.NotIn] [b] pos) (fOp (gIn true) f g) := se_cmp (op_notIn_seq.or (op_notInD (room65 hr))) ((ro_inF true).or ro_notInD) ha hb hm
end
end Zz
set_option Elab.async false
set_option linter.all false
/-! ZD: tests, truth, displays, places, slices, built-in functions -/
namespace Zz
open PySem L2
/-! ### truth -/
def trL (s : S) : L → Option Bool
  | .im .none => some false
  | .im (.bool b) => some b
  | .im (.int i) => some (i != 0)
  | .im (.str z) => if z.length ≤ big then some ((z.length : Int) != 0) else none
  | x => (sqV s x).bind fun l => some (!l.isEmpty)
section
variable {K : PySem.W.Frag} {mg : Str → Option Value} {w : Wd} {s : S}
theorem trL_at (k : Wok K mg w s) {v : V} {x : L} {b : Bool} (r : Lv K w v x) (e : trL s x = some b) : TruV K v w.H b := by
  have seq : ∀ l, sqV s x = some l → b = !l.isEmpty → TruV K v w.H b := fun l h q => by
    obtain ⟨a, vs, rfl, h1, h2⟩ := sqV_at k r h
    have hv : (!l.isEmpty) = !vs.isEmpty := by cases h2 <;> rfl
    rcases h1 with h1 | h1
    · exact .inl ⟨vs, h1, by rw [q, hv]⟩
    · exact .inr (.inl ⟨vs, h1, by rw [q, hv]⟩)
  unfold trL at e
  split at e
  · cases e; cases r; exact rfl
  · cases e; cases r; exact rfl
  · cases e; cases r; exact rfl
  · split at e
    · rename_i c
      cases e; cases r; exact ⟨big_line c, rfl⟩
    · cases e
  · obtain ⟨l, h1, h2⟩ := Option.bind_eq_some_iff.mp e
    cases h2
    exact seq l h1 rfl
end
/-! ### tests -/
def fTest (f : FE) : FT := fun ρ s => (f ρ s).bind fun p => match p.1 with
  | .im (.bool b) => some (b, p.2)
  | _ => none
def fTru (f : FE) : FT := fun ρ s => (f ρ s).bind fun p => (trL p.2 p.1).bind fun b => some (b, p.2)
def fAndT (f g : FT) : FT := fun ρ s => (f ρ s).bind fun p => if p.1 = true then g ρ p.2 else some (false, p.2)
def fOrT (f g : FT) : FT := fun ρ s => (f ρ s).bind fun p => if p.1 = true then some (true, p.2) else g ρ p.2
def fNotT (f : FT) : FT := fun ρ s => (f ρ s).bind fun p => some (!p.1, p.2)
def fBool (f : FT) : FE := fun ρ s => (f ρ s).bind fun p => some (.im (.bool p.1), p.2)
def fIf (t : FT) (f g : FE) : FE := fun ρ s => (t ρ s).bind fun p => if p.1 = true then f ρ p.2 else g ρ p.2
section
variable {X : Cx} {a b c : Expr} {f g h : FE} {t u : FT} {pos : Pos} {rest : List Expr}
theorem st_val (h : SE X a f) (he : ∀ whole, isTrue a X.env whole = (do let v ← whole; standAt a.pos; holding [v] (truthy v)) := by intro _; rfl) : ST X a (fTest f) := by
  obtain ⟨ta, pa, ea⟩ := h.ex
  refine ⟨_, pt_val pa he, fun w0 w s s' ρ σ r Q F e q => ?_⟩
  obtain ⟨⟨x, s1⟩, e1, e⟩ := Option.bind_eq_some_iff.mp e
  refine ea w0 w s s1 ρ σ x _ F e1 fun v w1 st1 F1 r1 => ?_
  dsimp only at e
  split at e
  · cases e
    exact ⟨_, lv_bl r1, q w1 st1 F1⟩
  · cases e
theorem st_tru (h : SE X a f) (he : ∀ whole, isTrue a X.env whole = (do let v ← whole; standAt a.pos; holding [v] (truthy v)) := by intro _; rfl) : ST X a (fTru f) := by
  obtain ⟨ta, pa, ea⟩ := h.ex
  refine ⟨_, pt_truth pa he, fun w0 w s s' ρ σ r Q F e q => ?_⟩
  obtain ⟨⟨x, s1⟩, e1, e⟩ := Option.bind_eq_some_iff.mp e
  obtain ⟨y, e2, e⟩ := Option.bind_eq_some_iff.mp e
  cases e
  exact ea w0 w s _ ρ σ x _ F e1 fun v w1 st1 F1 r1 => ⟨_, trL_at F1.wk r1 e2, q w1 st1 F1⟩
theorem sw_and1 (ha : ST X a t) : SW X (.BoolOp .And [a] pos) t := by
  obtain ⟨ta, pa, ea⟩ := ha.ex
  exact ⟨_, pw_and1 pa, ea⟩
theorem sw_or1 (ha : ST X a t) : SW X (.BoolOp .Or [a] pos) t := by
  obtain ⟨ta, pa, ea⟩ := ha.ex
  exact ⟨_, pw_or1 pa, ea⟩
theorem sw_and (ha : ST X a t) (hb : SW X (.BoolOp .And (b :: rest) pos) u) : SW X (.BoolOp .And (a :: b :: rest) pos) (fAndT t u) := by
  obtain ⟨ta, pa, ea⟩ := ha.ex
  obtain ⟨tb, pb, eb⟩ := hb.ex
  refine ⟨_, pw_and pa pb, fun w0 w s s' ρ σ r Q F e q => ?_⟩
  obtain ⟨⟨x, s1⟩, e1, e⟩ := Option.bind_eq_some_iff.mp e
  refine ea w0 w s s1 ρ σ x _ F e1 fun w1 st1 F1 => ?_
  cases x with
  | true => exact iteT (eb w0 w1 s1 s' ρ σ r _ F1 e fun w2 st2 F2 => q w2 (st1.trans st2) F2)
  | false =>
    cases e
    exact iteF (q w1 st1 F1)
theorem sw_or (ha : ST X a t) (hb : SW X (.BoolOp .Or (b :: rest) pos) u) : SW X (.BoolOp .Or (a :: b :: rest) pos) (fOrT t u) := by
  obtain ⟨ta, pa, ea⟩ := ha.ex
  obtain ⟨tb, pb, eb⟩ := hb.ex
  refine ⟨_, pw_or pa pb, fun w0 w s s' ρ σ r Q F e q => ?_⟩
  obtain ⟨⟨x, s1⟩, e1, e⟩ := Option.bind_eq_some_iff.mp e
  refine ea w0 w s s1 ρ σ x _ F e1 fun w1 st1 F1 => ?_
  cases x with
  | true =>
    cases e
    exact iteT (q w1 st1 F1)
  | false => exact iteF (eb w0 w1 s1 s' ρ σ r _ F1 e fun w2 st2 F2 => q w2 (st1.trans st2) F2)
theorem sw_st (h : SW X a t) : ST X a t := by
  obtain ⟨ta, pa, ea⟩ := h.ex
  exact ⟨_, pa.pt, ea⟩
theorem st_not (ha : ST X a t) : ST X (.UnaryOp .Not a pos) (fNotT t) := by
  obtain ⟨ta, pa, ea⟩ := ha.ex
  refine ⟨_, pt_not pa, fun w0 w s s' ρ σ r Q F e q => ?_⟩
  obtain ⟨⟨x, s1⟩, e1, e⟩ := Option.bind_eq_some_iff.mp e
  cases e
  exact ea w0 w s _ ρ σ x _ F e1 fun w1 st1 F1 => q w1 st1 F1
/-! values by tests: and, or of truth values; not -/
theorem se_one {op : BoolOp} (ha : SE X a f) : SE X (.BoolOp op [a] pos) f := by
  obtain ⟨ta, pa, ea⟩ := ha.ex
  exact ⟨_, pe_one pa, ea⟩
theorem se_and (ha : SE X a f) (hb : SE X (.BoolOp .And (b :: rest) pos) g) : SE X (.BoolOp .And (a :: b :: rest) pos) (fIf (fTest f) g (fC (.bool false))) := by
  obtain ⟨ta, pa, ea⟩ := ha.ex
  obtain ⟨tb, pb, eb⟩ := hb.ex
  refine ⟨_, pe_and pa pb, fun w0 w s s' ρ σ r Q F e q => ?_⟩
  obtain ⟨⟨x, s1⟩, e0, e⟩ := Option.bind_eq_some_iff.mp e
  obtain ⟨⟨y, s2⟩, e1, e2⟩ := Option.bind_eq_some_iff.mp e0
  refine ea w0 w s s2 ρ σ y _ F e1 fun v w1 st1 F1 r1 => ?_
  dsimp only at e2
  split at e2
  · cases e2
    refine ⟨_, lv_bl r1, ?_⟩
    cases x with
    | true => exact iteT (eb w0 w1 s1 s' ρ σ r _ F1 e fun v2 w2 st2 F2 r2 => q v2 w2 (st1.trans st2) F2 r2)
    | false =>
      cases e
      exact iteF (q _ w1 st1 F1 (.bl false))
  · cases e2
theorem se_or (ha : SE X a f) (hb : SE X (.BoolOp .Or (b :: rest) pos) g) : SE X (.BoolOp .Or (a :: b :: rest) pos) (fIf (fTest f) (fC (.bool true)) g) := by
  obtain ⟨ta, pa, ea⟩ := ha.ex
  obtain ⟨tb, pb, eb⟩ := hb.ex
  refine ⟨_, pe_or pa pb, fun w0 w s s' ρ σ r Q F e q => ?_⟩
  obtain ⟨⟨x, s1⟩, e0, e⟩ := Option.bind_eq_some_iff.mp e
  obtain ⟨⟨y, s2⟩, e1, e2⟩ := Option.bind_eq_some_iff.mp e0
  refine ea w0 w s s2 ρ σ y _ F e1 fun v w1 st1 F1 r1 => ?_
  dsimp only at e2
  split at e2
  · cases e2
    refine ⟨_, lv_bl r1, ?_⟩
    cases x with
    | true =>
      cases e
      exact iteT (q _ w1 st1 F1 (.bl true))
    | false => exact iteF (eb w0 w1 s1 s' ρ σ r _ F1 e fun v2 w2 st2 F2 r2 => q v2 w2 (st1.trans st2) F2 r2)
  · cases e2
theorem se_not (ha : SE X a f) : SE X (.UnaryOp .Not a pos) (fBool (fNotT (fTest f))) := by
  obtain ⟨ta, pa, ea⟩ := ha.ex
  refine ⟨_, pe_not pa, fun w0 w s s' ρ σ r Q F e q => ?_⟩
  obtain ⟨⟨x, s1⟩, e0, e⟩ := Option.bind_eq_some_iff.mp e
  obtain ⟨⟨y, s2⟩, e1, e2⟩ := Option.bind_eq_some_iff.mp e0
  obtain ⟨⟨z, s3⟩, e3, e4⟩ := Option.bind_eq_some_iff.mp e1
  refine ea w0 w s s3 ρ σ z _ F e3 fun v w1 st1 F1 r1 => ?_
  dsimp only at e4
  split at e4
  · cases e4; cases e2; cases e
    exact ⟨_, lv_bl r1, q _ w1 st1 F1 (.bl _)⟩
  · cases e4
theorem se_if (hc : ST X c t) (ha : SE X a f) (hb : SE X b g) : SE X (.IfExp c a b pos) (fIf t f g) := by
  obtain ⟨tc, pc, ec⟩ := hc.ex
  obtain ⟨ta, pa, ea⟩ := ha.ex
  obtain ⟨tb, pb, eb⟩ := hb.ex
  refine ⟨_, pe_ifExp pc pa pb, fun w0 w s s' ρ σ r Q F e q => ?_⟩
  obtain ⟨⟨x, s1⟩, e1, e⟩ := Option.bind_eq_some_iff.mp e
  refine ec w0 w s s1 ρ σ x _ F e1 fun w1 st1 F1 => ?_
  cases x with
  | true => exact iteT (ea w0 w1 s1 s' ρ σ r _ F1 e fun v2 w2 st2 F2 r2 => q v2 w2 (st1.trans st2) F2 r2)
  | false => exact iteF (eb w0 w1 s1 s' ρ σ r _ F1 e fun v2 w2 st2 F2 r2 => q v2 w2 (st1.trans st2) F2 r2)
end
/-! ### arguments, displays -/
def fNil : FA := fun _ s => some ([], s)
def fCons (f : FE) (g : FA) : FA := fun ρ s => (f ρ s).bind fun p => (g ρ p.2).bind fun q => some (p.1 :: q.1, q.2)
/-- all are data -/
def imAll : List L → Option (List D)
  | [] => some []
  | .im d :: r => (imAll r).bind fun l => some (d :: l)
  | _ :: _ => none
def fTup (g : FA) : FE := fun ρ s => (g ρ s).bind fun p => (imAll p.1).bind fun l => if l.length ≤ big then some (.im (.tuple l), p.2) else none
def fLst (g : FA) : FF := fun ρ s => (g ρ s).bind fun p => (imAll p.1).bind fun l => if l.length ≤ big then some (l, p.2) else none
/-- a new list that becomes data -/
def fFrz (f : FF) : FE := fun ρ s => (f ρ s).bind fun p => some (.im (.list p.1), p.2)
def keepable : L → Bool
  | .ow _ => false
  | _ => true
/-- a new list of the store: of data alone, or of anything -/
def fNewD (f : FF) : FE := fun ρ s => (f ρ s).bind fun p => some (.rf p.2.length, p.2 ++ [.dl p.1])
def fNewR (g : FA) : FE := fun ρ s => (g ρ s).bind fun p => if p.1.all keepable = true ∧ p.1.length ≤ big then some (.rf p.2.length, p.2 ++ [.rl p.1]) else none
section
variable {K : PySem.W.Frag} {mg : Str → Option Value} {w : Wd} {s : S}
theorem imAll_at : ∀ {xs : List L} {vs : List V} {l : List D}, A2 (Lv K w) vs xs → imAll xs = some l → A2 (Dq K w.B) vs l
  | [], _, _, .nil, e => by cases e; exact .nil
  | .im d :: r, _, _, .cons h t, e => by
    obtain ⟨l, e1, e2⟩ := Option.bind_eq_some_iff.mp e
    cases e2
    exact .cons h (imAll_at t e1)
  | .rf _ :: r, _, _, .cons h t, e => by cases e
  | .ow _ :: r, _, _, .cons h t, e => by cases e
  | .sc _ :: r, _, _, .cons h t, e => by cases e
theorem kv_of {v : V} {x : L} (h : Lv K w v x) (k : keepable x = true) : Kv K w v x := by
  cases x with
  | im d => exact h
  | rf n => exact h
  | ow l => cases k
  | sc l => exact h
theorem kvAll_of {vs : List V} {xs : List L} (h : A2 (Lv K w) vs xs) (k : xs.all keepable = true) : A2 (Kv K w) vs xs := by
  induction h with
  | nil => exact .nil
  | cons r _ ih =>
    simp only [List.all_cons, Bool.and_eq_true] at k
    exact .cons (kv_of r k.1) (ih k.2)
end
section
variable {X : Cx} {a b c : Expr} {es : List Expr} {f : FE} {g : FA} {h : FF} {pos : Pos}
theorem sa_nil : SA X [] fNil := by
  refine ⟨tNil, pa_nil, fun w0 w s s' ρ σ r Q F e q => ?_⟩
  cases e
  exact q [] w (Stp.refl w) F .nil
theorem sa_cons (ha : SE X a f) (hb : SA X es g) (hs : starEach (a :: es) X.env = (false, eval a X.env) :: starEach es X.env := by rfl) : SA X (a :: es) (fCons f g) := by
  obtain ⟨ta, pa, ea⟩ := ha.ex
  obtain ⟨tb, pb, eb⟩ := hb.ex
  refine ⟨_, pa_cons pa pb hs, fun w0 w s s' ρ σ r Q F e q => ?_⟩
  obtain ⟨⟨x, s1⟩, e1, e⟩ := Option.bind_eq_some_iff.mp e
  obtain ⟨⟨y, s2⟩, e2, e⟩ := Option.bind_eq_some_iff.mp e
  cases e
  refine ea w0 w s s1 ρ σ x _ F e1 fun v w1 st1 F1 r1 => ?_
  refine eb w0 w1 s1 _ ρ σ y _ F1 e2 fun vs w2 st2 F2 r2 => ?_
  exact q _ w2 (st1.trans st2) F2 (.cons (st2.lv' r1) r2)
theorem se_tup {x1} (hg : SA X es g) : SE X (.Tuple es x1 pos) (fTup g) := by
  obtain ⟨ta, pa, ea⟩ := hg.ex
  refine ⟨_, pe_tup pa, fun w0 w s s' ρ σ r Q F e q => ?_⟩
  obtain ⟨⟨x, s1⟩, e1, e⟩ := Option.bind_eq_some_iff.mp e
  obtain ⟨l, e2, e⟩ := Option.bind_eq_some_iff.mp e
  split at e
  · rename_i c
    cases e
    refine ea w0 w s _ ρ σ x _ F e1 fun vs w1 st1 F1 r1 => ?_
    have d := imAll_at r1 e2
    exact ⟨by rw [d.length]; exact big_line c, fun p hp => new_tup F1.wk hp d fun v w2 st2 k2 r2 => q v w2 (st1.trans st2) (F1.step st2 k2) r2⟩
  · cases e
theorem sf_lst (hg : SA X es g) : SF X (.List es pos) (fLst g) := by
  obtain ⟨ta, pa, ea⟩ := hg.ex
  refine ⟨_, pe_lst pa, fun w0 w s s' ρ σ r Q F e q => ?_⟩
  obtain ⟨⟨x, s1⟩, e1, e⟩ := Option.bind_eq_some_iff.mp e
  obtain ⟨l, e2, e⟩ := Option.bind_eq_some_iff.mp e
  split at e
  · rename_i c
    cases e
    refine ea w0 w s _ ρ σ x _ F e1 fun vs w1 st1 F1 r1 => ?_
    have d := imAll_at r1 e2
    refine ⟨by rw [d.length]; exact big_line c, fun p hp => ?_⟩
    obtain ⟨st2, k2, nB, nm⟩ := F1.wk.own (o := .lst vs) hp
    exact q p vs _ (st1.trans st2) (F1.step st2 k2) (st1.lv p hp) nm nB upd_same (st2.dps d)
  · cases e
/-- a new list as data -/
theorem se_frz (hh : SF X a h) : SE X a (fFrz h) := by
  obtain ⟨ta, pa, ea⟩ := hh.ex
  refine ⟨ta, pa, fun w0 w s s' ρ σ r Q F e q => ?_⟩
  obtain ⟨⟨x, s1⟩, e1, e⟩ := Option.bind_eq_some_iff.mp e
  cases e
  refine ea w0 w s _ ρ σ x _ F e1 fun p vs w1 st1 F1 hp nm nB hH d => ?_
  obtain ⟨k2, ex⟩ := F1.wk.freeze hH nB nm
  have st2 : Stp w ⟨w1.m, upd w1.B p (.lst vs), w1.H⟩ := by
    refine ⟨st1.m, fun a o z => ex a o (st1.b a o z), fun a z z' => ?_, st1.fr, st1.lv⟩
    by_cases y : a = p
    · rw [y]; exact hp
    · exact st1.bn a z (by rw [← upd_ne (H := w1.B) (o := .lst vs) y]; exact z')
  refine q (.ref p) ⟨w1.m, upd w1.B p (.lst vs), w1.H⟩ st2 ⟨F.st.trans st2, k2, F.len, fun i z v h1 h2 => (F.sl i z v h1 h2).mono st2, F.di⟩ ?_
  exact .lst upd_same (dpAll_iff.mpr (d.mono fun v e => dp_mono ex e v))
theorem se_newD (hh : SF X a h) : SE X a (fNewD h) := by
  obtain ⟨ta, pa, ea⟩ := hh.ex
  refine ⟨ta, pa, fun w0 w s s' ρ σ r Q F e q => ?_⟩
  obtain ⟨⟨x, s1⟩, e1, e⟩ := Option.bind_eq_some_iff.mp e
  cases e
  refine ea w0 w s _ ρ σ x _ F e1 fun p vs w1 st1 F1 hp nm nB hH d => ?_
  have live : w1.H p ≠ none := by rw [hH]; simp
  have st2 : Stp w ⟨w1.m ++ [p], w1.B, w1.H⟩ := by
    obtain ⟨e, he, hn⟩ := st1.m
    refine ⟨⟨e ++ [p], by rw [he, List.append_assoc], fun a ha => ?_⟩, st1.b, st1.bn, st1.fr, st1.lv⟩
    rcases List.mem_append.mp ha with z | z
    · exact hn a z
    · simp at z; rw [z]; exact hp
  have get : ∀ {n : Nat} {b : Addr}, w1.m[n]? = some b → (w1.m ++ [p])[n]? = some b := fun {n b} z => by
    rw [List.getElem?_append_left (List.getElem?_eq_some_iff.mp z).1]; exact z
  have kv : ∀ v y, Kv X.K w1 v y → Kv X.K ⟨w1.m ++ [p], w1.B, w1.H⟩ v y := fun v y z => by
    cases y with
    | im d => exact z
    | rf n => obtain ⟨b, h1, h2⟩ := z; exact ⟨b, get h1, h2⟩
    | ow l => exact z.elim
    | sc l => exact z
  have k2 : Wok X.K X.mg ⟨w1.m ++ [p], w1.B, w1.H⟩ (s1 ++ [.dl x]) := by
    refine ⟨F1.wk.ex, by simp [F1.wk.len], ?_, fun a z => ?_, fun a z => ?_, fun n b o h1 h2 => ?_⟩
    · show (w1.m ++ [p]).Nodup
      rw [List.nodup_append]
      refine ⟨F1.wk.nd, by simp, fun a ha b hb => ?_⟩
      simp at hb
      subst hb
      exact fun z => nm (z ▸ ha)
    · rcases List.mem_append.mp z with z | z
      · exact F1.wk.fresh a z
      · simp at z; rw [z]; exact nB
    · rcases List.mem_append.mp z with z | z
      · exact F1.wk.live a z
      · simp at z; rw [z]; exact live
    · by_cases z : n < w1.m.length
      · have h1 : (w1.m ++ [p])[n]? = some b := h1
        rw [List.getElem?_append_left z] at h1
        rw [List.getElem?_append_left (by rw [← F1.wk.len]; exact z)] at h2
        have hm := F1.wk.ok n b o h1 h2
        cases o with
        | dl l => exact hm
        | rl l =>
          obtain ⟨us, h3, h4⟩ := hm
          exact ⟨us, h3, h4.mono kv⟩
        | ins c fs =>
          obtain ⟨C, dx, hs, h3, h4, h5⟩ := hm
          exact ⟨C, dx, hs, h3, h4, h5.mono fun _ _ q => ⟨q.1, kv _ _ q.2⟩⟩
        | gone => exact True.intro
      · have h1 : (w1.m ++ [p])[n]? = some b := h1
        rw [List.getElem?_append_right (by omega)] at h1
        rw [List.getElem?_append_right (by rw [← F1.wk.len]; omega)] at h2
        have e1 : n - w1.m.length = 0 := by
          have := (List.getElem?_eq_some_iff.mp h1).1
          simp at this; omega
        rw [e1] at h1
        rw [← F1.wk.len, e1] at h2
        simp at h1 h2
        subst h1 h2
        exact ⟨vs, hH, d⟩
  refine q (.ref p) ⟨w1.m ++ [p], w1.B, w1.H⟩ st2 ⟨F.st.trans st2, k2, F.len, fun i z v h1 h2 => (F.sl i z v h1 h2).mono st2, F.di⟩ ⟨p, ?_, rfl⟩
  show (w1.m ++ [p])[s1.length]? = some p
  rw [← F1.wk.len]
  simp
theorem se_newR (hg : SA X es g) : SE X (.List es pos) (fNewR g) := by
  obtain ⟨ta, pa, ea⟩ := hg.ex
  refine ⟨_, pe_lst pa, fun w0 w s s' ρ σ r Q F e q => ?_⟩
  obtain ⟨⟨x, s1⟩, e1, e⟩ := Option.bind_eq_some_iff.mp e
  split at e
  · rename_i c
    cases e
    refine ea w0 w s _ ρ σ x _ F e1 fun vs w1 st1 F1 r1 => ?_
    refine ⟨by rw [r1.length]; exact big_line c.2, fun p hp => ?_⟩
    have kk := kvAll_of r1 c.1
    have hnone : w1.H p = none := hp
    obtain ⟨st2, k2⟩ := F1.wk.push (p := p) (H1 := w1.H) (o := .lst vs) (mo := .rl x) hp (fun _ _ h => h) hp ⟨vs, upd_same, by
      refine kk.mono fun v y z => ?_
      cases y with
      | im d => exact z
      | rf n =>
        obtain ⟨b, h1, h2⟩ := z
        refine ⟨b, ?_, h2⟩
        show (w1.m ++ [p])[n]? = some b
        rw [List.getElem?_append_left (List.getElem?_eq_some_iff.mp h1).1]; exact h1
      | ow l => exact z.elim
      | sc l => exact z⟩
    refine q (.ref p) _ (st1.trans st2) (F1.step st2 k2) ⟨p, ?_, rfl⟩
    show (w1.m ++ [p])[s1.length]? = some p
    rw [← F1.wk.len]
    simp
  · cases e
end
end Zz
set_option Elab.async false
set_option linter.all false
/-! ZE: places, slices, built-in functions, attributes, calls of defs and methods -/
namespace Zz
open PySem L2
/-! ### places and slices -/
def atD {α : Type} (l : List α) (i : Int) : Option α := atI l i
def gIx : S → L → L → Option L := fun s x y => match y with
  | .im (.int i) => match sqV s x with
    | some l => (atD l i).bind fun d => some (.im d)
    | none => match x with
      | .rf n => match s[n]? with
        | some (.rl l) => (atD l i).bind fun d => if keepable d = true then some d else none
        | _ => none
      | _ => none
  | _ => none
abbrev FO1 := Ro → S → Option (Option Int × S)
def PTO (K : PySem.W.Frag) (mg : Str → Option Value) (t : L2.TO) (f : FO1) : Prop := ∀ (w0 w : Wd) (s s' : S) (ρ : Ro) (σ : L2.St) (r : Option Int) (Q : Option Int → Hp → Prop), FR K mg w0 w s ρ σ → f ρ s = some (r, s') → (∀ w', Stp w w' → FR K mg w0 w' s' ρ σ → Q r w'.H) → t σ w.H Q
structure SO (X : Cx) (e : Option Expr) (f : FO1) : Prop where
  ex : ∃ t, PO X e t ∧ PTO X.K X.mg t f
def fNoP : FO1 := fun _ s => some (none, s)
def fPart (f : FE) : FO1 := fun ρ s => (f ρ s).bind fun p => match p.1 with
  | .im (.int i) => some (some i, p.2)
  | _ => none
def cutD (l : List D) (lo hi : Option Int) : List D := (l.drop (HT.sIx l.length 0 lo)).take (HT.sIx l.length l.length hi - HT.sIx l.length 0 lo)
def lstV (s : S) : L → Option (List D)
  | .sc l => some l
  | x => lsV s x
def fSlL (f : FE) (g h : FO1) : FF := fun ρ s => (f ρ s).bind fun p => (g ρ p.2).bind fun q => (h ρ q.2).bind fun u => (lstV u.2 p.1).bind fun l => some (cutD l q.1 u.1, u.2)
def fSl (f : FE) (g h : FO1) : FE := fun ρ s => (f ρ s).bind fun p => (g ρ p.2).bind fun q => (h ρ q.2).bind fun u => match tpV p.1 with
  | some l => some (.im (.tuple (cutD l q.1 u.1)), u.2)
  | none => (lstV u.2 p.1).bind fun l => some (.im (.list (cutD l q.1 u.1)), u.2)
section
variable {K : PySem.W.Frag} {mg : Str → Option Value} {w : Wd} {s : S}
theorem A2.atI {α β : Type} {R : α → β → Prop} {as : List α} {bs : List β} (h : A2 R as bs) {i : Int} {b : β} (e : atD bs i = some b) : ∃ a, L2.atI as i = some a ∧ R a b := by
  unfold atD L2.atI at e
  unfold L2.atI
  rw [h.length]
  obtain ⟨j, h1, h2⟩ := Option.bind_eq_some_iff.mp e
  obtain ⟨a, h3, h4⟩ := h.get h2
  exact ⟨a, by rw [h1]; exact h3, h4⟩
theorem ro_ix : RO K mg (rIx K) gIx := by
  intro w s x y lx ly l Q k r1 r2 e q
  unfold gIx at e
  split at e
  · rename_i i
    cases r2
    split at e
    · rename_i l' e1
      obtain ⟨d, e2, e⟩ := Option.bind_eq_some_iff.mp e
      cases e
      obtain ⟨a, vs, rfl, h1, h2⟩ := sqV_at k r1 e1
      obtain ⟨v, h3, h4⟩ := h2.atI e2
      rcases h1 with h1 | h1
      · exact .inl ⟨a, vs, i, v, rfl, rfl, h1, h3, q v w (Stp.refl w) k h4⟩
      · exact .inr (.inl ⟨a, vs, i, v, rfl, rfl, h1, h3, q v w (Stp.refl w) k h4⟩)
    · split at e
      · split at e
        · rename_i n _ l' e2
          obtain ⟨d, e3, e⟩ := Option.bind_eq_some_iff.mp e
          split at e
          · cases e
            obtain ⟨a, ha, rfl⟩ := r1
            obtain ⟨vs, h1, h2⟩ := k.ok _ a _ ha e2
            obtain ⟨v, h3, h4⟩ := h2.atI e3
            exact .inl ⟨a, vs, i, v, rfl, rfl, SqL.of h1, h3, q v w (Stp.refl w) k (lv_kv h4)⟩
          · cases e
        · cases e
      · cases e
  · cases e
theorem lstV_at (k : Wok K mg w s) {v : V} {x : L} {l : List D} (r : Lv K w v x) (e : lstV s x = some l) : ∃ a vs, v = .ref a ∧ SqL K w.H a vs ∧ A2 (Dq K w.B) vs l := by
  have viaL : lsV s x = some l → ∃ a vs, v = .ref a ∧ SqL K w.H a vs ∧ A2 (Dq K w.B) vs l := fun e => by
    obtain ⟨a, vs, h1, h2, h3⟩ := lsV_at k r e
    exact ⟨a, vs, h1, SqL.of h2, h3⟩
  cases x with
  | im d => exact viaL e
  | rf n => exact viaL e
  | ow l' => exact viaL e
  | sc l' =>
    cases e
    obtain ⟨a, vs, h1, h2, h3⟩ := r
    exact ⟨a, vs, h1, sqL_mono k.ex h2, h3⟩
theorem cut_at {vs : List V} {l : List D} (h : A2 (Dq K w.B) vs l) (lo hi : Option Int) : A2 (Dq K w.B) (cutV vs lo hi) (cutD l lo hi) := by
  unfold cutV cutD
  rw [h.length]
  exact (h.drop _).take _
end
section
variable {X : Cx} {a b c : Expr} {es : List Expr} {lo hi : Option Expr} {f g h : FE} {fl fh : FO1} {pos p2 : Pos}
theorem se_at (ha : SE X a f) (hb : SE X b g) (hs : PlainIx b := by exact fun _ _ => rfl) : SE X (.Subscript a b pos) (fOp gIx f g) := se_ix ix_seq ro_ix ha hb hs
theorem so_none : SO X none fNoP := ⟨_, po_none, fun w0 w s s' ρ σ r Q F e q => by cases e; exact q w (Stp.refl w) F⟩
theorem so_some (ha : SE X a f) : SO X (some a) (fPart f) := by
  obtain ⟨ta, pa, ea⟩ := ha.ex
  refine ⟨_, po_some pa, fun w0 w s s' ρ σ r Q F e q => ?_⟩
  obtain ⟨⟨x, s1⟩, e1, e⟩ := Option.bind_eq_some_iff.mp e
  refine ea w0 w s s1 ρ σ x _ F e1 fun v w1 st1 F1 r1 => ?_
  dsimp only at e
  split at e
  · cases e
    exact ⟨_, lv_int r1, q w1 st1 F1⟩
  · cases e
theorem sf_slL (ha : SE X a f) (hl : SO X lo fl) (hh : SO X hi fh) : SF X (.Subscript a (.Slice lo hi none p2) pos) (fSlL f fl fh) := by
  obtain ⟨ta, pa, ea⟩ := ha.ex
  obtain ⟨tl, pl, el⟩ := hl.ex
  obtain ⟨th, ph, eh⟩ := hh.ex
  refine ⟨_, pe_slice sl_list pa pl ph, fun w0 w s s' ρ σ r Q F e q => ?_⟩
  obtain ⟨⟨x, s1⟩, e1, e⟩ := Option.bind_eq_some_iff.mp e
  obtain ⟨⟨y, s2⟩, e2, e⟩ := Option.bind_eq_some_iff.mp e
  obtain ⟨⟨z, s3⟩, e3, e⟩ := Option.bind_eq_some_iff.mp e
  obtain ⟨l, e4, e⟩ := Option.bind_eq_some_iff.mp e
  cases e
  refine ea w0 w s s1 ρ σ x _ F e1 fun v w1 st1 F1 r1 => ?_
  refine el w0 w1 s1 s2 ρ σ y _ F1 e2 fun w2 st2 F2 => ?_
  refine eh w0 w2 s2 _ ρ σ z _ F2 e3 fun w3 st3 F3 => ?_
  obtain ⟨A, vs, rfl, h1, h2⟩ := lstV_at F3.wk ((st2.trans st3).lv' r1) e4
  refine ⟨A, vs, rfl, h1, fun p hp => ?_⟩
  obtain ⟨st4, k4, nB, nm⟩ := F3.wk.own (o := .lst (cutV vs y z)) hp
  exact q p _ _ (((st1.trans st2).trans st3).trans st4) (F3.step st4 k4) (((st1.trans st2).trans st3).lv p hp) nm nB upd_same (cut_at (st4.dps h2) y z)
theorem se_sl (ha : SE X a f) (hl : SO X lo fl) (hh : SO X hi fh) : SE X (.Subscript a (.Slice lo hi none p2) pos) (fSl f fl fh) := by
  obtain ⟨ta, pa, ea⟩ := ha.ex
  obtain ⟨tl, pl, el⟩ := hl.ex
  obtain ⟨th, ph, eh⟩ := hh.ex
  refine ⟨_, pe_slice (sl_list.or sl_tupA) pa pl ph, fun w0 w s s' ρ σ r Q F e q => ?_⟩
  obtain ⟨⟨x, s1⟩, e1, e⟩ := Option.bind_eq_some_iff.mp e
  obtain ⟨⟨y, s2⟩, e2, e⟩ := Option.bind_eq_some_iff.mp e
  obtain ⟨⟨z, s3⟩, e3, e⟩ := Option.bind_eq_some_iff.mp e
  refine ea w0 w s s1 ρ σ x _ F e1 fun v w1 st1 F1 r1 => ?_
  refine el w0 w1 s1 s2 ρ σ y _ F1 e2 fun w2 st2 F2 => ?_
  refine eh w0 w2 s2 s3 ρ σ z _ F2 e3 fun w3 st3 F3 => ?_
  have st := (st1.trans st2).trans st3
  have r3 := (st2.trans st3).lv' r1
  dsimp only at e
  split at e
  · rename_i l e4
    cases e
    obtain ⟨A, vs, rfl, h1, h2⟩ := tpV_at r3 e4
    refine .inr ⟨A, vs, rfl, sqT_mono F3.wk.ex h1, fun c => ?_, fun _ p hp => new_tup F3.wk hp (cut_at h2 y z) fun v w4 st4 k4 r4 => q v w4 (st.trans st4) (F3.step st4 k4) r4⟩
    refine q _ w3 st F3 (.tup h1 (dpAll_iff.mpr ?_))
    have ez : cutD l y z = l := by
      unfold cutD
      rw [← h2.length, c.1, c.2, h2.length]
      simp
    rw [ez]; exact h2
  · obtain ⟨l, e4, e⟩ := Option.bind_eq_some_iff.mp e
    cases e
    obtain ⟨A, vs, rfl, h1, h2⟩ := lstV_at F3.wk r3 e4
    exact .inl ⟨A, vs, rfl, h1, fun p hp => new_lst F3.wk hp (cut_at h2 y z) fun v w4 st4 k4 r4 => q v w4 (st.trans st4) (F3.step st4 k4) r4⟩
end
/-! ### built-in functions -/
def fCall (o : S → List L → Option L) (g : FA) : FE := fun ρ s => (g ρ s).bind fun p => (o p.2 p.1).bind fun r => some (r, p.2)
def intsOf : List D → Option (List Int)
  | [] => some []
  | .int i :: r => (intsOf r).bind fun l => some (i :: l)
  | _ :: _ => none
def boolsOf : List D → Option (List Bool)
  | [] => some []
  | .bool i :: r => (boolsOf r).bind fun l => some (i :: l)
  | _ :: _ => none
def lenL (s : S) : L → Option Nat
  | .im (.str z) => if z.length ≤ big then some z.length else none
  | .rf n => match s[n]? with
    | some (.dl l) => some l.length
    | some (.rl l) => some l.length
    | _ => none
  | x => (sqV s x).bind fun l => some l.length
def oLen : S → List L → Option L
  | s, [x] => (lenL s x).bind fun n => some (.im (.int n))
  | _, _ => none
def oTuple : S → List L → Option L
  | s, [x] => match tpV x with
    | some l => some (.im (.tuple l))
    | none => (lstV s x).bind fun l => some (.im (.tuple l))
  | _, _ => none
def oList : S → List L → Option (List D)
  | s, [x] => sqV s x
  | _, _ => none
def oInt : S → List L → Option L
  | _, [.im (.int i)] => some (.im (.int i))
  | _, [.im (.bool b)] => some (.im (.int (if b then 1 else 0)))
  | _, _ => none
def imax (i j : Int) : Int := if j > i then j else i
def imin (i j : Int) : Int := if j < i then j else i
def oMax2 : S → List L → Option L
  | _, [.im (.int i), .im (.int j)] => some (.im (.int (imax i j)))
  | _, _ => none
def oMin2 : S → List L → Option L
  | _, [.im (.int i), .im (.int j)] => some (.im (.int (imin i j)))
  | _, _ => none
def oAbs : S → List L → Option L
  | _, [.im (.int i)] => some (.im (.int (if i < 0 then -i else i)))
  | _, _ => none
def oSum : S → List L → Option L
  | s, [x] => (lstV s x).bind fun l => (intsOf l).bind fun is => some (.im (.int is.sum))
  | _, _ => none
def oAll : S → List L → Option L
  | s, [x] => (lstV s x).bind fun l => (boolsOf l).bind fun bs => some (.im (.bool (bs.all id)))
  | _, _ => none
def oAny : S → List L → Option L
  | s, [x] => (lstV s x).bind fun l => (boolsOf l).bind fun bs => some (.im (.bool (bs.any id)))
  | _, _ => none
def maxOf : List Int → Int
  | [] => 0
  | [i] => i
  | i :: r => max i (maxOf r)
def minOf : List Int → Int
  | [] => 0
  | [i] => i
  | i :: r => min i (minOf r)
def oMaxL : S → List L → Option L
  | s, [x] => (lstV s x).bind fun l => (intsOf l).bind fun is => if 0 < is.length then some (.im (.int (maxOf is))) else none
  | _, _ => none
def oMinL : S → List L → Option L
  | s, [x] => (lstV s x).bind fun l => (intsOf l).bind fun is => if 0 < is.length then some (.im (.int (minOf is))) else none
  | _, _ => none
def isort (l : List Int) : List Int := l.mergeSort fun a b => decide (a ≤ b)
def oSorted : S → List L → Option (List D)
  | s, [x] => (lstV s x).bind fun l => (intsOf l).bind fun is => some ((isort is).map PyData.int)
  | _, _ => none
def fCallF (o : S → List L → Option (List D)) (g : FA) : FF := fun ρ s => (g ρ s).bind fun p => (o p.2 p.1).bind fun r => some (r, p.2)
section
variable {K : PySem.W.Frag} {mg : Str → Option Value} {w : Wd} {s : S}
theorem maxOf_is : ∀ {l : List Int} {m : Int}, m ∈ l → (∀ y, y ∈ l → y ≤ m) → maxOf l = m
  | [], m, h, _ => by cases h
  | [i], m, h, _ => by simp at h; exact h.symm
  | i :: j :: r, m, h, g => by
    show max i (maxOf (j :: r)) = m
    have gi := g i (by simp)
    by_cases z : m ∈ j :: r
    · have ih := maxOf_is z fun y hy => g y (List.mem_cons_of_mem _ hy)
      rw [ih]; omega
    · have e : m = i := by rcases List.mem_cons.mp h with q | q; exact q; exact absurd q z
      subst e
      have le : ∀ (l : List Int), l ≠ [] → (∀ y, y ∈ l → y ≤ m) → maxOf l ≤ m := by
        intro l
        induction l with
        | nil => intro h; exact absurd rfl h
        | cons a t ih =>
          intro _ hh
          cases t with
          | nil => exact hh a (by simp)
          | cons b t =>
            show max a (maxOf (b :: t)) ≤ m
            have h1 := ih (by simp) fun y hy => hh y (List.mem_cons_of_mem _ hy)
            have h2 := hh a (by simp)
            omega
      have h1 := le (j :: r) (by simp) fun y hy => g y (List.mem_cons_of_mem _ hy)
      omega
theorem minOf_is : ∀ {l : List Int} {m : Int}, m ∈ l → (∀ y, y ∈ l → m ≤ y) → minOf l = m
  | [], m, h, _ => by cases h
  | [i], m, h, _ => by simp at h; exact h.symm
  | i :: j :: r, m, h, g => by
    show min i (minOf (j :: r)) = m
    have gi := g i (by simp)
    by_cases z : m ∈ j :: r
    · have ih := minOf_is z fun y hy => g y (List.mem_cons_of_mem _ hy)
      rw [ih]; omega
    · have e : m = i := by rcases List.mem_cons.mp h with q | q; exact q; exact absurd q z
      subst e
      have le : ∀ (l : List Int), l ≠ [] → (∀ y, y ∈ l → m ≤ y) → m ≤ minOf l := by
        intro l
        induction l with
        | nil => intro h; exact absurd rfl h
        | cons a t ih =>
          intro _ hh
          cases t with
          | nil => exact hh a (by simp)
          | cons b t =>
            show m ≤ min a (minOf (b :: t))
            have h1 := ih (by simp) fun y hy => hh y (List.mem_cons_of_mem _ hy)
            have h2 := hh a (by simp)
            omega
      have h1 := le (j :: r) (by simp) fun y hy => g y (List.mem_cons_of_mem _ hy)
      omega
theorem ints_at : ∀ {l : List D} {vs : List V} {is : List Int}, A2 (Dq K w.B) vs l → intsOf l = some is → vs = is.map V.int ∧ l = is.map PyData.int
  | [], _, _, .nil, e => by cases e; exact ⟨rfl, rfl⟩
  | .int i :: r, _, _, .cons h t, e => by
    obtain ⟨l, e1, e2⟩ := Option.bind_eq_some_iff.mp e
    cases e2
    cases h
    obtain ⟨h1, h2⟩ := ints_at t e1
    exact ⟨by rw [h1]; rfl, by rw [h2]; rfl⟩
  | .none :: _, _, _, _, e => by cases e
  | .bool _ :: _, _, _, _, e => by cases e
  | .str _ :: _, _, _, _, e => by cases e
  | .list _ :: _, _, _, _, e => by cases e
  | .tuple _ :: _, _, _, _, e => by cases e
  | .dict _ :: _, _, _, _, e => by cases e
theorem bools_at : ∀ {l : List D} {vs : List V} {is : List Bool}, A2 (Dq K w.B) vs l → boolsOf l = some is → vs = is.map V.bl
  | [], _, _, .nil, e => by cases e; exact rfl
  | .bool i :: r, _, _, .cons h t, e => by
    obtain ⟨l, e1, e2⟩ := Option.bind_eq_some_iff.mp e
    cases e2
    cases h
    rw [bools_at t e1]; rfl
  | .none :: _, _, _, _, e => by cases e
  | .int _ :: _, _, _, _, e => by cases e
  | .str _ :: _, _, _, _, e => by cases e
  | .list _ :: _, _, _, _, e => by cases e
  | .tuple _ :: _, _, _, _, e => by cases e
  | .dict _ :: _, _, _, _, e => by cases e
theorem a2_one {R : V → L → Prop} {vs : List V} {x : L} (h : A2 R vs [x]) : ∃ v, vs = [v] ∧ R v x := by
  cases h with | cons r t => cases t; exact ⟨_, rfl, r⟩
theorem a2_two {R : V → L → Prop} {vs : List V} {x y : L} (h : A2 R vs [x, y]) : ∃ v u, vs = [v, u] ∧ R v x ∧ R u y := by
  cases h with | cons r t => cases t with | cons r' t => cases t; exact ⟨_, _, rfl, r, r'⟩
theorem lenL_at (k : Wok K mg w s) {v : V} {x : L} {n : Nat} (r : Lv K w v x) (e : lenL s x = some n) : LenV K v w.H n := by
  have seq : ∀ l, sqV s x = some l → n = l.length → LenV K v w.H n := fun l h q => by
    obtain ⟨a, vs, rfl, h1, h2⟩ := sqV_at k r h
    rcases h1 with h1 | h1
    · exact .inl ⟨vs, h1, by rw [q, h2.length]⟩
    · exact .inr ⟨vs, h1, by rw [q, h2.length]⟩
  unfold lenL at e
  split at e
  · split at e
    · rename_i c
      cases e; cases r; exact ⟨big_line c, rfl⟩
    · cases e
  · rename_i n'
    split at e
    · rename_i l q
      cases e
      exact seq l (by dsimp only [sqV]; rw [q]) rfl
    · rename_i l q
      cases e
      obtain ⟨a, ha, rfl⟩ := r
      obtain ⟨vs, h1, h2⟩ := k.ok _ a _ ha q
      exact .inl ⟨vs, SqL.of h1, h2.length.symm⟩
    · cases e
  · obtain ⟨l, h1, h2⟩ := Option.bind_eq_some_iff.mp e
    cases h2
    exact seq l h1 rfl
end
section
variable {X : Cx} {a b c e0 : Expr} {es : List Expr} {f g : FE} {ga : FA} {pos p : Pos}
/-- a built-in function by its name: what its arguments are worth -/
theorem eo_cb {K : PySem.W.Frag} {mg : Str → Option Value} {ta : TA} {r : List V → Hp → VK → Prop} {o : S → List L → Option L} (ha : AO K mg ta ga) (hr : CO K mg r o) : EO K mg (tCB r ta) (fCall o ga) := by
  intro w0 w s s' ρ σ l Q F e q
  obtain ⟨⟨x, s1⟩, e1, e⟩ := Option.bind_eq_some_iff.mp e
  obtain ⟨z, e3, e⟩ := Option.bind_eq_some_iff.mp e
  cases e
  refine ha w0 w s _ ρ σ x _ F e1 fun v w1 st1 F1 r1 => ?_
  exact hr w1 _ v x _ Q F1.wk r1 e3 fun v3 w3 st3 k3 r3 => q v3 w3 (st1.trans st3) (F1.step st3 k3) r3
theorem se_cb {id : String} {x : Str} {r : List V → Hp → VK → Prop} {o : S → List L → Option L} (hc : CallR X (.builtin id) r) (hr : CO X.K X.mg r o) (hg : Gl X x) (hm : X.mg x = none) (hv : bootBuiltins x = some (.builtin id)) (ha : SA X (e0 :: es) ga)
    (hn : x ≠ "__name__" := by decide) (hdb : (x == ("__debug__" : Str)) = false := by decide) (he : starEach (e0 :: es) X.env = (false, eval e0 X.env) :: starEach es X.env := by rfl) (hpl : (backTo pos (starEach es X.env)).any (·.1) = false := by rfl) :
    SE X (.Call (.Name x p) (e0 :: es) [] pos) (fCall o ga) := by
  obtain ⟨ta, pa, ea⟩ := ha.ex
  exact ⟨_, pe_callB hc hg hm hv pa hn hdb he hpl, eo_cb ea hr⟩
theorem se_cty {id : String} {x : Str} {r : List V → Hp → VK → Prop} {o : S → List L → Option L} (hc : CallR X (.type id) r) (hr : CO X.K X.mg r o) (hg : Gl X x) (hm : X.mg x = none) (hv : bootBuiltins x = some (.type id)) (ha : SA X (e0 :: es) ga)
    (hn : x ≠ "__name__" := by decide) (hdb : (x == ("__debug__" : Str)) = false := by decide) (he : starEach (e0 :: es) X.env = (false, eval e0 X.env) :: starEach es X.env := by rfl) (hpl : (backTo pos (starEach es X.env)).any (·.1) = false := by rfl) :
    SE X (.Call (.Name x p) (e0 :: es) [] pos) (fCall o ga) := by
  obtain ⟨ta, pa, ea⟩ := ha.ex
  exact ⟨_, pe_callTy hc hg hm hv pa hn hdb he hpl, eo_cb ea hr⟩
theorem co_len {K : PySem.W.Frag} {mg : Str → Option Value} : CO K mg (fun xs H Q => ∃ x n, xs = [x] ∧ LenV K x H n ∧ Q (.int n) H) oLen := by
  intro w s x lx l Q k r e q
  unfold oLen at e
  split at e
  · obtain ⟨n, e1, e⟩ := Option.bind_eq_some_iff.mp e
    cases e
    obtain ⟨v, rfl, r1⟩ := a2_one r
    exact ⟨v, n, rfl, lenL_at k r1 e1, q _ w (Stp.refl w) k (.int _)⟩
  · cases e
theorem se_len (hg : Gl X "len") (hm : X.mg "len" = none) (ha : SA X [a] ga) (he : starEach [a] X.env = (false, eval a X.env) :: starEach [] X.env := by rfl) : SE X (.Call (.Name "len" p) [a] [] pos) (fCall oLen ga) :=
  se_cb call_len co_len hg hm boot_len ha (by decide) (by decide) he
theorem co_tuple {K : PySem.W.Frag} {mg : Str → Option Value} : CO K mg (fun xs H Q => ∃ p ys, xs = [.ref p] ∧ ((SqL K H p ys ∧ ∀ l, H l = none → Q (.ref l) (upd H l (.tup ys))) ∨ (SqT K H p ys ∧ Q (.ref p) H))) oTuple := by
  intro w s x lx l Q k r e q
  unfold oTuple at e
  split at e
  · obtain ⟨v, rfl, r1⟩ := a2_one r
    split at e
    · rename_i l e1
      cases e
      obtain ⟨a, vs, rfl, h1, h2⟩ := tpV_at r1 e1
      exact ⟨a, vs, rfl, .inr ⟨sqT_mono k.ex h1, q _ w (Stp.refl w) k (.tup h1 (dpAll_iff.mpr h2))⟩⟩
    · obtain ⟨l, e1, e⟩ := Option.bind_eq_some_iff.mp e
      cases e
      obtain ⟨a, vs, rfl, h1, h2⟩ := lstV_at k r1 e1
      exact ⟨a, vs, rfl, .inl ⟨h1, fun p hp => new_tup k hp h2 q⟩⟩
  · cases e
theorem se_tuple (hg : Gl X "tuple") (hm : X.mg "tuple" = none) (ha : SA X [a] ga) (he : starEach [a] X.env = (false, eval a X.env) :: starEach [] X.env := by rfl) : SE X (.Call (.Name "tuple" p) [a] [] pos) (fCall oTuple ga) :=
  se_cty call_tuple_of co_tuple hg hm PyProof.Rows.boot_tuple ha (by decide) (by decide) he
theorem co_int {K : PySem.W.Frag} {mg : Str → Option Value} : CO K mg (fun xs H Q => (∃ i, xs = [.int i] ∧ Q (.int i) H) ∨ ∃ k, xs = [.bl k] ∧ Q (.int (if k then 1 else 0)) H) oInt := by
  intro w s x lx l Q k r e q
  unfold oInt at e
  split at e
  · cases e
    obtain ⟨v, rfl, r1⟩ := a2_one r
    cases r1
    exact .inl ⟨_, rfl, q _ w (Stp.refl w) k (.int _)⟩
  · cases e
    obtain ⟨v, rfl, r1⟩ := a2_one r
    cases r1
    exact .inr ⟨_, rfl, q _ w (Stp.refl w) k (.int _)⟩
  · cases e
theorem se_intc (hg : Gl X "int") (hm : X.mg "int" = none) (ha : SA X [a] ga) (he : starEach [a] X.env = (false, eval a X.env) :: starEach [] X.env := by rfl) : SE X (.Call (.Name "int" p) [a] [] pos) (fCall oInt ga) :=
  se_cty call_int1 co_int hg hm PyProof.Rows.boot_int ha (by decide) (by decide) he
theorem co_max2 {K : PySem.W.Frag} {mg : Str → Option Value} : CO K mg (fun xs H Q => ∃ i j, xs = [.int i, .int j] ∧ Q (.int (if j > i then j else i)) H) oMax2 := by
  intro w s x lx l Q k r e q
  unfold oMax2 at e
  split at e
  · cases e
    obtain ⟨v, u, rfl, r1, r2⟩ := a2_two r
    cases r1; cases r2
    exact ⟨_, _, rfl, q _ w (Stp.refl w) k (.int _)⟩
  · cases e
theorem co_min2 {K : PySem.W.Frag} {mg : Str → Option Value} : CO K mg (fun xs H Q => ∃ i j, xs = [.int i, .int j] ∧ Q (.int (if j < i then j else i)) H) oMin2 := by
  intro w s x lx l Q k r e q
  unfold oMin2 at e
  split at e
  · cases e
    obtain ⟨v, u, rfl, r1, r2⟩ := a2_two r
    cases r1; cases r2
    exact ⟨_, _, rfl, q _ w (Stp.refl w) k (.int _)⟩
  · cases e
theorem boot_max : bootBuiltins "max" = some (.builtin "max") := by decide +kernel
theorem boot_min : bootBuiltins "min" = some (.builtin "min") := by decide +kernel
theorem boot_all : bootBuiltins "all" = some (.builtin "all") := by decide +kernel
theorem boot_any : bootBuiltins "any" = some (.builtin "any") := by decide +kernel
theorem boot_sum : bootBuiltins "sum" = some (.builtin "sum") := by decide +kernel
theorem boot_sorted : bootBuiltins "sorted" = some (.builtin "sorted") := by decide +kernel
theorem se_max2 (hc : X.calm = true) (hg : Gl X "max") (hm : X.mg "max" = none) (ha : SA X [a, b] ga) (he : starEach [a, b] X.env = (false, eval a X.env) :: starEach [b] X.env := by rfl) (hpl : (backTo pos (starEach [b] X.env)).any (·.1) = false := by rfl) : SE X (.Call (.Name "max" p) [a, b] [] pos) (fCall oMax2 ga) :=
  se_cb (call_max2 hc) co_max2 hg hm boot_max ha (by decide) (by decide) he hpl
theorem se_min2 (hc : X.calm = true) (hg : Gl X "min") (hm : X.mg "min" = none) (ha : SA X [a, b] ga) (he : starEach [a, b] X.env = (false, eval a X.env) :: starEach [b] X.env := by rfl) (hpl : (backTo pos (starEach [b] X.env)).any (·.1) = false := by rfl) : SE X (.Call (.Name "min" p) [a, b] [] pos) (fCall oMin2 ga) :=
  se_cb (call_min2 hc) co_min2 hg hm boot_min ha (by decide) (by decide) he hpl
theorem co_sum {K : PySem.W.Frag} {mg : Str → Option Value} : CO K mg (rSum K) oSum := by
  intro w s x lx l Q k r e q
  unfold oSum at e
  split at e
  · obtain ⟨ds, e1, e⟩ := Option.bind_eq_some_iff.mp e
    obtain ⟨is, e2, e⟩ := Option.bind_eq_some_iff.mp e
    cases e
    obtain ⟨v, rfl, r1⟩ := a2_one r
    obtain ⟨a, vs, rfl, h1, h2⟩ := lstV_at k r1 e1
    obtain ⟨rfl, _⟩ := ints_at h2 e2
    exact ⟨a, is, rfl, h1, q _ w (Stp.refl w) k (.int _)⟩
  · cases e
theorem co_maxL {K : PySem.W.Frag} {mg : Str → Option Value} : CO K mg (rMax K) oMaxL := by
  intro w s x lx l Q k r e q
  unfold oMaxL at e
  split at e
  · obtain ⟨ds, e1, e⟩ := Option.bind_eq_some_iff.mp e
    obtain ⟨is, e2, e⟩ := Option.bind_eq_some_iff.mp e
    split at e
    · rename_i c
      cases e
      obtain ⟨v, rfl, r1⟩ := a2_one r
      obtain ⟨a, vs, rfl, h1, h2⟩ := lstV_at k r1 e1
      obtain ⟨rfl, _⟩ := ints_at h2 e2
      exact ⟨a, is, rfl, h1, c, fun m hm hle => by rw [← maxOf_is hm hle]; exact q _ w (Stp.refl w) k (.int _)⟩
    · cases e
  · cases e
theorem co_minL {K : PySem.W.Frag} {mg : Str → Option Value} : CO K mg (rMin K) oMinL := by
  intro w s x lx l Q k r e q
  unfold oMinL at e
  split at e
  · obtain ⟨ds, e1, e⟩ := Option.bind_eq_some_iff.mp e
    obtain ⟨is, e2, e⟩ := Option.bind_eq_some_iff.mp e
    split at e
    · rename_i c
      cases e
      obtain ⟨v, rfl, r1⟩ := a2_one r
      obtain ⟨a, vs, rfl, h1, h2⟩ := lstV_at k r1 e1
      obtain ⟨rfl, _⟩ := ints_at h2 e2
      exact ⟨a, is, rfl, h1, c, fun m hm hle => by rw [← minOf_is hm hle]; exact q _ w (Stp.refl w) k (.int _)⟩
    · cases e
  · cases e
theorem co_all {K : PySem.W.Frag} {mg : Str → Option Value} : CO K mg (rAll K) oAll := by
  intro w s x lx l Q k r e q
  unfold oAll at e
  split at e
  · obtain ⟨ds, e1, e⟩ := Option.bind_eq_some_iff.mp e
    obtain ⟨is, e2, e⟩ := Option.bind_eq_some_iff.mp e
    cases e
    obtain ⟨v, rfl, r1⟩ := a2_one r
    obtain ⟨a, vs, rfl, h1, h2⟩ := lstV_at k r1 e1
    obtain rfl := bools_at h2 e2
    exact ⟨a, is, rfl, h1, q _ w (Stp.refl w) k (.bl _)⟩
  · cases e
theorem co_any {K : PySem.W.Frag} {mg : Str → Option Value} : CO K mg (rAny K) oAny := by
  intro w s x lx l Q k r e q
  unfold oAny at e
  split at e
  · obtain ⟨ds, e1, e⟩ := Option.bind_eq_some_iff.mp e
    obtain ⟨is, e2, e⟩ := Option.bind_eq_some_iff.mp e
    cases e
    obtain ⟨v, rfl, r1⟩ := a2_one r
    obtain ⟨a, vs, rfl, h1, h2⟩ := lstV_at k r1 e1
    obtain rfl := bools_at h2 e2
    exact ⟨a, is, rfl, h1, q _ w (Stp.refl w) k (.bl _)⟩
  · cases e
theorem se_sum (hc : X.calm = true) (hg : Gl X "sum") (hm : X.mg "sum" = none) (ha : SA X [a] ga) (he : starEach [a] X.env = (false, eval a X.env) :: starEach [] X.env := by rfl) : SE X (.Call (.Name "sum" p) [a] [] pos) (fCall oSum ga) :=
  se_cb (cr_sum hc) co_sum hg hm boot_sum ha (by decide) (by decide) he
theorem se_maxL (hc : X.calm = true) (hg : Gl X "max") (hm : X.mg "max" = none) (ha : SA X [a] ga) (he : starEach [a] X.env = (false, eval a X.env) :: starEach [] X.env := by rfl) : SE X (.Call (.Name "max" p) [a] [] pos) (fCall oMaxL ga) :=
  se_cb (cr_max hc) co_maxL hg hm boot_max ha (by decide) (by decide) he
theorem se_minL (hc : X.calm = true) (hg : Gl X "min") (hm : X.mg "min" = none) (ha : SA X [a] ga) (he : starEach [a] X.env = (false, eval a X.env) :: starEach [] X.env := by rfl) : SE X (.Call (.Name "min" p) [a] [] pos) (fCall oMinL ga) :=
  se_cb (cr_min hc) co_minL hg hm boot_min ha (by decide) (by decide) he
theorem se_all (hc : X.calm = true) (hg : Gl X "all") (hm : X.mg "all" = none) (ha : SA X [a] ga) (he : starEach [a] X.env = (false, eval a X.env) :: starEach [] X.env := by rfl) : SE X (.Call (.Name "all" p) [a] [] pos) (fCall oAll ga) :=
  se_cb (cr_all hc) co_all hg hm boot_all ha (by decide) (by decide) he
theorem se_any (hc : X.calm = true) (hg : Gl X "any") (hm : X.mg "any" = none) (ha : SA X [a] ga) (he : starEach [a] X.env = (false, eval a X.env) :: starEach [] X.env := by rfl) : SE X (.Call (.Name "any" p) [a] [] pos) (fCall oAny ga) :=
  se_cb (cr_any hc) co_any hg hm boot_any ha (by decide) (by decide) he
theorem sf_list (hg : Gl X "list") (hm : X.mg "list" = none) (ha : SA X [a] ga) (he : starEach [a] X.env = (false, eval a X.env) :: starEach [] X.env := by rfl) : SF X (.Call (.Name "list" p) [a] [] pos) (fCallF oList ga) := by
  obtain ⟨ta, pa, ea⟩ := ha.ex
  refine ⟨_, pe_callTy call_list_of hg hm PyProof.Rows.boot_list pa (by decide) (by decide) he, fun w0 w s s' ρ σ r Q F e q => ?_⟩
  obtain ⟨⟨x, s1⟩, e1, e⟩ := Option.bind_eq_some_iff.mp e
  obtain ⟨z, e3, e⟩ := Option.bind_eq_some_iff.mp e
  cases e
  refine ea w0 w s _ ρ σ x _ F e1 fun v w1 st1 F1 r1 => ?_
  have e3 : oList s1 x = some r := e3
  unfold oList at e3
  split at e3
  · obtain ⟨v, rfl, r2⟩ := a2_one r1
    obtain ⟨A, vs, rfl, h1, h2⟩ := sqV_at F1.wk r2 e3
    refine ⟨A, vs, rfl, h1, fun p hp => ?_⟩
    obtain ⟨st4, k4, nB, nm⟩ := F1.wk.own (o := .lst vs) hp
    exact q p _ _ (st1.trans st4) (F1.step st4 k4) (st1.lv p hp) nm nB upd_same (st4.dps h2)
  · cases e3
theorem isort_is {l l' : List Int} (h : l'.Perm l) (p : l'.Pairwise (· ≤ ·)) : l' = isort l := by
  have p2 : (isort l).Pairwise (· ≤ ·) := by
    have := List.pairwise_mergeSort (le := fun a b : Int => decide (a ≤ b)) (fun a b c h1 h2 => by simp at *; omega) (fun a b => by simp; omega) l
    exact this.imp fun h => by simpa using h
  have e := (h.trans (List.mergeSort_perm l (fun a b => decide (a ≤ b))).symm)
  exact e.eq_of_pairwise (fun a b _ _ h1 h2 => by omega) p p2
theorem a2_ints {is : List Int} {B : Hp} {K : PySem.W.Frag} : A2 (Dq K B) (is.map V.int) (is.map PyData.int) := by
  induction is with
  | nil => exact .nil
  | cons i r ih => exact .cons (.int i) ih
theorem sf_sorted (hg : Gl X "sorted") (hm : X.mg "sorted" = none) (ha : SA X [a] ga) (he : starEach [a] X.env = (false, eval a X.env) :: starEach [] X.env := by rfl) : SF X (.Call (.Name "sorted" p) [a] [] pos) (fCallF oSorted ga) := by
  obtain ⟨ta, pa, ea⟩ := ha.ex
  refine ⟨_, pe_callB cr_sortedI hg hm boot_sorted pa (by decide) (by decide) he, fun w0 w s s' ρ σ r Q F e q => ?_⟩
  obtain ⟨⟨x, s1⟩, e1, e⟩ := Option.bind_eq_some_iff.mp e
  obtain ⟨z, e3, e⟩ := Option.bind_eq_some_iff.mp e
  cases e
  refine ea w0 w s _ ρ σ x _ F e1 fun v w1 st1 F1 r1 => ?_
  have e3 : oSorted s1 x = some r := e3
  unfold oSorted at e3
  split at e3
  · obtain ⟨v, rfl, r2⟩ := a2_one r1
    obtain ⟨ds, e4, e3⟩ := Option.bind_eq_some_iff.mp e3
    obtain ⟨is, e5, e3⟩ := Option.bind_eq_some_iff.mp e3
    cases e3
    obtain ⟨A, vs, rfl, h1, h2⟩ := lstV_at F1.wk r2 e4
    obtain ⟨rfl, _⟩ := ints_at h2 e5
    refine ⟨A, is, rfl, h1, fun ns' p pm pw hp => ?_⟩
    obtain ⟨st4, k4, nB, nm⟩ := F1.wk.own (o := .lst (ns'.map V.int)) hp
    rw [isort_is pm pw] at *
    exact q p _ _ (st1.trans st4) (F1.step st4 k4) (st1.lv p hp) nm nB upd_same a2_ints
  · cases e3
end
end Zz
set_option Elab.async false
set_option linter.all false
/-! ZF: isinstance, attributes, calls of defs, methods, classes; methods of lists -/
namespace Zz
open PySem L2
/-! ### isinstance -/
def tyL (s : S) : L → Option String
  | .im .none => some "NoneType"
  | .im (.bool _) => some "bool"
  | .im (.int _) => some "int"
  | .im (.str _) => some "str"
  | .im (.list _) => some "list"
  | .im (.tuple _) => some "tuple"
  | .ow _ => some "list"
  | .rf n => match s[n]? with
    | some (.dl _) => some "list"
    | some (.rl _) => some "list"
    | _ => none
  | _ => none
def isT (n : String) (t : String) : Bool := t == n || (t == "bool" && n == "int")
def fIsi (n : String) (f : FE) : FE := fun ρ s => (f ρ s).bind fun p => (tyL p.2 p.1).bind fun t => some (.im (.bool (isT n t)), p.2)
section
variable {K : PySem.W.Frag} {mg : Str → Option Value} {w : Wd} {s : S}
theorem tyL_at (k : Wok K mg w s) {v : V} {x : L} {t : String} (r : Lv K w v x) (e : tyL s x = some t) : TyX K w.H v (.type t) ∧ (t = "NoneType" ∨ t = "bool" ∨ t = "int" ∨ t = "str" ∨ t = "list" ∨ t = "tuple") := by
  have viaL : ∀ l, lsV s x = some l → t = "list" → TyX K w.H v (.type t) := fun l h q => by
    obtain ⟨a, vs, rfl, h2, h3⟩ := lsV_at k r h
    rw [q]; exact .base (.lst h2)
  unfold tyL at e
  split at e
  · cases e; cases r; exact ⟨.base .non, by simp⟩
  · cases e; cases r; exact ⟨.base (.bl _), by simp⟩
  · cases e; cases r; exact ⟨.base (.int _), by simp⟩
  · cases e; cases r; exact ⟨.base (.str _), by simp⟩
  · cases e; exact ⟨viaL _ rfl rfl, by simp⟩
  · cases e
    refine ⟨?_, by simp⟩
    obtain ⟨a, vs, rfl, h1, h2⟩ := tpV_at r rfl
    rcases sqT_mono k.ex h1 with (h | ⟨o, h⟩) | ⟨o, its, n, h, hc, _⟩
    · exact .base (.tup h)
    · exact .fTuple h
    · exact .kTuple h hc
  · cases e; exact ⟨viaL _ rfl rfl, by simp⟩
  · split at e
    · rename_i l q
      cases e; exact ⟨viaL l (by dsimp only [lsV]; rw [q]) rfl, by simp⟩
    · rename_i l q
      cases e
      obtain ⟨a, ha, rfl⟩ := r
      obtain ⟨vs, h1, h2⟩ := k.ok _ a _ ha q
      exact ⟨.base (.lst h1), by simp⟩
    · cases e
  · cases e
end
section
variable {X : Cx} {a b c : Expr} {f g : FE} {pos p p2 : Pos}
theorem se_isi {n : String} {x : Str} (hg : Gl X "isinstance") (hm : X.mg "isinstance" = none) (hgx : Gl X x) (hmx : X.mg x = none) (hv : bootBuiltins x = some (.type n)) (ha : SE X a f)
    (hk : kitB "NoneType" n = some (isT n "NoneType") ∧ kitB "bool" n = some (isT n "bool") ∧ kitB "int" n = some (isT n "int") ∧ kitB "str" n = some (isT n "str") ∧ kitB "list" n = some (isT n "list") ∧ kitB "tuple" n = some (isT n "tuple"))
    (hn : x ≠ "__name__" := by decide) (hd : (x == ("__debug__" : Str)) = false := by decide)
    (he : starEach [a, .Name x p2] X.env = (false, eval a X.env) :: starEach [.Name x p2] X.env := by rfl) (he2 : starEach [.Name x p2] X.env = (false, eval (.Name x p2) X.env) :: starEach [] X.env := by rfl)
    (hpl : (backTo pos (starEach [.Name x p2] X.env)).any (·.1) = false := by rfl) :
    SE X (.Call (.Name "isinstance" p) [a, .Name x p2] [] pos) (fIsi n f) := by
  obtain ⟨ta, pa, ea⟩ := ha.ex
  refine ⟨_, pe_callB call_isi hg hm PyProof.Rows.boot_isinstance (pa_cons pa (pa_cons (pe_bltn (v := .ty n) hgx hmx hv rfl hn hd) pa_nil he2) he) (by decide) (by decide) he hpl, fun w0 w s s' ρ σ r Q F e q => ?_⟩
  obtain ⟨⟨x, s1⟩, e1, e⟩ := Option.bind_eq_some_iff.mp e
  obtain ⟨t, e2, e⟩ := Option.bind_eq_some_iff.mp e
  cases e
  refine ea w0 w s _ ρ σ x _ F e1 fun v w1 st1 F1 r1 => ?_
  obtain ⟨h1, h2⟩ := tyL_at F1.wk r1 e2
  refine ⟨v, .ty n, .type t, .type n, isT n t, rfl, .ty n, h1, kit_ty ?_, q _ w1 st1 F1 (.bl _)⟩
  obtain ⟨k1, k2, k3, k4, k5, k6⟩ := hk
  rcases h2 with z | z | z | z | z | z <;> rw [z] <;> assumption
end
theorem kit_tuple : kitB "NoneType" "tuple" = some (isT "tuple" "NoneType") ∧ kitB "bool" "tuple" = some (isT "tuple" "bool") ∧ kitB "int" "tuple" = some (isT "tuple" "int") ∧ kitB "str" "tuple" = some (isT "tuple" "str") ∧ kitB "list" "tuple" = some (isT "tuple" "list") ∧ kitB "tuple" "tuple" = some (isT "tuple" "tuple") := by decide +kernel
theorem kit_list : kitB "NoneType" "list" = some (isT "list" "NoneType") ∧ kitB "bool" "list" = some (isT "list" "bool") ∧ kitB "int" "list" = some (isT "list" "int") ∧ kitB "str" "list" = some (isT "list" "str") ∧ kitB "list" "list" = some (isT "list" "list") ∧ kitB "tuple" "list" = some (isT "list" "tuple") := by decide +kernel
theorem kit_bool : kitB "NoneType" "bool" = some (isT "bool" "NoneType") ∧ kitB "bool" "bool" = some (isT "bool" "bool") ∧ kitB "int" "bool" = some (isT "bool" "int") ∧ kitB "str" "bool" = some (isT "bool" "str") ∧ kitB "list" "bool" = some (isT "bool" "list") ∧ kitB "tuple" "bool" = some (isT "bool" "tuple") := by decide +kernel
theorem kit_int : kitB "NoneType" "int" = some (isT "int" "NoneType") ∧ kitB "bool" "int" = some (isT "int" "bool") ∧ kitB "int" "int" = some (isT "int" "int") ∧ kitB "str" "int" = some (isT "int" "str") ∧ kitB "list" "int" = some (isT "int" "list") ∧ kitB "tuple" "int" = some (isT "int" "tuple") := by decide +kernel
theorem kit_str : kitB "NoneType" "str" = some (isT "str" "NoneType") ∧ kitB "bool" "str" = some (isT "str" "bool") ∧ kitB "int" "str" = some (isT "str" "int") ∧ kitB "str" "str" = some (isT "str" "str") ∧ kitB "list" "str" = some (isT "str" "list") ∧ kitB "tuple" "str" = some (isT "str" "tuple") := by decide +kernel
/-! ### attributes -/
structure FldOk (K : PySem.W.Frag) (mg : Str → Option Value) (c f : Str) : Prop where
  ex : ∃ C, mg c = some (.ref C) ∧ Cls K C ∧ NoAttr K C f
def lkp {α : Type} (f : Str) : List (Str × α) → Option α
  | [] => none
  | (g, x) :: r => if f = g then some x else lkp f r
def putA {α : Type} (f : Str) (x : α) : List (Str × α) → List (Str × α)
  | [] => [(f, x)]
  | (g, y) :: r => if f = g then (f, x) :: r else (g, y) :: putA f x r
def fFld (c f : Str) (h : FE) : FE := fun ρ s => (h ρ s).bind fun p => match p.1 with
  | .rf n => match p.2[n]? with
    | some (.ins c' fs) => if c' = c then (lkp f fs).bind fun l => if keepable l = true then some (l, p.2) else none else none
    | _ => none
  | _ => none
section
variable {K : PySem.W.Frag} {mg : Str → Option Value} {w : Wd} {s : S}
abbrev FsR (K : PySem.W.Frag) (w : Wd) : (Str × V) → (Str × L) → Prop := fun p q => p.1 = q.1 ∧ Kv K w p.2 q.2
theorem lkp_at {f : Str} : ∀ {hs : List (Str × V)} {fs : List (Str × L)} {l : L}, A2 (FsR K w) hs fs → lkp f fs = some l → ∃ v, hs.lookup f = some v ∧ Kv K w v l
  | _, _, _, .nil, e => by cases e
  | (g, x) :: r, (g', y) :: r', l, .cons h t, e => by
    obtain ⟨rfl, h2⟩ := h
    dsimp only [lkp] at e
    by_cases z : f = g
    · rw [if_pos z] at e
      cases e
      subst z
      exact ⟨x, by simp [List.lookup], h2⟩
    · rw [if_neg z] at e
      obtain ⟨v, h3, h4⟩ := lkp_at t e
      refine ⟨v, ?_, h4⟩
      have : (f == g) = false := by simpa using z
      simp [List.lookup, this, h3]
theorem lkp_none {f : Str} : ∀ {hs : List (Str × V)} {fs : List (Str × L)}, A2 (FsR K w) hs fs → lkp f fs = none → hs.lookup f = none
  | _, _, .nil, e => rfl
  | (g, x) :: r, (g', y) :: r', .cons h t, e => by
    obtain ⟨rfl, h2⟩ := h
    dsimp only [lkp] at e
    by_cases z : f = g
    · rw [if_pos z] at e; cases e
    · rw [if_neg z] at e
      have : (f == g) = false := by simpa using z
      simp [List.lookup, this, lkp_none t e]
theorem putA_at {f : Str} {v : V} {l : L} (k : Kv K w v l) : ∀ {hs : List (Str × V)} {fs : List (Str × L)}, A2 (FsR K w) hs fs → A2 (FsR K w) (putF f v hs) (putA f l fs)
  | _, _, .nil => .cons ⟨rfl, k⟩ .nil
  | (g, x) :: r, (g', y) :: r', .cons h t => by
    obtain ⟨rfl, h2⟩ := h
    show A2 _ (if g = f then (g, v) :: r else (g, x) :: putF f v r) (if f = g then (f, l) :: r' else (g, y) :: putA f l r')
    by_cases z : f = g
    · subst z
      rw [if_pos rfl, if_pos rfl]; exact .cons ⟨rfl, k⟩ t
    · rw [if_neg z, if_neg (fun q => z q.symm)]; exact .cons ⟨rfl, h2⟩ (putA_at k t)
end
section
variable {X : Cx} {a b c : Expr} {f g : FE} {pos p p2 : Pos}
theorem se_fld {cn fn : Str} (hF : FldOk X.K X.mg cn fn) (ha : SE X a f) (hb : attributeBase a fn X.env (eval a X.env) = eval a X.env := by rfl) : SE X (.Attribute a fn pos) (fFld cn fn f) := by
  obtain ⟨ta, pa, ea⟩ := ha.ex
  obtain ⟨C, hC, hcl, hna⟩ := hF.ex
  refine ⟨_, pe_fld pa hb, fun w0 w s s' ρ σ r Q F e q => ?_⟩
  obtain ⟨⟨x, s1⟩, e1, e⟩ := Option.bind_eq_some_iff.mp e
  refine ea w0 w s s1 ρ σ x _ F e1 fun v w1 st1 F1 r1 => ?_
  dsimp only at e
  split at e
  · split at e
    · rename_i n _ c' fs e2
      split at e
      · rename_i ec
        obtain ⟨l, e3, e⟩ := Option.bind_eq_some_iff.mp e
        split at e
        · cases e
          subst ec
          obtain ⟨A, hA, rfl⟩ := r1
          obtain ⟨C', dx, hs, h1, h2, h3⟩ := F1.wk.ok _ A _ hA e2
          have eC : C' = C := by
            have := h1.symm.trans hC
            cases this; rfl
          subst eC
          obtain ⟨v, h4, h5⟩ := lkp_at h3 e3
          exact ⟨A, C', dx, hs, v, rfl, h2, hcl, hna, h4, q v w1 st1 F1 (lv_kv h5)⟩
        · cases e
      · cases e
    · cases e
  · cases e
end
/-! ### promises of defs -/
/-- a def that may use and change the store -/
def spG (K : PySem.W.Frag) (mg : Str → Option Value) (n : Nat) (F : List L → S → Option (L × S)) : Sp := fun vs H Q _ => ∃ (w : Wd) (s : S) (ls : List L) (r : L) (s' : S), w.H = H ∧ Wok K mg w s ∧ A2 (Kv K w) vs ls ∧ ls.length = n ∧ F ls s = some (r, s') ∧ ∀ v w', Stp w w' → Wok K mg w' s' → Kv K w' v r → Q v w'.H
/-- a def that leaves what there is: data to data -/
def spP (K : PySem.W.Frag) (n : Nat) (F : List D → Option D) : Sp := fun vs H Q _ => ∃ (B : Hp) (ds : List D) (d : D), (∀ a o, B a = some o → H a = some o) ∧ A2 (Dq K B) vs ds ∧ ds.length = n ∧ F ds = some d ∧
  ∀ v B' H', (∀ a o, B a = some o → B' a = some o) → (∀ a o, B' a = some o → H' a = some o) → (∀ a, B a = none → B' a ≠ none → H a = none) → (∀ a o, H a = some o → H' a = some o) → Dq K B' v d → Q v H'
structure Cl (P : Program) (w : World) (K : PySem.W.Frag) (mg : Str → Option Value) (base : Heap) (k : Nat) (x : Str) (sp : Sp) : Prop where
  ex : ∃ (f : Addr) (fd : FuncData) (ps : List Str), FnOk P w K mg base L2.CX0 k f fd ps sp ∧ mg x = some (.ref f) ∧ PySem.W.keepIn K (.ref f) = true ∧ Binds K fd ps []
structure Mt (P : Program) (w : World) (K : PySem.W.Frag) (mg : Str → Option Value) (base : Heap) (k : Nat) (c m : Str) (sp : Sp) : Prop where
  ex : ∃ (C f : Addr) (fd : FuncData) (ps : List Str), mg c = some (.ref C) ∧ Cls K C ∧ Meth K C m f ∧ FnOk P w K mg base L2.CX0 k f fd ps sp ∧ Binds K fd ps []
structure Mq (P : Program) (w : World) (K : PySem.W.Frag) (mg : Str → Option Value) (base : Heap) (k : Nat) (c : Str) (sp : Sp) : Prop where
  ex : ∃ (C f : Addr) (fd : FuncData) (ps : List Str), mg c = some (.ref C) ∧ Mk K C f ∧ FnOk P w K mg base L2.CX0 k f fd ps sp ∧ Binds K fd ps []
def fCallG (n : Nat) (F : List L → S → Option (L × S)) (g : FA) : FE := fun ρ s => (g ρ s).bind fun p => if p.1.all keepable = true ∧ p.1.length = n then (F p.1 p.2).bind fun r => if keepable r.1 = true then some r else none else none
def vwAll (s : S) : List L → Option (List D)
  | [] => some []
  | x :: r => (match x with
    | .im d => some d
    | x => (lsV s x).bind fun l => some (.list l)).bind fun d => (vwAll s r).bind fun l => some (d :: l)
def fCallP (n : Nat) (F : List D → Option D) (g : FA) : FE := fun ρ s => (g ρ s).bind fun p => match imAll p.1 with
  | some ds => if ds.length = n then (F ds).bind fun d => some (.im d, p.2) else none
  | none => (vwAll p.2 p.1).bind fun ds => if ds.length = n then (F ds).bind fun d => if flatD d = true then some (.im d, p.2) else none else none
/-- a method of objects of a class -/
def fMethG (c : Str) (m : Str) (n : Nat) (F : List L → S → Option (L × S)) (h : FE) (g : FA) : FE := fun ρ s => (h ρ s).bind fun o => match o.1 with
  | .rf i => match o.2[i]? with
    | some (.ins c' fs) => if c' = c ∧ (lkp m fs).isNone = true then (g ρ o.2).bind fun p => if p.1.all keepable = true ∧ p.1.length + 1 = n then (F (.rf i :: p.1) p.2).bind fun r => if keepable r.1 = true then some r else none else none else none
    | _ => none
  | _ => none
def fMake (c : Str) (n : Nat) (F : List L → S → Option (L × S)) (g : FA) : FE := fun ρ s => (g ρ s).bind fun p => if p.1.all keepable = true ∧ p.1.length + 1 = n then (F (.rf p.2.length :: p.1) (p.2 ++ [.ins c []])).bind fun r => match r.1 with
    | .im .none => some (.rf p.2.length, r.2)
    | _ => none
  else none
section
variable {K : PySem.W.Frag} {mg : Str → Option Value} {w : Wd} {s : S}
theorem vwAll_at (k : Wok K mg w s) : ∀ {xs : List L} {vs : List V} {l : List D}, A2 (Lv K w) vs xs → vwAll s xs = some l → A2 (Dq K w.H) vs l
  | [], _, _, .nil, e => by cases e; exact .nil
  | x :: r, v :: _, _, .cons h t, e => by
    obtain ⟨d, e0, e⟩ := Option.bind_eq_some_iff.mp e
    obtain ⟨l, e1, e⟩ := Option.bind_eq_some_iff.mp e
    cases e
    refine .cons ?_ (vwAll_at k t e1)
    have viaL : ∀ d, ((lsV s x).bind fun l => some (PyData.list l)) = some d → Dq K w.H v d := fun d e => by
      obtain ⟨l, e2, e⟩ := Option.bind_eq_some_iff.mp e
      cases e
      obtain ⟨a, vs, rfl, h2, h3⟩ := lsV_at k h e2
      exact dq_list h2 k h3
    cases x with
    | im d => cases e0; exact dp_mono k.ex _ _ h
    | rf n => exact viaL d e0
    | ow l => exact viaL d e0
    | sc l => exact viaL d e0
theorem kv_lv {v : V} {x : L} (h : Kv K w v x) : Lv K w v x := lv_kv h
end
section
variable {X : Cx} {a b c e0 o : Expr} {es : List Expr} {f g h : FE} {ga : FA} {pos p p2 apos : Pos} {k j n : Nat} {x m cn : Str}
theorem eo_callG {K : PySem.W.Frag} {mg : Str → Option Value} {ta : TA} {F : List L → S → Option (L × S)} {E : XK} (ha : AO K mg ta ga) : EO K mg (tCall (spG K mg n F) [] E ta) (fCallG n F ga) := by
  intro w0 w s s' ρ σ l Q Fr e q
  obtain ⟨⟨x, s1⟩, e1, e⟩ := Option.bind_eq_some_iff.mp e
  split at e
  · rename_i hk
    obtain ⟨⟨r, s2⟩, e2, e⟩ := Option.bind_eq_some_iff.mp e
    split at e
    · cases e
      refine ha w0 w s _ ρ σ x _ Fr e1 fun v w1 st1 F1 r1 => ?_
      refine ⟨w1, s1, x, _, _, rfl, F1.wk, by rw [List.append_nil]; exact kvAll_of r1 hk.1, hk.2, e2, fun v3 w3 st3 k3 r3 => q v3 w3 (st1.trans st3) (F1.step st3 k3) (lv_kv r3)⟩
    · cases e
  · cases e
theorem flat_any {K : PySem.W.Frag} {B B' : Hp} {v : V} {d : D} (h : Dq K B v d) (f : flatD d = true) : Dq K B' v d := by
  cases h <;> first | exact .non | exact .bl _ | exact .int _ | exact .str _ | cases f
theorem eo_callP {K : PySem.W.Frag} {mg : Str → Option Value} {ta : TA} {F : List D → Option D} {E : XK} (ha : AO K mg ta ga) : EO K mg (tCall (spP K n F) [] E ta) (fCallP n F ga) := by
  intro w0 w s s' ρ σ l Q Fr e q
  obtain ⟨⟨x, s1⟩, e1, e⟩ := Option.bind_eq_some_iff.mp e
  refine ha w0 w s s1 ρ σ x _ Fr e1 fun v w1 st1 F1 r1 => ?_
  dsimp only at e
  split at e
  · rename_i ds e2
    split at e
    · rename_i hl
      obtain ⟨d, e3, e⟩ := Option.bind_eq_some_iff.mp e
      cases e
      refine ⟨w1.B, ds, d, F1.wk.ex, by rw [List.append_nil]; exact imAll_at r1 e2, hl, e3, fun u B' H' h1 h2 h3 h4 h5 => ?_⟩
      have st2 : Stp w1 ⟨w1.m, B', H'⟩ := by
        refine ⟨⟨[], by simp, by simp⟩, h1, h3, fun a o _ z => h4 a o z, fun a z => ?_⟩
        cases y : w1.H a with
        | none => rfl
        | some o =>
          have z : H' a = none := z
          rw [h4 a o y] at z; cases z
      refine q u ⟨w1.m, B', H'⟩ (st1.trans st2) (F1.step st2 ⟨h2, F1.wk.len, F1.wk.nd, fun a z => ?_, fun a z z' => F1.wk.live a z (st2.lv a z'), fun i a mo z z' => ?_⟩) h5
      · exact st2.keepB (F1.wk.fresh a z) (F1.wk.live a z)
      · have hm := F1.wk.ok i a mo z z'
        cases mo with
        | dl l => obtain ⟨vs, y1, y2⟩ := hm; exact ⟨vs, h4 _ _ y1, st2.dps y2⟩
        | rl l => obtain ⟨vs, y1, y2⟩ := hm; exact ⟨vs, h4 _ _ y1, y2.mono fun _ _ => st2.kv⟩
        | ins c fs => obtain ⟨C, dx, hs, y1, y2, y3⟩ := hm; exact ⟨C, dx, hs, y1, h4 _ _ y2, y3.mono fun _ _ y => ⟨y.1, st2.kv y.2⟩⟩
        | gone => exact True.intro
    · cases e
  · obtain ⟨ds, e2, e⟩ := Option.bind_eq_some_iff.mp e
    split at e
    · rename_i hl
      obtain ⟨d, e3, e⟩ := Option.bind_eq_some_iff.mp e
      split at e
      · rename_i hf
        cases e
        refine ⟨w1.H, ds, d, fun _ _ z => z, by rw [List.append_nil]; exact vwAll_at F1.wk r1 e2, hl, e3, fun u B' H' h1 h2 h3 h4 h5 => ?_⟩
        have st2 : Stp w1 ⟨w1.m, w1.B, H'⟩ := by
          refine ⟨⟨[], by simp, by simp⟩, fun _ _ z => z, fun a z z' => absurd z z', fun a o _ z => h4 a o z, fun a z => ?_⟩
          cases y : w1.H a with
          | none => rfl
          | some o =>
            have z : H' a = none := z
            rw [h4 a o y] at z; cases z
        refine q u ⟨w1.m, w1.B, H'⟩ (st1.trans st2) (F1.step st2 ⟨fun a o z => h4 a o (F1.wk.ex a o z), F1.wk.len, F1.wk.nd, F1.wk.fresh, fun a z z' => F1.wk.live a z (st2.lv a z'), fun i a mo z z' => ?_⟩) (flat_any h5 hf)
        have hm := F1.wk.ok i a mo z z'
        cases mo with
        | dl l => obtain ⟨vs, y1, y2⟩ := hm; exact ⟨vs, h4 _ _ y1, y2⟩
        | rl l => obtain ⟨vs, y1, y2⟩ := hm; exact ⟨vs, h4 _ _ y1, y2⟩
        | ins c fs => obtain ⟨C, dx, hs, y1, y2, y3⟩ := hm; exact ⟨C, dx, hs, y1, h4 _ _ y2, y3⟩
        | gone => exact True.intro
      · cases e
    · cases e
theorem se_callG {F : List L → S → Option (L × S)} (c : Cl X.prog X.w X.K X.mg X.base k x (spG X.K X.mg n F)) (hr : Room j X.A) (hk : k ≤ j) (hg : Gl X x) (ha : SA X (e0 :: es) ga)
    (hdb : (x == ("__debug__" : Str)) = false := by decide) (he : starEach (e0 :: es) X.env = (false, eval e0 X.env) :: starEach es X.env := by rfl) (hpl : (backTo pos (starEach es X.env)).any (·.1) = false := by rfl) :
    SE X (.Call (.Name x p) (e0 :: es) [] pos) (fCallG n F ga) := by
  obtain ⟨ta, pa, ea⟩ := ha.ex
  obtain ⟨f, fd, ps, hF, hm, kp, b⟩ := c.ex
  exact ⟨_, pe_call hF (hr.mono hk) hg hm kp b .nil pass0 pa hdb he hpl, eo_callG ea⟩
theorem se_callG0 {F : List L → S → Option (L × S)} (c : Cl X.prog X.w X.K X.mg X.base k x (spG X.K X.mg n F)) (hr : Room j X.A) (hk : k ≤ j) (hg : Gl X x)
    (hdb : (x == ("__debug__" : Str)) = false := by decide) : SE X (.Call (.Name x p) [] [] pos) (fCallG n F fNil) := by
  obtain ⟨ta, pa, ea⟩ := (sa_nil (X := X)).ex
  obtain ⟨f, fd, ps, hF, hm, kp, b⟩ := c.ex
  refine ⟨_, pe_call0 hF (hr.mono hk) hg hm kp b .nil pass0 hdb, eo_callG ?_⟩
  intro w0 w s s' ρ σ r Q F e q
  cases e
  exact q [] w (Stp.refl w) F .nil
theorem se_callP {F : List D → Option D} (c : Cl X.prog X.w X.K X.mg X.base k x (spP X.K n F)) (hr : Room j X.A) (hk : k ≤ j) (hg : Gl X x) (ha : SA X (e0 :: es) ga)
    (hdb : (x == ("__debug__" : Str)) = false := by decide) (he : starEach (e0 :: es) X.env = (false, eval e0 X.env) :: starEach es X.env := by rfl) (hpl : (backTo pos (starEach es X.env)).any (·.1) = false := by rfl) :
    SE X (.Call (.Name x p) (e0 :: es) [] pos) (fCallP n F ga) := by
  obtain ⟨ta, pa, ea⟩ := ha.ex
  obtain ⟨f, fd, ps, hF, hm, kp, b⟩ := c.ex
  exact ⟨_, pe_call hF (hr.mono hk) hg hm kp b .nil pass0 pa hdb he hpl, eo_callP ea⟩
/-- o.m(..): to, the object, then the arguments -/
theorem eo_meth {K : PySem.W.Frag} {mg : Str → Option Value} {C : Addr} {to : TE} {ta : TA} {F : List L → S → Option (L × S)} {E : XK} (hC : mg cn = some (.ref C)) (ho : EO K mg to h) (ha : AO K mg ta ga) : EO K mg (tMeth C m (spG K mg n F) [] E to ta) (fMethG cn m n F h ga) := by
  intro w0 w s s' ρ σ l Q Fr e q
  obtain ⟨⟨y, s1⟩, e1, e⟩ := Option.bind_eq_some_iff.mp e
  refine ho w0 w s s1 ρ σ y _ Fr e1 fun v w1 st1 F1 r1 => ?_
  dsimp only at e
  split at e
  · rename_i i
    split at e
    · rename_i c' fs e2
      split at e
      · rename_i hc
        obtain ⟨⟨xs, s2⟩, e3, e⟩ := Option.bind_eq_some_iff.mp e
        split at e
        · rename_i hk
          obtain ⟨⟨r, s3⟩, e4, e⟩ := Option.bind_eq_some_iff.mp e
          split at e
          · cases e
            obtain ⟨A, hA, rfl⟩ := r1
            obtain ⟨C', dx, hs, h1, h2, h3⟩ := F1.wk.ok _ A _ hA e2
            have eC : C' = C := by
              rw [hc.1] at h1
              have := h1.symm.trans hC
              cases this; rfl
            subst eC
            refine ⟨A, dx, hs, rfl, h2, lkp_none h3 (by simpa using hc.2), ?_⟩
            refine ha w0 w1 s1 _ ρ σ xs _ F1 e3 fun vs w2 st2 F2 r2 => ?_
            refine ⟨w2, s2, .rf i :: xs, _, _, rfl, F2.wk, by rw [List.append_nil]; exact .cons ⟨A, st2.get hA, rfl⟩ (kvAll_of r2 hk.1), by simpa using hk.2, e4, fun v3 w3 st3 k3 r3 => q v3 w3 ((st1.trans st2).trans st3) (F2.step st3 k3) (lv_kv r3)⟩
          · cases e
        · cases e
      · cases e
    · cases e
  · cases e
theorem se_meth {pl : Sem Bool} {F : List L → S → Option (L × S)} (c : Mt X.prog X.w X.K X.mg X.base k cn m (spG X.K X.mg n F)) (hr : Room j X.A) (hk : k ≤ j) (ho : SE X o h) (ha : SA X (e0 :: es) ga)
    (hst : starEach (e0 :: es) X.env = (false, eval e0 X.env) :: starEach es X.env := by rfl) (hpl : (backTo pos (starEach es X.env)).any (·.1) = false := by rfl)
    (ht : eval (.Call (.Attribute o m apos) (e0 :: es) [] pos) X.env = (do let ov ← eval o X.env; standAt apos.atName; let (f, first) ← holding [ov] (getMethod ov m pl); callWith pos f first (backTo pos (starEach (e0 :: es) X.env)) (backToKw pos (keywordEach [] X.env))) := by rfl) :
    SE X (.Call (.Attribute o m apos) (e0 :: es) [] pos) (fMethG cn m n F h ga) := by
  obtain ⟨to, po, eo⟩ := ho.ex
  obtain ⟨ta, pa, ea⟩ := ha.ex
  obtain ⟨C, f, fd, ps, hC, hcl, hme, hF, b⟩ := c.ex
  exact ⟨_, pe_meth (pl := pl) po hcl hme hF (hr.mono hk) b .nil pass0 pa hst hpl ht, eo_meth hC eo ea⟩
theorem se_meth0 {pl : Sem Bool} {F : List L → S → Option (L × S)} (c : Mt X.prog X.w X.K X.mg X.base k cn m (spG X.K X.mg n F)) (hr : Room j X.A) (hk : k ≤ j) (ho : SE X o h)
    (ht : eval (.Call (.Attribute o m apos) [] [] pos) X.env = (do let ov ← eval o X.env; standAt apos.atName; let (f, first) ← holding [ov] (getMethod ov m pl); callWith pos f first (backTo pos (starEach [] X.env)) (backToKw pos (keywordEach [] X.env))) := by rfl) :
    SE X (.Call (.Attribute o m apos) [] [] pos) (fMethG cn m n F h fNil) := by
  obtain ⟨to, po, eo⟩ := ho.ex
  obtain ⟨C, f, fd, ps, hC, hcl, hme, hF, b⟩ := c.ex
  refine ⟨_, pe_meth0 (pl := pl) po hcl hme hF (hr.mono hk) b .nil pass0 ht, eo_meth hC eo ?_⟩
  intro w0 w s s' ρ σ r Q F e q
  cases e
  exact q [] w (Stp.refl w) F .nil
theorem eo_make {K : PySem.W.Frag} {mg : Str → Option Value} {C : Addr} {ta : TA} {F : List L → S → Option (L × S)} {E : XK} (hC : mg cn = some (.ref C)) (ha : AO K mg ta ga) : EO K mg (tMake C (spG K mg n F) [] E ta) (fMake cn n F ga) := by
  intro w0 w s s' ρ σ l Q Fr e q
  obtain ⟨⟨xs, s1⟩, e1, e⟩ := Option.bind_eq_some_iff.mp e
  split at e
  · rename_i hk
    obtain ⟨⟨r, s2⟩, e2, e⟩ := Option.bind_eq_some_iff.mp e
    refine ha w0 w s s1 ρ σ xs _ Fr e1 fun vs w1 st1 F1 r1 => ?_
    dsimp only at e
    split at e
    · cases e
      intro x dx nx nd ne
      obtain ⟨st2, k2⟩ := F1.wk.push (p := x) (H1 := upd w1.H dx (.own x)) (o := .ins C dx []) (mo := .ins cn []) nx (fun a u z => by rw [upd_ne (ne_of_none z nd)]; exact z) (by rw [upd_ne ne.symm]; exact nx) ⟨C, dx, [], hC, upd_same, .nil⟩
      have hx : (w1.m ++ [x])[s1.length]? = some x := by rw [← F1.wk.len]; simp
      have F2 := F1.step st2 k2
      refine ⟨_, s1 ++ [.ins cn []], .rf s1.length :: xs, _, _, rfl, k2, by rw [List.append_nil]; exact .cons ⟨x, hx, rfl⟩ ((kvAll_of r1 hk.1).mono fun _ _ => st2.kv), by simpa using hk.2, e2, fun v3 w3 st3 k3 r3 => ⟨by cases r3; rfl, q (.ref x) w3 ((st1.trans st2).trans st3) (F2.step st3 k3) ⟨x, st3.get hx, rfl⟩⟩⟩
    · cases e
  · cases e
theorem se_make {F : List L → S → Option (L × S)} (c : Mq X.prog X.w X.K X.mg X.base k x (spG X.K X.mg n F)) (hr : Room j X.A) (hk : k + 1 ≤ j) (hg : Gl X x) (ha : SA X (e0 :: es) ga)
    (hdb : (x == ("__debug__" : Str)) = false := by decide) (he : starEach (e0 :: es) X.env = (false, eval e0 X.env) :: starEach es X.env := by rfl) (hpl : (backTo pos (starEach es X.env)).any (·.1) = false := by rfl) :
    SE X (.Call (.Name x p) (e0 :: es) [] pos) (fMake x n F ga) := by
  obtain ⟨ta, pa, ea⟩ := ha.ex
  obtain ⟨C, f, fd, ps, hC, M, hF, b⟩ := c.ex
  exact ⟨_, pe_make M hF (hr.mono hk) hg hC b .nil pass0 pa hdb he hpl, eo_make hC ea⟩
/-- one rule or the other -/
def fOr (f g : FE) : FE := fun ρ s => (f ρ s).or (g ρ s)
theorem se_or2 (hf : SE X a f) (hg : SE X a g) : SE X a (fOr f g) := by
  obtain ⟨t, pt, et⟩ := hf.ex
  obtain ⟨u, pu, eu⟩ := hg.ex
  refine ⟨fun σ H Q => t σ H Q ∨ u σ H Q, ⟨fun pins s σ H Q I h => ?_⟩, fun w0 w s s' ρ σ r Q F e q => ?_⟩
  · rcases h with h | h
    · exact pt.run pins s σ H Q I h
    · exact pu.run pins s σ H Q I h
  · have e : (f ρ s).or (g ρ s) = some (r, s') := e
    cases y : f ρ s with
    | some z =>
      rw [y] at e; cases e
      exact .inl (et w0 w s s' ρ σ r Q F y q)
    | none =>
      rw [y] at e
      exact .inr (eu w0 w s s' ρ σ r Q F e q)
end
end Zz
set_option Elab.async false
set_option linter.all false
/-! ZG: statements: what they do with slots and store -/
namespace Zz
open PySem L2
inductive Fl where
  | nx
  | bk
  | ct
  | rt (l : L)
abbrev FS := Ro → S → Option (Fl × Ro × S)
def Bm (w w' : Wd) : Prop := ∀ a o, w.B a = some o → w'.B a = some o
theorem Bm.refl (w : Wd) : Bm w w := fun _ _ h => h
theorem Bm.trans {a b c : Wd} (h : Bm a b) (k : Bm b c) : Bm a c := fun x o q => k x o (h x o q)
theorem Stp.bm {w w' : Wd} (h : Stp w w') : Bm w w' := h.b
section
variable (K : PySem.W.Frag) (mg : Str → Option Value)
def Post (w0 w : Wd) (D : Ends) (ρ : Ro) (s : S) : Fl → Prop
  | .nx => ∀ w' σ', Bm w w' → FR K mg w0 w' s ρ σ' → D.nx σ' w'.H
  | .bk => ∀ w' σ', Bm w w' → FR K mg w0 w' s ρ σ' → D.bk σ' w'.H
  | .ct => ∀ w' σ', Bm w w' → FR K mg w0 w' s ρ σ' → D.ct σ' w'.H
  | .rt l => ∀ v w', Stp w0 w' → Wok K mg w' s → Kv K w' v l → D.rt v w'.H
def BO (t : TS) (f : FS) : Prop := ∀ (w0 w : Wd) (s s' : S) (ρ ρ' : Ro) (σ : L2.St) (fl : Fl) (D : Ends), FR K mg w0 w s ρ σ → f ρ s = some (fl, ρ', s') → Post K mg w0 w D ρ' s' fl → t D σ w.H
end
structure SS (X : Cx) (st : Stmt) (f : FS) : Prop where
  ex : ∃ t, PS X st t ∧ BO X.K X.mg t f
structure SB (X : Cx) (st : List Stmt) (f : FS) : Prop where
  ex : ∃ t, PSs X st t ∧ BO X.K X.mg t f
/-! ### blocks -/
def fNext : FS := fun ρ s => some (.nx, ρ, s)
def fSeq (f g : FS) : FS := fun ρ s => (f ρ s).bind fun r => match r.1 with
  | .nx => g r.2.1 r.2.2
  | _ => some r
def slotOf : L → Option Slot
  | .im d => some (.im d)
  | .rf n => some (.rf n)
  | .sc l => some (.sc l)
  | .ow _ => none
section
variable {K : PySem.W.Frag} {mg : Str → Option Value} {w0 w w' w1 : Wd} {s s' : S} {ρ : Ro} {σ : L2.St} {D : Ends}
theorem Post.back (h : Bm w w1) {fl : Fl} (p : Post K mg w0 w D ρ s fl) : Post K mg w0 w1 D ρ s fl := by
  cases fl with
  | nx => exact fun w' σ' b F => p w' σ' (h.trans b) F
  | bk => exact fun w' σ' b F => p w' σ' (h.trans b) F
  | ct => exact fun w' σ' b F => p w' σ' (h.trans b) F
  | rt l => exact p
/-- a slot is set -/
theorem FR.set (F : FR K mg w0 w s ρ σ) {i : Nat} {v : V} {z : Slot} (k : SlotOk K w0 w (some v) z) (hd : ∀ l a, z = .ol l → v = .ref a → ∀ j l', j ≠ i → ρ[j]? = some (.ol l') → σ[j]? = some (some (.ref a)) → False) : FR K mg w0 w s (ρ.set i z) (σ.set i (some v)) := by
  refine ⟨F.st, F.wk, by rw [List.length_set, List.length_set]; exact F.len, fun j y u h1 h2 => ?_, fun a b l l' p hab h1 h2 h3 h4 => ?_⟩
  · by_cases e : i = j
    · subst e
      rw [List.getElem?_set] at h1 h2
      rw [if_pos rfl] at h1 h2
      split at h1
      · split at h2
        · cases h1; cases h2; exact k
        · cases h2
      · cases h1
    · rw [List.getElem?_set_ne e] at h1 h2
      exact F.sl j y u h1 h2
  · by_cases ea : i = a
    · subst ea
      have eb : i ≠ b := hab
      rw [List.getElem?_set_ne eb] at h2 h4
      rw [List.getElem?_set, if_pos rfl] at h1 h3
      split at h1
      · split at h3
        · cases h1; cases h3
          exact hd _ _ rfl rfl b _ eb.symm h2 h4
        · cases h3
      · cases h1
    · rw [List.getElem?_set_ne ea] at h1 h3
      by_cases eb : i = b
      · subst eb
        rw [List.getElem?_set, if_pos rfl] at h2 h4
        split at h2
        · split at h4
          · cases h2; cases h4
            exact hd _ _ rfl rfl a _ hab h1 h3
          · cases h4
        · cases h2
      · rw [List.getElem?_set_ne eb] at h2 h4
        exact F.di a b l l' p hab h1 h2 h3 h4
theorem slotOf_at {v : V} {x : L} {z : Slot} (h : Lv K w v x) (e : slotOf x = some z) : SlotOk K w0 w (some v) z ∧ ∀ l, z ≠ .ol l := by
  cases x with
  | im d => cases e; exact ⟨⟨v, rfl, h⟩, fun l q => by cases q⟩
  | rf n => cases e; obtain ⟨a, h1, rfl⟩ := h; exact ⟨⟨a, rfl, h1⟩, fun l q => by cases q⟩
  | ow l => cases e
  | sc l => cases e; obtain ⟨a, vs, rfl, h1, h2⟩ := h; exact ⟨⟨a, vs, rfl, h1, h2⟩, fun l q => by cases q⟩
/-- the list of a slot, changed -/
theorem FR.own (F : FR K mg w0 w s ρ σ) {i : Nat} {l l' : List Zz.D} {a : Addr} {vs vs' : List V} (hi : ρ[i]? = some (.ol l)) (hv : σ[i]? = some (some (.ref a))) (hH : w.H a = some (.lst vs)) (d : A2 (Dq K w.B) vs' l') :
    FR K mg w0 ⟨w.m, w.B, upd w.H a (.lst vs')⟩ s (ρ.set i (.ol l')) σ := by
  obtain ⟨b, us, h1, h2, h0, h3, h4, h5⟩ := F.sl i _ _ hi hv
  cases h1
  have st : Stp w0 ⟨w.m, w.B, upd w.H a (.lst vs')⟩ := by
    refine ⟨F.st.m, F.st.b, F.st.bn, fun c o n q => ?_, fun c q => ?_⟩
    · have ne : c ≠ a := fun z => by rw [z, h0] at q; cases q
      exact (upd_ne ne).trans (F.st.fr c o n q)
    · by_cases z : c = a
      · rw [z]; exact h0
      · exact F.st.lv c ((upd_ne (H := w.H) (o := .lst vs') z).symm.trans q)
  have lens : i < σ.length := (List.getElem?_eq_some_iff.mp hv).1
  refine ⟨st, ⟨fun c o q => ?_, F.wk.len, F.wk.nd, F.wk.fresh, fun c q q' => ?_, fun n c o q q' => ?_⟩, by rw [List.length_set]; exact F.len, fun j y u q q' => ?_, fun j k m m' c hjk q1 q2 q3 q4 => ?_⟩
  · have ne : c ≠ a := fun z => by
      have q : w.B c = some o := q
      rw [z, h3] at q; cases q
    exact (upd_ne ne).trans (F.wk.ex c o q)
  · have ne : c ≠ a := fun z => h2 (z ▸ q)
    exact F.wk.live c q ((upd_ne (H := w.H) (o := .lst vs') ne).symm.trans q')
  · have ne : c ≠ a := fun z => h2 (z ▸ List.mem_of_getElem? q)
    have hm := F.wk.ok n c o q q'
    cases o with
    | dl l => obtain ⟨us, y1, y2⟩ := hm; exact ⟨us, (upd_ne ne).trans y1, y2⟩
    | rl l => obtain ⟨us, y1, y2⟩ := hm; exact ⟨us, (upd_ne ne).trans y1, y2⟩
    | ins c fs => obtain ⟨C, dx, hs, y1, y2, y3⟩ := hm; exact ⟨C, dx, hs, y1, (upd_ne ne).trans y2, y3⟩
    | gone => exact True.intro
  · by_cases e : i = j
    · subst e
      rw [List.getElem?_set, if_pos rfl] at q
      split at q
      · cases q
        rw [hv] at q'; cases q'
        exact ⟨a, vs', rfl, h2, h0, h3, upd_same, d⟩
      · cases q
    · rw [List.getElem?_set_ne e] at q
      have hm := F.sl j y u q q'
      cases y with
      | un => exact True.intro
      | im d => exact hm
      | rf n => exact hm
      | sc l => exact hm
      | ol m =>
        obtain ⟨c, us', y1, y2, y0, y3, y4, y5⟩ := hm
        subst y1
        have ne : c ≠ a := fun z => by
          subst z
          exact F.di i j _ _ _ e hi q hv q'
        exact ⟨c, us', rfl, y2, y0, y3, (upd_ne ne).trans y4, y5⟩
  · have old : ∀ {j : Nat} {m : List Zz.D}, (ρ.set i (.ol l'))[j]? = some (.ol m) → ∃ m2, ρ[j]? = some (.ol m2) := fun {j m} q => by
      by_cases e : i = j
      · subst e; exact ⟨l, hi⟩
      · rw [List.getElem?_set_ne e] at q; exact ⟨m, q⟩
    obtain ⟨m2, y1⟩ := old q1
    obtain ⟨m3, y2⟩ := old q2
    exact F.di j k _ _ _ hjk y1 y2 q3 q4
end
section
variable {X : Cx} {st : Stmt} {rest : List Stmt} {f g : FS}
theorem sb_nil : SB X [] fNext := ⟨_, pss_nil, fun w0 w s s' ρ ρ' σ fl D F e p => by cases e; exact p w σ (Bm.refl w) F⟩
theorem bo_seq {K : PySem.W.Frag} {mg : Str → Option Value} {t u : TS} (h1 : BO K mg t f) (h2 : BO K mg u g) : BO K mg (tSeq t u) (fSeq f g) := by
  intro w0 w s s' ρ ρ' σ fl D F e p
  obtain ⟨⟨a, ρ1, s1⟩, e1, e⟩ := Option.bind_eq_some_iff.mp e
  refine h1 w0 w s s1 ρ ρ1 σ a _ F e1 ?_
  cases a with
  | nx => exact fun w' σ' b F' => h2 w0 w' s1 s' ρ1 ρ' σ' fl D F' e (p.back b)
  | bk => cases e; exact p
  | ct => cases e; exact p
  | rt l => cases e; exact p
theorem sb_cons (h1 : SS X st f) (h2 : SB X rest g) : SB X (st :: rest) (fSeq f g) := by
  obtain ⟨t, pt, et⟩ := h1.ex
  obtain ⟨u, pu, eu⟩ := h2.ex
  exact ⟨_, pss_cons pt pu, bo_seq et eu⟩
theorem sb_one (h1 : SS X st f) : SB X [st] f := by
  obtain ⟨t, pt, et⟩ := h1.ex
  exact ⟨_, pss_one pt, et⟩
end
/-! ### stores into slots -/
def fAsg (i : Nat) (f : FE) : FS := fun ρ s => (f ρ s).bind fun p => (slotOf p.1).bind fun z => some (.nx, ρ.set i z, p.2)
def fOwn (i : Nat) (f : FF) : FS := fun ρ s => (f ρ s).bind fun p => some (.nx, ρ.set i (.ol p.1), p.2)
/-- the list of slot i is no more changed -/
def fFix (i : Nat) (f : FS) : FS := fun ρ s => match ρ[i]? with
  | some (.ol l) => f (ρ.set i (.im (.list l))) s
  | _ => f ρ s
/-- name = value, as a statement -/
structure SV (X : Cx) (i : Nat) (st : Stmt) (f : FE) : Prop where
  ex : ∃ t, PS X st (tAsg t (gName i)) ∧ EO X.K X.mg t f
structure SVF (X : Cx) (i : Nat) (st : Stmt) (f : FF) : Prop where
  ex : ∃ t, PS X st (tAsg t (gName i)) ∧ FO X.K X.mg t f
section
variable {X : Cx} {st : Stmt} {a e : Expr} {f g : FE} {h : FF} {pos pos' : Pos} {y : Str}
theorem sv_set (i : Nat) (he : SE X e f) (hN : X.N.Nodup) (hi : X.N[i]? = some y := by rfl) (hx : Loc X.env.scope y := by first | exact Or.inl rfl | exact Or.inr rfl) (hs : swapsWith e (some (.Name y pos')) pos.line X.env = pure false := by rfl)
    (hf : X.fn y = true ∨ X.env.scope.names.lookup y = some .local := by first | exact .inl rfl | exact .inr rfl) : SV X i (.Assign [.Name y pos'] e pos) f := by
  obtain ⟨t, pt, et⟩ := he.ex
  exact ⟨t, ps_set hN hi hx pt hs hf, et⟩
theorem svf_set (i : Nat) (he : SF X e h) (hN : X.N.Nodup) (hi : X.N[i]? = some y := by rfl) (hx : Loc X.env.scope y := by first | exact Or.inl rfl | exact Or.inr rfl) (hs : swapsWith e (some (.Name y pos')) pos.line X.env = pure false := by rfl)
    (hf : X.fn y = true ∨ X.env.scope.names.lookup y = some .local := by first | exact .inl rfl | exact .inr rfl) : SVF X i (.Assign [.Name y pos'] e pos) h := by
  obtain ⟨t, pt, et⟩ := he.ex
  exact ⟨t, ps_set hN hi hx pt hs hf, et⟩
theorem sv_frz {i : Nat} (hv : SVF X i st h) : SV X i st (fFrz h) := by
  obtain ⟨t, pt, et⟩ := hv.ex
  refine ⟨t, pt, fun w0 w s s' ρ σ r Q F e q => ?_⟩
  have hh : SF X (.Constant .none 0 ⟨0, 0, 0, 0⟩) h → True := fun _ => True.intro
  obtain ⟨⟨x, s1⟩, e1, e⟩ := Option.bind_eq_some_iff.mp e
  cases e
  refine et w0 w s _ ρ σ x _ F e1 fun p vs w1 st1 F1 hp nm nB hH d => ?_
  obtain ⟨k2, ex⟩ := F1.wk.freeze hH nB nm
  have st2 : Stp w ⟨w1.m, upd w1.B p (.lst vs), w1.H⟩ := by
    refine ⟨st1.m, fun a o z => ex a o (st1.b a o z), fun a z z' => ?_, st1.fr, st1.lv⟩
    by_cases y : a = p
    · rw [y]; exact hp
    · exact st1.bn a z (by rw [← upd_ne (H := w1.B) (o := .lst vs) y]; exact z')
  refine q (.ref p) ⟨w1.m, upd w1.B p (.lst vs), w1.H⟩ st2 ⟨F.st.trans st2, k2, F.len, fun i z v h1 h2 => (F.sl i z v h1 h2).mono st2, F.di⟩ ?_
  exact .lst upd_same (dpAll_iff.mpr (d.mono fun v e => dp_mono ex e v))
theorem ss_asg {i : Nat} (hv : SV X i st f) : SS X st (fAsg i f) := by
  obtain ⟨t, pt, et⟩ := hv.ex
  refine ⟨_, pt, fun w0 w s s' ρ ρ' σ fl D F e p => ?_⟩
  obtain ⟨⟨x, s1⟩, e1, e⟩ := Option.bind_eq_some_iff.mp e
  obtain ⟨z, e2, e⟩ := Option.bind_eq_some_iff.mp e
  cases e
  refine et w0 w s _ ρ σ x _ F e1 fun v w1 st1 F1 r1 => ?_
  obtain ⟨k, nl⟩ := slotOf_at (w0 := w0) r1 e2
  exact p w1 _ st1.bm (F1.set k fun l a q => absurd q (nl l))
theorem ss_own {i : Nat} (hv : SVF X i st h) : SS X st (fOwn i h) := by
  obtain ⟨t, pt, et⟩ := hv.ex
  refine ⟨_, pt, fun w0 w s s' ρ ρ' σ fl D F e p => ?_⟩
  obtain ⟨⟨x, s1⟩, e1, e⟩ := Option.bind_eq_some_iff.mp e
  cases e
  refine et w0 w s _ ρ σ x _ F e1 fun b vs w1 st1 F1 hp nm nB hH d => ?_
  refine p w1 _ st1.bm (F1.set ⟨b, vs, rfl, nm, F.st.lv b hp, nB, hH, d⟩ fun l c _ q j l' hj h1 h2 => ?_)
  cases q
  obtain ⟨v, h3, h4⟩ := fr_slot F h1
  rw [h2] at h3; cases h3
  obtain ⟨c, us, z1, z2, z0, z3, z4, z5⟩ := h4
  cases z1
  rw [hp] at z4; cases z4
theorem sb_fix {i : Nat} {sts : List Stmt} {k : FS} (hb : SB X sts k) : SB X sts (fFix i k) := by
  obtain ⟨t, pt, et⟩ := hb.ex
  refine ⟨t, pt, fun w0 w s s' ρ ρ' σ fl D F e p => ?_⟩
  unfold fFix at e
  split at e
  · rename_i l hi
    obtain ⟨v, h1, h2⟩ := fr_slot F hi
    obtain ⟨a, vs, rfl, z2, z0, z3, z4, z5⟩ := h2
    obtain ⟨k2, ex⟩ := F.wk.freeze z4 z3 z2
    have st2 : Stp w0 ⟨w.m, upd w.B a (.lst vs), w.H⟩ := by
      refine ⟨F.st.m, fun b o z => ex b o (F.st.b b o z), fun b z z' => ?_, F.st.fr, F.st.lv⟩
      by_cases y : b = a
      · rw [y]; exact z0
      · exact F.st.bn b z (by rw [← upd_ne (H := w.B) (o := .lst vs) y]; exact z')
    refine et w0 ⟨w.m, upd w.B a (.lst vs), w.H⟩ s s' _ ρ' σ fl D ⟨st2, k2, by rw [List.length_set]; exact F.len, fun j z u q q' => ?_, fun j k m m' c hjk q1 q2 q3 q4 => ?_⟩ e (p.back (show Bm w ⟨w.m, upd w.B a (.lst vs), w.H⟩ from ex))
    · by_cases ei : i = j
      · subst ei
        rw [List.getElem?_set, if_pos rfl] at q
        split at q
        · cases q
          rw [h1] at q'; cases q'
          exact ⟨_, rfl, .lst upd_same (dpAll_iff.mpr (z5.mono fun v e => dp_mono ex e v))⟩
        · cases q
      · rw [List.getElem?_set_ne ei] at q
        have hm := F.sl j z u q q'
        cases z with
        | un => exact True.intro
        | im d => obtain ⟨x, y1, y2⟩ := hm; exact ⟨x, y1, dp_mono ex _ _ y2⟩
        | rf n => exact hm
        | sc l => obtain ⟨b, us, y1, y2, y3⟩ := hm; exact ⟨b, us, y1, sqL_mono ex y2, y3.mono fun v e => dp_mono ex e v⟩
        | ol m =>
          obtain ⟨c, us', y1, y2, y0, y3, y4, y5⟩ := hm
          subst y1
          have ne : c ≠ a := fun z => by
            subst z
            exact F.di i j _ _ _ ei hi q h1 q'
          exact ⟨c, us', rfl, y2, y0, (upd_ne ne).trans y3, y4, y5.mono fun v e => dp_mono ex e v⟩
    · have old : ∀ {j : Nat} {m : List Zz.D}, (ρ.set i (.im (.list l)))[j]? = some (.ol m) → ρ[j]? = some (.ol m) := fun {j m} q => by
        by_cases e : i = j
        · subst e
          rw [List.getElem?_set, if_pos rfl] at q
          split at q <;> cases q
        · rw [List.getElem?_set_ne e] at q; exact q
      exact F.di j k _ _ _ hjk (old q1) (old q2) q3 q4
  · exact et w0 w s s' ρ ρ' σ fl D F e p
end
/-! ### other simple statements -/
def fDrop (f : FE) : FS := fun ρ s => (f ρ s).bind fun p => some (.nx, ρ, p.2)
def fRet (f : FE) : FS := fun ρ s => (f ρ s).bind fun p => if keepable p.1 = true then some (.rt p.1, ρ, p.2) else none
/-- return name, the name's own list given away -/
def fRetV (i : Nat) : FS := fun ρ s => match ρ[i]? with
  | some (.ol l) => some (.rt (.im (.list l)), ρ, s)
  | _ => none
def fRetN : FS := fun ρ s => some (.rt (.im .none), ρ, s)
def fIfS (t : FT) (f g : FS) : FS := fun ρ s => (t ρ s).bind fun p => if p.1 = true then f ρ p.2 else g ρ p.2
def fBrk : FS := fun ρ s => some (.bk, ρ, s)
def fCnt : FS := fun ρ s => some (.ct, ρ, s)
section
variable {X : Cx} {st : Stmt} {a e c : Expr} {p q : List Stmt} {f : FE} {u v : FS} {t : FT} {pos pos' : Pos} {y : Str}
theorem ss_expr (he : SE X e f) (hs : swapsWith e none pos.line X.env = pure false := by rfl) : SS X (.Expr e pos) (fDrop f) := by
  obtain ⟨t, pt, et⟩ := he.ex
  refine ⟨_, ps_expr pt hs, fun w0 w s s' ρ ρ' σ fl D F e p => ?_⟩
  obtain ⟨⟨x, s1⟩, e1, e⟩ := Option.bind_eq_some_iff.mp e
  cases e
  exact et w0 w s _ ρ σ x _ F e1 fun v w1 st1 F1 r1 => p w1 σ st1.bm F1
theorem ss_ret (he : SE X e f) : SS X (.Return (some e) pos) (fRet f) := by
  obtain ⟨t, pt, et⟩ := he.ex
  refine ⟨_, ps_ret pt, fun w0 w s s' ρ ρ' σ fl D F e p => ?_⟩
  obtain ⟨⟨x, s1⟩, e1, e⟩ := Option.bind_eq_some_iff.mp e
  split at e
  · rename_i hk
    cases e
    exact et w0 w s _ ρ σ x _ F e1 fun v w1 st1 F1 r1 => p v w1 F1.st F1.wk (kv_of r1 hk)
  · cases e
theorem ss_retV (i : Nat) (hN : X.N[i]? = some y := by rfl) (hv : Vis X.env.scope y := by first | exact Or.inl rfl | exact Or.inr (Or.inl rfl) | exact Or.inr (Or.inr rfl)) (hd : (y == ("__debug__" : Str)) = false := by decide)
    (hcd : (y == ("__classdict__" : Str)) = false := by decide) : SS X (.Return (some (.Name y pos')) pos) (fRetV i) := by
  refine ⟨_, ps_ret (pe_var hN hv hd hcd), fun w0 w s s' ρ ρ' σ fl D F e p => ?_⟩
  unfold fRetV at e
  split at e
  · rename_i l hi
    cases e
    obtain ⟨v, h1, h2⟩ := fr_slot F hi
    obtain ⟨a, vs, rfl, z2, z0, z3, z4, z5⟩ := h2
    obtain ⟨k2, ex⟩ := F.wk.freeze z4 z3 z2
    refine ⟨_, h1, p (.ref a) ⟨w.m, upd w.B a (.lst vs), w.H⟩ ?_ k2 (.lst upd_same (dpAll_iff.mpr (z5.mono fun v e => dp_mono ex e v)))⟩
    refine ⟨F.st.m, fun b o z => ex b o (F.st.b b o z), fun b z z' => ?_, F.st.fr, F.st.lv⟩
    by_cases y : b = a
    · rw [y]; exact z0
    · exact F.st.bn b z (by rw [← upd_ne (H := w.B) (o := .lst vs) y]; exact z')
  · cases e
theorem ss_retN : SS X (.Return none pos) fRetN := ⟨_, ps_retN, fun w0 w s s' ρ ρ' σ fl D F e p => by cases e; exact p .non w F.st F.wk .non⟩
theorem ss_pass : SS X (.Pass pos) fNext := ⟨_, ps_pass, fun w0 w s s' ρ ρ' σ fl D F e p => by cases e; exact p w σ (Bm.refl w) F⟩
theorem ss_brk : SS X (.Break pos) fBrk := ⟨_, ps_break, fun w0 w s s' ρ ρ' σ fl D F e p => by cases e; exact p w σ (Bm.refl w) F⟩
theorem ss_cnt : SS X (.Continue pos) fCnt := ⟨_, ps_continue, fun w0 w s s' ρ ρ' σ fl D F e p => by cases e; exact p w σ (Bm.refl w) F⟩
theorem ss_if (hc : ST X c t) (hp : SB X p u) (hq : SB X q v) : SS X (.If c p q pos) (fIfS t u v) := by
  obtain ⟨tc, pc, ec⟩ := hc.ex
  obtain ⟨tp, pp, ep⟩ := hp.ex
  obtain ⟨tq, pq, eq⟩ := hq.ex
  refine ⟨_, ps_if pc pp pq, fun w0 w s s' ρ ρ' σ fl D F e p => ?_⟩
  obtain ⟨⟨x, s1⟩, e1, e⟩ := Option.bind_eq_some_iff.mp e
  refine ec w0 w s s1 ρ σ x _ F e1 fun w1 st1 F1 => ?_
  cases x with
  | true => exact iteT (ep w0 w1 s1 s' ρ ρ' σ fl D F1 e (p.back st1.bm))
  | false => exact iteF (eq w0 w1 s1 s' ρ ρ' σ fl D F1 e (p.back st1.bm))
end
end Zz
set_option Elab.async false
set_option linter.all false
/-! ZH: lists and attributes that change; several names at once -/
namespace Zz
open PySem L2
/-! ### a name's own list -/
def fAppO (i : Nat) (f : FE) : FS := fun ρ s => (f ρ s).bind fun p => match ρ[i]?, p.1 with
  | some (.ol l), .im d => if l.length < big then some (.nx, ρ.set i (.ol (l ++ [d])), p.2) else none
  | _, _ => none
def fExtO (i : Nat) (f : FE) : FS := fun ρ s => (f ρ s).bind fun p => match ρ[i]?, lsV p.2 p.1 with
  | some (.ol l), some r => if l.length + r.length ≤ big then some (.nx, ρ.set i (.ol (l ++ r)), p.2) else none
  | _, _ => none
def fSetO (i : Nat) (g : FE) (f : FE) : FS := fun ρ s => (f ρ s).bind fun p => (g ρ p.2).bind fun q => match ρ[i]? with
  | some (.ol l) => match p.1 with
    | .im d => match q.1 with
      | .im (.int k) => (ixN l.length k).bind fun j => some (.nx, ρ.set i (.ol (l.set j d)), q.2)
      | _ => none
    | _ => none
  | _ => none
section
variable {X : Cx} {e a : Expr} {f g : FE} {pos cpos apos p2 : Pos} {y : Str}
theorem ss_appO (i : Nat) (he : SE X e f) (hN : X.N[i]? = some y := by rfl) (hv : Vis X.env.scope y := by first | exact Or.inl rfl | exact Or.inr (Or.inl rfl) | exact Or.inr (Or.inr rfl)) (hd : (y == ("__debug__" : Str)) = false := by decide)
    (hcd : (y == ("__classdict__" : Str)) = false := by decide)
    (hs : swapsWith (.Call (.Attribute (.Name y p2) "append" apos) [e] [] cpos) none pos.line X.env = pure false := by rfl)
    (hbase : attributeBase (.Name y p2) "append" X.env (eval (.Name y p2) X.env) = eval (.Name y p2) X.env := by rfl)
    (hfew : ((backTo cpos (starEach [e] X.env)).all (fun x => !x.1) && (backToKw cpos (keywordEach [] X.env)).all (fun x => x.1.isSome) && decide ([e].length + ([] : List Keyword).length + (if ([] : List Keyword).isEmpty then 0 else 1) < 30)) = true := by rfl)
    (hline : (apos.endLine == cpos.line) = true := by rfl) (hst : starEach [e] X.env = (false, eval e X.env) :: starEach [] X.env := by rfl) :
    SS X (.Expr (.Call (.Attribute (.Name y p2) "append" apos) [e] [] cpos) pos) (fAppO i f) := by
  obtain ⟨t, pt, et⟩ := he.ex
  refine ⟨_, ps_expr (pe_bm PySem.F.plainAttrs_list PySem.F.slot_list_append PySem.F.type_list_append mt_append (pe_var hN hv hd hcd) (pa_cons pt pa_nil hst) hbase hfew hline hst) hs, fun w0 w s s' ρ ρ' σ fl D F e p => ?_⟩
  obtain ⟨⟨x, s1⟩, e1, e⟩ := Option.bind_eq_some_iff.mp e
  dsimp only at e
  split at e
  · rename_i l d hi
    split at e
    · rename_i hl
      cases e
      obtain ⟨v, h1, h2⟩ := fr_slot F hi
      obtain ⟨b, vs, rfl, z2, z0, z3, z4, z5⟩ := h2
      refine ⟨_, h1, .inl ⟨rfl, _, SqL.of z4⟩, ?_⟩
      refine et w0 w s _ ρ σ _ _ F e1 fun u w1 st1 F1 r1 => ?_
      obtain ⟨_, us, y1, y2, y0, y3, y4, y5⟩ := F1.sl i _ _ hi h1
      cases y1
      refine ⟨b, us, u, rfl, rfl, y4, by rw [y5.length]; exact big_lt hl, ?_⟩
      exact p ⟨w1.m, w1.B, upd w1.H b (.lst (us ++ [u]))⟩ σ st1.bm (F1.own hi h1 y4 (y5.append (.cons r1 .nil)))
    · cases e
  · cases e
theorem ss_extO (i : Nat) (he : SE X e f) (hN : X.N[i]? = some y := by rfl) (hv : Vis X.env.scope y := by first | exact Or.inl rfl | exact Or.inr (Or.inl rfl) | exact Or.inr (Or.inr rfl)) (hd : (y == ("__debug__" : Str)) = false := by decide)
    (hcd : (y == ("__classdict__" : Str)) = false := by decide)
    (hs : swapsWith (.Call (.Attribute (.Name y p2) "extend" apos) [e] [] cpos) none pos.line X.env = pure false := by rfl)
    (hbase : attributeBase (.Name y p2) "extend" X.env (eval (.Name y p2) X.env) = eval (.Name y p2) X.env := by rfl)
    (hfew : ((backTo cpos (starEach [e] X.env)).all (fun x => !x.1) && (backToKw cpos (keywordEach [] X.env)).all (fun x => x.1.isSome) && decide ([e].length + ([] : List Keyword).length + (if ([] : List Keyword).isEmpty then 0 else 1) < 30)) = true := by rfl)
    (hline : (apos.endLine == cpos.line) = true := by rfl) (hst : starEach [e] X.env = (false, eval e X.env) :: starEach [] X.env := by rfl) :
    SS X (.Expr (.Call (.Attribute (.Name y p2) "extend" apos) [e] [] cpos) pos) (fExtO i f) := by
  obtain ⟨t, pt, et⟩ := he.ex
  refine ⟨_, ps_expr (pe_bm PySem.F.plainAttrs_list PySem.F.slot_list_extend PySem.F.type_list_extend mt_extend (pe_var hN hv hd hcd) (pa_cons pt pa_nil hst) hbase hfew hline hst) hs, fun w0 w s s' ρ ρ' σ fl D F e p => ?_⟩
  obtain ⟨⟨x, s1⟩, e1, e⟩ := Option.bind_eq_some_iff.mp e
  dsimp only at e
  split at e
  · rename_i l r hi hr
    split at e
    · rename_i hl
      cases e
      obtain ⟨v, h1, h2⟩ := fr_slot F hi
      obtain ⟨b, vs, rfl, z2, z0, z3, z4, z5⟩ := h2
      refine ⟨_, h1, .inl ⟨rfl, _, SqL.of z4⟩, ?_⟩
      refine et w0 w s _ ρ σ _ _ F e1 fun u w1 st1 F1 r1 => ?_
      obtain ⟨_, us, y1, y2, y0, y3, y4, y5⟩ := F1.sl i _ _ hi h1
      cases y1
      obtain ⟨c, cs, rfl, k1, k2⟩ := lsV_at F1.wk r1 hr
      refine ⟨b, c, us, cs, rfl, rfl, y4, k1, by rw [y5.length, k2.length]; exact big_line hl, ?_⟩
      exact p ⟨w1.m, w1.B, upd w1.H b (.lst (us ++ cs))⟩ σ st1.bm (F1.own hi h1 y4 (y5.append k2))
    · cases e
  · cases e
theorem ss_setO (i : Nat) (ha : SE X a g) (he : SE X e f) (hN : X.N[i]? = some y := by rfl) (hv : Vis X.env.scope y := by first | exact Or.inl rfl | exact Or.inr (Or.inl rfl) | exact Or.inr (Or.inr rfl)) (hd : (y == ("__debug__" : Str)) = false := by decide)
    (hcd : (y == ("__classdict__" : Str)) = false := by decide)
    (hp : ∀ v, assign (.Subscript (.Name y p2) a apos) X.env v = (do let ov ← holding [v] (eval (.Name y p2) X.env); let iv ← holding [v, ov] (eval a X.env); standAt apos; holding [v, ov, iv] (setItem ov iv v); release [v, ov, iv] []) := by intro _; rfl)
    (hs : swapsWithSole [.Subscript (.Name y p2) a apos] e pos.line X.env = pure false := by rfl) (hw : swappedStores [.Subscript (.Name y p2) a apos] e X.env = pure none := by rfl)
    (h1 : (assignEach [.Subscript (.Name y p2) a apos] X.env).map (·.2) = [assign (.Subscript (.Name y p2) a apos) X.env] := by rfl) :
    SS X (.Assign [.Subscript (.Name y p2) a apos] e pos) (fSetO i g f) := by
  obtain ⟨t, pt, et⟩ := he.ex
  obtain ⟨u, pu, eu⟩ := ha.ex
  refine ⟨_, ps_asg pt (pg_sub (pe_var hN hv hd hcd) pu set_list hp) hs hw h1, fun w0 w s s' ρ ρ' σ fl D F e p => ?_⟩
  obtain ⟨⟨x, s1⟩, e1, e⟩ := Option.bind_eq_some_iff.mp e
  obtain ⟨⟨z, s2⟩, e2, e⟩ := Option.bind_eq_some_iff.mp e
  dsimp only at e
  split at e
  · rename_i l hi
    split at e
    · rename_i d
      split at e
      · rename_i k
        obtain ⟨j, e3, e⟩ := Option.bind_eq_some_iff.mp e
        cases e
        refine et w0 w s _ ρ σ _ _ F e1 fun v w1 st1 F1 r1 => ?_
        obtain ⟨v', h1, h2⟩ := fr_slot F1 hi
        obtain ⟨b, vs, rfl, z2, z0, z3, z4, z5⟩ := h2
        refine ⟨_, h1, ?_⟩
        refine eu w0 w1 s1 _ ρ σ _ _ F1 e2 fun v2 w2 st2 F2 r2 => ?_
        obtain ⟨_, us, y1, y2, y0, y3, y4, y5⟩ := F2.sl i _ _ hi h1
        cases y1
        refine ⟨b, us, k, j, rfl, lv_int r2, y4, by rw [y5.length]; exact e3, ?_⟩
        exact p ⟨w2.m, w2.B, upd w2.H b (.lst (us.set j v))⟩ σ (st1.trans st2).bm (F2.own hi h1 y4 (y5.set (st2.dp r1) j))
      · cases e
    · cases e
  · cases e
end
/-! ### lists of the store -/
def isLst (s : S) (n : Nat) : Bool := match s[n]? with
  | some (.dl _) => true
  | some (.rl _) => true
  | _ => false
def pushS (s : S) (n : Nat) (x : L) : Option S := match s[n]? with
  | some (.dl l) => match x with
    | .im d => if l.length < big then some (s.set n (.dl (l ++ [d]))) else none
    | _ => none
  | some (.rl l) => if keepable x = true ∧ l.length < big then some (s.set n (.rl (l ++ [x]))) else none
  | _ => none
def fApp (o f : FE) : FE := fun ρ s => (o ρ s).bind fun q => match q.1 with
  | .rf n => if isLst q.2 n = true then (f ρ q.2).bind fun p => (pushS p.2 n p.1).bind fun s3 => some (.im .none, s3) else none
  | _ => none
def popS (s : S) (n : Nat) (i : Int) : Option (L × S) := match s[n]? with
  | some (.dl l) => (ixN l.length i).bind fun k => (l[k]?).bind fun d => some (.im d, s.set n (.dl (l.eraseIdx k)))
  | some (.rl l) => (ixN l.length i).bind fun k => (l[k]?).bind fun d => some (d, s.set n (.rl (l.eraseIdx k)))
  | _ => none
def small63 (i : Int) : Bool := decide (-(2 ^ 63) ≤ i ∧ i < 2 ^ 63)
def fPopAt (o f : FE) : FE := fun ρ s => (o ρ s).bind fun q => match q.1 with
  | .rf n => if isLst q.2 n = true then (f ρ q.2).bind fun p => match p.1 with
    | .im (.int i) => if small63 i = true then popS p.2 n i else none
    | _ => none
  else none
  | _ => none
def setS (s : S) (n : Nat) (i : Int) (x : L) : Option S := match s[n]? with
  | some (.dl l) => match x with
    | .im d => (ixN l.length i).bind fun k => some (s.set n (.dl (l.set k d)))
    | _ => none
  | some (.rl l) => if keepable x = true then (ixN l.length i).bind fun k => some (s.set n (.rl (l.set k x))) else none
  | _ => none
def fSetS (o g f : FE) : FS := fun ρ s => (f ρ s).bind fun p => (o ρ p.2).bind fun q => match q.1 with
  | .rf n => (g ρ q.2).bind fun r => match r.1 with
    | .im (.int i) => (setS r.2 n i p.1).bind fun s3 => some (.nx, ρ, s3)
    | _ => none
  | _ => none
section
variable {K : PySem.W.Frag} {mg : Str → Option Value} {w w' : Wd} {s s' : S}
theorem kv_put {A : Addr} {ob : HO} {v : V} {x : L} (r : Kv K w v x) : Kv K ⟨w.m, w.B, upd w.H A ob⟩ v x := by
  cases x with
  | im d => exact r
  | rf n => exact r
  | ow l => exact r.elim
  | sc l => exact r
theorem isLst_at (k : Wok K mg w s) {n : Nat} {A : Addr} (hA : w.m[n]? = some A) (h : isLst s n = true) : ∃ vs, w.H A = some (.lst vs) := by
  unfold isLst at h
  split at h
  · rename_i l q
    obtain ⟨vs, h1, _⟩ := k.ok n A _ hA q
    exact ⟨vs, h1⟩
  · rename_i l q
    obtain ⟨vs, h1, _⟩ := k.ok n A _ hA q
    exact ⟨vs, h1⟩
  · cases h
theorem pushS_at (k : Wok K mg w s) {n : Nat} {A : Addr} {v : V} {x : L} (hA : w.m[n]? = some A) (r : Lv K w v x) (e : pushS s n x = some s') : ∃ vs, w.H A = some (.lst vs) ∧ vs.length < sizeLine ∧ Stp w ⟨w.m, w.B, upd w.H A (.lst (vs ++ [v]))⟩ ∧ Wok K mg ⟨w.m, w.B, upd w.H A (.lst (vs ++ [v]))⟩ s' := by
  unfold pushS at e
  split at e
  · rename_i l q
    obtain ⟨vs, h1, h2⟩ := k.ok n A _ hA q
    split at e
    · split at e
      · rename_i hl
        cases e
        obtain ⟨st, k'⟩ := k.put (o := .lst (vs ++ [v])) (mo := .dl _) hA ⟨_, upd_same, h2.append (.cons r .nil)⟩
        exact ⟨vs, h1, by rw [h2.length]; exact big_lt hl, st, k'⟩
      · cases e
    · cases e
  · rename_i l q
    obtain ⟨vs, h1, h2⟩ := k.ok n A _ hA q
    split at e
    · rename_i hl
      cases e
      obtain ⟨st, k'⟩ := k.put (o := .lst (vs ++ [v])) (mo := .rl _) hA ⟨_, upd_same, (h2.append (.cons (kv_of r hl.1) .nil)).mono fun _ _ => kv_put⟩
      exact ⟨vs, h1, by rw [h2.length]; exact big_lt hl.2, st, k'⟩
    · cases e
  · cases e
theorem popS_at (k : Wok K mg w s) {n : Nat} {A : Addr} {i : Int} {x : L} (hA : w.m[n]? = some A) (e : popS s n i = some (x, s')) : ∃ vs j v, w.H A = some (.lst vs) ∧ seqIndex? i vs.length = some j ∧ vs[j]? = some v ∧ Stp w ⟨w.m, w.B, upd w.H A (.lst (vs.eraseIdx j))⟩ ∧ Wok K mg ⟨w.m, w.B, upd w.H A (.lst (vs.eraseIdx j))⟩ s' ∧ Lv K ⟨w.m, w.B, upd w.H A (.lst (vs.eraseIdx j))⟩ v x := by
  unfold popS at e
  split at e
  · rename_i l q
    obtain ⟨vs, h1, h2⟩ := k.ok n A _ hA q
    obtain ⟨j, e1, e⟩ := Option.bind_eq_some_iff.mp e
    obtain ⟨d, e2, e⟩ := Option.bind_eq_some_iff.mp e
    cases e
    obtain ⟨v, h3, h4⟩ := h2.get e2
    obtain ⟨st, k'⟩ := k.put (o := .lst (vs.eraseIdx j)) (mo := .dl _) hA ⟨_, upd_same, h2.eraseIdx j⟩
    exact ⟨vs, j, v, h1, by rw [h2.length]; exact (ixN_seq e1).1, h3, st, k', h4⟩
  · rename_i l q
    obtain ⟨vs, h1, h2⟩ := k.ok n A _ hA q
    obtain ⟨j, e1, e⟩ := Option.bind_eq_some_iff.mp e
    obtain ⟨d, e2, e⟩ := Option.bind_eq_some_iff.mp e
    cases e
    obtain ⟨v, h3, h4⟩ := h2.get e2
    obtain ⟨st, k'⟩ := k.put (o := .lst (vs.eraseIdx j)) (mo := .rl _) hA ⟨_, upd_same, (h2.eraseIdx j).mono fun _ _ => kv_put⟩
    exact ⟨vs, j, v, h1, by rw [h2.length]; exact (ixN_seq e1).1, h3, st, k', lv_kv (kv_put h4)⟩
  · cases e
theorem setS_at (k : Wok K mg w s) {n : Nat} {A : Addr} {i : Int} {v : V} {x : L} (hA : w.m[n]? = some A) (r : Lv K w v x) (e : setS s n i x = some s') : ∃ vs j, w.H A = some (.lst vs) ∧ ixN vs.length i = some j ∧ Stp w ⟨w.m, w.B, upd w.H A (.lst (vs.set j v))⟩ ∧ Wok K mg ⟨w.m, w.B, upd w.H A (.lst (vs.set j v))⟩ s' := by
  unfold setS at e
  split at e
  · rename_i l q
    obtain ⟨vs, h1, h2⟩ := k.ok n A _ hA q
    split at e
    · obtain ⟨j, e1, e⟩ := Option.bind_eq_some_iff.mp e
      cases e
      obtain ⟨st, k'⟩ := k.put (o := .lst (vs.set j v)) (mo := .dl _) hA ⟨_, upd_same, h2.set (show Dq K w.B v _ from r) j⟩
      exact ⟨vs, j, h1, by rw [h2.length]; exact e1, st, k'⟩
    · cases e
  · rename_i l q
    obtain ⟨vs, h1, h2⟩ := k.ok n A _ hA q
    split at e
    · rename_i hk
      obtain ⟨j, e1, e⟩ := Option.bind_eq_some_iff.mp e
      cases e
      obtain ⟨st, k'⟩ := k.put (o := .lst (vs.set j v)) (mo := .rl _) hA ⟨_, upd_same, (h2.set (kv_of r hk) j).mono fun _ _ => kv_put⟩
      exact ⟨vs, j, h1, by rw [h2.length]; exact e1, st, k'⟩
    · cases e
  · cases e
end
section
variable {X : Cx} {e a o : Expr} {f g h : FE} {pos cpos apos p2 : Pos} {y : Str}
theorem se_app (ho : SE X o h) (he : SE X e f)
    (hbase : attributeBase o "append" X.env (eval o X.env) = eval o X.env := by rfl)
    (hfew : ((backTo cpos (starEach [e] X.env)).all (fun x => !x.1) && (backToKw cpos (keywordEach [] X.env)).all (fun x => x.1.isSome) && decide ([e].length + ([] : List Keyword).length + (if ([] : List Keyword).isEmpty then 0 else 1) < 30)) = true := by rfl)
    (hline : (apos.endLine == cpos.line) = true := by rfl) (hst : starEach [e] X.env = (false, eval e X.env) :: starEach [] X.env := by rfl) :
    SE X (.Call (.Attribute o "append" apos) [e] [] cpos) (fApp h f) := by
  obtain ⟨t, pt, et⟩ := he.ex
  obtain ⟨u, pu, eu⟩ := ho.ex
  refine ⟨_, pe_bm PySem.F.plainAttrs_list PySem.F.slot_list_append PySem.F.type_list_append mt_append pu (pa_cons pt pa_nil hst) hbase hfew hline hst, fun w0 w s s' ρ σ r Q F e q => ?_⟩
  obtain ⟨⟨x, s1⟩, e1, e⟩ := Option.bind_eq_some_iff.mp e
  dsimp only at e
  split at e
  · rename_i n
    split at e
    · rename_i hl
      obtain ⟨⟨z, s2⟩, e2, e⟩ := Option.bind_eq_some_iff.mp e
      obtain ⟨s3, e3, e⟩ := Option.bind_eq_some_iff.mp e
      cases e
      refine eu w0 w s _ ρ σ _ _ F e1 fun v w1 st1 F1 r1 => ?_
      obtain ⟨A, hA, rfl⟩ := r1
      obtain ⟨us, hu⟩ := isLst_at F1.wk hA hl
      refine ⟨.inl ⟨rfl, _, SqL.of hu⟩, ?_⟩
      refine et w0 w1 s1 _ ρ σ _ _ F1 e2 fun v2 w2 st2 F2 r2 => ?_
      obtain ⟨vs, h1, h2, st3, k3⟩ := pushS_at F2.wk (st2.get hA) r2 e3
      exact ⟨A, vs, v2, rfl, rfl, h1, h2, q .non ⟨w2.m, w2.B, upd w2.H A (.lst (vs ++ [v2]))⟩ ((st1.trans st2).trans st3) (F2.step st3 k3) .non⟩
    · cases e
  · cases e
theorem se_popAt (ho : SE X o h) (he : SE X e f)
    (hbase : attributeBase o "pop" X.env (eval o X.env) = eval o X.env := by rfl)
    (hfew : ((backTo cpos (starEach [e] X.env)).all (fun x => !x.1) && (backToKw cpos (keywordEach [] X.env)).all (fun x => x.1.isSome) && decide ([e].length + ([] : List Keyword).length + (if ([] : List Keyword).isEmpty then 0 else 1) < 30)) = true := by rfl)
    (hline : (apos.endLine == cpos.line) = true := by rfl) (hst : starEach [e] X.env = (false, eval e X.env) :: starEach [] X.env := by rfl) :
    SE X (.Call (.Attribute o "pop" apos) [e] [] cpos) (fPopAt h f) := by
  obtain ⟨t, pt, et⟩ := he.ex
  obtain ⟨u, pu, eu⟩ := ho.ex
  refine ⟨_, pe_bm PySem.F.plainAttrs_list PySem.F.slot_list_pop PySem.F.type_list_pop mt_popAt pu (pa_cons pt pa_nil hst) hbase hfew hline hst, fun w0 w s s' ρ σ r Q F e q => ?_⟩
  obtain ⟨⟨x, s1⟩, e1, e⟩ := Option.bind_eq_some_iff.mp e
  dsimp only at e
  split at e
  · rename_i n
    split at e
    · rename_i hl
      obtain ⟨⟨z, s2⟩, e2, e⟩ := Option.bind_eq_some_iff.mp e
      dsimp only at e
      split at e
      · rename_i i
        split at e
        · rename_i hi
          refine eu w0 w s _ ρ σ _ _ F e1 fun v w1 st1 F1 r1 => ?_
          obtain ⟨A, hA, rfl⟩ := r1
          obtain ⟨us, hu⟩ := isLst_at F1.wk hA hl
          refine ⟨.inl ⟨rfl, _, SqL.of hu⟩, ?_⟩
          refine et w0 w1 s1 _ ρ σ _ _ F1 e2 fun v2 w2 st2 F2 r2 => ?_
          obtain ⟨vs, j, v3, h1, h2, h3, st3, k3, r3⟩ := popS_at F2.wk (st2.get hA) e
          have hb := of_decide_eq_true hi
          exact ⟨A, vs, i, j, v3, rfl, by rw [lv_int r2], h1, hb.1, hb.2, h2, h3, q v3 ⟨w2.m, w2.B, upd w2.H A (.lst (vs.eraseIdx j))⟩ ((st1.trans st2).trans st3) (F2.step st3 k3) r3⟩
        · cases e
      · cases e
    · cases e
  · cases e
theorem ss_setS (ho : SE X o h) (ha : SE X a g) (he : SE X e f)
    (hp : ∀ v, assign (.Subscript o a apos) X.env v = (do let ov ← holding [v] (eval o X.env); let iv ← holding [v, ov] (eval a X.env); standAt apos; holding [v, ov, iv] (setItem ov iv v); release [v, ov, iv] []) := by intro _; rfl)
    (hs : swapsWithSole [.Subscript o a apos] e pos.line X.env = pure false := by rfl) (hw : swappedStores [.Subscript o a apos] e X.env = pure none := by rfl)
    (h1 : (assignEach [.Subscript o a apos] X.env).map (·.2) = [assign (.Subscript o a apos) X.env] := by rfl) :
    SS X (.Assign [.Subscript o a apos] e pos) (fSetS h g f) := by
  obtain ⟨t, pt, et⟩ := he.ex
  obtain ⟨u, pu, eu⟩ := ha.ex
  obtain ⟨z, pz, ez⟩ := ho.ex
  refine ⟨_, ps_asg pt (pg_sub pz pu set_list hp) hs hw h1, fun w0 w s s' ρ ρ' σ fl D F e p => ?_⟩
  obtain ⟨⟨x, s1⟩, e1, e⟩ := Option.bind_eq_some_iff.mp e
  obtain ⟨⟨y, s2⟩, e2, e⟩ := Option.bind_eq_some_iff.mp e
  dsimp only at e
  split at e
  · rename_i n
    obtain ⟨⟨z, s3⟩, e3, e⟩ := Option.bind_eq_some_iff.mp e
    dsimp only at e
    split at e
    · rename_i i
      obtain ⟨s4, e4, e⟩ := Option.bind_eq_some_iff.mp e
      cases e
      refine et w0 w s _ ρ σ _ _ F e1 fun v w1 st1 F1 r1 => ?_
      refine ez w0 w1 s1 _ ρ σ _ _ F1 e2 fun v2 w2 st2 F2 r2 => ?_
      obtain ⟨A, hA, rfl⟩ := r2
      refine eu w0 w2 s2 _ ρ σ _ _ F2 e3 fun v3 w3 st3 F3 r3 => ?_
      obtain ⟨vs, j, h1, h2, st4, k4⟩ := setS_at F3.wk (st3.get hA) ((st2.trans st3).lv' r1) e4
      exact ⟨A, vs, i, j, rfl, lv_int r3, h1, h2, p ⟨w3.m, w3.B, upd w3.H A (.lst (vs.set j v))⟩ σ (((st1.trans st2).trans st3).trans st4).bm (F3.step st4 k4)⟩
    · cases e
  · cases e
end
end Zz
set_option Elab.async false
set_option linter.all false
/-! ZI: stores into attributes; several targets; what is walked; for; comprehensions -/
namespace Zz
open PySem L2
/-! ### attributes -/
def fldS (s : S) (n : Nat) (c f : Str) (x : L) : Option S := match s[n]? with
  | some (.ins c' fs) => if c' = c ∧ fs.length < 1000 ∧ keepable x = true then some (s.set n (.ins c (putA f x fs))) else none
  | _ => none
def fSetF (c fn : Str) (o f : FE) : FS := fun ρ s => (f ρ s).bind fun p => (o ρ p.2).bind fun q => match q.1 with
  | .rf n => (fldS q.2 n c fn p.1).bind fun s3 => some (.nx, ρ, s3)
  | _ => none
/-- o.f += value, o.f -= value, of numbers -/
def fAugF (c fn : Str) (g : Int → Int → Int) (o f : FE) : FS := fun ρ s => (o ρ s).bind fun q => match q.1 with
  | .rf n => match q.2[n]? with
    | some (.ins c' fs) => if c' = c then match lkp fn fs with
      | some (.im (.int i)) => (f ρ q.2).bind fun p => match p.1 with
        | .im (.int j) => (fldS p.2 n c fn (.im (.int (g i j)))).bind fun s3 => some (.nx, ρ, s3)
        | _ => none
      | _ => none
    else none
    | _ => none
  | _ => none
section
variable {K : PySem.W.Frag} {mg : Str → Option Value} {w w' : Wd} {s s' : S}
theorem fldS_at (k : Wok K mg w s) {n : Nat} {A C : Addr} {c f : Str} {v : V} {x : L} (hC : mg c = some (.ref C)) (hA : w.m[n]? = some A) (r : Lv K w v x) (e : fldS s n c f x = some s') :
    ∃ dx hs, w.H A = some (.ins C dx hs) ∧ hs.length < 1000 ∧ Stp w ⟨w.m, w.B, upd w.H A (.ins C dx (putF f v hs))⟩ ∧ Wok K mg ⟨w.m, w.B, upd w.H A (.ins C dx (putF f v hs))⟩ s' := by
  unfold fldS at e
  split at e
  · rename_i c' fs q
    split at e
    · rename_i hc
      cases e
      obtain ⟨C', dx, hs, h1, h2, h3⟩ := k.ok n A _ hA q
      obtain ⟨rfl, hl, hk⟩ := hc
      have eC : C' = C := by
        have := h1.symm.trans hC
        cases this; rfl
      subst eC
      obtain ⟨st, k'⟩ := k.put (o := .ins C' dx (putF f v hs)) (mo := .ins c' (putA f x fs)) hA ⟨C', dx, _, hC, upd_same, (putA_at (kv_of r hk) h3).mono fun _ _ y => ⟨y.1, kv_put y.2⟩⟩
      exact ⟨dx, hs, h2, by rw [h3.length]; exact hl, st, k'⟩
    · cases e
  · cases e
end
def gFld (K : PySem.W.Frag) (to : TE) (f : Str) : TG := fun v σ H Q => to σ H fun x H1 => ∃ a C dx fs, x = .ref a ∧ H1 a = some (.ins C dx fs) ∧ Cls K C ∧ NoAttr K C f ∧ fs.length < 1000 ∧ Q σ (upd H1 a (.ins C dx (putF f v fs)))
section
variable {X : Cx} {e a o : Expr} {f g h : FE} {pos cpos apos p2 tpos : Pos} {cn fn : Str}
theorem pg_fld {to : TE} (ho : PE X o to) : PG X (.Attribute o fn pos) (gFld X.K to fn) := by
  refine ⟨fun pins s σ H v u Q I r h => PySem.W.kas_attr (thn (ho.run pins s σ H _ I h) fun ov s1 hh => ?_)⟩
  obtain ⟨x, H1, I1, rx, a, C, dx, fs, ex, ea, c, n, l, q⟩ := hh
  subst ex
  obtain rfl : ov = Value.ref a := rx
  exact setattr_ok I1 ea c n l r fun s3 I3 => ⟨σ, _, I3, q⟩
theorem ss_setF (hF : FldOk X.K X.mg cn fn) (ho : SE X o h) (he : SE X e f) (hs : swapsWith e (some (.Attribute o fn apos)) pos.line X.env = pure false := by rfl) : SS X (.Assign [.Attribute o fn apos] e pos) (fSetF cn fn h f) := by
  obtain ⟨t, pt, et⟩ := he.ex
  obtain ⟨u, pu, eu⟩ := ho.ex
  obtain ⟨C, hC, hcl, hna⟩ := hF.ex
  refine ⟨_, ps_fld pu pt hs, fun w0 w s s' ρ ρ' σ fl D F e p => ?_⟩
  obtain ⟨⟨x, s1⟩, e1, e⟩ := Option.bind_eq_some_iff.mp e
  obtain ⟨⟨y, s2⟩, e2, e⟩ := Option.bind_eq_some_iff.mp e
  dsimp only at e
  split at e
  · rename_i n
    obtain ⟨s3, e3, e⟩ := Option.bind_eq_some_iff.mp e
    cases e
    refine et w0 w s _ ρ σ _ _ F e1 fun v w1 st1 F1 r1 => ?_
    refine eu w0 w1 s1 _ ρ σ _ _ F1 e2 fun v2 w2 st2 F2 r2 => ?_
    obtain ⟨A, hA, rfl⟩ := r2
    obtain ⟨dx, hs, h1, h2, st3, k3⟩ := fldS_at F2.wk hC hA (st2.lv' r1) e3
    exact ⟨A, C, dx, hs, rfl, h1, hcl, hna, h2, p ⟨w2.m, w2.B, upd w2.H A (.ins C dx (putF fn v hs))⟩ σ ((st1.trans st2).trans st3).bm (F2.step st3 k3)⟩
  · cases e
theorem ss_augF {op : Operator} {gg : Int → Int → Int} (hop : InOp X op (fun x y H Q => ∃ i j, x = .int i ∧ y = .int j ∧ Q (.int (gg i j)) H)) (hF : FldOk X.K X.mg cn fn) (ho : SE X o h) (he : SE X e f) : SS X (.AugAssign (.Attribute o fn tpos) op e pos) (fAugF cn fn gg h f) := by
  obtain ⟨t, pt, et⟩ := he.ex
  obtain ⟨u, pu, eu⟩ := ho.ex
  obtain ⟨C, hC, hcl, hna⟩ := hF.ex
  refine ⟨_, ps_fldaug pu pt hop, fun w0 w s s' ρ ρ' σ fl D F e p => ?_⟩
  obtain ⟨⟨x, s1⟩, e1, e⟩ := Option.bind_eq_some_iff.mp e
  dsimp only at e
  split at e
  · rename_i n
    split at e
    · rename_i c' fs q
      split at e
      · rename_i hc
        split at e
        · rename_i i hl
          obtain ⟨⟨y, s2⟩, e2, e⟩ := Option.bind_eq_some_iff.mp e
          dsimp only at e
          split at e
          · rename_i j
            obtain ⟨s3, e3, e⟩ := Option.bind_eq_some_iff.mp e
            cases e
            refine eu w0 w s _ ρ σ _ _ F e1 fun v w1 st1 F1 r1 => ?_
            obtain ⟨A, hA, rfl⟩ := r1
            subst hc
            obtain ⟨C', dx, hs, h1, h2, h3⟩ := F1.wk.ok n A _ hA q
            have eC : C' = C := by
              have := h1.symm.trans hC
              cases this; rfl
            subst eC
            obtain ⟨v0, h4, h5⟩ := lkp_at h3 hl
            refine ⟨A, C', dx, hs, v0, rfl, h2, hcl, hna, h4, ?_⟩
            refine et w0 w1 s1 _ ρ σ _ _ F1 e2 fun v2 w2 st2 F2 r2 => ?_
            refine ⟨i, j, lv_int (K := X.K) (w := w1) h5, lv_int r2, ?_⟩
            obtain ⟨dx', hs', k1, k2, st3, k3⟩ := fldS_at F2.wk hC (st2.get hA) (v := .int (gg i j)) (show Lv X.K w2 (.int (gg i j)) (.im (.int (gg i j))) from Dq.int _) e3
            exact ⟨dx', hs', k1, k2, p ⟨w2.m, w2.B, upd w2.H A (.ins C' dx' (putF fn (.int (gg i j)) hs'))⟩ σ ((st1.trans st2).trans st3).bm (F2.step st3 k3)⟩
          · cases e
        · cases e
      · cases e
    · cases e
  · cases e
theorem ss_addF (hF : FldOk X.K X.mg cn fn) (ho : SE X o h) (he : SE X e f) : SS X (.AugAssign (.Attribute o fn tpos) .Add e pos) (fAugF cn fn (fun i j => i + j) h f) := ss_augF in_add hF ho he
theorem ss_subF (hF : FldOk X.K X.mg cn fn) (ho : SE X o h) (he : SE X e f) : SS X (.AugAssign (.Attribute o fn tpos) .Sub e pos) (fAugF cn fn (fun i j => i - j) h f) := ss_augF in_sub hF ho he
end
/-! ### targets that take data: a name, a row of targets -/
mutual
inductive Tg where
  | nm (i : Nat)
  | tp (l : Tgs)
inductive Tgs where
  | nil
  | cons (t : Tg) (r : Tgs)
end
mutual
def setT : Tg → D → Ro → Option Ro
  | .nm i, d, ρ => some (ρ.set i (.im d))
  | .tp l, .tuple ds, ρ => setTs l ds ρ
  | .tp _, _, _ => none
def setTs : Tgs → List D → Ro → Option Ro
  | .nil, [], ρ => some ρ
  | .cons t r, d :: ds, ρ => (setT t d ρ).bind fun ρ1 => setTs r ds ρ1
  | _, _, _ => none
end
mutual
def Tg.ins (vs : List Nat) : Tg → Bool
  | .nm i => vs.contains i
  | .tp l => Tgs.ins vs l
def Tgs.ins (vs : List Nat) : Tgs → Bool
  | .nil => true
  | .cons t r => t.ins vs && r.ins vs
end
def wipeR (ρ : Ro) : List Nat → Ro
  | [] => ρ
  | v :: vs => (wipeR ρ vs).set v .un
section
variable (K : PySem.W.Frag) (mg : Str → Option Value)
def GO (g : TG) (T : Tg) : Prop := ∀ (w0 w : Wd) (s : S) (ρ ρ' : Ro) (σ : L2.St) (v : V) (d : D) (Q : L2.St → Hp → Prop), FR K mg w0 w s ρ σ → Dq K w.B v d → setT T d ρ = some ρ' →
  (∀ σ', FR K mg w0 w s ρ' σ' → (∀ vs, T.ins vs = true → wipe σ' vs = wipe σ vs) → Q σ' w.H) → g v σ w.H Q
def GsO (g : TGs) (T : Tgs) : Prop := ∀ (w0 w : Wd) (s : S) (ρ ρ' : Ro) (σ : L2.St) (v : List V) (d : List D) (Q : L2.St → Hp → Prop), FR K mg w0 w s ρ σ → A2 (Dq K w.B) v d → setTs T d ρ = some ρ' →
  (∀ σ', FR K mg w0 w s ρ' σ' → (∀ vs, T.ins vs = true → wipe σ' vs = wipe σ vs) → Q σ' w.H) → g v σ w.H Q
end
structure SG (X : Cx) (t : Expr) (T : Tg) : Prop where
  ex : ∃ g, PG X t g ∧ GO X.K X.mg g T
structure SGs (X : Cx) (t : List Expr) (T : Tgs) : Prop where
  ex : ∃ g, PGs X t g ∧ GsO X.K X.mg g T
theorem wipe_set {σ : L2.St} {i : Nat} {v : Option V} : ∀ {vs : List Nat}, vs.contains i = true → wipe (σ.set i v) vs = wipe σ vs
  | [], h => by simp at h
  | j :: vs, h => by
    show (wipe (σ.set i v) vs).set j none = (wipe σ vs).set j none
    by_cases e : i = j
    · subst e
      have : ∀ vs : List Nat, (wipe (σ.set i v) vs).set i none = (wipe σ vs).set i none := by
        intro vs
        induction vs with
        | nil => show (σ.set i v).set i none = σ.set i none; rw [List.set_set]
        | cons k vs ih =>
          show ((wipe (σ.set i v) vs).set k none).set i none = ((wipe σ vs).set k none).set i none
          by_cases e : k = i
          · subst e; rw [List.set_set, List.set_set, ih]
          · rw [List.set_comm _ _ e, ih, List.set_comm _ _ e]
      exact this vs
    · have h2 : vs.contains i = true := by
        simp at h ⊢
        rcases h with h | h
        · exact absurd h e
        · exact h
      rw [wipe_set h2]
section
variable {X : Cx} {t : Expr} {ts : List Expr} {T : Tg} {Ts : Tgs} {pos : Pos} {y : Str}
theorem sg_nm (i : Nat) (hN : X.N.Nodup) (hi : X.N[i]? = some y := by rfl) (hx : Loc X.env.scope y := by first | exact Or.inl rfl | exact Or.inr rfl) (hf : X.fn y = true ∨ X.env.scope.names.lookup y = some .local := by first | exact .inl rfl | exact .inr rfl) : SG X (.Name y pos) (.nm i) := by
  refine ⟨_, pg_name hN hi hx hf, fun w0 w s ρ ρ' σ v d Q F r e q => ?_⟩
  cases e
  exact q _ (F.set (z := .im d) ⟨v, rfl, r⟩ fun l a z => by cases z) fun vs h => wipe_set h
theorem sgs_nil : SGs X [] .nil := ⟨_, pgs_nil, fun w0 w s ρ ρ' σ v d Q F r e q => by
  cases r with
  | nil => cases e; exact ⟨rfl, q σ F fun vs _ => rfl⟩
  | cons _ _ => cases e⟩
theorem sgs_cons (h1 : SG X t T) (h2 : SGs X ts Ts) (hs : (assignEach (t :: ts) X.env).map (·.2) = assign t X.env :: (assignEach ts X.env).map (·.2) := by rfl) : SGs X (t :: ts) (.cons T Ts) := by
  obtain ⟨g, pg, eg⟩ := h1.ex
  obtain ⟨k, pk, ek⟩ := h2.ex
  refine ⟨_, pgs_cons pg pk hs, fun w0 w s ρ ρ' σ v d Q F r e q => ?_⟩
  cases r with
  | nil => cases e
  | cons r rs =>
    obtain ⟨ρ1, e1, e⟩ := Option.bind_eq_some_iff.mp e
    refine ⟨_, _, rfl, eg w0 w s ρ ρ1 σ _ _ _ F r e1 fun σ1 F1 h1 => ?_⟩
    refine ek w0 w s ρ1 ρ' σ1 _ _ _ F1 rs e fun σ2 F2 h2 => q σ2 F2 fun vs hv => ?_
    simp only [Tgs.ins, Bool.and_eq_true] at hv
    rw [h2 vs hv.2, h1 vs hv.1]
theorem setTs_len : ∀ {Ts : Tgs} {ds : List D} {ρ ρ' : Ro}, setTs Ts ds ρ = some ρ' → ∀ {ts : List Expr} {X : Cx}, SGs X ts Ts → True := fun _ => fun _ => True.intro
theorem sg_tp {n kk : Nat} (hc : X.calm = true) (h : SGs X ts Ts) (hlen : ∀ (ds : List D) (ρ ρ' : Ro), setTs Ts ds ρ = some ρ' → ds.length = n) (hn : (assignEach ts X.env).length = n := by rfl) (hst : (assignEach ts X.env).findIdx? (·.1) = none := by rfl) : SG X (.Tuple ts kk pos) (.tp Ts) := by
  obtain ⟨g, pg, eg⟩ := h.ex
  refine ⟨_, pg_tup hc pg hn hst, fun w0 w s ρ ρ' σ v d Q F r e q => ?_⟩
  cases d with
  | tuple ds =>
    cases r with
    | tup h1 h2 =>
      have a2 := dpAll_iff.mp h2
      exact ⟨_, _, rfl, sqT_mono F.wk.ex h1, by rw [a2.length]; exact hlen ds ρ ρ' e, eg w0 w s ρ ρ' σ _ _ _ F a2 e q⟩
  | _ => cases e
end
theorem len_nil : ∀ (ds : List D) (ρ ρ' : Ro), setTs .nil ds ρ = some ρ' → ds.length = 0 := fun ds ρ ρ' e => by
  cases ds with
  | nil => rfl
  | cons d ds => cases e
theorem len_cons {t : Tg} {r : Tgs} {n : Nat} (h : ∀ (ds : List D) (ρ ρ' : Ro), setTs r ds ρ = some ρ' → ds.length = n) : ∀ (ds : List D) (ρ ρ' : Ro), setTs (.cons t r) ds ρ = some ρ' → ds.length = n + 1 := fun ds ρ ρ' e => by
  cases ds with
  | nil => cases e
  | cons d ds =>
    obtain ⟨ρ1, e1, e⟩ := Option.bind_eq_some_iff.mp e
    rw [List.length_cons, h ds ρ1 ρ' e]
/-! ### what is walked -/
abbrev FI := Ro → S → Option (List D × S)
section
variable (K : PySem.W.Frag) (mg : Str → Option Value)
/-- the walk gives these data, one by one, over whatever comes to be while what is immutable stands -/
def ItOk (w1 : Wd) (J : It) (ls : List D) : Prop := ∃ (G : Hp → Prop) (Y : Nat → Hp → V → Hp → Prop), Walk J ls.length G Y ∧ (∀ H, (∀ a o, w1.B a = some o → H a = some o) → G H) ∧
  ∀ (i : Nat) (w2 : Wd) (s2 : S) (x : V) (H' : Hp), i < ls.length → Wok K mg w2 s2 → Bm w1 w2 → Y i w2.H x H' → ∃ B', Stp w2 ⟨w2.m, B', H'⟩ ∧ Wok K mg ⟨w2.m, B', H'⟩ s2 ∧ ∃ d, ls[i]? = some d ∧ Dq K B' x d
def IO (wi : TI) (f : FI) : Prop := ∀ (w0 w : Wd) (s s' : S) (ρ : Ro) (σ : L2.St) (ls : List D) (R : It → Hp → Prop), FR K mg w0 w s ρ σ → f ρ s = some (ls, s') → (∀ J w', Stp w w' → FR K mg w0 w' s' ρ σ → ItOk K mg w' J ls → R J w'.H) → wi σ w.H R
end
structure SI (X : Cx) (tg e : Expr) (f : FI) : Prop where
  ex : ∃ wi, PI X tg e wi ∧ IO X.K X.mg wi f
def sqI : L → Option (List D)
  | .im (.list l) => some l
  | .im (.tuple l) => some l
  | .sc l => some l
  | _ => none
def fSeqI (f : FE) : FI := fun ρ s => (f ρ s).bind fun p => (sqI p.1).bind fun l => some (l, p.2)
def rngD (lo : Int) (n : Nat) : List D := (List.range n).map fun (i : Nat) => PyData.int (lo + (i : Int))
def okR (i : Int) : Bool := decide (-(2 ^ 62) ≤ i ∧ i < 2 ^ 62)
def fRng1 (f : FA) : FI := fun ρ s => (f ρ s).bind fun p => match p.1 with
  | [.im (.int j)] => if okR j = true then some (rngD 0 j.toNat, p.2) else none
  | _ => none
def fRng2 (f : FA) : FI := fun ρ s => (f ρ s).bind fun p => match p.1 with
  | [.im (.int i), .im (.int j)] => if okR i = true ∧ okR j = true then some (rngD i (j - i).toNat, p.2) else none
  | _ => none
section
variable {K : PySem.W.Frag} {mg : Str → Option Value} {w : Wd} {s : S}
theorem rngD_len {lo : Int} {n : Nat} : (rngD lo n).length = n := by simp [rngD]
theorem it_list {a : Addr} {vs : List V} {ls : List D} (h : SqL K w.B a vs) (h2 : A2 (Dq K w.B) vs ls) : ItOk K mg w (Itl K a) ls := by
  refine ⟨fun H => SqL K H a vs, YAt vs, by rw [← h2.length]; exact walk_list, fun H e => sqL_mono e h, fun i w2 s2 x H' hi k b y => ?_⟩
  obtain ⟨rfl, y⟩ := y
  obtain ⟨d, h3, h4⟩ := h2.getL y
  exact ⟨w2.B, Stp.refl w2, k, d, h3, dp_mono b _ _ h4⟩
theorem it_tup {a : Addr} {vs : List V} {ls : List D} (h : SqT K w.B a vs) (h2 : A2 (Dq K w.B) vs ls) : ItOk K mg w (Itt K a) ls := by
  refine ⟨fun H => SqT K H a vs, YAt vs, by rw [← h2.length]; exact walk_tup, fun H e => sqT_mono e h, fun i w2 s2 x H' hi k b y => ?_⟩
  obtain ⟨rfl, y⟩ := y
  obtain ⟨d, h3, h4⟩ := h2.getL y
  exact ⟨w2.B, Stp.refl w2, k, d, h3, dp_mono b _ _ h4⟩
theorem it_rng {lo : Int} {n : Nat} : ItOk K mg w (Itr lo n) (rngD lo n) := by
  refine ⟨fun _ => True, _, by rw [rngD_len]; exact walk_range, fun H e => True.intro, fun i w2 s2 x H' hi k b y => ?_⟩
  obtain ⟨rfl, rfl⟩ := y
  rw [rngD_len] at hi
  exact ⟨w2.B, Stp.refl w2, k, .int (lo + (i : Int)), by simp [rngD, hi], .int _⟩
end
section
variable {X : Cx} {tg e a b : Expr} {f : FE} {g : FA} {pos p : Pos}
theorem pi_or {wi wi' : TI} (h : PI X tg e wi) (h' : PI X tg e wi') : PI X tg e fun σ H R => wi σ H R ∨ wi' σ H R :=
  ⟨fun pins s σ H R I q => q.elim (h.run pins s σ H R I) (h'.run pins s σ H R I)⟩
theorem si_seq (he : SE X e f) : SI X tg e (fSeqI f) := by
  obtain ⟨t, pt, et⟩ := he.ex
  refine ⟨_, pi_or (pi_list pt) (pi_tup pt), fun w0 w s s' ρ σ ls R F e q => ?_⟩
  obtain ⟨⟨x, s1⟩, e1, e⟩ := Option.bind_eq_some_iff.mp e
  obtain ⟨l, e2, e⟩ := Option.bind_eq_some_iff.mp e
  cases e
  have asL : (∀ v w1, Stp w w1 → FR X.K X.mg w0 w1 s1 ρ σ → Lv X.K w1 v x → ∃ a vs, v = .ref a ∧ SqL X.K w1.B a vs ∧ A2 (Dq X.K w1.B) vs ls) → iList X.K t σ w.H R := fun h =>
    et w0 w s _ ρ σ x _ F e1 fun v w1 st1 F1 r1 => by
      obtain ⟨a, vs, rfl, h1, h2⟩ := h v w1 st1 F1 r1
      exact ⟨a, rfl, ⟨vs, sqL_mono F1.wk.ex h1⟩, q _ w1 st1 F1 (it_list h1 h2)⟩
  cases x with
  | im d =>
    cases d with
    | list ds =>
      cases e2
      refine .inl (asL fun v w1 st1 F1 r1 => ?_)
      cases r1 with
      | lst h1 h2 => exact ⟨_, _, rfl, SqL.of h1, dpAll_iff.mp h2⟩
    | tuple ds =>
      cases e2
      refine .inr (et w0 w s _ ρ σ _ _ F e1 fun v w1 st1 F1 r1 => ?_)
      obtain ⟨a, vs, rfl, h1, h2⟩ := tpV_at r1 rfl
      exact ⟨a, rfl, ⟨vs, sqT_mono F1.wk.ex h1⟩, q _ w1 st1 F1 (it_tup h1 h2)⟩
    | _ => cases e2
  | sc l =>
    cases e2
    exact .inl (asL fun v w1 st1 F1 r1 => r1)
  | _ => cases e2
theorem si_rng1 (hg : Gl X "range") (hm : X.mg "range" = none) (ha : SA X [a] g) (hs : starEach [a] X.env = [(false, eval a X.env)] := by rfl) : SI X tg (.Call (.Name "range" p) [a] [] pos) (fRng1 g) := by
  obtain ⟨t, pt, et⟩ := ha.ex
  refine ⟨_, pi_range1 hg hm pt hs, fun w0 w s s' ρ σ ls R F e q => ?_⟩
  obtain ⟨⟨x, s1⟩, e1, e⟩ := Option.bind_eq_some_iff.mp e
  refine et w0 w s _ ρ σ x _ F e1 fun v w1 st1 F1 r1 => ?_
  dsimp only at e
  split at e
  · rename_i j
    split at e
    · rename_i h
      cases e
      have h := of_decide_eq_true h
      obtain ⟨v, rfl, k1⟩ := a2_one r1
      obtain rfl := lv_int k1
      exact ⟨j, rfl, h.1, h.2, q _ w1 st1 F1 it_rng⟩
    · cases e
  · cases e
theorem si_rng2 (hg : Gl X "range") (hm : X.mg "range" = none) (ha : SA X [a, b] g) (hs : starEach [a, b] X.env = [(false, eval a X.env), (false, eval b X.env)] := by rfl) (hs2 : starEach [b] X.env = [(false, eval b X.env)] := by rfl) : SI X tg (.Call (.Name "range" p) [a, b] [] pos) (fRng2 g) := by
  obtain ⟨t, pt, et⟩ := ha.ex
  refine ⟨_, pi_range2 hg hm pt hs hs2, fun w0 w s s' ρ σ ls R F e q => ?_⟩
  obtain ⟨⟨x, s1⟩, e1, e⟩ := Option.bind_eq_some_iff.mp e
  refine et w0 w s _ ρ σ x _ F e1 fun v w1 st1 F1 r1 => ?_
  dsimp only at e
  split at e
  · rename_i i j
    split at e
    · rename_i h
      cases e
      have h1 := of_decide_eq_true h.1
      have h2 := of_decide_eq_true h.2
      obtain ⟨v, u, rfl, k1, k2⟩ := a2_two r1
      obtain rfl := lv_int k1
      obtain rfl := lv_int k2
      exact ⟨i, j, rfl, ⟨h1.1, h1.2, h2.1, h2.2⟩, q _ w1 st1 F1 it_rng⟩
    · cases e
  · cases e
end
/-! ### for -/
def forL (T : Tg) (b : FS) : List D → FS
  | [] => fun ρ s => some (.nx, ρ, s)
  | d :: ds => fun ρ s => (setT T d ρ).bind fun ρ1 => (b ρ1 s).bind fun r => match r.1 with
    | .nx => forL T b ds r.2.1 r.2.2
    | .ct => forL T b ds r.2.1 r.2.2
    | .bk => some (.nx, r.2.1, r.2.2)
    | .rt l => some (.rt l, r.2.1, r.2.2)
def fFor (T : Tg) (fi : FI) (b : FS) : FS := fun ρ s => (fi ρ s).bind fun p => forL T b p.1 ρ p.2
section
variable {X : Cx} {tg iter : Expr} {body : List Stmt} {T : Tg} {fi : FI} {b : FS} {pos : Pos}
theorem ss_for (hp : PassesOwn (model X.prog X.w) X.A X.env X.xe) (hc : X.calm = true) (hi : SI X tg iter fi) (hg : SG X tg T) (hb : SB X body b) (hs : ∀ x, foldedSetIterable iter X.env x = pure x := by intro _; rfl) : SS X (.For tg iter body [] pos) (fFor T fi b) := by
  obtain ⟨wi, pi, ei⟩ := hi.ex
  obtain ⟨g, pg, eg⟩ := hg.ex
  obtain ⟨t, pt, et⟩ := hb.ex
  refine ⟨_, ps_for hp hc pi pg pt hs, fun w0 w s s' ρ ρ' σ fl D F e p => ?_⟩
  obtain ⟨⟨ls, s1⟩, e1, e⟩ := Option.bind_eq_some_iff.mp e
  refine ei w0 w s s1 ρ σ ls _ F e1 fun J w1 st1 F1 it => ?_
  obtain ⟨G, Y, wk, hG, hY⟩ := it
  refine for_it wk (fun i σ H => (∃ w2 ρ2 s2, H = w2.H ∧ FR X.K X.mg w0 w2 s2 ρ2 σ ∧ Bm w1 w2 ∧ forL T b (ls.drop i) ρ2 s2 = some (fl, ρ', s'))) ⟨w1, ρ, s1, rfl, F1, Bm.refl w1, by simpa using e⟩ (fun i σ H hi ⟨w2, ρ2, s2, hH, F2, b2, _⟩ => ?_) ?_ ?_
  · rw [hH]; exact hG _ fun a o q => F2.wk.ex a o (b2 a o q)
  · rintro i x σ H H' hi ⟨w2, ρ2, s2, rfl, F2, b2, e⟩ hy
    obtain ⟨B', st3, k3, d, hd, r⟩ := hY i w2 s2 x H' hi F2.wk b2 hy
    have F3 := F2.step st3 k3
    have hdrop : ls.drop i = d :: ls.drop (i + 1) := by
      have h1 := List.drop_eq_getElem_cons hi
      rw [List.getElem?_eq_getElem hi] at hd
      rw [h1, Option.some.inj hd]
    rw [hdrop] at e
    obtain ⟨ρ3, e3, e⟩ := Option.bind_eq_some_iff.mp e
    obtain ⟨⟨a, ρ4, s4⟩, e4, e⟩ := Option.bind_eq_some_iff.mp e
    refine eg w0 ⟨w2.m, B', H'⟩ s2 ρ2 ρ3 σ x d _ F3 r e3 fun σ3 F4 _ => ?_
    have b3 : Bm w1 ⟨w2.m, B', H'⟩ := b2.trans st3.bm
    refine et w0 ⟨w2.m, B', H'⟩ s2 s4 ρ3 ρ4 σ3 a _ F4 e4 ?_
    cases a with
    | nx => exact fun w' σ' b' F' => ⟨w', ρ4, s4, rfl, F', b3.trans b', e⟩
    | ct => exact fun w' σ' b' F' => ⟨w', ρ4, s4, rfl, F', b3.trans b', e⟩
    | bk =>
      cases e
      exact fun w' σ' b' F' => p w' σ' ((st1.bm.trans b3).trans b') F'
    | rt l =>
      cases e
      exact p
  · rintro σ H ⟨w2, ρ2, s2, rfl, F2, b2, e⟩
    rw [List.drop_length] at e
    cases e
    exact p w2 σ (st1.bm.trans b2) F2
end
/-! ### comprehensions -/
def lcL (vs : List Nat) (T : Tg) (t : FT) (f : FE) (ρ : Ro) : List D → S → Option (List D × S)
  | [], s => some ([], s)
  | d :: ds, s => (setT T d (wipeR ρ vs)).bind fun ρ1 => (t ρ1 s).bind fun b => if b.1 = true then (f ρ1 b.2).bind fun r => match r.1 with
      | .im x => (lcL vs T t f ρ ds r.2).bind fun q => some (x :: q.1, q.2)
      | _ => none
    else lcL vs T t f ρ ds b.2
def fLC (vs : List Nat) (T : Tg) (fi : FI) (t : FT) (f : FE) : FF := fun ρ s => (fi ρ s).bind fun p => if p.1.length ≤ big then lcL vs T t f ρ p.1 p.2 else none
def fYes : FT := fun _ s => some (true, s)
structure STs (X : Cx) (e : List Expr) (f : FT) : Prop where
  ex : ∃ t, PTs X e t ∧ TO X.K X.mg t f
/-- what is wanted ahead, told by the function alone -/
def canE (K : PySem.W.Frag) (mg : Str → Option Value) (f : FE) : TE := fun σ H Q => ∃ w0 w s ρ r s', w.H = H ∧ FR K mg w0 w s ρ σ ∧ f ρ s = some (r, s') ∧ ∀ v w', Stp w w' → FR K mg w0 w' s' ρ σ → Lv K w' v r → Q v w'.H
def canT (K : PySem.W.Frag) (mg : Str → Option Value) (f : FT) : TT := fun σ H Q => ∃ w0 w s ρ r s', w.H = H ∧ FR K mg w0 w s ρ σ ∧ f ρ s = some (r, s') ∧ ∀ w', Stp w w' → FR K mg w0 w' s' ρ σ → Q r w'.H
def canG (K : PySem.W.Frag) (mg : Str → Option Value) (T : Tg) : TG := fun v σ H Q => ∃ w0 w s ρ ρ' d, w.H = H ∧ FR K mg w0 w s ρ σ ∧ Dq K w.B v d ∧ setT T d ρ = some ρ' ∧ ∀ σ', FR K mg w0 w s ρ' σ' → (∀ vs, T.ins vs = true → wipe σ' vs = wipe σ vs) → Q σ' w.H
section
variable {X : Cx} {tg iter elt : Expr} {ifs : List Expr} {T : Tg} {fi : FI} {f : FE} {t : FT} {pos : Pos}
theorem SE.can (h : SE X elt f) : PE X elt (canE X.K X.mg f) := by
  obtain ⟨t, pt, et⟩ := h.ex
  refine ⟨fun pins s σ H Q I hh => pt.run pins s σ H Q I ?_⟩
  obtain ⟨w0, w, s1, ρ, r, s', rfl, F, e, q⟩ := hh
  exact et w0 w s1 s' ρ σ r Q F e q
theorem STs.can (h : STs X ifs t) : PTs X ifs (canT X.K X.mg t) := by
  obtain ⟨t, pt, et⟩ := h.ex
  refine ⟨fun pins s σ H Q I hh => pt.run pins s σ H Q I ?_⟩
  obtain ⟨w0, w, s1, ρ, r, s', rfl, F, e, q⟩ := hh
  exact et w0 w s1 s' ρ σ r Q F e q
theorem SG.can (h : SG X tg T) : PG X tg (canG X.K X.mg T) := by
  obtain ⟨g, pg, eg⟩ := h.ex
  refine ⟨fun pins s σ H v u Q I r hh => pg.run pins s σ H v u Q I r ?_⟩
  obtain ⟨w0, w, s1, ρ, ρ', d, rfl, F, rd, e, q⟩ := hh
  exact eg w0 w s1 ρ ρ' σ v d Q F rd e q
theorem sts_nil : STs X [] fYes := ⟨_, pts_nil, fun w0 w s s' ρ σ r Q F e q => by cases e; exact q w (Stp.refl w) F⟩
theorem sts_one {c : Expr} (h : ST X c t) : STs X [c] t := by
  obtain ⟨u, pu, eu⟩ := h.ex
  exact ⟨_, pts_one pu, eu⟩
theorem fr_wipe {K : PySem.W.Frag} {mg : Str → Option Value} {w0 w : Wd} {s : S} {ρ : Ro} {σ : L2.St} (F : FR K mg w0 w s ρ σ) : ∀ vs : List Nat, FR K mg w0 w s (wipeR ρ vs) (wipe σ vs)
  | [] => F
  | i :: vs => by
    have F1 := fr_wipe F vs
    refine ⟨F1.st, F1.wk, ?_, fun j y u h1 h2 => ?_, fun a b l l' p hab h1 h2 h3 h4 => ?_⟩
    · show ((wipe σ vs).set i none).length = ((wipeR ρ vs).set i .un).length
      rw [List.length_set, List.length_set]; exact F1.len
    · have h1 : ((wipeR ρ vs).set i .un)[j]? = some y := h1
      have h2 : ((wipe σ vs).set i none)[j]? = some u := h2
      by_cases e : i = j
      · subst e
        rw [List.getElem?_set, if_pos rfl] at h1
        split at h1
        · cases h1; exact True.intro
        · cases h1
      · rw [List.getElem?_set_ne e] at h1 h2
        exact F1.sl j y u h1 h2
    · have h1 : ((wipeR ρ vs).set i .un)[a]? = some (.ol l) := h1
      have h2 : ((wipeR ρ vs).set i .un)[b]? = some (.ol l') := h2
      have h3 : ((wipe σ vs).set i none)[a]? = some (some (.ref p)) := h3
      have h4 : ((wipe σ vs).set i none)[b]? = some (some (.ref p)) := h4
      have na : i ≠ a := fun e => by
        subst e
        rw [List.getElem?_set, if_pos rfl] at h1
        split at h1 <;> cases h1
      have nb : i ≠ b := fun e => by
        subst e
        rw [List.getElem?_set, if_pos rfl] at h2
        split at h2 <;> cases h2
      rw [List.getElem?_set_ne na] at h1 h3
      rw [List.getElem?_set_ne nb] at h2 h4
      exact F1.di a b l l' p hab h1 h2 h3 h4
theorem fo_lc {vs : List Nat} {wi : TI} (hT : T.ins vs = true) (ei : IO X.K X.mg wi fi) : FO X.K X.mg (tLc wi (canG X.K X.mg T) (canT X.K X.mg t) (canE X.K X.mg f) vs) (fLC vs T fi t f) := by
  intro w0 w s s' ρ σ r Q F e q
  obtain ⟨⟨ls, s1⟩, e1, e⟩ := Option.bind_eq_some_iff.mp e
  split at e
  · rename_i hb
    have hb : ls.length ≤ big := hb
    refine ei w0 w s s1 ρ σ ls _ F e1 fun J w1 st1 F1 it => ?_
    obtain ⟨G, Y, wk, hG, hY⟩ := it
    intro D hD
    refine lc_it wk (fun i H => ∃ w2 s2 acc dacc, H = w2.H ∧ FR X.K X.mg w0 w2 s2 ρ σ ∧ Stp w1 w2 ∧ D ∉ w2.m ∧ w2.B D = none ∧ w2.H D = some (.lst acc) ∧ A2 (Dq X.K w2.B) acc dacc ∧ acc.length ≤ i ∧ ∃ r2, lcL vs T t f ρ (ls.drop i) s2 = some (r2, s') ∧ r = dacc ++ r2) ?_ ?_ ?_ ?_
    · obtain ⟨st2, k2, nB, nm⟩ := F1.wk.own (o := .lst []) hD
      exact ⟨_, s1, [], [], rfl, F1.step st2 k2, st2, nm, nB, upd_same, .nil, Nat.le_refl _, r, by simpa using e, rfl⟩
    · rintro i H hi ⟨w2, s2, acc, dacc, rfl, F2, st2, _⟩
      exact hG _ fun a o z => F2.wk.ex a o (st2.b a o z)
    · rintro i x H H' hi ⟨w2, s2, acc, dacc, rfl, F2, st2, nm, nB, hacc, da, hl, r2, e, er⟩ hy
      obtain ⟨B', st3, k3, d, hd, rd⟩ := hY i w2 s2 x H' hi F2.wk st2.bm hy
      have F3 := F2.step st3 k3
      have hdrop : ls.drop i = d :: ls.drop (i + 1) := by
        have h1 := List.drop_eq_getElem_cons hi
        rw [List.getElem?_eq_getElem hi] at hd
        rw [h1, Option.some.inj hd]
      rw [hdrop] at e
      obtain ⟨ρ3, e3, e⟩ := Option.bind_eq_some_iff.mp e
      obtain ⟨⟨bb, s4⟩, e4, e⟩ := Option.bind_eq_some_iff.mp e
      refine ⟨w0, ⟨w2.m, B', H'⟩, s2, wipeR ρ vs, ρ3, d, rfl, fr_wipe F3 vs, rd, e3, fun σ3 F4 hw => ⟨?_, ?_⟩⟩
      · rw [hw vs hT]
        have idem : ∀ us : List Nat, (∀ i ∈ us, i ∈ vs) → wipe (wipe σ vs) us = wipe σ vs := by
          intro us
          induction us with
          | nil => intro _; rfl
          | cons k us ih =>
            intro hk
            show (wipe (wipe σ vs) us).set k none = wipe σ vs
            rw [ih fun i hi => hk i (List.mem_cons_of_mem _ hi)]
            have hkv : k ∈ vs := hk k (by simp)
            have gen : ∀ vs : List Nat, k ∈ vs → (wipe σ vs).set k none = wipe σ vs := by
              intro vs
              induction vs with
              | nil => intro h; cases h
              | cons j vs ih =>
                intro h
                show ((wipe σ vs).set j none).set k none = (wipe σ vs).set j none
                by_cases e : j = k
                · subst e; rw [List.set_set]
                · rw [List.set_comm _ _ e]
                  rcases List.mem_cons.mp h with z | z
                  · exact absurd z.symm e
                  · rw [ih z]
            exact gen vs hkv
        exact idem vs fun i hi => hi
      · refine ⟨w0, ⟨w2.m, B', H'⟩, s2, ρ3, bb, s4, rfl, F4, e4, fun w5 st5 F5 => ?_⟩
        have hD2 : w2.H D ≠ none := by rw [hacc]; simp
        have st25 := st3.trans st5
        have D5 := st25.fr D _ nm hacc
        have back : FR X.K X.mg w0 w5 s4 ρ σ := ⟨F5.st, F5.wk, F.len, fun i z v h1 h2 => (F2.sl i z v h1 h2).mono st25, F.di⟩
        cases bb with
        | true =>
          obtain ⟨⟨y, s6⟩, e6, e⟩ := Option.bind_eq_some_iff.mp e
          refine iteT ⟨w0, w5, s4, ρ3, y, s6, rfl, F5, e6, fun v w6 st6 F6 r6 => ?_⟩
          dsimp only at e
          split at e
          · rename_i yd
            obtain ⟨⟨q2, s7⟩, e7, e⟩ := Option.bind_eq_some_iff.mp e
            cases e
            have st26 := st25.trans st6
            have nm6 := st26.nm nm hD2
            have nB6 := st26.keepB nB hD2
            have D6 := st26.fr D _ nm hacc
            have st1_6 := st2.trans st26
            refine ⟨acc, D6, big_lt (by omega), ?_⟩
            have new : w.H D = none := st1.lv D hD
            have w0D : w0.H D = none := F.st.lv D new
            have st7 : Stp w1 ⟨w6.m, w6.B, upd w6.H D (.lst (acc ++ [v]))⟩ := by
              refine ⟨st1_6.m, st1_6.b, st1_6.bn, fun a o n z => ?_, fun a z => ?_⟩
              · have ne : a ≠ D := fun y => by rw [y, hD] at z; cases z
                exact (upd_ne ne).trans (st1_6.fr a o n z)
              · by_cases y : a = D
                · rw [y]; exact hD
                · exact st1_6.lv a ((upd_ne (H := w6.H) (o := .lst (acc ++ [v])) y).symm.trans z)
            have k7 : Wok X.K X.mg ⟨w6.m, w6.B, upd w6.H D (.lst (acc ++ [v]))⟩ s6 := by
              refine ⟨fun a o z => ?_, F6.wk.len, F6.wk.nd, F6.wk.fresh, fun a z z' => ?_, fun n a o z z' => ?_⟩
              · have ne : a ≠ D := fun y => by
                  have z : w6.B a = some o := z
                  rw [y, nB6] at z; cases z
                exact (upd_ne ne).trans (F6.wk.ex a o z)
              · have ne : a ≠ D := fun y => nm6 (y ▸ z)
                exact F6.wk.live a z ((upd_ne (H := w6.H) (o := .lst (acc ++ [v])) ne).symm.trans z')
              · have ne : a ≠ D := fun y => nm6 (y ▸ List.mem_of_getElem? z)
                have hm := F6.wk.ok n a o z z'
                cases o with
                | dl l => obtain ⟨us, y1, y2⟩ := hm; exact ⟨us, (upd_ne ne).trans y1, y2⟩
                | rl l => obtain ⟨us, y1, y2⟩ := hm; exact ⟨us, (upd_ne ne).trans y1, y2⟩
                | ins c fs => obtain ⟨C, dx, hs, y1, y2, y3⟩ := hm; exact ⟨C, dx, hs, y1, (upd_ne ne).trans y2, y3⟩
                | gone => exact True.intro
            refine ⟨_, s6, acc ++ [v], dacc ++ [yd], rfl, F1.step st7 k7, st7, nm6, nB6, upd_same, (st26.dps da).append (.cons r6 .nil), by simp; omega, q2, e7, ?_⟩
            rw [er, List.append_assoc]; rfl
          · cases e
        | false =>
          refine iteF ⟨w5, s4, acc, dacc, rfl, back, st2.trans st25, st25.nm nm hD2, st25.keepB nB hD2, D5, st25.dps da, by omega, r2, e, er⟩
    · rintro H ⟨w2, s2, acc, dacc, rfl, F2, st2, nm, nB, hacc, da, hl, r2, e, er⟩
      rw [List.drop_length] at e
      cases e
      rw [List.append_nil] at er
      subst er
      exact q D acc w2 (st1.trans st2) F2 (st1.lv D hD) nm nB hacc da
  · cases e
theorem sf_lc {own : List (Str × Nat)} {scope : Scope} (hc : X.calm = true) (hN : X.N.Nodup) (hi : SI X tg iter fi) (ok : BlkOk X.N X.env.scope scope own)
    (hg : ∀ (s : Shared) (H : Hp) (C : Addr) (cl : List (Str × Addr)) (fp : List Addr), SG (X.blk s H scope (compEnvC scope cl C X.env) fp) tg T)
    (ht : ∀ (s : Shared) (H : Hp) (C : Addr) (cl : List (Str × Addr)) (fp : List Addr), STs (X.blk s H scope (compEnvC scope cl C X.env) fp) ifs t)
    (he : ∀ (s : Shared) (H : Hp) (C : Addr) (cl : List (Str × Addr)) (fp : List Addr), SE (X.blk s H scope (compEnvC scope cl C X.env) fp) elt f)
    (hT : T.ins (own.map (·.2)) = true := by rfl) (hs : ∀ x, foldedSetIterable iter X.env x = pure x := by intro _; rfl) :
    SF X (.ListComp elt [⟨tg, iter, ifs, 0⟩] scope pos) (fLC (own.map (·.2)) T fi t f) := by
  obtain ⟨wi, pi, ei⟩ := hi.ex
  exact ⟨_, pe_lc hc hN pi ok (fun s H C cl fp => (hg s H C cl fp).can) (fun s H C cl fp => (ht s H C cl fp).can) (fun s H C cl fp => (he s H C cl fp).can) hs, fo_lc hT ei⟩
theorem svf_lc {i : Nat} {y : Str} {py spos : Pos} {own : List (Str × Nat)} {scope : Scope} (hc : X.calm = true) (hN : X.N.Nodup) (hi : SI X tg iter fi) (ok : BlkOk X.N X.env.scope scope own)
    (hg : ∀ (s : Shared) (H : Hp) (C : Addr) (cl : List (Str × Addr)) (fp : List Addr), SG (X.blk s H scope (compEnvC scope cl C X.env) fp) tg T)
    (ht : ∀ (s : Shared) (H : Hp) (C : Addr) (cl : List (Str × Addr)) (fp : List Addr), STs (X.blk s H scope (compEnvC scope cl C X.env) fp) ifs t)
    (he : ∀ (s : Shared) (H : Hp) (C : Addr) (cl : List (Str × Addr)) (fp : List Addr), SE (X.blk s H scope (compEnvC scope cl C X.env) fp) elt f)
    (hy : X.N[i]? = some y := by rfl) (hyl : X.env.scope.names.lookup y = some .local := by rfl)
    (hsw : swapsWith (.ListComp elt [⟨tg, iter, ifs, 0⟩] scope pos) (some (.Name y py)) spos.line X.env = pure true := by exact sw_true rfl rfl rfl (by decide +kernel))
    (hT : T.ins (own.map (·.2)) = true := by rfl) (hs : ∀ x, foldedSetIterable iter X.env x = pure x := by intro _; rfl) :
    SVF X i (.Assign [.Name y py] (.ListComp elt [⟨tg, iter, ifs, 0⟩] scope pos) spos) (fLC (own.map (·.2)) T fi t f) := by
  obtain ⟨wi, pi, ei⟩ := hi.ex
  exact ⟨_, ps_setLc hc hN hy hyl hsw pi ok (fun s H C cl fp => (hg s H C cl fp).can) (fun s H C cl fp => (ht s H C cl fp).can) (fun s H C cl fp => (he s H C cl fp).can) hs, fo_lc hT ei⟩
end
end Zz
set_option Elab.async false
set_option linter.all false
/-! ZJ: several names at once; defs by their bodies; the law's end -/
namespace Zz
open PySem PyProof.Rows L2
inductive Va where
  | l (x : L)
  | o (l : List D)
abbrev FVs := Ro → S → Option (List Va × S)
def fV0 : FVs := fun _ s => some ([], s)
def fVl (f : FE) (g : FVs) : FVs := fun ρ s => (f ρ s).bind fun p => (g ρ p.2).bind fun q => some (.l p.1 :: q.1, q.2)
def fVo (f : FF) (g : FVs) : FVs := fun ρ s => (f ρ s).bind fun p => (g ρ p.2).bind fun q => some (.o p.1 :: q.1, q.2)
def ownA : List V → List Va → List Addr
  | .ref a :: vs, .o _ :: zs => a :: ownA vs zs
  | _ :: vs, _ :: zs => ownA vs zs
  | _, _ => []
inductive VsR (K : PySem.W.Frag) (w w' : Wd) : List V → List Va → Prop where
  | nil : VsR K w w' [] []
  | l {v : V} {x : L} {vs : List V} {zs : List Va} : Lv K w' v x → VsR K w w' vs zs → VsR K w w' (v :: vs) (.l x :: zs)
  | o {a : Addr} {us : List V} {l : List D} {vs : List V} {zs : List Va} : w.H a = none → a ∉ w'.m → w'.B a = none → w'.H a = some (.lst us) → A2 (Dq K w'.B) us l → (∀ b ∈ ownA vs zs, b ≠ a) → VsR K w w' vs zs → VsR K w w' (.ref a :: vs) (.o l :: zs)
section
variable {K : PySem.W.Frag} {mg : Str → Option Value} {w w0 w1 w' w'' : Wd} {s s' : S} {ρ : Ro} {σ : L2.St}
theorem VsR.wide (h : Stp w1 w) : ∀ {vs : List V} {zs : List Va}, VsR K w w' vs zs → VsR K w1 w' vs zs
  | _, _, .nil => .nil
  | _, _, .l r t => .l r (VsR.wide h t)
  | _, _, .o h1 h2 h3 h4 h5 h6 t => .o (h.lv _ h1) h2 h3 h4 h5 h6 (VsR.wide h t)
theorem VsR.step (h : Stp w' w'') : ∀ {vs : List V} {zs : List Va}, VsR K w w' vs zs → VsR K w w'' vs zs
  | _, _, .nil => .nil
  | _, _, .l r t => .l (h.lv' r) (VsR.step h t)
  | _, _, .o h1 h2 h3 h4 h5 h6 t => by
    have hn := show w'.H _ ≠ none from by rw [h4]; simp
    exact .o h1 (h.nm h2 hn) (h.keepB h3 hn) (h.fr _ _ h2 h4) (h.dps h5) h6 (VsR.step h t)
theorem VsR.new : ∀ {vs : List V} {zs : List Va}, VsR K w w' vs zs → ∀ b ∈ ownA vs zs, w.H b = none
  | _, _, .nil, b, hb => by cases hb
  | v :: vs, _ :: zs, .l r t, b, hb => by
    have : b ∈ ownA vs zs := by
      cases v <;> exact hb
    exact VsR.new t b this
  | _, _, .o h1 h2 h3 h4 h5 h6 t, b, hb => by
    rcases List.mem_cons.mp hb with e | e
    · rw [e]; exact h1
    · exact VsR.new t b e
theorem VsR.length : ∀ {vs : List V} {zs : List Va}, VsR K w w' vs zs → vs.length = zs.length
  | _, _, .nil => rfl
  | _, _, .l r t => congrArg (· + 1) (VsR.length t)
  | _, _, .o _ _ _ _ _ _ t => congrArg (· + 1) (VsR.length t)
end
def VO (K : PySem.W.Frag) (mg : Str → Option Value) (t : TA) (f : FVs) : Prop := ∀ (w0 w : Wd) (s s' : S) (ρ : Ro) (σ : L2.St) (zs : List Va) (Q : List V → Hp → Prop), FR K mg w0 w s ρ σ → f ρ s = some (zs, s') →
  (∀ vs w', Stp w w' → FR K mg w0 w' s' ρ σ → VsR K w w' vs zs → Q vs w'.H) → t σ w.H Q
structure SVs (X : Cx) (es : List Expr) (f : FVs) : Prop where
  ex : ∃ t, PA X es t ∧ VO X.K X.mg t f
section
variable {X : Cx} {a : Expr} {es : List Expr} {f : FE} {g : FVs} {h : FF}
theorem svs_nil : SVs X [] fV0 := ⟨tNil, pa_nil, fun w0 w s s' ρ σ zs Q F e q => by cases e; exact q [] w (Stp.refl w) F .nil⟩
theorem svs_l (ha : SE X a f) (hb : SVs X es g) (hs : starEach (a :: es) X.env = (false, eval a X.env) :: starEach es X.env := by rfl) : SVs X (a :: es) (fVl f g) := by
  obtain ⟨ta, pa, ea⟩ := ha.ex
  obtain ⟨tb, pb, eb⟩ := hb.ex
  refine ⟨_, pa_cons pa pb hs, fun w0 w s s' ρ σ zs Q F e q => ?_⟩
  obtain ⟨⟨x, s1⟩, e1, e⟩ := Option.bind_eq_some_iff.mp e
  obtain ⟨⟨y, s2⟩, e2, e⟩ := Option.bind_eq_some_iff.mp e
  cases e
  refine ea w0 w s s1 ρ σ x _ F e1 fun v w1 st1 F1 r1 => ?_
  refine eb w0 w1 s1 _ ρ σ y _ F1 e2 fun vs w2 st2 F2 r2 => ?_
  exact q _ w2 (st1.trans st2) F2 (.l (st2.lv' r1) (r2.wide st1))
theorem svs_o (ha : SF X a h) (hb : SVs X es g) (hs : starEach (a :: es) X.env = (false, eval a X.env) :: starEach es X.env := by rfl) : SVs X (a :: es) (fVo h g) := by
  obtain ⟨ta, pa, ea⟩ := ha.ex
  obtain ⟨tb, pb, eb⟩ := hb.ex
  refine ⟨_, pa_cons pa pb hs, fun w0 w s s' ρ σ zs Q F e q => ?_⟩
  obtain ⟨⟨x, s1⟩, e1, e⟩ := Option.bind_eq_some_iff.mp e
  obtain ⟨⟨y, s2⟩, e2, e⟩ := Option.bind_eq_some_iff.mp e
  cases e
  refine ea w0 w s s1 ρ σ x _ F e1 fun A us w1 st1 F1 hA nm nB hH d => ?_
  refine eb w0 w1 s1 _ ρ σ y _ F1 e2 fun vs w2 st2 F2 r2 => ?_
  have hn : w1.H A ≠ none := by rw [hH]; simp
  exact q _ w2 (st1.trans st2) F2 (.o hA (st2.nm nm hn) (st2.keepB nB hn) (st2.fr _ _ nm hH) (st2.dps d) (fun b hb z => hn (by rw [← z]; exact r2.new b hb)) (r2.wide st1))
end
/-! places to be stored into -/
inductive Pl where
  | sl (i : Nat)
  | fd (c fn : Str) (o : FE)
def putV : Pl → Va → Ro → S → Option (Ro × S)
  | .sl i, .l x, ρ, s => (slotOf x).bind fun z => some (ρ.set i z, s)
  | .sl i, .o l, ρ, s => some (ρ.set i (.ol l), s)
  | .fd c fn o, .l x, ρ, s => (o ρ s).bind fun q => match q.1 with
    | .rf n => (fldS q.2 n c fn x).bind fun s3 => some (ρ, s3)
    | _ => none
  | _, _, _, _ => none
def putVs : List Pl → List Va → Ro → S → Option (Ro × S)
  | [], [], ρ, s => some (ρ, s)
  | p :: ps, z :: zs, ρ, s => (putV p z ρ s).bind fun r => putVs ps zs r.1 r.2
  | _, _, _, _ => none
def NotOwn (ρ : Ro) (σ : L2.St) (a : Addr) : Prop := ∀ (j : Nat) (l : List D), ρ[j]? = some (.ol l) → σ[j]? = some (some (.ref a)) → False
def V1 (K : PySem.W.Frag) (w0 w : Wd) (ρ : Ro) (σ : L2.St) (v : V) : Va → Prop
  | .l x => Lv K w v x
  | .o l => ∃ a us, v = .ref a ∧ w0.H a = none ∧ a ∉ w.m ∧ w.B a = none ∧ w.H a = some (.lst us) ∧ A2 (Dq K w.B) us l ∧ NotOwn ρ σ a
def adr (v : V) : Va → Addr → Prop
  | .o _, b => v = .ref b
  | _, _ => False
section
variable (K : PySem.W.Frag) (mg : Str → Option Value)
def P1 (g : TG) (pl : Pl) : Prop := ∀ (w0 w : Wd) (s s' : S) (ρ ρ' : Ro) (σ : L2.St) (v : V) (z : Va) (Q : L2.St → Hp → Prop), FR K mg w0 w s ρ σ → V1 K w0 w ρ σ v z → putV pl z ρ s = some (ρ', s') →
  (∀ w' σ', Stp w w' → FR K mg w0 w' s' ρ' σ' → (∀ b, NotOwn ρ σ b → ¬ adr v z b → NotOwn ρ' σ' b) → Q σ' w'.H) → g v σ w.H Q
def Pn (g : TGs) (ps : List Pl) : Prop := ∀ (w0 w ws : Wd) (s s' : S) (ρ ρ' : Ro) (σ : L2.St) (vs : List V) (zs : List Va) (Q : L2.St → Hp → Prop), FR K mg w0 w s ρ σ → VsR K ws w vs zs → (∀ b ∈ ownA vs zs, w0.H b = none ∧ NotOwn ρ σ b) → putVs ps zs ρ s = some (ρ', s') →
  (∀ w' σ', Bm w w' → FR K mg w0 w' s' ρ' σ' → Q σ' w'.H) → g vs σ w.H Q
end
structure SP1 (X : Cx) (t : Expr) (p : Pl) : Prop where
  ex : ∃ g, PG X t g ∧ P1 X.K X.mg g p
structure SPn (X : Cx) (t : List Expr) (p : List Pl) : Prop where
  ex : ∃ g, PGs X t g ∧ Pn X.K X.mg g p
section
variable {K : PySem.W.Frag} {mg : Str → Option Value} {X : Cx} {t o : Expr} {ts : List Expr} {p : Pl} {ps : List Pl} {f : FE} {pos : Pos} {y cn fn : Str}
theorem p1_nm (i : Nat) : P1 K mg (gName i) (.sl i) := by
  intro w0 w s s' ρ ρ' σ v z Q F r e q
  have keep : ∀ (zz : Slot) (b : Addr), NotOwn ρ σ b → (∀ l, zz = .ol l → v ≠ .ref b) → NotOwn (ρ.set i zz) (σ.set i (some v)) b := fun zz b nb hz j l h1 h2 => by
    by_cases e : i = j
    · subst e
      rw [List.getElem?_set, if_pos rfl] at h1 h2
      split at h1
      · split at h2
        · cases h1; cases h2; exact hz l rfl rfl
        · cases h2
      · cases h1
    · rw [List.getElem?_set_ne e] at h1 h2
      exact nb j l h1 h2
  cases z with
  | l x =>
    obtain ⟨zz, e1, e⟩ := Option.bind_eq_some_iff.mp e
    cases e
    obtain ⟨k, nl⟩ := slotOf_at (w0 := w0) r e1
    exact q w _ (Stp.refl w) (F.set k fun l a z => absurd z (nl l)) fun b nb _ => keep zz b nb fun l z => absurd z (nl l)
  | o l =>
    cases e
    obtain ⟨a, us, rfl, h0, h1, h2, h3, h4, h5⟩ := r
    refine q w _ (Stp.refl w) (F.set (z := .ol l) ⟨a, us, rfl, h1, h0, h2, h3, h4⟩ fun l' b _ z j l2 hj k1 k2 => ?_) fun b nb nd => keep _ b nb fun _ _ z => nd z
    cases z
    exact h5 j l2 k1 k2
theorem p1_fd {C : Addr} {to : TE} (hC : mg cn = some (.ref C)) (hcl : Cls K C) (hna : NoAttr K C fn) (eo : EO K mg to f) : P1 K mg (gFld K to fn) (.fd cn fn f) := by
  intro w0 w s s' ρ ρ' σ v z Q F r e q
  cases z with
  | o l => cases e
  | l x =>
    obtain ⟨⟨y, s1⟩, e1, e⟩ := Option.bind_eq_some_iff.mp e
    dsimp only at e
    split at e
    · rename_i n
      obtain ⟨s3, e3, e⟩ := Option.bind_eq_some_iff.mp e
      cases e
      refine eo w0 w s _ ρ σ _ _ F e1 fun v2 w1 st1 F1 r1 => ?_
      obtain ⟨A, hA, rfl⟩ := r1
      obtain ⟨dx, hs, h1, h2, st3, k3⟩ := fldS_at F1.wk hC hA (st1.lv' r) e3
      exact ⟨A, C, dx, hs, rfl, h1, hcl, hna, h2, q ⟨w1.m, w1.B, upd w1.H A (.ins C dx (putF fn v hs))⟩ σ (st1.trans st3) (F1.step st3 k3) fun b nb _ => nb⟩
    · cases e
theorem pn_nil : Pn K mg gNil [] := by
  intro w0 w ws s s' ρ ρ' σ vs zs Q F r n e q
  cases r with
  | nil => cases e; exact ⟨rfl, q w σ (Bm.refl w) F⟩
  | l _ _ => cases e
  | o _ _ _ _ _ _ _ => cases e
theorem pn_cons {g : TG} {k : TGs} (h1 : P1 K mg g p) (h2 : Pn K mg k ps) : Pn K mg (gCons g k) (p :: ps) := by
  intro w0 w ws s s' ρ ρ' σ vs zs Q F r n e q
  cases r with
  | nil => cases e
  | @l v x vs zs r t =>
    obtain ⟨⟨ρ1, s1⟩, e1, e⟩ := Option.bind_eq_some_iff.mp e
    refine ⟨v, vs, rfl, h1 w0 w s s1 ρ ρ1 σ v (.l x) _ F r e1 fun w1 σ1 st1 F1 hn => ?_⟩
    refine h2 w0 w1 ws s1 s' ρ1 ρ' σ1 vs zs Q F1 (t.step st1) (fun b hb => ?_) e fun w2 σ2 b2 F2 => q w2 σ2 (st1.bm.trans b2) F2
    have hb2 : b ∈ ownA (v :: vs) (.l x :: zs) := by cases v <;> exact hb
    exact ⟨(n b hb2).1, hn b (n b hb2).2 (fun z => z)⟩
  | @o a us l vs zs i1 i2 i3 i4 i5 i6 t =>
    obtain ⟨⟨ρ1, s1⟩, e1, e⟩ := Option.bind_eq_some_iff.mp e
    have na := n a (by show a ∈ a :: ownA vs zs; simp)
    refine ⟨_, vs, rfl, h1 w0 w s s1 ρ ρ1 σ (.ref a) (.o l) _ F ⟨a, us, rfl, na.1, i2, i3, i4, i5, na.2⟩ e1 fun w1 σ1 st1 F1 hn => ?_⟩
    refine h2 w0 w1 ws s1 s' ρ1 ρ' σ1 vs zs Q F1 (t.step st1) (fun b hb => ?_) e fun w2 σ2 b2 F2 => q w2 σ2 (st1.bm.trans b2) F2
    have hb2 : b ∈ ownA (.ref a :: vs) (.o l :: zs) := by show b ∈ a :: ownA vs zs; exact List.mem_cons_of_mem _ hb
    exact ⟨(n b hb2).1, hn b (n b hb2).2 fun z => i6 b hb (by cases z; rfl)⟩
theorem sp_nm (i : Nat) (hN : X.N.Nodup) (hi : X.N[i]? = some y := by rfl) (hx : Loc X.env.scope y := by first | exact Or.inl rfl | exact Or.inr rfl) (hf : X.fn y = true ∨ X.env.scope.names.lookup y = some .local := by first | exact .inl rfl | exact .inr rfl) : SP1 X (.Name y pos) (.sl i) := ⟨_, pg_name hN hi hx hf, p1_nm i⟩
theorem sp_fd (hF : FldOk X.K X.mg cn fn) (ho : SE X o f) : SP1 X (.Attribute o fn pos) (.fd cn fn f) := by
  obtain ⟨t, pt, et⟩ := ho.ex
  obtain ⟨C, hC, hcl, hna⟩ := hF.ex
  exact ⟨_, pg_fld pt, p1_fd hC hcl hna et⟩
theorem spn_nil : SPn X [] [] := ⟨_, pgs_nil, pn_nil⟩
theorem spn_cons (h1 : SP1 X t p) (h2 : SPn X ts ps) (hs : (assignEach (t :: ts) X.env).map (·.2) = assign t X.env :: (assignEach ts X.env).map (·.2) := by rfl) : SPn X (t :: ts) (p :: ps) := by
  obtain ⟨g, pg, eg⟩ := h1.ex
  obtain ⟨k, pk, ek⟩ := h2.ex
  exact ⟨_, pgs_cons pg pk hs, pn_cons eg ek⟩
end
def fPar (ps : List Pl) (g : FVs) : FS := fun ρ s => (g ρ s).bind fun p => if p.1.length = ps.length ∧ ps.length ≤ 1000 then (putVs ps p.1 ρ p.2).bind fun r => some (.nx, r.1, r.2) else none
section
variable {X : Cx} {es ts : List Expr} {g : FVs} {ps : List Pl} {pos pt pt2 : Pos} {k1 k2 : Nat}
theorem fr_new {K : PySem.W.Frag} {mg : Str → Option Value} {w0 w : Wd} {s : S} {ρ : Ro} {σ : L2.St} (F : FR K mg w0 w s ρ σ) {b : Addr} (h : w.H b = none) : NotOwn ρ σ b := fun j l h1 h2 => by
  obtain ⟨v, h3, h4⟩ := fr_slot F h1
  rw [h2] at h3; cases h3
  obtain ⟨c, us, z1, z2, z0, z3, z4, z5⟩ := h4
  cases z1
  rw [h] at z4; cases z4
theorem ss_par (hc : X.calm = true) (hv : SVs X es g) (hp : SPn X ts ps) (hn : (assignEach ts X.env).length = ps.length := by rfl) (hst : (assignEach ts X.env).findIdx? (·.1) = none := by rfl)
    (hs : swapsWithSole [.Tuple ts k1 pt] (.Tuple es k2 pt2) pos.line X.env = pure false := by rfl) (hw : swappedStores [.Tuple ts k1 pt] (.Tuple es k2 pt2) X.env = pure none := by rfl)
    (h1 : (assignEach [.Tuple ts k1 pt] X.env).map (·.2) = [assign (.Tuple ts k1 pt) X.env] := by rfl) : SS X (.Assign [.Tuple ts k1 pt] (.Tuple es k2 pt2) pos) (fPar ps g) := by
  obtain ⟨ta, pa, ea⟩ := hv.ex
  obtain ⟨k, pk, ek⟩ := hp.ex
  refine ⟨_, ps_asg (pe_tup pa) (pg_tup hc pk hn hst) hs hw h1, fun w0 w s s' ρ ρ' σ fl D F e p => ?_⟩
  obtain ⟨⟨zs, s1⟩, e1, e⟩ := Option.bind_eq_some_iff.mp e
  split at e
  · rename_i hl
    obtain ⟨⟨ρ1, s2⟩, e2, e⟩ := Option.bind_eq_some_iff.mp e
    cases e
    refine ea w0 w s s1 ρ σ zs _ F e1 fun vs w1 st1 F1 r1 => ?_
    have hl2 : vs.length = ps.length := r1.length.trans hl.1
    refine ⟨by rw [hl2]; exact Nat.le_trans hl.2 (by decide), fun q hq => ?_⟩
    obtain ⟨st2, k2, nB, nm⟩ := F1.wk.own (o := .tup vs) hq
    refine ⟨q, vs, rfl, SqT.of upd_same, hl2, ?_⟩
    refine ek w0 ⟨w1.m, w1.B, upd w1.H q (.tup vs)⟩ w s1 _ ρ _ σ vs zs _ (F1.step st2 k2) (r1.step st2) (fun b hb => ?_) e2 fun w' σ' b' F' => p w' σ' ((st1.trans st2).bm.trans b') F'
    have hb2 := r1.new b hb
    exact ⟨F.st.lv b hb2, fr_new F hb2⟩
  · cases e
theorem ss_par2 (i j : Nat) {x y : Str} {a b : Expr} {px py : Pos} (hc : X.calm = true) (hN : X.N.Nodup) (hij : i ≠ j) (hv : SVs X [a, b] g) (hi : X.N[i]? = some x := by rfl) (hj : X.N[j]? = some y := by rfl)
    (hx : X.env.scope.names.lookup x = some .local := by rfl) (hy : X.env.scope.names.lookup y = some .local := by rfl)
    (hw : swappedStores [.Tuple [.Name x px, .Name y py] k1 pt] (.Tuple [a, b] k2 pt2) X.env = pure (some [x, y]) := by rfl)
    (hs : swapsWithSole [.Tuple [.Name x px, .Name y py] k1 pt] (.Tuple [a, b] k2 pt2) pos.line X.env = pure false := by rfl) :
    SS X (.Assign [.Tuple [.Name x px, .Name y py] k1 pt] (.Tuple [a, b] k2 pt2) pos) (fPar [.sl i, .sl j] g) := by
  obtain ⟨ta, pa, ea⟩ := hv.ex
  refine ⟨_, ps_par hc hN hi hj hij hx hy pa hw hs, fun w0 w s s' ρ ρ' σ fl D F e p => ?_⟩
  obtain ⟨⟨zs, s1⟩, e1, e⟩ := Option.bind_eq_some_iff.mp e
  split at e
  · rename_i hl
    obtain ⟨⟨ρ1, s2⟩, e2, e⟩ := Option.bind_eq_some_iff.mp e
    cases e
    refine ea w0 w s s1 ρ σ zs _ F e1 fun vs w1 st1 F1 r1 => ?_
    obtain ⟨v, r, h1, u, r', h2, h3, h4⟩ := pn_cons (p1_nm i) (pn_cons (p1_nm j) pn_nil) w0 w1 w s1 _ ρ _ σ vs zs D.nx F1 r1 (fun b hb => ⟨F.st.lv b (r1.new b hb), fr_new F (r1.new b hb)⟩) e2 fun w' σ' b' F' => p w' σ' (st1.bm.trans b') F'
    subst h1 h2 h3
    exact ⟨v, u, rfl, h4⟩
  · cases e
theorem ss_par3 (i j l : Nat) {x y z : Str} {a b c : Expr} {px py pz : Pos} (hc : X.calm = true) (hN : X.N.Nodup) (hij : i ≠ j) (hil : i ≠ l) (hjl : j ≠ l) (hv : SVs X [a, b, c] g) (hi : X.N[i]? = some x := by rfl) (hj : X.N[j]? = some y := by rfl) (hl : X.N[l]? = some z := by rfl)
    (hx : X.env.scope.names.lookup x = some .local := by rfl) (hy : X.env.scope.names.lookup y = some .local := by rfl) (hz : X.env.scope.names.lookup z = some .local := by rfl)
    (hw : swappedStores [.Tuple [.Name x px, .Name y py, .Name z pz] k1 pt] (.Tuple [a, b, c] k2 pt2) X.env = pure (some [x, y, z]) := by rfl)
    (hs : swapsWithSole [.Tuple [.Name x px, .Name y py, .Name z pz] k1 pt] (.Tuple [a, b, c] k2 pt2) pos.line X.env = pure false := by rfl) :
    SS X (.Assign [.Tuple [.Name x px, .Name y py, .Name z pz] k1 pt] (.Tuple [a, b, c] k2 pt2) pos) (fPar [.sl i, .sl j, .sl l] g) := by
  obtain ⟨ta, pa, ea⟩ := hv.ex
  refine ⟨_, L2.ps_par3 hc hN hi hj hl hij hil hjl hx hy hz pa hw hs, fun w0 w s s' ρ ρ' σ fl D F e p => ?_⟩
  obtain ⟨⟨zs, s1⟩, e1, e⟩ := Option.bind_eq_some_iff.mp e
  split at e
  · rename_i hl
    obtain ⟨⟨ρ1, s2⟩, e2, e⟩ := Option.bind_eq_some_iff.mp e
    cases e
    refine ea w0 w s s1 ρ σ zs _ F e1 fun vs w1 st1 F1 r1 => ?_
    obtain ⟨v, r, h1, u, r', h2, t, r'', h3, h4, h5⟩ := pn_cons (p1_nm i) (pn_cons (p1_nm j) (pn_cons (p1_nm l) pn_nil)) w0 w1 w s1 _ ρ _ σ vs zs D.nx F1 r1 (fun b hb => ⟨F.st.lv b (r1.new b hb), fr_new F (r1.new b hb)⟩) e2 fun w' σ' b' F' => p w' σ' (st1.bm.trans b') F'
    subst h1 h2 h3 h4
    exact ⟨v, u, t, rfl, h5⟩
  · cases e
/-- (a, b, ..) = e, e a row of data -/
def fUnp (T : Tg) (f : FE) : FS := fun ρ s => (f ρ s).bind fun p => match p.1 with
  | .im d => (setT T d ρ).bind fun ρ1 => some (.nx, ρ1, p.2)
  | _ => none
theorem ss_unp {tg e : Expr} {T : Tg} {f : FE} (he : SE X e f) (hg : SG X tg T) (hs : swapsWithSole [tg] e pos.line X.env = pure false := by rfl) (hw : swappedStores [tg] e X.env = pure none := by rfl)
    (h1 : (assignEach [tg] X.env).map (·.2) = [assign tg X.env] := by rfl) : SS X (.Assign [tg] e pos) (fUnp T f) := by
  obtain ⟨t, pt, et⟩ := he.ex
  obtain ⟨k, pk, ek⟩ := hg.ex
  refine ⟨_, ps_asg pt pk hs hw h1, fun w0 w s s' ρ ρ' σ fl D F e p => ?_⟩
  obtain ⟨⟨x, s1⟩, e1, e⟩ := Option.bind_eq_some_iff.mp e
  dsimp only at e
  split at e
  · obtain ⟨ρ1, e2, e⟩ := Option.bind_eq_some_iff.mp e
    cases e
    refine et w0 w s _ ρ σ _ _ F e1 fun v w1 st1 F1 r1 => ?_
    exact ek w0 w1 _ ρ _ σ v _ _ F1 r1 e2 fun σ' F' _ => p w1 σ' st1.bm F'
  · cases e
end
/-! ### defs by their bodies -/
def sl1 : L → Slot
  | .im d => .im d
  | .rf n => .rf n
  | .sc l => .sc l
  | .ow _ => .un
def initR (n : Nat) (ls : List L) : Ro := ls.map sl1 ++ List.replicate (n - ls.length) .un
def outG : Option (Fl × Ro × S) → Option (L × S)
  | some (.rt l, _, s) => some (l, s)
  | some (.nx, _, s) => some (.im .none, s)
  | _ => none
def runG (n : Nat) (b : FS) : List L → S → Option (L × S) := fun ls s => outG (b (initR n ls) s)
def outP : Option (Fl × Ro × S) → Option D
  | some (.rt (.im d), _, _) => some d
  | some (.nx, _, _) => some .none
  | _ => none
def runP (n : Nat) (b : FS) : List D → Option D := fun ds => outP (b (initR n (ds.map L.im)) [])
section
variable {K : PySem.W.Frag} {mg : Str → Option Value} {w : Wd} {s : S}
theorem fr_init {N : List Str} {vs : List V} {ls : List L} (k : Wok K mg w s) (h : A2 (Kv K w) vs ls) : FR K mg w w s (initR N.length ls) (L2.start N vs) := by
  have hl := h.length
  have noOl : ∀ (i : Nat) (l : List D), (initR N.length ls)[i]? = some (.ol l) → False := fun i l q => by
    unfold initR at q
    by_cases z : i < ls.length
    · rw [List.getElem?_append_left (by simpa using z), List.getElem?_map] at q
      cases e : ls[i]? with
      | none => rw [e] at q; cases q
      | some x => rw [e] at q; cases x <;> cases q
    · rw [List.getElem?_append_right (by simpa using z), List.getElem?_replicate] at q
      split at q <;> cases q
  refine ⟨Stp.refl w, k, ?_, fun i z v q1 q2 => ?_, fun i j l l' a _ q1 _ _ _ => (noOl i l q1).elim⟩
  · unfold L2.start initR
    simp [hl]
  · unfold initR at q1
    unfold L2.start at q2
    by_cases c : i < ls.length
    · rw [List.getElem?_append_left (by simpa using c), List.getElem?_map] at q1
      rw [List.getElem?_append_left (by simpa [hl] using c), List.getElem?_map] at q2
      cases e : ls[i]? with
      | none => rw [e] at q1; cases q1
      | some x =>
        obtain ⟨u, h1, h2⟩ := h.get e
        rw [e] at q1
        rw [h1] at q2
        cases q1
        cases q2
        cases x with
        | im d => exact ⟨u, rfl, h2⟩
        | rf n => obtain ⟨a, h3, rfl⟩ := h2; exact ⟨a, rfl, h3⟩
        | ow l => exact h2.elim
        | sc l => obtain ⟨a, us, rfl, h3, h4⟩ := h2; exact ⟨a, us, rfl, h3, h4⟩
    · rw [List.getElem?_append_right (by simpa using c), List.getElem?_replicate] at q1
      split at q1
      · cases q1; exact True.intro
      · cases q1
end
section
variable {P : Program} {wl : World} {K : PySem.W.Frag} {mg : Str → Option Value} {base : Heap}
theorem fn_G {x qual : Str} {st : Stmt} {f : Addr} {fd : FuncData} {N ps : List Str} {k : Nat} {b : FS} (F : Fun K x qual st f fd) (Sc : FnScope N ps (defScope st))
    (hb : ∀ (cdv : Value) (A : Around) (outer : List Env) (s : Shared) (H : Hp) (E : XK), Room k (A.deeper (envOfC qual (defScope st) s.heap.objs.size f cdv)) → SB (cxOf L2.CX0 P wl K mg base N qual (defScope st) f cdv A outer s H E).nox (defBody st) b) :
    FnOk P wl K mg base L2.CX0 (k + 1) f fd ps (spG K mg ps.length (runG N.length b)) := by
  refine F.ok Sc (fun vs H Q E h => ?_) (fun cdv A outer s H vs Q E hr h => ?_)
  · obtain ⟨w, s, ls, r, s', _, _, h1, h2, _⟩ := h
    rw [h1.length, h2]
  · obtain ⟨w, s1, ls, r, s', rfl, k1, h1, h2, e, q⟩ := h
    obtain ⟨t, pt, et⟩ := (hb cdv A outer s w.H E hr).ex
    refine ⟨t, pt, ?_⟩
    unfold runG at e
    cases y : b (initR N.length ls) s1 with
    | none => rw [y] at e; cases e
    | some z =>
      obtain ⟨fl, ρ', s2⟩ := z
      rw [y] at e
      refine et w w s1 s2 _ ρ' _ fl _ (fr_init k1 h1) y ?_
      cases fl with
      | nx => cases e; exact fun w' σ' _ F' => q .non w' F'.st F'.wk .non
      | bk => cases e
      | ct => cases e
      | rt l => cases e; exact fun v w' st kk r => q v w' st kk r
theorem fn_P {x qual : Str} {st : Stmt} {f : Addr} {fd : FuncData} {N ps : List Str} {k : Nat} {b : FS} (F : Fun K x qual st f fd) (Sc : FnScope N ps (defScope st))
    (hb : ∀ (cdv : Value) (A : Around) (outer : List Env) (s : Shared) (H : Hp) (E : XK), Room k (A.deeper (envOfC qual (defScope st) s.heap.objs.size f cdv)) → SB (cxOf L2.CX0 P wl K mg base N qual (defScope st) f cdv A outer s H E).nox (defBody st) b) :
    FnOk P wl K mg base L2.CX0 (k + 1) f fd ps (spP K ps.length (runP N.length b)) := by
  refine F.ok Sc (fun vs H Q E h => ?_) (fun cdv A outer s H vs Q E hr h => ?_)
  · obtain ⟨B, ds, d, _, h1, h2, _⟩ := h
    rw [h1.length, h2]
  · obtain ⟨B, ds, d, hB, h1, h2, e, q⟩ := h
    obtain ⟨t, pt, et⟩ := (hb cdv A outer s H E hr).ex
    refine ⟨t, pt, ?_⟩
    unfold runP at e
    have k1 : Wok K mg ⟨[], B, H⟩ [] := ⟨hB, rfl, List.nodup_nil, fun a z => (by cases z), fun a z => (by cases z), fun n a o z => (by simp at z)⟩
    have h3 : A2 (Kv K ⟨[], B, H⟩) vs (ds.map L.im) := by
      clear e q h2
      induction h1 with
      | nil => exact .nil
      | cons r _ ih => exact .cons r ih
    have fin : ∀ v (w' : Wd) s', Stp ⟨[], B, H⟩ w' → Wok K mg w' s' → Dq K w'.B v d → Q v w'.H := fun v w' s' st kk r => q v w'.B w'.H st.b kk.ex st.bn (fun a o z => st.fr a o (by simp) z) r
    cases y : b (initR N.length (ds.map L.im)) [] with
    | none => rw [y] at e; cases e
    | some z =>
      obtain ⟨fl, ρ', s2⟩ := z
      rw [y] at e
      refine et ⟨[], B, H⟩ ⟨[], B, H⟩ [] s2 _ ρ' _ fl _ (fr_init k1 h3) y ?_
      cases fl with
      | nx => cases e; exact fun w' σ' _ F' => fin .non w' s2 F'.st F'.wk .non
      | bk => cases e
      | ct => cases e
      | rt l =>
        cases l with
        | im d' => cases e; exact fun v w' st kk r => fin v w' s2 st kk r
        | rf n => cases e
        | ow l => cases e
        | sc l => cases e
/-- the law's promise -/
def spLaw (K : PySem.W.Frag) : Sp := fun vs H Q _ => ∃ (a : Addr) (ns : List Int), vs = [.ref a] ∧ SqL K H a (ns.map V.int) ∧ ns.length ≤ 63 ∧ ∀ H', Q (.bl true) H'
theorem a2_intsD {is : List Int} {B : Hp} : A2 (Dq K B) (is.map V.int) (is.map PyData.int) := by
  induction is with
  | nil => exact .nil
  | cons i r ih => exact .cons (.int i) ih
theorem fn_law {f : Addr} {fd : FuncData} {ps : List Str} {k : Nat} {F : List L → S → Option (L × S)} (h : FnOk P wl K mg base L2.CX0 k f fd ps (spG K mg 1 F)) (hl : ps.length = 1)
    (law : ∀ ns : List Int, ns.length ≤ 63 → ∃ s', F [.sc (ns.map PyData.int)] [] = some (.im (.bool true), s')) : FnOk P wl K mg base L2.CX0 k f fd ps (spLaw K) := by
  refine h.imp (fun vs H Q E q => ?_)
  obtain ⟨a, ns, rfl, h1, h2, h3⟩ := q
  obtain ⟨s', e⟩ := law ns h2
  refine ⟨⟨[], H, H⟩, [], [.sc (ns.map PyData.int)], _, _, rfl, ⟨fun _ _ z => z, rfl, List.nodup_nil, fun a z => (by cases z), fun a z => (by cases z), fun n a o z => (by simp at z)⟩, .cons ⟨a, _, rfl, h1, a2_intsD⟩ .nil, rfl, e, fun v w' _ _ r => ?_⟩
  cases r
  exact h3 _
end
end Zz
set_option Elab.async false
set_option linter.all false
/-! ZK: further rules -/
namespace Zz
open PySem PyProof.Rows L2
def gNeg : S → L → Option L
  | _, .im (.int i) => some (.im (.int (-i)))
  | _, _ => none
section
variable {K : PySem.W.Frag} {mg : Str → Option Value}
theorem uo_neg : UO K mg (rU fun i => .int (-i)) gNeg := by
  intro w s x lx l Q k r e q
  unfold gNeg at e
  split at e
  · cases e
    exact ⟨_, lv_int r, q _ w (Stp.refl w) k (.int _)⟩
  · cases e
end
/-! chains of two comparisons of ints -/
def fChain (g h : S → L → L → Option L) (f1 f2 f3 : FE) : FE := fun ρ s => (f1 ρ s).bind fun p => (f2 ρ p.2).bind fun q => (g q.2 p.1 q.1).bind fun r => match r with
  | .im (.bool true) => (f3 ρ q.2).bind fun u => (h u.2 q.1 u.1).bind fun z => some (z, u.2)
  | .im (.bool false) => some (.im (.bool false), q.2)
  | _ => none
def fRepF (f g : FE) : FF := fun ρ s => (f ρ s).bind fun p => (g ρ p.2).bind fun q => match lsV q.2 p.1, q.1 with
  | some l, .im (.int k) => if -(2 ^ 63) ≤ k ∧ k < 2 ^ 63 ∧ l.length * k.toNat ≤ big then some ((List.replicate k.toNat l).flatten, q.2) else none
  | _, _ => none
def fCatF (f g : FE) : FF := fun ρ s => (f ρ s).bind fun p => (g ρ p.2).bind fun q => (lsV q.2 p.1).bind fun a => (lsV q.2 q.1).bind fun b => if a.length + b.length ≤ big then some (a ++ b, q.2) else none
section
variable {X : Cx} {a b c : Expr} {f g h : FE} {pos : Pos}
theorem se_neg (ha : SE X a f) : SE X (.UnaryOp .USub a pos) (fUn gNeg f) := se_un un_neg uo_neg ha
theorem eo_chain {K : PySem.W.Frag} {mg : Str → Option Value} {o o' : Int → Int → Bool} {ta tb tc : TE} (ha : EO K mg ta f) (hb : EO K mg tb g) (hc : EO K mg tc h) :
    EO K mg (tChain (rI0 fun i j => .bl (o i j)) (rI0 fun i j => .bl (o' i j)) ta tb tc) (fChain (gI fun i j => some (.bool (o i j))) (gI fun i j => some (.bool (o' i j))) f g h) := by
  intro w0 w s s' ρ σ l Q F e q
  obtain ⟨⟨x, s1⟩, e1, e⟩ := Option.bind_eq_some_iff.mp e
  obtain ⟨⟨y, s2⟩, e2, e⟩ := Option.bind_eq_some_iff.mp e
  obtain ⟨z, e3, e⟩ := Option.bind_eq_some_iff.mp e
  obtain ⟨i, j, d, hx, hy, e4, rfl⟩ := gI_some e3
  have hx : x = L.im (.int i) := hx
  have hy : y = L.im (.int j) := hy
  subst hx hy
  cases e4
  refine ha w0 w s s1 ρ σ _ _ F e1 fun v w1 st1 F1 r1 => ?_
  refine hb w0 w1 s1 s2 ρ σ _ _ F1 e2 fun u w2 st2 F2 r2 => ?_
  refine ⟨i, j, lv_int (st2.lv' r1), lv_int r2, o i j, rfl, ?_⟩
  cases hb : o i j with
  | true =>
    rw [hb] at e
    obtain ⟨⟨u3, s3⟩, e5, e⟩ := Option.bind_eq_some_iff.mp e
    obtain ⟨z, e6, e⟩ := Option.bind_eq_some_iff.mp e
    cases e
    obtain ⟨j', k, d, hj, hk, e7, rfl⟩ := gI_some e6
    have hk : u3 = L.im (.int k) := hk
    subst hk
    cases hj
    cases e7
    refine iteT (hc w0 w2 s2 _ ρ σ _ _ F2 e5 fun v3 w3 st3 F3 r3 => ?_)
    exact ⟨j, k, lv_int (st3.lv' r2), lv_int r3, q _ w3 ((st1.trans st2).trans st3) F3 (.bl _)⟩
  | false =>
    rw [hb] at e
    cases e
    exact iteF (q _ w2 (st1.trans st2) F2 (.bl _))
theorem se_chainLeLe (ha : SE X a f) (hb : SE X b g) (hc : SE X c h) (hm : lastMarks [.LtE, .LtE] [b, c] = false := by rfl) : SE X (.Compare a [.LtE, .LtE] [b, c] pos) (fChain gLe gLe f g h) := by
  obtain ⟨ta, pa, ea⟩ := ha.ex
  obtain ⟨tb, pb, eb⟩ := hb.ex
  obtain ⟨tc, pc, ec⟩ := hc.ex
  exact ⟨_, pe_chain op_le op_le pa pb pc hm, eo_chain (o := fun i j => decide (i ≤ j)) (o' := fun i j => decide (i ≤ j)) ea eb ec⟩
theorem se_chainLeLt (ha : SE X a f) (hb : SE X b g) (hc : SE X c h) (hm : lastMarks [.LtE, .Lt] [b, c] = false := by rfl) : SE X (.Compare a [.LtE, .Lt] [b, c] pos) (fChain gLe gLt f g h) := by
  obtain ⟨ta, pa, ea⟩ := ha.ex
  obtain ⟨tb, pb, eb⟩ := hb.ex
  obtain ⟨tc, pc, ec⟩ := hc.ex
  exact ⟨_, pe_chain op_le op_lt pa pb pc hm, eo_chain (o := fun i j => decide (i ≤ j)) (o' := fun i j => decide (i < j)) ea eb ec⟩
theorem se_chainLtLt (ha : SE X a f) (hb : SE X b g) (hc : SE X c h) (hm : lastMarks [.Lt, .Lt] [b, c] = false := by rfl) : SE X (.Compare a [.Lt, .Lt] [b, c] pos) (fChain gLt gLt f g h) := by
  obtain ⟨ta, pa, ea⟩ := ha.ex
  obtain ⟨tb, pb, eb⟩ := hb.ex
  obtain ⟨tc, pc, ec⟩ := hc.ex
  exact ⟨_, pe_chain op_lt op_lt pa pb pc hm, eo_chain (o := fun i j => decide (i < j)) (o' := fun i j => decide (i < j)) ea eb ec⟩
theorem se_chainLtLe (ha : SE X a f) (hb : SE X b g) (hc : SE X c h) (hm : lastMarks [.Lt, .LtE] [b, c] = false := by rfl) : SE X (.Compare a [.Lt, .LtE] [b, c] pos) (fChain gLt gLe f g h) := by
  obtain ⟨ta, pa, ea⟩ := ha.ex
  obtain ⟨tb, pb, eb⟩ := hb.ex
  obtain ⟨tc, pc, ec⟩ := hc.ex
  exact ⟨_, pe_chain op_lt op_le pa pb pc hm, eo_chain (o := fun i j => decide (i < j)) (o' := fun i j => decide (i ≤ j)) ea eb ec⟩
theorem sf_rep (ha : SE X a f) (hb : SE X b g) : SF X (.BinOp a .Mult b pos) (fRepF f g) := by
  obtain ⟨ta, pa, ea⟩ := ha.ex
  obtain ⟨tb, pb, eb⟩ := hb.ex
  refine ⟨_, pe_op op_rep pa pb, fun w0 w s s' ρ σ r Q F e q => ?_⟩
  obtain ⟨⟨x, s1⟩, e1, e⟩ := Option.bind_eq_some_iff.mp e
  obtain ⟨⟨y, s2⟩, e2, e⟩ := Option.bind_eq_some_iff.mp e
  refine ea w0 w s s1 ρ σ x _ F e1 fun v w1 st1 F1 r1 => ?_
  refine eb w0 w1 s1 s2 ρ σ y _ F1 e2 fun u w2 st2 F2 r2 => ?_
  dsimp only at e
  split at e
  · rename_i l k hl
    split at e
    · rename_i c
      cases e
      obtain ⟨A, vs, rfl, h1, h2⟩ := lsV_at F2.wk (st2.lv' r1) hl
      refine ⟨A, k, vs, rfl, lv_int r2, h1, c.1, c.2.1, by rw [h2.length]; exact big_line c.2.2, fun p hp => ?_⟩
      obtain ⟨st4, k4, nB, nm⟩ := F2.wk.own (o := .lst (List.replicate k.toNat vs).flatten) hp
      exact q p _ _ ((st1.trans st2).trans st4) (F2.step st4 k4) ((st1.trans st2).lv p hp) nm nB upd_same ((st4.dps h2).rep _)
    · cases e
  · cases e
theorem sf_cat (ha : SE X a f) (hb : SE X b g) : SF X (.BinOp a .Add b pos) (fCatF f g) := by
  obtain ⟨ta, pa, ea⟩ := ha.ex
  obtain ⟨tb, pb, eb⟩ := hb.ex
  refine ⟨_, pe_op op_cat pa pb, fun w0 w s s' ρ σ r Q F e q => ?_⟩
  obtain ⟨⟨x, s1⟩, e1, e⟩ := Option.bind_eq_some_iff.mp e
  obtain ⟨⟨y, s2⟩, e2, e⟩ := Option.bind_eq_some_iff.mp e
  obtain ⟨l1, e3, e⟩ := Option.bind_eq_some_iff.mp e
  obtain ⟨l2, e4, e⟩ := Option.bind_eq_some_iff.mp e
  split at e
  · rename_i c
    cases e
    refine ea w0 w s s1 ρ σ x _ F e1 fun v w1 st1 F1 r1 => ?_
    refine eb w0 w1 s1 _ ρ σ y _ F1 e2 fun u w2 st2 F2 r2 => ?_
    obtain ⟨A, vs, rfl, h1, h2⟩ := lsV_at F2.wk (st2.lv' r1) e3
    obtain ⟨B, us, rfl, h3, h4⟩ := lsV_at F2.wk r2 e4
    refine ⟨A, B, vs, us, rfl, rfl, h1, h3, by rw [h2.length, h4.length]; exact big_line c, fun p hp => ?_⟩
    obtain ⟨st4, k4, nB, nm⟩ := F2.wk.own (o := .lst (vs ++ us)) hp
    exact q p _ _ ((st1.trans st2).trans st4) (F2.step st4 k4) ((st1.trans st2).lv p hp) nm nB upd_same (st4.dps (h2.append h4))
  · cases e
end
section
variable {X : Cx} {a b c : Expr} {f g h : FE} {pos : Pos}
theorem to_test {K : PySem.W.Frag} {mg : Str → Option Value} {t : TE} (h : EO K mg t f) : Zz.TO K mg (tTest t) (fTest f) := by
  intro w0 w s s' ρ σ r Q F e q
  obtain ⟨⟨x, s1⟩, e1, e⟩ := Option.bind_eq_some_iff.mp e
  refine h w0 w s s1 ρ σ x _ F e1 fun v w1 st1 F1 r1 => ?_
  dsimp only at e
  split at e
  · cases e
    exact ⟨_, lv_bl r1, q w1 st1 F1⟩
  · cases e
theorem st_cmp {op : CmpOp} {r : R2} {o : S → L → L → Option L} (ho : OpR X (compareOp op) r) (hr : RO X.K X.mg r o) (ha : SE X a f) (hb : SE X b g) (hm : behindInMarks op b = false) : ST X (.Compare a [op] [b] pos) (fTest (fOp o f g)) := by
  obtain ⟨ta, pa, ea⟩ := ha.ex
  obtain ⟨tb, pb, eb⟩ := hb.ex
  exact ⟨_, pt_cmpR ho pa pb hm, to_test (eo_op ea eb hr)⟩
theorem st_lt (ha : SE X a f) (hb : SE X b g) : ST X (.Compare a [.Lt] [b] pos) (fTest (fOp gLt f g)) := st_cmp op_lt (ro_B0 (h := fun i j => decide (i < j))) ha hb (nomark _)
theorem st_le (ha : SE X a f) (hb : SE X b g) : ST X (.Compare a [.LtE] [b] pos) (fTest (fOp gLe f g)) := st_cmp op_le (ro_B0 (h := fun i j => decide (i ≤ j))) ha hb (nomark _)
theorem st_gt (ha : SE X a f) (hb : SE X b g) : ST X (.Compare a [.Gt] [b] pos) (fTest (fOp gGt f g)) := st_cmp op_gt (ro_B0 (h := fun i j => decide (j < i))) ha hb (nomark _)
theorem st_ge (ha : SE X a f) (hb : SE X b g) : ST X (.Compare a [.GtE] [b] pos) (fTest (fOp gGe f g)) := st_cmp op_ge (ro_B0 (h := fun i j => decide (j ≤ i))) ha hb (nomark _)
theorem st_eq {k : Nat} (hr : Room k X.A) (ha : SE X a f) (hb : SE X b g) : ST X (.Compare a [.Eq] [b] pos) (fTest (fOp gEq f g)) := st_cmp (op_eq.or (op_eqD hr.units)) (ro_eqS.or ro_eqD) ha hb (nomark _)
theorem st_ne {k : Nat} (hr : Room k X.A) (ha : SE X a f) (hb : SE X b g) : ST X (.Compare a [.NotEq] [b] pos) (fTest (fOp gNe f g)) := st_cmp (op_ne.or (op_neD hr.units)) (ro_neS.or ro_neD) ha hb (nomark _)
theorem st_is (ha : SE X a f) (hb : SE X b g) : ST X (.Compare a [.Is] [b] pos) (fTest (fOp gIs f g)) := st_cmp (op_isN.or op_isBl) (ro_isN.or ro_isB) ha hb (nomark _)
theorem st_isnot (ha : SE X a f) (hb : SE X b g) : ST X (.Compare a [.IsNot] [b] pos) (fTest (fOp gNotIs f g)) := st_cmp (op_notN.or op_notBl) (ro_notN.or ro_notB) ha hb (nomark _)
theorem st_in {k : Nat} (hr : Room k X.A) (ha : SE X a f) (hb : SE X b g) (hm : behindInMarks .In b = false := by rfl) : ST X (.Compare a [.In] [b] pos) (fTest (fOp (gIn false) f g)) := st_cmp (op_in_seq.or (op_inD (room65 hr))) ((ro_inF false).or ro_inD) ha hb hm
theorem st_notin {k : Nat} (hr : Room k X.A) (ha : SE X a f) (hb : SE X b g) (hm : behindInMarks .NotIn b = false := by rfl) : ST X (.Compare a [.NotIn] [b] pos) (fTest (fOp (gIn true) f g)) := st_cmp (op_notIn_seq.or (op_notInD (room65 hr))) ((ro_inF true).or ro_notInD) ha hb hm
theorem st_chain2 {op op' : CmpOp} {o o' : Int → Int → Bool} (ho : OpR X (compareOp op) (rI0 fun i j => .bl (o i j))) (ho' : OpR X (compareOp op') (rI0 fun i j => .bl (o' i j))) (ha : SE X a f) (hb : SE X b g) (hc : SE X c h) (hm : lastMarks [op, op'] [b, c] = false) :
    ST X (.Compare a [op, op'] [b, c] pos) (fTest (fChain (gI fun i j => some (.bool (o i j))) (gI fun i j => some (.bool (o' i j))) f g h)) := by
  obtain ⟨ta, pa, ea⟩ := ha.ex
  obtain ⟨tb, pb, eb⟩ := hb.ex
  obtain ⟨tc, pc, ec⟩ := hc.ex
  exact ⟨_, pt_chain ho ho' pa pb pc hm, to_test (eo_chain ea eb ec)⟩
theorem st_chainLeLe (ha : SE X a f) (hb : SE X b g) (hc : SE X c h) (hm : lastMarks [.LtE, .LtE] [b, c] = false := by rfl) : ST X (.Compare a [.LtE, .LtE] [b, c] pos) (fTest (fChain gLe gLe f g h)) := st_chain2 (o := fun i j => decide (i ≤ j)) (o' := fun i j => decide (i ≤ j)) op_le op_le ha hb hc hm
theorem st_chainLeLt (ha : SE X a f) (hb : SE X b g) (hc : SE X c h) (hm : lastMarks [.LtE, .Lt] [b, c] = false := by rfl) : ST X (.Compare a [.LtE, .Lt] [b, c] pos) (fTest (fChain gLe gLt f g h)) := st_chain2 (o := fun i j => decide (i ≤ j)) (o' := fun i j => decide (i < j)) op_le op_lt ha hb hc hm
theorem st_chainLtLe (ha : SE X a f) (hb : SE X b g) (hc : SE X c h) (hm : lastMarks [.Lt, .LtE] [b, c] = false := by rfl) : ST X (.Compare a [.Lt, .LtE] [b, c] pos) (fTest (fChain gLt gLe f g h)) := st_chain2 (o := fun i j => decide (i < j)) (o' := fun i j => decide (i ≤ j)) op_lt op_le ha hb hc hm
theorem st_chainLtLt (ha : SE X a f) (hb : SE X b g) (hc : SE X c h) (hm : lastMarks [.Lt, .Lt] [b, c] = false := by rfl) : ST X (.Compare a [.Lt, .Lt] [b, c] pos) (fTest (fChain gLt gLt f g h)) := st_chain2 (o := fun i j => decide (i < j)) (o' := fun i j => decide (i < j)) op_lt op_lt ha hb hc hm
end
end Zz
set_option Elab.async false
set_option linter.all false
/-! ZL: how the functions reckon: equations for simp, no continuation opened before it is reached -/
namespace Zz
open PySem PyProof.Rows L2
/-! values -/
def kVar (s : S) : Option Slot → Option (L × S)
  | some (.im d) => some (.im d, s)
  | some (.rf n) => some (.rf n, s)
  | some (.ol l) => some (.ow l, s)
  | some (.sc l) => some (.sc l, s)
  | _ => none
theorem e_var {i ρ s} : fVar i ρ s = kVar s ρ[i]? := by
  unfold fVar kVar
  cases ρ[i]? with
  | none => rfl
  | some z => cases z <;> rfl
theorem k_var_im {s d} : kVar s (some (.im d)) = some (.im d, s) := rfl
theorem k_var_rf {s d} : kVar s (some (.rf d)) = some (.rf d, s) := rfl
theorem k_var_ol {s d} : kVar s (some (.ol d)) = some (.ow d, s) := rfl
theorem k_var_sc {s d} : kVar s (some (.sc d)) = some (.sc d, s) := rfl
theorem e_c {d ρ s} : fC d ρ s = some (.im d, s) := rfl
def kRes (s : S) : Option L → Option (L × S)
  | some r => some (r, s)
  | none => none
def kOp2 (o : S → L → L → Option L) (x : L) : Option (L × S) → Option (L × S)
  | some (y, s) => kRes s (o s x y)
  | none => none
def kOp1 (o : S → L → L → Option L) (g : FE) (ρ : Ro) : Option (L × S) → Option (L × S)
  | some (x, s) => kOp2 o x (g ρ s)
  | none => none
theorem k_res {s r} : kRes s (some r) = some (r, s) := rfl
theorem e_op {o f g ρ s} : fOp o f g ρ s = kOp1 o g ρ (f ρ s) := by
  unfold fOp kOp1
  cases f ρ s with
  | none => rfl
  | some p =>
    obtain ⟨x, s1⟩ := p
    simp only [Option.bind_some, kOp2]
    cases g ρ s1 with
    | none => rfl
    | some q => obtain ⟨y, s2⟩ := q; simp only [Option.bind_some]; cases o s2 x y <;> rfl
theorem k_op1 {o g ρ x s} : kOp1 o g ρ (some (x, s)) = kOp2 o x (g ρ s) := rfl
theorem k_op2 {o x y s} : kOp2 o x (some (y, s)) = kRes s (o s x y) := rfl
def kUn (o : S → L → Option L) : Option (L × S) → Option (L × S)
  | some (x, s) => kRes s (o s x)
  | none => none
theorem e_un {o f ρ s} : fUn o f ρ s = kUn o (f ρ s) := by
  unfold fUn kUn
  cases f ρ s with
  | none => rfl
  | some p => obtain ⟨x, s1⟩ := p; simp only [Option.bind_some]; cases o s1 x <;> rfl
theorem k_un {o x s} : kUn o (some (x, s)) = kRes s (o s x) := rfl
/-! tests -/
def kTest : Option (L × S) → Option (Bool × S)
  | some (.im (.bool b), s) => some (b, s)
  | _ => none
theorem e_test {f ρ s} : fTest f ρ s = kTest (f ρ s) := by
  unfold fTest kTest
  cases f ρ s with
  | none => rfl
  | some p =>
    obtain ⟨x, s1⟩ := p
    simp only [Option.bind_some]
    cases x with
    | im d => cases d <;> rfl
    | _ => rfl
theorem k_test {b s} : kTest (some (.im (.bool b), s)) = some (b, s) := rfl
def kTru : Option (L × S) → Option (Bool × S)
  | some (x, s) => match trL s x with
    | some b => some (b, s)
    | none => none
  | none => none
theorem e_tru {f ρ s} : fTru f ρ s = kTru (f ρ s) := by
  unfold fTru kTru
  cases f ρ s with
  | none => rfl
  | some p => obtain ⟨x, s1⟩ := p; simp only [Option.bind_some]; cases trL s1 x <;> rfl
theorem k_tru_b {b s} : kTru (some (.im (.bool b), s)) = some (b, s) := rfl
theorem k_tru {x s} : kTru (some (x, s)) = match trL s x with | some b => some (b, s) | none => none := rfl
def kAnd (g : FT) (ρ : Ro) : Option (Bool × S) → Option (Bool × S)
  | some (b, s) => if b = true then g ρ s else some (false, s)
  | none => none
def kOr (g : FT) (ρ : Ro) : Option (Bool × S) → Option (Bool × S)
  | some (b, s) => if b = true then some (true, s) else g ρ s
  | none => none
def kNot : Option (Bool × S) → Option (Bool × S)
  | some (b, s) => some (!b, s)
  | none => none
theorem e_and {f g ρ s} : fAndT f g ρ s = kAnd g ρ (f ρ s) := by unfold fAndT kAnd; cases f ρ s <;> rfl
theorem e_or {f g ρ s} : fOrT f g ρ s = kOr g ρ (f ρ s) := by unfold fOrT kOr; cases f ρ s <;> rfl
theorem e_not {f ρ s} : fNotT f ρ s = kNot (f ρ s) := by unfold fNotT kNot; cases f ρ s <;> rfl
theorem k_and {g ρ b s} : kAnd g ρ (some (b, s)) = if b = true then g ρ s else some (false, s) := rfl
theorem k_or {g ρ b s} : kOr g ρ (some (b, s)) = if b = true then some (true, s) else g ρ s := rfl
theorem k_not {b s} : kNot (some (b, s)) = some (!b, s) := rfl
def kBool : Option (Bool × S) → Option (L × S)
  | some (b, s) => some (.im (.bool b), s)
  | none => none
theorem e_bool {f ρ s} : fBool f ρ s = kBool (f ρ s) := by unfold fBool kBool; cases f ρ s <;> rfl
theorem k_bool {b s} : kBool (some (b, s)) = some (.im (.bool b), s) := rfl
def kIf (f g : FE) (ρ : Ro) : Option (Bool × S) → Option (L × S)
  | some (b, s) => if b = true then f ρ s else g ρ s
  | none => none
theorem e_if {t f g ρ s} : fIf t f g ρ s = kIf f g ρ (t ρ s) := by unfold fIf kIf; cases t ρ s <;> rfl
theorem k_if {f g ρ b s} : kIf f g ρ (some (b, s)) = if b = true then f ρ s else g ρ s := rfl
/-! arguments -/
def kCons2 (x : L) : Option (List L × S) → Option (List L × S)
  | some (y, s) => some (x :: y, s)
  | none => none
def kCons1 (g : FA) (ρ : Ro) : Option (L × S) → Option (List L × S)
  | some (x, s) => kCons2 x (g ρ s)
  | none => none
theorem e_nil {ρ s} : fNil ρ s = some ([], s) := rfl
theorem e_cons {f g ρ s} : fCons f g ρ s = kCons1 g ρ (f ρ s) := by
  unfold fCons kCons1
  cases f ρ s with
  | none => rfl
  | some p => obtain ⟨x, s1⟩ := p; simp only [Option.bind_some, kCons2]; cases g ρ s1 <;> rfl
theorem k_cons1 {g ρ x s} : kCons1 g ρ (some (x, s)) = kCons2 x (g ρ s) := rfl
theorem k_cons2 {x y s} : kCons2 x (some (y, s)) = some (x :: y, s) := rfl
def kTup : Option (List L × S) → Option (L × S)
  | some (y, s) => match imAll y with
    | some l => if l.length ≤ big then some (.im (.tuple l), s) else none
    | none => none
  | none => none
def kLst : Option (List L × S) → Option (List D × S)
  | some (y, s) => match imAll y with
    | some l => if l.length ≤ big then some (l, s) else none
    | none => none
  | none => none
theorem e_tup {g ρ s} : fTup g ρ s = kTup (g ρ s) := by
  unfold fTup kTup
  cases g ρ s with
  | none => rfl
  | some p => obtain ⟨x, s1⟩ := p; simp only [Option.bind_some]; cases imAll x <;> rfl
theorem e_lst {g ρ s} : fLst g ρ s = kLst (g ρ s) := by
  unfold fLst kLst
  cases g ρ s with
  | none => rfl
  | some p => obtain ⟨x, s1⟩ := p; simp only [Option.bind_some]; cases imAll x <;> rfl
theorem k_tup {y s l} (h : imAll y = some l) (hl : l.length ≤ big) : kTup (some (y, s)) = some (.im (.tuple l), s) := by
  unfold kTup; simp only [h, hl, if_true]
theorem k_lst {y s l} (h : imAll y = some l) (hl : l.length ≤ big) : kLst (some (y, s)) = some (l, s) := by
  unfold kLst; simp only [h, hl, if_true]
theorem k_tup1 {a s} : kTup (some ([.im a], s)) = some (.im (.tuple [a]), s) := k_tup rfl (by show 1 ≤ 16777216; decide)
theorem k_tup2 {a b s} : kTup (some ([.im a, .im b], s)) = some (.im (.tuple [a, b]), s) := k_tup rfl (by show 2 ≤ 16777216; decide)
theorem k_tup3 {a b c s} : kTup (some ([.im a, .im b, .im c], s)) = some (.im (.tuple [a, b, c]), s) := k_tup rfl (by show 3 ≤ 16777216; decide)
theorem k_tup0 {s} : kTup (some ([], s)) = some (.im (.tuple []), s) := k_tup rfl (by decide)
theorem k_lst0 {s} : kLst (some ([], s)) = some ([], s) := k_lst rfl (by decide)
theorem k_lst1 {a s} : kLst (some ([.im a], s)) = some ([a], s) := k_lst rfl (by show 1 ≤ 16777216; decide)
theorem k_lst2 {a b s} : kLst (some ([.im a, .im b], s)) = some ([a, b], s) := k_lst rfl (by show 2 ≤ 16777216; decide)
theorem k_lst3 {a b c s} : kLst (some ([.im a, .im b, .im c], s)) = some ([a, b, c], s) := k_lst rfl (by show 3 ≤ 16777216; decide)
theorem k_lst4 {a b c d s} : kLst (some ([.im a, .im b, .im c, .im d], s)) = some ([a, b, c, d], s) := k_lst rfl (by show 4 ≤ 16777216; decide)
theorem k_lst5 {a b c d e s} : kLst (some ([.im a, .im b, .im c, .im d, .im e], s)) = some ([a, b, c, d, e], s) := k_lst rfl (by show 5 ≤ 16777216; decide)
theorem k_lst6 {a b c d e f s} : kLst (some ([.im a, .im b, .im c, .im d, .im e, .im f], s)) = some ([a, b, c, d, e, f], s) := k_lst rfl (by show 6 ≤ 16777216; decide)
def kFrz : Option (List D × S) → Option (L × S)
  | some (l, s) => some (.im (.list l), s)
  | none => none
theorem e_frz {f ρ s} : fFrz f ρ s = kFrz (f ρ s) := by unfold fFrz kFrz; cases f ρ s <;> rfl
theorem k_frz {l s} : kFrz (some (l, s)) = some (.im (.list l), s) := rfl
def kNewD : Option (List D × S) → Option (L × S)
  | some (l, s) => some (.rf s.length, s ++ [.dl l])
  | none => none
theorem e_newD {f ρ s} : fNewD f ρ s = kNewD (f ρ s) := by unfold fNewD kNewD; cases f ρ s <;> rfl
theorem k_newD {l s} : kNewD (some (l, s)) = some (.rf s.length, s ++ [.dl l]) := rfl
def kNewR : Option (List L × S) → Option (L × S)
  | some (l, s) => if l.all keepable = true ∧ l.length ≤ big then some (.rf s.length, s ++ [.rl l]) else none
  | none => none
theorem e_newR {f ρ s} : fNewR f ρ s = kNewR (f ρ s) := by unfold fNewR kNewR; cases f ρ s <;> rfl
theorem k_newR {l s} (h : l.all keepable = true) (h2 : l.length ≤ big) : kNewR (some (l, s)) = some (.rf s.length, s ++ [.rl l]) := if_pos ⟨h, h2⟩
/-! calls -/
def kCall (o : S → List L → Option L) : Option (List L × S) → Option (L × S)
  | some (x, s) => kRes s (o s x)
  | none => none
theorem e_call {o g ρ s} : fCall o g ρ s = kCall o (g ρ s) := by
  unfold fCall kCall
  cases g ρ s with
  | none => rfl
  | some p => obtain ⟨x, s1⟩ := p; simp only [Option.bind_some]; cases o s1 x <;> rfl
theorem k_call {o x s} : kCall o (some (x, s)) = kRes s (o s x) := rfl
def kCallF (o : S → List L → Option (List D)) : Option (List L × S) → Option (List D × S)
  | some (x, s) => match o s x with
    | some r => some (r, s)
    | none => none
  | none => none
theorem e_callF {o g ρ s} : fCallF o g ρ s = kCallF o (g ρ s) := by
  unfold fCallF kCallF
  cases g ρ s with
  | none => rfl
  | some p => obtain ⟨x, s1⟩ := p; simp only [Option.bind_some]; cases o s1 x <;> rfl
theorem k_callF {o x s} : kCallF o (some (x, s)) = match o s x with | some r => some (r, s) | none => none := rfl
def kKeep : Option (L × S) → Option (L × S)
  | some r => if keepable r.1 = true then some r else none
  | none => none
theorem k_keep_im {d s} : kKeep (some (.im d, s)) = some (.im d, s) := rfl
theorem k_keep_rf {d s} : kKeep (some (.rf d, s)) = some (.rf d, s) := rfl
def kCallG (n : Nat) (F : List L → S → Option (L × S)) : Option (List L × S) → Option (L × S)
  | some (x, s) => if x.all keepable = true ∧ x.length = n then kKeep (F x s) else none
  | none => none
theorem e_callG {n F g ρ s} : fCallG n F g ρ s = kCallG n F (g ρ s) := by
  unfold fCallG kCallG
  cases g ρ s with
  | none => rfl
  | some p => obtain ⟨x, s1⟩ := p; simp only [Option.bind_some]; cases F x s1 <;> rfl
theorem k_callG {n F x s} (h : x.all keepable = true) (h2 : x.length = n) : kCallG n F (some (x, s)) = kKeep (F x s) := if_pos ⟨h, h2⟩
theorem k_callG1 {F a s} : kCallG 1 F (some ([.rf a], s)) = kKeep (F [.rf a] s) := k_callG rfl rfl
theorem k_callG2 {F a d s} : kCallG 2 F (some ([.rf a, .im d], s)) = kKeep (F [.rf a, .im d] s) := k_callG rfl rfl
theorem k_callG3 {F a d e s} : kCallG 3 F (some ([.rf a, .im d, .im e], s)) = kKeep (F [.rf a, .im d, .im e] s) := k_callG rfl rfl
theorem k_callG4 {F a d e e' s} : kCallG 4 F (some ([.rf a, .im d, .im e, .im e'], s)) = kKeep (F [.rf a, .im d, .im e, .im e'] s) := k_callG rfl rfl
def kResD (s : S) : Option D → Option (L × S)
  | some d => some (.im d, s)
  | none => none
theorem k_resD {s d} : kResD s (some d) = some (.im d, s) := rfl
def kCallP (n : Nat) (F : List D → Option D) : Option (List L × S) → Option (L × S)
  | some (x, s) => match imAll x with
    | some ds => if ds.length = n then kResD s (F ds) else none
    | none => match vwAll s x with
      | some ds => if ds.length = n then match F ds with
        | some d => if flatD d = true then some (.im d, s) else none
        | none => none
      else none
      | none => none
  | none => none
theorem e_callP {n F g ρ s} : fCallP n F g ρ s = kCallP n F (g ρ s) := by
  unfold fCallP kCallP
  cases g ρ s with
  | none => rfl
  | some p =>
    obtain ⟨x, s1⟩ := p
    simp only [Option.bind_some]
    cases imAll x with
    | some ds => simp only; split <;> rename_i h <;> first | (cases F ds <;> rfl) | rfl
    | none =>
      simp only
      cases vwAll s1 x with
      | none => rfl
      | some ds => simp only [Option.bind_some]; split <;> first | (cases F ds <;> rfl) | rfl
theorem k_callP {n F x s ds} (h : imAll x = some ds) (h2 : ds.length = n) : kCallP n F (some (x, s)) = kResD s (F ds) := by
  unfold kCallP; simp only [h, h2, if_true]
theorem k_callP1 {F a s} : kCallP 1 F (some ([.im a], s)) = kResD s (F [a]) := k_callP rfl rfl
theorem k_callP2 {F a b s} : kCallP 2 F (some ([.im a, .im b], s)) = kResD s (F [a, b]) := k_callP rfl rfl
theorem k_callP3 {F a b c s} : kCallP 3 F (some ([.im a, .im b, .im c], s)) = kResD s (F [a, b, c]) := k_callP rfl rfl
theorem k_callP4 {F a b c d s} : kCallP 4 F (some ([.im a, .im b, .im c, .im d], s)) = kResD s (F [a, b, c, d]) := k_callP rfl rfl
theorem k_callPv {n F x s ds d} (h0 : imAll x = none) (h : vwAll s x = some ds) (h2 : ds.length = n) (h3 : F ds = some d) (h4 : flatD d = true) : kCallP n F (some (x, s)) = some (.im d, s) := by
  unfold kCallP; simp only [h0, h, h2, h3, h4, if_true]
def kMeth2 (n : Nat) (F : List L → S → Option (L × S)) (i : Nat) : Option (List L × S) → Option (L × S)
  | some (x, s) => if x.all keepable = true ∧ x.length + 1 = n then kKeep (F (.rf i :: x) s) else none
  | none => none
def kMeth1 (c m : Str) (n : Nat) (F : List L → S → Option (L × S)) (g : FA) (ρ : Ro) : Option (L × S) → Option (L × S)
  | some (.rf i, s) => match s[i]? with
    | some (.ins c' fs) => if c' = c ∧ (lkp m fs).isNone = true then kMeth2 n F i (g ρ s) else none
    | _ => none
  | _ => none
theorem e_meth {c m n F h g ρ s} : fMethG c m n F h g ρ s = kMeth1 c m n F g ρ (h ρ s) := by
  unfold fMethG kMeth1
  cases h ρ s with
  | none => rfl
  | some p =>
    obtain ⟨x, s1⟩ := p
    simp only [Option.bind_some]
    cases x with
    | rf i =>
      simp only
      cases s1[i]? with
      | none => rfl
      | some o =>
        cases o with
        | ins c' fs =>
          simp only
          split
          · cases g ρ s1 with
            | none => rfl
            | some q => obtain ⟨y, s2⟩ := q; simp only [Option.bind_some, kMeth2]; cases F (.rf i :: y) s2 <;> rfl
          · rfl
        | _ => rfl
    | _ => rfl
theorem k_meth1 {c m n F g ρ i s fs} (h : s[i]? = some (.ins c fs)) (h2 : (lkp m fs).isNone = true) : kMeth1 c m n F g ρ (some (.rf i, s)) = kMeth2 n F i (g ρ s) := by
  unfold kMeth1; simp only [h, h2, and_self, if_true]
theorem k_meth2 {n F i x s} (h : x.all keepable = true) (h2 : x.length + 1 = n) : kMeth2 n F i (some (x, s)) = kKeep (F (.rf i :: x) s) := if_pos ⟨h, h2⟩
def kMade (n : Nat) : Option (L × S) → Option (L × S)
  | some (.im .none, s) => some (.rf n, s)
  | _ => none
def kMake (c : Str) (n : Nat) (F : List L → S → Option (L × S)) : Option (List L × S) → Option (L × S)
  | some (x, s) => if x.all keepable = true ∧ x.length + 1 = n then kMade s.length (F (.rf s.length :: x) (s ++ [.ins c []])) else none
  | none => none
theorem e_make {c n F g ρ s} : fMake c n F g ρ s = kMake c n F (g ρ s) := by
  unfold fMake kMake
  cases g ρ s with
  | none => rfl
  | some p =>
    obtain ⟨x, s1⟩ := p
    simp only [Option.bind_some]
    split
    · cases F (.rf s1.length :: x) (s1 ++ [.ins c []]) with
      | none => rfl
      | some q =>
        obtain ⟨y, s2⟩ := q
        cases y with
        | im d => cases d <;> rfl
        | _ => rfl
    · rfl
theorem k_make {c n F x s} (h : x.all keepable = true) (h2 : x.length + 1 = n) : kMake c n F (some (x, s)) = kMade s.length (F (.rf s.length :: x) (s ++ [.ins c []])) := if_pos ⟨h, h2⟩
theorem k_made {n s} : kMade n (some (.im .none, s)) = some (.rf n, s) := rfl
theorem k_m0 {F i s} : kMeth2 1 F i (some ([], s)) = kKeep (F [.rf i] s) := k_meth2 rfl rfl
theorem k_m1 {F i s a} : kMeth2 2 F i (some ([.im a], s)) = kKeep (F [.rf i, .im a] s) := k_meth2 rfl rfl
theorem k_m2 {F i s a b} : kMeth2 3 F i (some ([.im a, .im b], s)) = kKeep (F [.rf i, .im a, .im b] s) := k_meth2 rfl rfl
theorem k_m3 {F i s a b c} : kMeth2 4 F i (some ([.im a, .im b, .im c], s)) = kKeep (F [.rf i, .im a, .im b, .im c] s) := k_meth2 rfl rfl
theorem k_mk1 {c F s a} : kMake c 2 F (some ([.im a], s)) = kMade s.length (F [.rf s.length, .im a] (s ++ [.ins c []])) := k_make rfl rfl
theorem k_mk2 {c F s a b} : kMake c 3 F (some ([.im a, .im b], s)) = kMade s.length (F [.rf s.length, .im a, .im b] (s ++ [.ins c []])) := k_make rfl rfl
theorem k_meth1n {c c' m n F g ρ i s fs} (h : s[i]? = some (.ins c' fs)) (h2 : ¬ c' = c) : kMeth1 c m n F g ρ (some (.rf i, s)) = none := by
  unfold kMeth1; simp only [h, h2, false_and, if_false]
def kOr2 (g : FE) (ρ : Ro) (s : S) : Option (L × S) → Option (L × S)
  | some r => some r
  | none => g ρ s
theorem e_or2 {f g ρ s} : fOr f g ρ s = kOr2 g ρ s (f ρ s) := by unfold fOr kOr2; cases f ρ s <;> rfl
theorem k_or2 {g ρ s r} : kOr2 g ρ s (some r) = some r := rfl
theorem k_or2n {g ρ s} : kOr2 g ρ s none = g ρ s := rfl
/-! attributes -/
def kFld (c f : Str) : Option (L × S) → Option (L × S)
  | some (.rf n, s) => match s[n]? with
    | some (.ins c' fs) => if c' = c then match lkp f fs with
      | some l => if keepable l = true then some (l, s) else none
      | none => none
    else none
    | _ => none
  | _ => none
theorem e_fld {c f h ρ s} : fFld c f h ρ s = kFld c f (h ρ s) := by
  unfold fFld kFld
  cases h ρ s with
  | none => rfl
  | some p =>
    obtain ⟨x, s1⟩ := p
    simp only [Option.bind_some]
    cases x with
    | rf i =>
      simp only
      cases s1[i]? with
      | none => rfl
      | some o =>
        cases o with
        | ins c' fs => simp only; split <;> first | (cases lkp f fs <;> rfl) | rfl
        | _ => rfl
    | _ => rfl
theorem k_fld {c f n s fs l} (h : s[n]? = some (.ins c fs)) (h2 : lkp f fs = some l) (h3 : keepable l = true) : kFld c f (some (.rf n, s)) = some (l, s) := by
  unfold kFld; simp only [h, h2, h3, if_true]
def kStS (ρ : Ro) : Option S → Option (Fl × Ro × S)
  | some s => some (.nx, ρ, s)
  | none => none
theorem k_stS {ρ s} : kStS ρ (some s) = some (.nx, ρ, s) := rfl
def kSetF2 (c fn : Str) (x : L) (ρ : Ro) : Option (L × S) → Option (Fl × Ro × S)
  | some (.rf n, s) => kStS ρ (fldS s n c fn x)
  | _ => none
def kSetF1 (c fn : Str) (o : FE) (ρ : Ro) : Option (L × S) → Option (Fl × Ro × S)
  | some (x, s) => kSetF2 c fn x ρ (o ρ s)
  | none => none
theorem e_setF {c fn o f ρ s} : fSetF c fn o f ρ s = kSetF1 c fn o ρ (f ρ s) := by
  unfold fSetF kSetF1
  cases f ρ s with
  | none => rfl
  | some p =>
    obtain ⟨x, s1⟩ := p
    simp only [Option.bind_some]
    cases o ρ s1 with
    | none => rfl
    | some q =>
      obtain ⟨y, s2⟩ := q
      cases y with
      | rf n => simp only [Option.bind_some, kSetF2]; cases fldS s2 n c fn x <;> rfl
      | _ => rfl
theorem k_setF1 {c fn o ρ x s} : kSetF1 c fn o ρ (some (x, s)) = kSetF2 c fn x ρ (o ρ s) := rfl
theorem k_setF2 {c fn x ρ n s} : kSetF2 c fn x ρ (some (.rf n, s)) = kStS ρ (fldS s n c fn x) := rfl
theorem fldS_of {s n c f x fs} (h : s[n]? = some (.ins c fs)) (h2 : fs.length < 1000) (h3 : keepable x = true) : fldS s n c f x = some (s.set n (.ins c (putA f x fs))) := by
  unfold fldS; simp only [h, h2, h3, and_self, if_true]
/-! statements -/
def kSeq (g : FS) : Option (Fl × Ro × S) → Option (Fl × Ro × S)
  | some (.nx, ρ, s) => g ρ s
  | some r => some r
  | none => none
theorem e_seq {f g ρ s} : fSeq f g ρ s = kSeq g (f ρ s) := by
  unfold fSeq kSeq
  cases f ρ s with
  | none => rfl
  | some r => obtain ⟨a, b⟩ := r; cases a <;> rfl
theorem k_seq {g ρ s} : kSeq g (some (.nx, ρ, s)) = g ρ s := rfl
theorem k_seq_rt {g ρ s l} : kSeq g (some (.rt l, ρ, s)) = some (.rt l, ρ, s) := rfl
theorem k_seq_bk {g ρ s} : kSeq g (some (.bk, ρ, s)) = some (.bk, ρ, s) := rfl
theorem k_seq_ct {g ρ s} : kSeq g (some (.ct, ρ, s)) = some (.ct, ρ, s) := rfl
theorem e_next {ρ s} : fNext ρ s = some (.nx, ρ, s) := rfl
def kAsg (i : Nat) (ρ : Ro) : Option (L × S) → Option (Fl × Ro × S)
  | some (.im d, s) => some (.nx, ρ.set i (.im d), s)
  | some (.rf d, s) => some (.nx, ρ.set i (.rf d), s)
  | some (.sc d, s) => some (.nx, ρ.set i (.sc d), s)
  | _ => none
theorem e_asg {i f ρ s} : fAsg i f ρ s = kAsg i ρ (f ρ s) := by
  unfold fAsg kAsg
  cases f ρ s with
  | none => rfl
  | some p => obtain ⟨x, s1⟩ := p; cases x <;> rfl
theorem k_asg_im {i ρ d s} : kAsg i ρ (some (.im d, s)) = some (.nx, ρ.set i (.im d), s) := rfl
theorem k_asg_rf {i ρ d s} : kAsg i ρ (some (.rf d, s)) = some (.nx, ρ.set i (.rf d), s) := rfl
def kOwn (i : Nat) (ρ : Ro) : Option (List D × S) → Option (Fl × Ro × S)
  | some (l, s) => some (.nx, ρ.set i (.ol l), s)
  | none => none
theorem e_own {i f ρ s} : fOwn i f ρ s = kOwn i ρ (f ρ s) := by unfold fOwn kOwn; cases f ρ s <;> rfl
theorem k_own {i ρ l s} : kOwn i ρ (some (l, s)) = some (.nx, ρ.set i (.ol l), s) := rfl
def kDrop (ρ : Ro) : Option (L × S) → Option (Fl × Ro × S)
  | some (_, s) => some (.nx, ρ, s)
  | none => none
theorem e_drop {f ρ s} : fDrop f ρ s = kDrop ρ (f ρ s) := by unfold fDrop kDrop; cases f ρ s <;> rfl
theorem k_drop {ρ x s} : kDrop ρ (some (x, s)) = some (.nx, ρ, s) := rfl
def kRet (ρ : Ro) : Option (L × S) → Option (Fl × Ro × S)
  | some (x, s) => if keepable x = true then some (.rt x, ρ, s) else none
  | none => none
theorem e_ret {f ρ s} : fRet f ρ s = kRet ρ (f ρ s) := by unfold fRet kRet; cases f ρ s <;> rfl
theorem k_ret_im {ρ d s} : kRet ρ (some (.im d, s)) = some (.rt (.im d), ρ, s) := rfl
theorem k_ret_rf {ρ d s} : kRet ρ (some (.rf d, s)) = some (.rt (.rf d), ρ, s) := rfl
def kRetV (ρ : Ro) (s : S) : Option Slot → Option (Fl × Ro × S)
  | some (.ol l) => some (.rt (.im (.list l)), ρ, s)
  | _ => none
theorem e_retV {i ρ s} : fRetV i ρ s = kRetV ρ s ρ[i]? := by
  unfold fRetV kRetV
  cases ρ[i]? with
  | none => rfl
  | some z => cases z <;> rfl
theorem k_retV {ρ s l} : kRetV ρ s (some (.ol l)) = some (.rt (.im (.list l)), ρ, s) := rfl
def kIfS (f g : FS) (ρ : Ro) : Option (Bool × S) → Option (Fl × Ro × S)
  | some (b, s) => if b = true then f ρ s else g ρ s
  | none => none
theorem e_ifS {t f g ρ s} : fIfS t f g ρ s = kIfS f g ρ (t ρ s) := by unfold fIfS kIfS; cases t ρ s <;> rfl
theorem k_ifS {f g ρ b s} : kIfS f g ρ (some (b, s)) = if b = true then f ρ s else g ρ s := rfl
def kAppO2 (i : Nat) (ρ : Ro) (s : S) (d : D) : Option Slot → Option (Fl × Ro × S)
  | some (.ol l) => if l.length < big then some (.nx, ρ.set i (.ol (l ++ [d])), s) else none
  | _ => none
def kAppO (i : Nat) (ρ : Ro) : Option (L × S) → Option (Fl × Ro × S)
  | some (.im d, s) => kAppO2 i ρ s d ρ[i]?
  | _ => none
theorem e_appO {i f ρ s} : fAppO i f ρ s = kAppO i ρ (f ρ s) := by
  unfold fAppO kAppO
  cases f ρ s with
  | none => rfl
  | some p =>
    obtain ⟨x, s1⟩ := p
    simp only [Option.bind_some]
    cases x with
    | im d =>
      simp only [kAppO2]
      cases ρ[i]? with
      | none => rfl
      | some z => cases z <;> rfl
    | _ =>
      cases ρ[i]? with
      | none => rfl
      | some z => cases z <;> rfl
theorem k_appO {i ρ d s} : kAppO i ρ (some (.im d, s)) = kAppO2 i ρ s d ρ[i]? := rfl
theorem k_appO2 {i ρ d s l} (h : l.length < big) : kAppO2 i ρ s d (some (.ol l)) = some (.nx, ρ.set i (.ol (l ++ [d])), s) := if_pos h
/-! the store's lists -/
def kApp2 (n : Nat) : Option (L × S) → Option (L × S)
  | some (x, s) => match pushS s n x with
    | some s3 => some (.im .none, s3)
    | none => none
  | none => none
def kApp1 (f : FE) (ρ : Ro) : Option (L × S) → Option (L × S)
  | some (.rf n, s) => if isLst s n = true then kApp2 n (f ρ s) else none
  | _ => none
theorem e_app {o f ρ s} : fApp o f ρ s = kApp1 f ρ (o ρ s) := by
  unfold fApp kApp1
  cases o ρ s with
  | none => rfl
  | some p =>
    obtain ⟨x, s1⟩ := p
    simp only [Option.bind_some]
    cases x with
    | rf n =>
      simp only
      split
      · cases f ρ s1 with
        | none => rfl
        | some q => obtain ⟨y, s2⟩ := q; simp only [Option.bind_some, kApp2]; cases pushS s2 n y <;> rfl
      · rfl
    | _ => rfl
theorem k_app1 {f ρ n s} (h : isLst s n = true) : kApp1 f ρ (some (.rf n, s)) = kApp2 n (f ρ s) := if_pos h
theorem k_app2 {n x s s3} (h : pushS s n x = some s3) : kApp2 n (some (x, s)) = some (.im .none, s3) := by unfold kApp2; simp only [h]
def kPop2 (n : Nat) : Option (L × S) → Option (L × S)
  | some (.im (.int i), s) => if small63 i = true then popS s n i else none
  | _ => none
def kPop1 (f : FE) (ρ : Ro) : Option (L × S) → Option (L × S)
  | some (.rf n, s) => if isLst s n = true then kPop2 n (f ρ s) else none
  | _ => none
theorem e_popAt {o f ρ s} : fPopAt o f ρ s = kPop1 f ρ (o ρ s) := by
  unfold fPopAt kPop1
  cases o ρ s with
  | none => rfl
  | some p =>
    obtain ⟨x, s1⟩ := p
    simp only [Option.bind_some]
    cases x with
    | rf n =>
      simp only
      split
      · cases f ρ s1 with
        | none => rfl
        | some q =>
          obtain ⟨y, s2⟩ := q
          simp only [Option.bind_some, kPop2]
          cases y with
          | im d => cases d <;> rfl
          | _ => rfl
      · rfl
    | _ => rfl
theorem k_pop1 {f ρ n s} (h : isLst s n = true) : kPop1 f ρ (some (.rf n, s)) = kPop2 n (f ρ s) := if_pos h
theorem k_pop2 {n i s} (h : small63 i = true) : kPop2 n (some (.im (.int i), s)) = popS s n i := if_pos h
def kSetS3 (n : Nat) (x : L) (ρ : Ro) : Option (L × S) → Option (Fl × Ro × S)
  | some (.im (.int i), s) => kStS ρ (setS s n i x)
  | _ => none
def kSetS2 (g : FE) (x : L) (ρ : Ro) : Option (L × S) → Option (Fl × Ro × S)
  | some (.rf n, s) => kSetS3 n x ρ (g ρ s)
  | _ => none
def kSetS1 (o g : FE) (ρ : Ro) : Option (L × S) → Option (Fl × Ro × S)
  | some (x, s) => kSetS2 g x ρ (o ρ s)
  | none => none
theorem e_setS {o g f ρ s} : fSetS o g f ρ s = kSetS1 o g ρ (f ρ s) := by
  unfold fSetS kSetS1
  cases f ρ s with
  | none => rfl
  | some p =>
    obtain ⟨x, s1⟩ := p
    simp only [Option.bind_some, kSetS2]
    cases o ρ s1 with
    | none => rfl
    | some q =>
      obtain ⟨y, s2⟩ := q
      simp only [Option.bind_some]
      cases y with
      | rf n =>
        simp only [kSetS3]
        cases g ρ s2 with
        | none => rfl
        | some r =>
          obtain ⟨z, s3⟩ := r
          simp only [Option.bind_some]
          cases z with
          | im d =>
            cases d with
            | int i => simp only; cases setS s3 n i x <;> rfl
            | _ => rfl
          | _ => rfl
      | _ => rfl
theorem k_setS1 {o g ρ x s} : kSetS1 o g ρ (some (x, s)) = kSetS2 g x ρ (o ρ s) := rfl
theorem k_setS2 {g x ρ n s} : kSetS2 g x ρ (some (.rf n, s)) = kSetS3 n x ρ (g ρ s) := rfl
theorem k_setS3 {n x ρ i s} : kSetS3 n x ρ (some (.im (.int i), s)) = kStS ρ (setS s n i x) := rfl
/-! several at once -/
def kVl2 (z : Va) : Option (List Va × S) → Option (List Va × S)
  | some (y, s) => some (z :: y, s)
  | none => none
def kVl1 (g : FVs) (ρ : Ro) : Option (L × S) → Option (List Va × S)
  | some (x, s) => kVl2 (.l x) (g ρ s)
  | none => none
def kVo1 (g : FVs) (ρ : Ro) : Option (List D × S) → Option (List Va × S)
  | some (x, s) => kVl2 (.o x) (g ρ s)
  | none => none
theorem e_v0 {ρ s} : fV0 ρ s = some ([], s) := rfl
theorem e_vl {f g ρ s} : fVl f g ρ s = kVl1 g ρ (f ρ s) := by
  unfold fVl kVl1
  cases f ρ s with
  | none => rfl
  | some p => obtain ⟨x, s1⟩ := p; simp only [Option.bind_some, kVl2]; cases g ρ s1 <;> rfl
theorem e_vo {f g ρ s} : fVo f g ρ s = kVo1 g ρ (f ρ s) := by
  unfold fVo kVo1
  cases f ρ s with
  | none => rfl
  | some p => obtain ⟨x, s1⟩ := p; simp only [Option.bind_some, kVl2]; cases g ρ s1 <;> rfl
theorem k_vl1 {g ρ x s} : kVl1 g ρ (some (x, s)) = kVl2 (.l x) (g ρ s) := rfl
theorem k_vo1 {g ρ x s} : kVo1 g ρ (some (x, s)) = kVl2 (.o x) (g ρ s) := rfl
theorem k_vl2 {z y s} : kVl2 z (some (y, s)) = some (z :: y, s) := rfl
def kPar2 : Option (Ro × S) → Option (Fl × Ro × S)
  | some (ρ, s) => some (.nx, ρ, s)
  | none => none
def kPar (ps : List Pl) (ρ : Ro) : Option (List Va × S) → Option (Fl × Ro × S)
  | some (zs, s) => if zs.length = ps.length ∧ ps.length ≤ 1000 then kPar2 (putVs ps zs ρ s) else none
  | none => none
theorem e_par {ps g ρ s} : fPar ps g ρ s = kPar ps ρ (g ρ s) := by
  unfold fPar kPar
  cases g ρ s with
  | none => rfl
  | some p =>
    obtain ⟨x, s1⟩ := p
    simp only [Option.bind_some]
    split
    · cases putVs ps x ρ s1 <;> rfl
    · rfl
theorem k_par {ps ρ zs s} (h : zs.length = ps.length) (h2 : ps.length ≤ 1000) : kPar ps ρ (some (zs, s)) = kPar2 (putVs ps zs ρ s) := if_pos ⟨h, h2⟩
theorem k_pr2 {p0 p1 : Pl} {v0 v1 : Va} {ρ s} : kPar [p0, p1] ρ (some ([v0, v1], s)) = kPar2 (putVs [p0, p1] [v0, v1] ρ s) := k_par rfl (by show 2 ≤ 1000; decide)
theorem k_pr3 {p0 p1 p2 : Pl} {v0 v1 v2 : Va} {ρ s} : kPar [p0, p1, p2] ρ (some ([v0, v1, v2], s)) = kPar2 (putVs [p0, p1, p2] [v0, v1, v2] ρ s) := k_par rfl (by show 3 ≤ 1000; decide)
theorem k_pr4 {p0 p1 p2 p3 : Pl} {v0 v1 v2 v3 : Va} {ρ s} : kPar [p0, p1, p2, p3] ρ (some ([v0, v1, v2, v3], s)) = kPar2 (putVs [p0, p1, p2, p3] [v0, v1, v2, v3] ρ s) := k_par rfl (by show 4 ≤ 1000; decide)
theorem k_pr5 {p0 p1 p2 p3 p4 : Pl} {v0 v1 v2 v3 v4 : Va} {ρ s} : kPar [p0, p1, p2, p3, p4] ρ (some ([v0, v1, v2, v3, v4], s)) = kPar2 (putVs [p0, p1, p2, p3, p4] [v0, v1, v2, v3, v4] ρ s) := k_par rfl (by show 5 ≤ 1000; decide)
theorem k_par2 {ρ s} : kPar2 (some (ρ, s)) = some (.nx, ρ, s) := rfl
def kPut (ps : List Pl) (zs : List Va) : Option (Ro × S) → Option (Ro × S)
  | some (ρ, s) => putVs ps zs ρ s
  | none => none
theorem e_put0 {ρ s} : putVs [] [] ρ s = some (ρ, s) := rfl
theorem e_put {p ps z zs ρ s} : putVs (p :: ps) (z :: zs) ρ s = kPut ps zs (putV p z ρ s) := by
  show (putV p z ρ s).bind _ = _
  cases putV p z ρ s <;> rfl
theorem k_put {ps zs ρ s} : kPut ps zs (some (ρ, s)) = putVs ps zs ρ s := rfl
theorem e_putO {i l ρ s} : putV (.sl i) (.o l) ρ s = some (ρ.set i (.ol l), s) := rfl
theorem e_putI {i l ρ s} : putV (.sl i) (.l (.im l)) ρ s = some (ρ.set i (.im l), s) := rfl
theorem e_putR {i l ρ s} : putV (.sl i) (.l (.rf l)) ρ s = some (ρ.set i (.rf l), s) := rfl
def kPutF (c fn : Str) (x : L) (ρ : Ro) : Option (L × S) → Option (Ro × S)
  | some (.rf n, s) => match fldS s n c fn x with
    | some s3 => some (ρ, s3)
    | none => none
  | _ => none
theorem e_putF {c fn o x ρ s} : putV (.fd c fn o) (.l x) ρ s = kPutF c fn x ρ (o ρ s) := by
  show (o ρ s).bind _ = _
  cases o ρ s with
  | none => rfl
  | some p =>
    obtain ⟨y, s1⟩ := p
    cases y with
    | rf n => simp only [Option.bind_some, kPutF]; cases fldS s1 n c fn x <;> rfl
    | _ => rfl
theorem k_putF {c fn x ρ n s s3} (h : fldS s n c fn x = some s3) : kPutF c fn x ρ (some (.rf n, s)) = some (ρ, s3) := by unfold kPutF; simp only [h]
def kUnp (T : Tg) (ρ : Ro) : Option (L × S) → Option (Fl × Ro × S)
  | some (.im d, s) => match setT T d ρ with
    | some ρ1 => some (.nx, ρ1, s)
    | none => none
  | _ => none
theorem e_unp {T f ρ s} : fUnp T f ρ s = kUnp T ρ (f ρ s) := by
  unfold fUnp kUnp
  cases f ρ s with
  | none => rfl
  | some p =>
    obtain ⟨x, s1⟩ := p
    simp only [Option.bind_some]
    cases x with
    | im d => simp only; cases setT T d ρ <;> rfl
    | _ => rfl
theorem k_unp {T ρ d s ρ1} (h : setT T d ρ = some ρ1) : kUnp T ρ (some (.im d, s)) = some (.nx, ρ1, s) := by unfold kUnp; simp only [h]
/-! walks -/
def kSeqI : Option (L × S) → Option (List D × S)
  | some (x, s) => match sqI x with
    | some l => some (l, s)
    | none => none
  | none => none
theorem e_seqI {f ρ s} : fSeqI f ρ s = kSeqI (f ρ s) := by
  unfold fSeqI kSeqI
  cases f ρ s with
  | none => rfl
  | some p => obtain ⟨x, s1⟩ := p; simp only [Option.bind_some]; cases sqI x <;> rfl
theorem k_seqI_l {l s} : kSeqI (some (.im (.list l), s)) = some (l, s) := rfl
theorem k_seqI_t {l s} : kSeqI (some (.im (.tuple l), s)) = some (l, s) := rfl
def kRng1 : Option (List L × S) → Option (List D × S)
  | some ([.im (.int j)], s) => if okR j = true then some (rngD 0 j.toNat, s) else none
  | _ => none
theorem e_rng1 {f ρ s} : fRng1 f ρ s = kRng1 (f ρ s) := by
  unfold fRng1 kRng1
  cases f ρ s with
  | none => rfl
  | some p =>
    obtain ⟨x, s1⟩ := p
    simp only [Option.bind_some]
    split
    · rfl
    · rename_i h
      split
      · rename_i h2; cases h2; exact (h _ rfl).elim
      · rfl
theorem k_rng1 {j s} (h : okR j = true) : kRng1 (some ([.im (.int j)], s)) = some (rngD 0 j.toNat, s) := if_pos h
def kRng2 : Option (List L × S) → Option (List D × S)
  | some ([.im (.int i), .im (.int j)], s) => if okR i = true ∧ okR j = true then some (rngD i (j - i).toNat, s) else none
  | _ => none
theorem e_rng2 {f ρ s} : fRng2 f ρ s = kRng2 (f ρ s) := by
  unfold fRng2 kRng2
  cases f ρ s with
  | none => rfl
  | some p =>
    obtain ⟨x, s1⟩ := p
    simp only [Option.bind_some]
    split
    · rfl
    · rename_i h
      split
      · rename_i h2; cases h2; exact (h _ _ rfl).elim
      · rfl
theorem k_rng2 {i j s} (h : okR i = true) (h2 : okR j = true) : kRng2 (some ([.im (.int i), .im (.int j)], s)) = some (rngD i (j - i).toNat, s) := if_pos ⟨h, h2⟩
def kFor (T : Tg) (b : FS) (ρ : Ro) : Option (List D × S) → Option (Fl × Ro × S)
  | some (ls, s) => forL T b ls ρ s
  | none => none
theorem e_for {T fi b ρ s} : fFor T fi b ρ s = kFor T b ρ (fi ρ s) := by unfold fFor kFor; cases fi ρ s <;> rfl
theorem k_for {T b ρ ls s} : kFor T b ρ (some (ls, s)) = forL T b ls ρ s := rfl
def kTurn (T : Tg) (b : FS) (ds : List D) : Option (Fl × Ro × S) → Option (Fl × Ro × S)
  | some (.nx, ρ, s) => forL T b ds ρ s
  | some (.ct, ρ, s) => forL T b ds ρ s
  | some (.bk, ρ, s) => some (.nx, ρ, s)
  | some (.rt l, ρ, s) => some (.rt l, ρ, s)
  | none => none
theorem forL_nil {T b ρ s} : forL T b [] ρ s = some (.nx, ρ, s) := rfl
theorem forL_cons {T b d ds ρ s ρ1} (h : setT T d ρ = some ρ1) : forL T b (d :: ds) ρ s = kTurn T b ds (b ρ1 s) := by
  unfold forL
  rw [h]
  simp only [Option.bind_some, kTurn]
  cases b ρ1 s with
  | none => rfl
  | some r => obtain ⟨a, c⟩ := r; cases a <;> rfl
theorem k_turn {T b ds ρ s} : kTurn T b ds (some (.nx, ρ, s)) = forL T b ds ρ s := rfl
theorem k_turn_ct {T b ds ρ s} : kTurn T b ds (some (.ct, ρ, s)) = forL T b ds ρ s := rfl
theorem k_turn_bk {T b ds ρ s} : kTurn T b ds (some (.bk, ρ, s)) = some (.nx, ρ, s) := rfl
theorem k_turn_rt {T b ds ρ s l} : kTurn T b ds (some (.rt l, ρ, s)) = some (.rt l, ρ, s) := rfl
def kLC (vs : List Nat) (T : Tg) (t : FT) (f : FE) (ρ : Ro) : Option (List D × S) → Option (List D × S)
  | some (ls, s) => if ls.length ≤ big then lcL vs T t f ρ ls s else none
  | none => none
theorem e_lc {vs T fi t f ρ s} : fLC vs T fi t f ρ s = kLC vs T t f ρ (fi ρ s) := by unfold fLC kLC; cases fi ρ s <;> rfl
theorem k_lc {vs T t f ρ ls s} (h : ls.length ≤ big) : kLC vs T t f ρ (some (ls, s)) = lcL vs T t f ρ ls s := if_pos h
theorem lcL_map {α : Type} {vs : List Nat} {T : Tg} {t : FT} {f : FE} {ρ : Ro} {s : S} {enc : α → D} {p : α → Bool} {g : α → D} {ρx : α → Ro} : ∀ {xs : List α},
    (∀ x ∈ xs, setT T (enc x) (wipeR ρ vs) = some (ρx x)) → (∀ x ∈ xs, t (ρx x) s = some (p x, s)) → (∀ x ∈ xs, p x = true → f (ρx x) s = some (.im (g x), s)) → lcL vs T t f ρ (xs.map enc) s = some ((xs.filter p).map g, s)
  | [], _, _, _ => rfl
  | x :: xs, h1, h2, h3 => by
    have ih := lcL_map (xs := xs) (fun y hy => h1 y (List.mem_cons_of_mem _ hy)) (fun y hy => h2 y (List.mem_cons_of_mem _ hy)) (fun y hy => h3 y (List.mem_cons_of_mem _ hy))
    rw [List.map_cons]
    unfold lcL
    rw [h1 x (by simp), Option.bind_some, h2 x (by simp), Option.bind_some]
    cases hp : p x with
    | true => simp only [if_true]; rw [h3 x (by simp) hp]; simp only [Option.bind_some, ih, List.filter_cons, hp, if_true, List.map_cons]
    | false => simp [ih, List.filter_cons, hp]
/-! defs -/
theorem e_runG {n b ls s} : runG n b ls s = outG (b (initR n ls) s) := rfl
theorem e_runP {n b ds} : runP n b ds = outP (b (initR n (ds.map L.im)) []) := rfl
theorem k_outG {l ρ s} : outG (some (.rt l, ρ, s)) = some (l, s) := rfl
theorem k_outGn {ρ s} : outG (some (.nx, ρ, s)) = some (.im .none, s) := rfl
theorem k_outP {l ρ s} : outP (some (.rt (.im l), ρ, s)) = some l := rfl
theorem k_outPn {ρ s} : outP (some (.nx, ρ, s)) = some .none := rfl
/-! slices -/
def kSl3 (x : L) (lo : Option Int) : Option (Option Int × S) → Option (L × S)
  | some (hi, s) => match tpV x with
    | some l => some (.im (.tuple (cutD l lo hi)), s)
    | none => match lstV s x with
      | some l => some (.im (.list (cutD l lo hi)), s)
      | none => none
  | none => none
def kSl2 (x : L) (h : FO1) (ρ : Ro) : Option (Option Int × S) → Option (L × S)
  | some (lo, s) => kSl3 x lo (h ρ s)
  | none => none
def kSl1 (g h : FO1) (ρ : Ro) : Option (L × S) → Option (L × S)
  | some (x, s) => kSl2 x h ρ (g ρ s)
  | none => none
theorem e_sl {f g h ρ s} : fSl f g h ρ s = kSl1 g h ρ (f ρ s) := by
  unfold fSl kSl1
  cases f ρ s with
  | none => rfl
  | some p =>
    obtain ⟨x, s1⟩ := p
    simp only [Option.bind_some, kSl2]
    cases g ρ s1 with
    | none => rfl
    | some q =>
      obtain ⟨y, s2⟩ := q
      simp only [Option.bind_some, kSl3]
      cases h ρ s2 with
      | none => rfl
      | some u =>
        obtain ⟨z, s3⟩ := u
        simp only [Option.bind_some]
        cases tpV x with
        | some l => rfl
        | none => simp only; cases lstV s3 x <;> rfl
theorem k_sl1 {g h ρ x s} : kSl1 g h ρ (some (x, s)) = kSl2 x h ρ (g ρ s) := rfl
theorem k_sl2 {h ρ x lo s} : kSl2 x h ρ (some (lo, s)) = kSl3 x lo (h ρ s) := rfl
theorem k_sl3t {l lo hi s} : kSl3 (.im (.tuple l)) lo (some (hi, s)) = some (.im (.tuple (cutD l lo hi)), s) := rfl
theorem k_sl3l {l lo hi s} : kSl3 (.im (.list l)) lo (some (hi, s)) = some (.im (.list (cutD l lo hi)), s) := rfl
theorem k_sl3s {l lo hi s} : kSl3 (.sc l) lo (some (hi, s)) = some (.im (.list (cutD l lo hi)), s) := rfl
def kPart : Option (L × S) → Option (Option Int × S)
  | some (.im (.int i), s) => some (some i, s)
  | _ => none
theorem e_nop {ρ s} : fNoP ρ s = some (none, s) := rfl
theorem e_part {f ρ s} : fPart f ρ s = kPart (f ρ s) := by
  unfold fPart kPart
  cases f ρ s with
  | none => rfl
  | some p =>
    obtain ⟨x, s1⟩ := p
    simp only [Option.bind_some]
    cases x with
    | im d => cases d <;> rfl
    | _ => rfl
theorem k_part {i s} : kPart (some (.im (.int i), s)) = some (some i, s) := rfl
def kSlL3 (x : L) (lo : Option Int) : Option (Option Int × S) → Option (List D × S)
  | some (hi, s) => match lstV s x with
    | some l => some (cutD l lo hi, s)
    | none => none
  | none => none
def kSlL2 (x : L) (h : FO1) (ρ : Ro) : Option (Option Int × S) → Option (List D × S)
  | some (lo, s) => kSlL3 x lo (h ρ s)
  | none => none
def kSlL1 (g h : FO1) (ρ : Ro) : Option (L × S) → Option (List D × S)
  | some (x, s) => kSlL2 x h ρ (g ρ s)
  | none => none
theorem e_slL {f g h ρ s} : fSlL f g h ρ s = kSlL1 g h ρ (f ρ s) := by
  unfold fSlL kSlL1
  cases f ρ s with
  | none => rfl
  | some p =>
    obtain ⟨x, s1⟩ := p
    simp only [Option.bind_some, kSlL2]
    cases g ρ s1 with
    | none => rfl
    | some q =>
      obtain ⟨y, s2⟩ := q
      simp only [Option.bind_some, kSlL3]
      cases h ρ s2 with
      | none => rfl
      | some u =>
        obtain ⟨z, s3⟩ := u
        simp only [Option.bind_some]
        cases lstV s3 x <;> rfl
theorem k_slL1 {g h ρ x s} : kSlL1 g h ρ (some (x, s)) = kSlL2 x h ρ (g ρ s) := rfl
theorem k_slL2 {h ρ x lo s} : kSlL2 x h ρ (some (lo, s)) = kSlL3 x lo (h ρ s) := rfl
theorem k_slL3 {x lo hi s l} (h : lstV s x = some l) : kSlL3 x lo (some (hi, s)) = some (cutD l lo hi, s) := by unfold kSlL3; simp only [h]
/-! isinstance -/
def kIsi (n : String) : Option (L × S) → Option (L × S)
  | some (x, s) => match tyL s x with
    | some t => some (.im (.bool (isT n t)), s)
    | none => none
  | none => none
theorem e_isi {n f ρ s} : fIsi n f ρ s = kIsi n (f ρ s) := by
  unfold fIsi kIsi
  cases f ρ s with
  | none => rfl
  | some p => obtain ⟨x, s1⟩ := p; simp only [Option.bind_some]; cases tyL s1 x <;> rfl
theorem k_isi_n {n s} : kIsi n (some (.im .none, s)) = some (.im (.bool (isT n "NoneType")), s) := rfl
theorem k_isi_b {n s b} : kIsi n (some (.im (.bool b), s)) = some (.im (.bool (isT n "bool")), s) := rfl
theorem k_isi_i {n s b} : kIsi n (some (.im (.int b), s)) = some (.im (.bool (isT n "int")), s) := rfl
theorem k_isi_s {n s b} : kIsi n (some (.im (.str b), s)) = some (.im (.bool (isT n "str")), s) := rfl
theorem k_isi_l {n s b} : kIsi n (some (.im (.list b), s)) = some (.im (.bool (isT n "list")), s) := rfl
theorem k_isi_t {n s b} : kIsi n (some (.im (.tuple b), s)) = some (.im (.bool (isT n "tuple")), s) := rfl
theorem lcL_yes {vs T t f ρ d ds s ρ1 s1 x s2 l s3} (h1 : setT T d (wipeR ρ vs) = some ρ1) (h2 : t ρ1 s = some (true, s1)) (h3 : f ρ1 s1 = some (.im x, s2)) (h4 : lcL vs T t f ρ ds s2 = some (l, s3)) : lcL vs T t f ρ (d :: ds) s = some (x :: l, s3) := by
  unfold lcL
  simp only [h1, h2, h3, h4, Option.bind_some, if_true]
theorem lcL_no {vs T t f ρ d ds s ρ1 s1 r} (h1 : setT T d (wipeR ρ vs) = some ρ1) (h2 : t ρ1 s = some (false, s1)) (h4 : lcL vs T t f ρ ds s1 = r) : lcL vs T t f ρ (d :: ds) s = r := by
  rw [← h4]
  conv => lhs; unfold lcL
  simp only [h1, h2, Option.bind_some, Bool.false_eq_true, if_false]
theorem set_self {α : Type} {s : List α} {n : Nat} {o : α} (h : s[n]? = some o) : s.set n o = s := by
  apply List.ext_getElem?
  intro i
  by_cases e : n = i
  · subst e
    rw [List.getElem?_set, if_pos rfl, if_pos (List.getElem?_eq_some_iff.mp h).1, h]
  · rw [List.getElem?_set_ne e]
theorem okD_ints {l : List Int} : okD (.list (l.map PyData.int)) = true := by
  have h1 : ∀ l : List Int, PyData.canLayAll0 (l.map PyData.int) = true := by
    intro l
    induction l with
    | nil => rfl
    | cons a l ih => simpa [PyData.canLayAll0, PyData.canLay0] using ih
  have h2 : ∀ l : List Int, PyData.depthAll (l.map PyData.int) ≤ 1 := by
    intro l
    induction l with
    | nil => simp [PyData.depthAll]
    | cons a l ih => simp only [List.map_cons, PyData.depthAll, PyData.depth]; omega
  unfold okD SeqAt.shaped
  simp only [PyData.canLay0, h1, Bool.true_and, decide_eq_true_eq]
  have := h2 l
  simp only [PyData.depth]
  omega
theorem eqv_nil {l : List D} : PyData.eqv (.list l) (.list []) = l.isEmpty := by
  cases l <;> simp [PyData.eqv, PyData.eqvAll]
theorem g_eq_nil {l : List Int} {s : S} : gEq s (.ow (l.map PyData.int)) (.im (.list [])) = some (.im (.bool l.isEmpty)) := by
  unfold gEq gEqS gEqD
  have h0 : okD (.list []) = true := okD_ints (l := [])
  simp only [eqS, Option.bind_none, Option.none_or, vw, Option.bind_some, okD_ints, h0, and_self, if_true, eqv_nil]
  cases l <;> rfl
theorem g_in_ints {neg : Bool} {l : List Int} {t : Int} {s : S} : gIn neg s (.im (.int t)) (.im (.tuple (l.map PyData.int))) = some (.im (.bool (if neg then !decide (t ∈ l) else decide (t ∈ l)))) := by
  have hf : (l.map PyData.int).all flatD = true := by simp [flatD]
  have ha : ((l.map PyData.int).any fun z => PyData.eqv z (.int t)) = decide (t ∈ l) := by
    induction l with
    | nil => rfl
    | cons a l ih =>
      simp only [List.map_cons, List.any_cons, PyData.eqv]
      rw [ih (by simp [flatD])]
      by_cases h : a = t
      · simp [h]
      · have h2 : (a == t) = false := by simpa using h
        have h3 : ¬ t = a := fun e => h e.symm
        simp [h2, h3]
  unfold gIn gInF
  simp only [sqV, Option.bind_some, flatD, hf, and_self, if_true, ha, Option.some_or]
end Zz
set_option Elab.async false
set_option linter.all false
set_option maxRecDepth 100000
/-! ZM: the laws' own helpers, the same in each: the box of a script, draws, two values compared -/
namespace Zz
open PySem PyProof.Rows L2
abbrev N_law_box : List Str := ["script"]
abbrev P_law_box : List Str := ["script"]
def d_law_box : FS := (fRet (fNewR (fCons (fNewD (fCallF oList (fCons (fSl (fVar 0) fNoP (fPart (fC (.int 63)))) fNil))) (fCons (fC (.int 0)) (fCons (fOp gAdd (fC (.int 4711)) (fCall oLen (fCons (fVar 0) fNil))) fNil)))))
def r_law_box : List L → S → Option (L × S) := runG 1 d_law_box
abbrev N_law_load : List Str := ["box", "cells", "cell", "size", "first", "second"]
abbrev P_law_load : List Str := ["box"]
def d_law_load : FS := (fSeq (fAsg 1 (fOp gIx (fVar 0) (fC (.int 0)))) (fSeq (fIfS (fTest (fOp gGt (fCall oLen (fCons (fVar 1) fNil)) (fC (.int 0)))) (fSeq (fAsg 2 (fCall oInt (fCons (fPopAt (fVar 1) (fC (.int 0))) fNil))) (fSeq (fAsg 3 (fIf (fTest (fOp gGe (fVar 2) (fC (.int 0)))) (fOp gMul (fC (.int 2)) (fVar 2)) (fOp gSub (fOp gMul (fUn gNeg (fC (.int 2))) (fVar 2)) (fC (.int 1))))) (fSeq (fIfS (fTest (fOp gGe (fVar 3) (fC (.int 1000000000000000000)))) (fRet (fVar 3)) fNext) (fSetS (fVar 0) (fC (.int 2)) (fOp gMod (fCall oInt (fCons (fOp gAdd (fOp gAdd (fOp gMul (fOp gIx (fVar 0) (fC (.int 2))) (fC (.int 69621))) (fOp gMul (fVar 3) (fC (.int 48271)))) (fC (.int 11))) fNil)) (fC (.int 2147483647))))))) fNext) (fSeq (fAsg 4 (fOp gMod (fCall oInt (fCons (fOp gAdd (fOp gMul (fOp gIx (fVar 0) (fC (.int 2))) (fC (.int 48271))) (fC (.int 17))) fNil)) (fC (.int 2147483629)))) (fSeq (fAsg 5 (fOp gMod (fCall oInt (fCons (fOp gAdd (fOp gMul (fVar 4) (fC (.int 69621))) (fC (.int 5))) fNil)) (fC (.int 2147483587)))) (fSeq (fSetS (fVar 0) (fC (.int 2)) (fOp gMod (fCall oInt (fCons (fOp gAdd (fOp gMul (fVar 5) (fC (.int 40692))) (fC (.int 3))) fNil)) (fC (.int 2147483563)))) (fRet (fOp gAdd (fOp gAdd (fOp gMul (fVar 4) (fC (.int 4611686014132420609))) (fOp gMul (fVar 5) (fC (.int 2147483647)))) (fOp gIx (fVar 0) (fC (.int 2))))))))))
def r_law_load : List L → S → Option (L × S) := runG 6 d_law_load
abbrev N_law_draw : List Str := ["box", "many", "digit"]
abbrev P_law_draw : List Str := ["box", "many"]
def d_law_draw : FS := (fSeq (fIfS (fTest (fOp gLt (fOp gIx (fVar 0) (fC (.int 1))) (fVar 1))) (fSetS (fVar 0) (fC (.int 1)) (fCallG 1 r_law_load (fCons (fVar 0) fNil))) fNext) (fSeq (fAsg 2 (fOp gMod (fCall oInt (fCons (fOp gIx (fVar 0) (fC (.int 1))) fNil)) (fVar 1))) (fSeq (fSetS (fVar 0) (fC (.int 1)) (fOp gDiv (fOp gIx (fVar 0) (fC (.int 1))) (fVar 1))) (fRet (fVar 2)))))
def r_law_draw : List L → S → Option (L × S) := runG 3 d_law_draw
abbrev N_law_same : List Str := ["a", "b", "k"]
abbrev P_law_same : List Str := ["a", "b"]
def d_law_same (R : List D → Option D) : FS := (fSeq (fIfS (fOrT (fAndT (fTru (fIsi "tuple" (fVar 0))) (fTru (fIsi "tuple" (fVar 1)))) (fAndT (fTru (fIsi "list" (fVar 0))) (fTru (fIsi "list" (fVar 1))))) (fRet (fIf (fTest (fOp gEq (fCall oLen (fCons (fVar 0) fNil)) (fCall oLen (fCons (fVar 1) fNil)))) (fCall oAll (fCons (fFrz (fLC [2] (.nm 2) (fRng1 (fCons (fCall oLen (fCons (fVar 0) fNil)) fNil)) fYes (fCallP 2 R (fCons (fOp gIx (fVar 0) (fVar 2)) (fCons (fOp gIx (fVar 1) (fVar 2)) fNil))))) fNil)) (fC (.bool false)))) fNext) (fSeq (fIfS (fOrT (fTru (fIsi "bool" (fVar 0))) (fTru (fIsi "bool" (fVar 1)))) (fRet (fIf (fTest (fIsi "bool" (fVar 0))) (fIf (fTest (fIsi "bool" (fVar 1))) (fOp gEq (fVar 0) (fVar 1)) (fC (.bool false))) (fC (.bool false)))) fNext) (fSeq (fIfS (fOrT (fAndT (fTru (fIsi "int" (fVar 0))) (fTru (fIsi "int" (fVar 1)))) (fAndT (fTru (fIsi "str" (fVar 0))) (fTru (fIsi "str" (fVar 1))))) (fRet (fOp gEq (fVar 0) (fVar 1))) fNext) (fRet (fIf (fTest (fOp gIs (fVar 0) (fC .none))) (fOp gIs (fVar 1) (fC .none)) (fC (.bool false)))))))
def r_law_same : Nat → List D → Option D
  | 0 => fun _ => none
  | n + 1 => runP 3 (d_law_same (r_law_same n))
def Bx (c : List Int) (x y : Int) (rest : S) : S := .dl (c.map PyData.int) :: .rl [.rf 0, .im (.int x), .im (.int y)] :: rest
section
variable {c : List Int} {x y v : Int} {rest s : S}
theorem bx_0 : gIx (Bx c x y rest) (.rf 1) (.im (.int 0)) = some (.rf 0) := rfl
theorem bx_1 : gIx (Bx c x y rest) (.rf 1) (.im (.int 1)) = some (.im (.int x)) := rfl
theorem bx_2 : gIx (Bx c x y rest) (.rf 1) (.im (.int 2)) = some (.im (.int y)) := rfl
theorem bx_s1 : setS (Bx c x y rest) 1 1 (.im (.int v)) = some (Bx c v y rest) := rfl
theorem bx_s2 : setS (Bx c x y rest) 1 2 (.im (.int v)) = some (Bx c x v rest) := rfl
theorem bx_len : oLen (Bx c x y rest) [.rf 0] = some (.im (.int (c.length : Int))) := by
  show some (L.im (PyData.int ((c.map PyData.int).length : Nat))) = _
  rw [List.length_map]
theorem bx_pop {a : Int} : popS (Bx (a :: c) x y rest) 0 0 = some (.im (.int a), Bx c x y rest) := by
  have h : ixN ((a :: c).map PyData.int).length 0 = some 0 := by
    unfold ixN
    rw [if_pos (Int.le_refl 0), if_pos (by simp)]
    rfl
  unfold popS
  show (ixN ((a :: c).map PyData.int).length 0).bind _ = _
  rw [h]
  rfl
theorem bx_isL : isLst (Bx c x y rest) 0 = true := id rfl
theorem g_add {i j : Int} : gAdd s (.im (.int i)) (.im (.int j)) = some (.im (.int (i + j))) := rfl
theorem g_sub {i j : Int} : gSub s (.im (.int i)) (.im (.int j)) = some (.im (.int (i - j))) := rfl
theorem g_neg {i : Int} : gNeg s (.im (.int i)) = some (.im (.int (-i))) := rfl
theorem g_lt {i j : Int} : gLt s (.im (.int i)) (.im (.int j)) = some (.im (.bool (decide (i < j)))) := rfl
theorem g_le {i j : Int} : gLe s (.im (.int i)) (.im (.int j)) = some (.im (.bool (decide (i ≤ j)))) := rfl
theorem g_gt {i j : Int} : gGt s (.im (.int i)) (.im (.int j)) = some (.im (.bool (decide (j < i)))) := rfl
theorem g_ge {i j : Int} : gGe s (.im (.int i)) (.im (.int j)) = some (.im (.bool (decide (j ≤ i)))) := rfl
theorem g_mul {i j : Int} (h : CMul i j) : gMul s (.im (.int i)) (.im (.int j)) = some (.im (.int (i * j))) := by
  unfold gMul gMulI gI
  simp only [h, if_true, Option.bind_some, Option.some_or]
theorem g_mulr {i j : Int} (h : -18446744073709551616 < j ∧ j < 18446744073709551616) : gMul s (.im (.int i)) (.im (.int j)) = some (.im (.int (i * j))) := g_mul (.inr h)
theorem g_mull {i j : Int} (h : -18446744073709551616 < i ∧ i < 18446744073709551616) : gMul s (.im (.int i)) (.im (.int j)) = some (.im (.int (i * j))) := g_mul (.inl h)
theorem g_mod {i j : Int} (h : 0 < j) : gMod s (.im (.int i)) (.im (.int j)) = some (.im (.int (i % j))) := by
  unfold gMod gI
  simp only [h, if_true, Option.bind_some]
theorem g_div {i j : Int} (h : 0 < j ∧ j < 1073741824) : gDiv s (.im (.int i)) (.im (.int j)) = some (.im (.int (i / j))) := by
  unfold gDiv gI
  have h2 : CDiv i j := h
  simp only [h2, if_true, Option.bind_some]
theorem o_int {i : Int} : oInt s [.im (.int i)] = some (.im (.int i)) := rfl
theorem g_eqI {i j : Int} : gEq s (.im (.int i)) (.im (.int j)) = some (.im (.bool (decide (i = j)))) := rfl
theorem g_neI {i j : Int} : gNe s (.im (.int i)) (.im (.int j)) = some (.im (.bool (!decide (i = j)))) := rfl
theorem g_eqB {i j : Bool} : gEq s (.im (.bool i)) (.im (.bool j)) = some (.im (.bool (decide (i = j)))) := rfl
theorem g_neB {i j : Bool} : gNe s (.im (.bool i)) (.im (.bool j)) = some (.im (.bool (!decide (i = j)))) := rfl
theorem g_isN {l : L} : gIs s l (.im .none) = some (.im (.bool (isNone l))) := rfl
theorem g_notN {l : L} : gNotIs s l (.im .none) = some (.im (.bool (!isNone l))) := rfl
theorem it_tuple_NoneType : isT "tuple" "NoneType" = false := rfl
theorem it_tuple_bool : isT "tuple" "bool" = false := rfl
theorem it_tuple_int : isT "tuple" "int" = false := rfl
theorem it_tuple_str : isT "tuple" "str" = false := rfl
theorem it_tuple_list : isT "tuple" "list" = false := rfl
theorem it_tuple_tuple : isT "tuple" "tuple" = true := rfl
theorem it_list_NoneType : isT "list" "NoneType" = false := rfl
theorem it_list_bool : isT "list" "bool" = false := rfl
theorem it_list_int : isT "list" "int" = false := rfl
theorem it_list_str : isT "list" "str" = false := rfl
theorem it_list_list : isT "list" "list" = true := rfl
theorem it_list_tuple : isT "list" "tuple" = false := rfl
theorem it_bool_NoneType : isT "bool" "NoneType" = false := rfl
theorem it_bool_bool : isT "bool" "bool" = true := rfl
theorem it_bool_int : isT "bool" "int" = false := rfl
theorem it_bool_str : isT "bool" "str" = false := rfl
theorem it_bool_list : isT "bool" "list" = false := rfl
theorem it_bool_tuple : isT "bool" "tuple" = false := rfl
theorem it_int_NoneType : isT "int" "NoneType" = false := rfl
theorem it_int_bool : isT "int" "bool" = true := rfl
theorem it_int_int : isT "int" "int" = true := rfl
theorem it_int_str : isT "int" "str" = false := rfl
theorem it_int_list : isT "int" "list" = false := rfl
theorem it_int_tuple : isT "int" "tuple" = false := rfl
theorem it_str_NoneType : isT "str" "NoneType" = false := rfl
theorem it_str_bool : isT "str" "bool" = false := rfl
theorem it_str_int : isT "str" "int" = false := rfl
theorem it_str_str : isT "str" "str" = true := rfl
theorem it_str_list : isT "str" "list" = false := rfl
theorem it_str_tuple : isT "str" "tuple" = false := rfl
theorem len_0 : ((0 : Int) < ((0 : Nat) : Int)) = False := by simp
theorem len_S {n : Nat} : ((0 : Int) < ((n + 1 : Nat) : Int)) = True := by simp
theorem g_eqS {a : Str} {s : S} : gEq s (.im (.str a)) (.im (.str a)) = some (.im (.bool true)) := by
  unfold gEq gEqS eqS
  simp
theorem o_lenL {l : List D} {s : S} : oLen s [.im (.list l)] = some (.im (.int (l.length : Int))) := rfl
theorem o_lenT {l : List D} {s : S} : oLen s [.im (.tuple l)] = some (.im (.int (l.length : Int))) := rfl
theorem sm0 : small63 0 = true := id (by decide)
local macro_rules | `(tactic| walk_at "Z") => `(tactic| simp only [e_var, k_var_im, k_var_rf, k_var_ol, k_var_sc, e_c, e_op, k_op1, k_op2, k_res, e_un, k_un, e_test, k_test, e_tru, k_tru_b, e_and, e_or, e_not, k_and, k_or, k_not, e_bool, k_bool, e_if, k_if,
  e_nil, e_cons, k_cons1, k_cons2, e_tup, e_lst, k_tup0, k_tup1, k_tup2, k_tup3, k_lst0, k_lst1, k_lst2, k_lst3, k_lst4, k_lst5, k_lst6, e_frz, k_frz, e_newD, k_newD, e_newR, e_call, k_call, e_callF, k_callF, e_callG, k_callG1, k_callG2, k_callG3, k_callG4, k_keep_im, k_keep_rf, e_callP, k_callP1, k_callP2, k_callP3, k_callP4, k_resD,
  e_meth, k_m0, k_m1, k_m2, k_m3, e_make, k_mk1, k_mk2, k_made, e_or2, k_or2, k_or2n, e_fld, k_stS, e_setF, k_setF1, k_setF2, e_seq, k_seq, k_seq_rt, k_seq_bk, k_seq_ct, e_next, e_asg, k_asg_im, k_asg_rf, e_own, k_own, e_drop, k_drop, e_ret, k_ret_im, k_ret_rf, e_retV, k_retV, e_ifS, k_ifS, e_appO, k_appO, e_app, e_popAt, e_setS, k_setS1, k_setS2, k_setS3,
  e_v0, e_vl, e_vo, k_vl1, k_vo1, k_vl2, e_par, k_pr2, k_pr3, k_pr4, k_pr5, k_par2, e_put0, e_put, k_put, e_putO, e_putI, e_putR, e_putF, e_unp, e_seqI, k_seqI_l, k_seqI_t, e_rng1, e_rng2, e_for, k_for, forL_nil, k_turn, k_turn_ct, k_turn_bk, k_turn_rt, e_lc, e_runG, e_runP, k_outG, k_outGn, k_outP, k_outPn,
  e_sl, k_sl1, k_sl2, k_sl3t, k_sl3l, k_sl3s, e_nop, e_part, k_part, e_slL, k_slL1, k_slL2, e_isi, k_isi_n, k_isi_b, k_isi_i, k_isi_s, k_isi_l, k_isi_t,
  initR, sl1, List.map_cons, List.map_nil, List.length_cons, List.length_nil, Nat.reduceAdd, Nat.reduceSub, List.replicate_succ, List.replicate_zero, List.cons_append, List.nil_append, List.getElem?_cons_zero, List.getElem?_cons_succ, List.set_cons_zero, List.set_cons_succ, if_true, if_false, Bool.false_eq_true,
  bx_0, bx_1, bx_2, bx_s1, bx_s2, bx_len, bx_pop, bx_isL, g_add, g_sub, g_neg, g_lt, g_le, g_gt, g_ge, g_mulr, g_mull, g_mod, g_div, o_int, g_eqI, g_neI, g_eqB, g_neB, g_isN, g_notN, sm0, len_0, len_S, g_eqS, o_lenL, o_lenT, eq_self, decide_true, decide_false, k_pop1, k_pop2, it_tuple_NoneType, it_tuple_bool, it_tuple_int, it_tuple_str, it_tuple_list, it_tuple_tuple, it_list_NoneType, it_list_bool, it_list_int, it_list_str, it_list_list, it_list_tuple, it_bool_NoneType, it_bool_bool, it_bool_int, it_bool_str, it_bool_list, it_bool_tuple, it_int_NoneType, it_int_bool, it_int_int, it_int_str, it_int_list, it_int_tuple, it_str_NoneType, it_str_bool, it_str_int, it_str_str, it_str_list, it_str_tuple, decide_eq_true_eq, Int.reduceLT, Int.reduceNeg, and_self])
theorem load_ok : ∃ (v y' : Int) (c' : List Int), r_law_load [.rf 1] (Bx c x y rest) = some (.im (.int v), Bx c' x y' rest) := by
  unfold r_law_load d_law_load
  cases c with
  | nil =>
    walk_at "Z"
    exact ⟨_, _, _, rfl⟩
  | cons a c =>
    walk_at "Z"
    by_cases h1 : 0 ≤ a
    · simp only [h1, if_true]
      walk_at "Z"
      by_cases h2 : 1000000000000000000 ≤ 2 * a
      · simp only [h2, if_true]
        walk_at "Z"
        exact ⟨_, _, _, rfl⟩
      · simp only [h2, if_false]
        walk_at "Z"
        exact ⟨_, _, _, rfl⟩
    · simp only [h1, if_false]
      walk_at "Z"
      by_cases h2 : 1000000000000000000 ≤ -2 * a - 1
      · simp only [h2, if_true]
        walk_at "Z"
        exact ⟨_, _, _, rfl⟩
      · simp only [h2, if_false]
        walk_at "Z"
        exact ⟨_, _, _, rfl⟩
/-- a draw -/
theorem draw_ok {many : Int} (h0 : 0 < many) (h1 : many < 1073741824) : ∃ (d x' y' : Int) (c' : List Int), r_law_draw [.rf 1, .im (.int many)] (Bx c x y rest) = some (.im (.int d), Bx c' x' y' rest) ∧ 0 ≤ d ∧ d < many := by
  unfold r_law_draw d_law_draw
  walk_at "Z"
  by_cases h : x < many
  · simp only [h, if_true]
    obtain ⟨v, y', c', e⟩ := load_ok (c := c) (x := x) (y := y) (rest := rest)
    try walk_at "Z"
    rw [e]
    walk_at "Z"
    simp only [h0, h1, g_mod, g_div, and_self, true_and]
    walk_at "Z"
    simp only [h0, h1, g_mod, g_div, and_self, true_and]
    walk_at "Z"
    exact ⟨_, _, _, _, rfl, Int.emod_nonneg _ (by omega), Int.emod_lt_of_pos _ h0⟩
  · simp only [h, if_false]
    walk_at "Z"
    simp only [h0, h1, g_mod, g_div, and_self, true_and]
    walk_at "Z"
    simp only [h0, h1, g_mod, g_div, and_self, true_and]
    walk_at "Z"
    exact ⟨_, _, _, _, rfl, Int.emod_nonneg _ (by omega), Int.emod_lt_of_pos _ h0⟩
theorem cut_all {l : List D} (h : l.length ≤ 63) : cutD l none (some 63) = l := by
  unfold cutD
  rw [HT.sIx_none, show (63 : Int) = ((63 : Nat) : Int) from rfl, HT.sIx_nat]
  rw [List.drop_zero, Nat.sub_zero, Nat.min_eq_right h, List.take_length]
theorem box_ok {ns : List Int} (h : ns.length ≤ 63) : r_law_box [.sc (ns.map PyData.int)] [] = some (.rf 1, Bx ns 0 (4711 + (ns.length : Int)) []) := by
  unfold r_law_box d_law_box
  have hc : cutD (ns.map PyData.int) none (some 63) = ns.map PyData.int := cut_all (by simpa using h)
  have ol : ∀ s, oLen s [.sc (ns.map PyData.int)] = some (.im (.int (ns.length : Int))) := fun s => by
    show some (L.im (PyData.int (((ns.map PyData.int).length : Nat) : Int))) = _
    rw [List.length_map]
  walk_at "Z"
  simp only [hc]
  rw [show oList [] [L.im (PyData.list (ns.map PyData.int))] = some (ns.map PyData.int) from rfl]
  walk_at "Z"
  rw [ol]
  walk_at "Z"
  rw [k_newR rfl (by show 3 ≤ 16777216; decide)]
  rfl
/-! data without dicts, rows not too long -/
mutual
def fine : Nat → D → Bool
  | _, .none => true
  | _, .bool _ => true
  | _, .int _ => true
  | _, .str _ => true
  | 0, _ => false
  | n + 1, .list l => decide (l.length ≤ big) && fines n l
  | n + 1, .tuple l => decide (l.length ≤ big) && fines n l
  | _, _ => false
def fines : Nat → List D → Bool
  | _, [] => true
  | n, d :: ds => fine n d && fines n ds
end
theorem fines_all {n : Nat} : ∀ {l : List D}, fines n l = true → ∀ d ∈ l, fine n d = true
  | [], _, d, h => by cases h
  | e :: l, h, d, hd => by
    simp only [fines, Bool.and_eq_true] at h
    rcases List.mem_cons.mp hd with z | z
    · rw [z]; exact h.1
    · exact fines_all h.2 d z
theorem fines_of {n : Nat} : ∀ {l : List D}, (∀ d ∈ l, fine n d = true) → fines n l = true
  | [], _ => rfl
  | e :: l, h => by
    simp only [fines, Bool.and_eq_true]
    exact ⟨h e (by simp), fines_of fun d hd => h d (List.mem_cons_of_mem _ hd)⟩
theorem same_rows {R : List D → Option D} {l : List D} {s : S} {x : D} (hx : x = .list l ∨ x = .tuple l) (hl : l.length ≤ big) (h : ∀ d ∈ l, R [d, d] = some (.bool true)) :
    lcL [2] (.nm 2) fYes (fCallP 2 R (fCons (fOp gIx (fVar 0) (fVar 2)) (fCons (fOp gIx (fVar 1) (fVar 2)) fNil))) [.im x, .im x, .un] (rngD 0 l.length) s = some ((List.range l.length).map fun _ => .bool true, s) := by
  have hix : ∀ (i : Nat) (d : D), l[i]? = some d → ∀ s, gIx s (.im x) (.im (.int (0 + (i : Int)))) = some (.im d) := fun i d e s => by
    have e2 : atD l (0 + (i : Int)) = some d := by rw [Int.zero_add]; exact atI_nat e
    rcases hx with z | z <;> rw [z]
    · show (atD l (0 + (i : Int))).bind _ = _
      rw [e2]; rfl
    · show (atD l (0 + (i : Int))).bind _ = _
      rw [e2]; rfl
  have := lcL_map (vs := [2]) (T := .nm 2) (t := fYes) (f := fCallP 2 R (fCons (fOp gIx (fVar 0) (fVar 2)) (fCons (fOp gIx (fVar 1) (fVar 2)) fNil))) (ρ := [.im x, .im x, .un]) (s := s) (enc := fun (i : Nat) => PyData.int (0 + (i : Int)))
    (p := fun _ => true) (g := fun _ => .bool true) (ρx := fun i => [.im x, .im x, .im (.int (0 + (i : Int)))]) (xs := List.range l.length) (fun i _ => rfl) (fun i _ => rfl) (fun i hi _ => by
      have hi : i < l.length := List.mem_range.mp hi
      have e := hix i l[i] (by simp [hi]) s
      walk_at "Z"
      rw [e]
      walk_at "Z"
      rw [e]
      walk_at "Z"
      rw [h l[i] (by simp)]
      rfl)
  rw [List.filter_eq_self.mpr (fun _ _ => rfl)] at this
  exact this
theorem bools_true (n : Nat) : boolsOf ((List.range n).map fun _ => PyData.bool true) = some ((List.range n).map fun _ => true) := by
  induction List.range n with
  | nil => rfl
  | cons a l ih => show (boolsOf (l.map fun _ => PyData.bool true)).bind _ = _; rw [ih]; rfl
theorem all_true (n : Nat) : ((List.range n).map fun _ => true).all id = true := by
  induction List.range n with
  | nil => rfl
  | cons a l ih => simpa using ih
theorem okR_big {n : Nat} (h : n ≤ big) : okR (n : Int) = true := by
  have : (n : Int) ≤ 16777216 := by unfold big at h; omega
  exact decide_eq_true (by omega)
theorem o_all {l : List D} {s : S} {bs : List Bool} (h : boolsOf l = some bs) : oAll s [.im (.list l)] = some (.im (.bool (bs.all id))) := by
  show (boolsOf l).bind _ = _
  rw [h]; rfl
theorem same_refl : ∀ (n : Nat) (d : D), fine n d = true → r_law_same (n + 1) [d, d] = some (.bool true) := by
  intro n
  induction n with
  | zero =>
    intro d h
    unfold r_law_same d_law_same
    cases d with
    | none => rfl
    | bool b => cases b <;> rfl
    | int i => walk_at "Z"
    | str z => walk_at "Z"
    | list l => cases h
    | tuple l => cases h
    | dict l => cases h
  | succ n ih =>
    intro d h
    unfold r_law_same d_law_same
    cases d with
    | none => rfl
    | bool b => cases b <;> rfl
    | int i => walk_at "Z"
    | str z => walk_at "Z"
    | list l =>
      simp only [fine, Bool.and_eq_true, decide_eq_true_eq] at h
      have hh := fun d hd => ih d (fines_all h.2 d hd)
      walk_at "Z"
      rw [k_rng1 (okR_big h.1), k_lc (by rw [rngD_len]; exact h.1), Int.toNat_natCast, same_rows (.inl rfl) h.1 hh]
      walk_at "Z"
      rw [o_all (bools_true _), all_true]
      rfl
    | tuple l =>
      simp only [fine, Bool.and_eq_true, decide_eq_true_eq] at h
      have hh := fun d hd => ih d (fines_all h.2 d hd)
      walk_at "Z"
      rw [k_rng1 (okR_big h.1), k_lc (by rw [rngD_len]; exact h.1), Int.toNat_natCast, same_rows (.inr rfl) h.1 hh]
      walk_at "Z"
      rw [o_all (bools_true _), all_true]
      rfl
    | dict l => cases h
end
end Zz
set_option linter.all false
/-! K17P: the mathematics of settlers, no program in sight -/
namespace K17
/-- one reading: did it turn, then down or not, and the first of the readings that are not as it is (or the last turning) -/
abbrev Sg := Bool × Option Int
def stpS (settle : Int) (g : Sg) (r : Int × Bool) : Bool × Sg :=
  if r.2 = g.1 then (false, g.1, none)
  else match g.2 with
    | none => if r.1 - r.1 < settle then (false, g.1, some r.1) else (true, r.2, none)
    | some f => if r.1 - f < settle then (false, g.1, some f) else (true, r.2, none)
def stpE (rest : Int) (g : Sg) (r : Int × Bool) : Bool × Sg :=
  if r.2 = g.1 then (false, g)
  else match g.2 with
    | none => (true, r.2, some r.1)
    | some f => if r.1 - f < rest then (false, g) else (true, r.2, some r.1)
abbrev Step := Sg → Int × Bool → Bool × Sg
def tns (st : Step) : Sg → List (Int × Bool) → List Int
  | _, [] => []
  | g, r :: rs => if (st g r).1 = true then r.1 :: tns st (st g r).2 rs else tns st (st g r).2 rs
def run (st : Step) : Sg → List (Int × Bool) → Sg
  | g, [] => g
  | g, r :: rs => run st (st g r).2 rs
/-- a turning turns, nothing else does -/
def Ok (st : Step) : Prop := ∀ g r, (st g r).2.1 = if (st g r).1 = true then !g.1 else g.1
theorem okS (settle : Int) : Ok (stpS settle) := by
  intro g r
  obtain ⟨d, f⟩ := g
  obtain ⟨t, c⟩ := r
  unfold stpS
  by_cases h : c = d
  · simp [h]
  · have h2 : c = !d := by cases c <;> cases d <;> simp_all
    simp only [h, if_false]
    cases f <;> simp only <;> split <;> simp [h2]
theorem okE (rest : Int) : Ok (stpE rest) := by
  intro g r
  obtain ⟨d, f⟩ := g
  obtain ⟨t, c⟩ := r
  unfold stpE
  by_cases h : c = d
  · simp [h]
  · have h2 : c = !d := by cases c <;> cases d <;> simp_all
    simp only [h, if_false]
    cases f with
    | none => simp [h2]
    | some f => simp only; split <;> simp [h2]
theorem tns_mem (st : Step) : ∀ {rs : List (Int × Bool)} {g : Sg} {t : Int}, t ∈ tns st g rs → ∃ r ∈ rs, r.1 = t
  | [], g, t, h => by cases h
  | r :: rs, g, t, h => by
    unfold tns at h
    split at h
    · rcases List.mem_cons.mp h with e | h
      · exact ⟨r, by simp, e.symm⟩
      · obtain ⟨r', h1, h2⟩ := tns_mem st h
        exact ⟨r', List.mem_cons_of_mem _ h1, h2⟩
    · obtain ⟨r', h1, h2⟩ := tns_mem st h
      exact ⟨r', List.mem_cons_of_mem _ h1, h2⟩
/-- ticks that rise -/
def Up (rs : List (Int × Bool)) : Prop := rs.Pairwise fun a b => a.1 < b.1
theorem tns_append (st : Step) : ∀ (as bs : List (Int × Bool)) (g : Sg), tns st g (as ++ bs) = tns st g as ++ tns st (run st g as) bs
  | [], bs, g => rfl
  | a :: as, bs, g => by
    show (if (st g a).1 = true then a.1 :: tns st (st g a).2 (as ++ bs) else tns st (st g a).2 (as ++ bs)) = (if (st g a).1 = true then a.1 :: tns st (st g a).2 as else tns st (st g a).2 as) ++ tns st (run st (st g a).2 as) bs
    rw [tns_append st as bs]
    split <;> rfl
theorem run_append (st : Step) : ∀ (as bs : List (Int × Bool)) (g : Sg), run st g (as ++ bs) = run st (run st g as) bs
  | [], bs, g => rfl
  | a :: as, bs, g => run_append st as bs (st g a).2
/-- at the k-th row: it turns just if its tick is among the turnings -/
theorem turn_in (st : Step) {as : List (Int × Bool)} {r : Int × Bool} {bs : List (Int × Bool)} {g : Sg} (h : Up (as ++ r :: bs)) : (r.1 ∈ tns st g (as ++ r :: bs)) ↔ (st (run st g as) r).1 = true := by
  rw [tns_append]
  have h1 : r.1 ∉ tns st g as := fun q => by
    obtain ⟨r', h2, h3⟩ := tns_mem st q
    have := (List.pairwise_append.mp h).2.2 r' h2 r (by simp)
    omega
  have h2 : r.1 ∉ tns st (st (run st g as) r).2 bs := fun q => by
    obtain ⟨r', h2, h3⟩ := tns_mem st q
    have := (List.pairwise_cons.mp (List.pairwise_append.mp h).2.1).1 r' h2
    omega
  rw [List.mem_append]
  show (_ ∨ r.1 ∈ (if (st (run st g as) r).1 = true then r.1 :: tns st (st (run st g as) r).2 bs else tns st (st (run st g as) r).2 bs)) ↔ _
  cases e : (st (run st g as) r).1 with
  | true => simp
  | false => simp [h1, h2]
def upTo (l : List Int) (t : Int) : Nat := (l.filter fun f => decide (f ≤ t)).length
theorem par_run (st : Step) (ok : Ok st) : ∀ (as : List (Int × Bool)) (g : Sg), (run st g as).1 = if (tns st g as).length % 2 = 1 then !g.1 else g.1
  | [], g => by simp [run, tns]
  | a :: as, g => by
    show (run st (st g a).2 as).1 = _
    rw [par_run st ok as, ok g a]
    show _ = if (if (st g a).1 = true then a.1 :: tns st (st g a).2 as else tns st (st g a).2 as).length % 2 = 1 then !g.1 else g.1
    cases e : (st g a).1 with
    | true =>
      simp only [if_true, List.length_cons]
      by_cases h : (tns st (st g a).2 as).length % 2 = 1
      · rw [if_pos h, if_neg (by omega)]; simp
      · rw [if_neg h, if_pos (by omega)]
    | false => simp
/-- and it is down just if the turnings so far are odd -/
theorem down_is (st : Step) (ok : Ok st) {as : List (Int × Bool)} {r : Int × Bool} {bs : List (Int × Bool)} {f : Option Int} (h : Up (as ++ r :: bs)) : ((st (run st (false, f) as) r).2.1 = true) ↔ upTo (tns st (false, f) (as ++ r :: bs)) r.1 % 2 = 1 := by
  have e : as ++ r :: bs = (as ++ [r]) ++ bs := by simp
  have e2 : (st (run st (false, f) as) r).2 = run st (false, f) (as ++ [r]) := by rw [run_append]; rfl
  rw [e2, par_run st ok]
  have le : ∀ x ∈ tns st (false, f) (as ++ [r]), x ≤ r.1 := fun x hx => by
    obtain ⟨r', h2, h3⟩ := tns_mem st hx
    rcases List.mem_append.mp h2 with q | q
    · have := (List.pairwise_append.mp h).2.2 r' q r (by simp)
      omega
    · simp at q
      rw [← h3, q]
      exact Int.le_refl _
  have gt : ∀ x ∈ tns st (run st (false, f) (as ++ [r])) bs, ¬ x ≤ r.1 := fun x hx => by
    obtain ⟨r', h2, h3⟩ := tns_mem st hx
    have := (List.pairwise_cons.mp (List.pairwise_append.mp h).2.1).1 r' h2
    omega
  rw [e, tns_append st (as ++ [r]) bs]
  have c1 : (tns st (false, f) (as ++ [r])).filter (fun f => decide (f ≤ r.1)) = tns st (false, f) (as ++ [r]) := List.filter_eq_self.mpr fun x hx => by simpa using le x hx
  have c2 : (tns st (run st (false, f) (as ++ [r])) bs).filter (fun f => decide (f ≤ r.1)) = [] := List.filter_eq_nil_iff.mpr fun x hx => by simpa using gt x hx
  unfold upTo
  rw [List.filter_append, c1, c2, List.append_nil]
  by_cases z : (tns st (false, f) (as ++ [r])).length % 2 = 1 <;> simp [z]
end K17
set_option Elab.async false
set_option linter.all false
set_option maxRecDepth 100000
set_option maxHeartbeats 8000000
namespace K17
open PySem PyProof.Rows L2 Zz
def top (i : Nat) : Stmt := PySem.Challenge.pw_keystotext_k17_whole_settlers.main.body.getD i (.Pass ⟨0, 0, 0, 0⟩)
abbrev s_Settler_init : Stmt := L2.inClass (top 1) 0
abbrev N_Settler_init : List Str := ["self", "settle"]
abbrev P_Settler_init : List Str := ["self", "settle"]
def d_Settler_init : FS := (fSeq (fSetF "Settler" "_settle" (fVar 0) (fVar 1)) (fSeq (fSetF "Settler" "_is_down" (fVar 0) (fC (.bool false))) (fSetF "Settler" "_first" (fVar 0) (fC .none))))
def r_Settler_init : List L → S → Option (L × S) := runG 2 d_Settler_init
abbrev s_Settler_is_down : Stmt := L2.inClass (top 1) 1
abbrev N_Settler_is_down : List Str := ["self"]
abbrev P_Settler_is_down : List Str := ["self"]
def d_Settler_is_down : FS := (fRet (fFld "Settler" "_is_down" (fVar 0)))
def r_Settler_is_down : List L → S → Option (L × S) := runG 1 d_Settler_is_down
abbrev s_Settler_hear : Stmt := L2.inClass (top 1) 2
abbrev N_Settler_hear : List Str := ["self", "tick", "is_closed"]
abbrev P_Settler_hear : List Str := ["self", "tick", "is_closed"]
def d_Settler_hear : FS := (fSeq (fIfS (fTest (fOp gEq (fVar 2) (fFld "Settler" "_is_down" (fVar 0)))) (fSeq (fSetF "Settler" "_first" (fVar 0) (fC .none)) (fRet (fC (.bool false)))) fNext) (fSeq (fIfS (fTest (fOp gIs (fFld "Settler" "_first" (fVar 0)) (fC .none))) (fSetF "Settler" "_first" (fVar 0) (fVar 1)) fNext) (fSeq (fIfS (fTest (fOp gLt (fOp gSub (fVar 1) (fFld "Settler" "_first" (fVar 0))) (fFld "Settler" "_settle" (fVar 0)))) (fRet (fC (.bool false))) fNext) (fSeq (fPar [.fd "Settler" "_is_down" (fVar 0), .fd "Settler" "_first" (fVar 0)] (fVl (fVar 2) (fVl (fC .none) fV0))) (fRet (fC (.bool true)))))))
def r_Settler_hear : List L → S → Option (L × S) := runG 3 d_Settler_hear
abbrev s_EagerSettler_init : Stmt := L2.inClass (top 2) 0
abbrev N_EagerSettler_init : List Str := ["self", "rest"]
abbrev P_EagerSettler_init : List Str := ["self", "rest"]
def d_EagerSettler_init : FS := (fSeq (fSetF "EagerSettler" "_rest" (fVar 0) (fVar 1)) (fSeq (fSetF "EagerSettler" "_is_down" (fVar 0) (fC (.bool false))) (fSetF "EagerSettler" "_last" (fVar 0) (fC .none))))
def r_EagerSettler_init : List L → S → Option (L × S) := runG 2 d_EagerSettler_init
abbrev s_EagerSettler_is_down : Stmt := L2.inClass (top 2) 1
abbrev N_EagerSettler_is_down : List Str := ["self"]
abbrev P_EagerSettler_is_down : List Str := ["self"]
def d_EagerSettler_is_down : FS := (fRet (fFld "EagerSettler" "_is_down" (fVar 0)))
def r_EagerSettler_is_down : List L → S → Option (L × S) := runG 1 d_EagerSettler_is_down
abbrev s_EagerSettler_hear : Stmt := L2.inClass (top 2) 2
abbrev N_EagerSettler_hear : List Str := ["self", "tick", "is_closed"]
abbrev P_EagerSettler_hear : List Str := ["self", "tick", "is_closed"]
def d_EagerSettler_hear : FS := (fSeq (fIfS (fOrT (fTest (fOp gEq (fVar 2) (fFld "EagerSettler" "_is_down" (fVar 0)))) (fAndT (fTest (fOp gNotIs (fFld "EagerSettler" "_last" (fVar 0)) (fC .none))) (fTest (fOp gLt (fOp gSub (fVar 1) (fFld "EagerSettler" "_last" (fVar 0))) (fFld "EagerSettler" "_rest" (fVar 0)))))) (fRet (fC (.bool false))) fNext) (fSeq (fPar [.fd "EagerSettler" "_is_down" (fVar 0), .fd "EagerSettler" "_last" (fVar 0)] (fVl (fVar 2) (fVl (fVar 1) fV0))) (fRet (fC (.bool true)))))
def r_EagerSettler_hear : List L → S → Option (L × S) := runG 3 d_EagerSettler_hear
abbrev s_settled_ticks : Stmt := top 3
abbrev N_settled_ticks : List Str := ["settle", "rows", "settler", "tick", "is_closed"]
abbrev P_settled_ticks : List Str := ["settle", "rows"]
def d_settled_ticks : FS := (fSeq (fAsg 2 (fMake "Settler" 2 r_Settler_init (fCons (fVar 0) fNil))) (fRet (fCall oTuple (fCons (fFrz (fLC [3, 4] (.tp (.cons (.nm 3) (.cons (.nm 4) .nil))) (fSeqI (fVar 1)) (fTru (fMethG "Settler" "hear" 3 r_Settler_hear (fVar 2) (fCons (fVar 3) (fCons (fVar 4) fNil)))) (fVar 3))) fNil))))
def r_settled_ticks : List D → Option D := runP 5 d_settled_ticks
abbrev s_law_box : Stmt := top 5
abbrev s_law_load : Stmt := top 6
abbrev s_law_draw : Stmt := top 7
abbrev s_law_same : Stmt := top 8
abbrev s_law_is_up : Stmt := top 9
abbrev N_law_is_up : List Str := ["flips", "tick", "flip"]
abbrev P_law_is_up : List Str := ["flips", "tick"]
def d_law_is_up : FS := (fRet (fOp gEq (fOp gMod (fCall oLen (fCons (fFrz (fLC [2] (.nm 2) (fSeqI (fVar 0)) (fTest (fOp gLe (fVar 2) (fVar 1))) (fVar 2))) fNil)) (fC (.int 2))) (fC (.int 1))))
def r_law_is_up : List D → Option D := runP 3 d_law_is_up
abbrev s_law_settled : Stmt := top 10
abbrev N_law_settled : List Str := ["settle", "rows", "found", "is_down", "first", "tick", "is_closed"]
abbrev P_law_settled : List Str := ["settle", "rows"]
def l_law_settled_1 : FS := (fIfS (fTest (fOp gEq (fVar 6) (fVar 3))) (fAsg 4 (fC .none)) (fSeq (fAsg 4 (fIf (fTest (fOp gIs (fVar 4) (fC .none))) (fVar 5) (fVar 4))) (fIfS (fTest (fOp gGe (fOp gSub (fVar 5) (fVar 4)) (fVar 0))) (fSeq (fAppO 2 (fVar 5)) (fPar [.sl 3, .sl 4] (fVl (fBool (fNotT (fTest (fVar 3)))) (fVl (fC .none) fV0)))) fNext)))
def d_law_settled : FS := (fSeq (fPar [.sl 2, .sl 3, .sl 4] (fVo (fLst fNil) (fVl (fC (.bool false)) (fVl (fC .none) fV0)))) (fSeq (fFor (.tp (.cons (.nm 5) (.cons (.nm 6) .nil))) (fSeqI (fVar 1)) l_law_settled_1) (fRet (fCall oTuple (fCons (fVar 2) fNil)))))
def r_law_settled : List D → Option D := runP 7 d_law_settled
abbrev s_law_rows : Stmt := top 11
abbrev N_law_rows : List Str := ["box", "settle", "rows", "tick", "is_closed", "most", "turn", "gap"]
abbrev P_law_rows : List Str := ["box", "settle"]
def l_law_rows_1 : FS := (fSeq (fAsg 4 (fIf (fTest (fOp gEq (fCallG 2 r_law_draw (fCons (fVar 0) (fCons (fVar 5) fNil))) (fC (.int 0)))) (fBool (fNotT (fTest (fVar 4)))) (fVar 4))) (fSeq (fAppO 2 (fTup (fCons (fVar 3) (fCons (fVar 4) fNil)))) (fSeq (fAsg 7 (fOp gIx (fFrz (fLst (fCons (fC (.int 1)) (fCons (fOp gAdd (fC (.int 1)) (fCallG 2 r_law_draw (fCons (fVar 0) (fCons (fOp gAdd (fVar 1) (fC (.int 2))) fNil)))) (fCons (fOp gAdd (fOp gDiv (fVar 1) (fC (.int 2))) (fC (.int 1))) (fCons (fVar 1) (fCons (fOp gAdd (fVar 1) (fC (.int 1))) fNil))))))) (fCallG 2 r_law_draw (fCons (fVar 0) (fCons (fC (.int 5)) fNil))))) (fAsg 3 (fOp gAdd (fVar 3) (fCall oMax2 (fCons (fC (.int 1)) (fCons (fVar 7) fNil))))))))
def d_law_rows : FS := (fSeq (fPar [.sl 2, .sl 3, .sl 4, .sl 5] (fVo (fLst fNil) (fVl (fCallG 2 r_law_draw (fCons (fVar 0) (fCons (fC (.int 5)) fNil))) (fVl (fC (.bool false)) (fVl (fOp gAdd (fC (.int 1)) (fCallG 2 r_law_draw (fCons (fVar 0) (fCons (fC (.int 4)) fNil)))) fV0))))) (fSeq (fFor (.nm 6) (fRng1 (fCons (fOp gAdd (fC (.int 1)) (fCallG 2 r_law_draw (fCons (fVar 0) (fCons (fC (.int 40)) fNil)))) fNil)) l_law_rows_1) (fRetV 2)))
def r_law_rows : List L → S → Option (L × S) := runG 8 d_law_rows
abbrev s_law_eager : Stmt := top 12
abbrev N_law_eager : List Str := ["rest", "rows", "found", "is_down", "tick", "is_closed"]
abbrev P_law_eager : List Str := ["rest", "rows"]
def l_law_eager_1 : FS := (fIfS (fAndT (fTest (fOp gNe (fVar 5) (fVar 3))) (fOrT (fTest (fOp gEq (fVar 2) (fFrz (fLst fNil)))) (fTest (fOp gGe (fOp gSub (fVar 4) (fOp gIx (fVar 2) (fUn gNeg (fC (.int 1))))) (fVar 0))))) (fSeq (fAppO 2 (fVar 4)) (fAsg 3 (fBool (fNotT (fTest (fVar 3)))))) fNext)
def d_law_eager : FS := (fSeq (fPar [.sl 2, .sl 3] (fVo (fLst fNil) (fVl (fC (.bool false)) fV0))) (fSeq (fFor (.tp (.cons (.nm 4) (.cons (.nm 5) .nil))) (fSeqI (fVar 1)) l_law_eager_1) (fRet (fCall oTuple (fCons (fVar 2) fNil)))))
def r_law_eager : List D → Option D := runP 6 d_law_eager
abbrev s_law : Stmt := top 13
abbrev N_law : List Str := ["script", "box", "turn", "settle", "rows", "other", "due", "machines", "k", "m", "tick", "is_closed"]
abbrev P_law : List Str := ["script"]
def l_law_1 : FS := (fSeq (fUnp (.tp (.cons (.nm 10) (.cons (.nm 11) .nil))) (fOp gIx (fOp gIx (fFrz (fLst (fCons (fVar 4) (fCons (fVar 5) fNil)))) (fOp gMod (fVar 9) (fC (.int 2)))) (fVar 8))) (fSeq (fIfS (fNotT (fTru (fCallP 2 (r_law_same 6) (fCons (fOr (fMethG "Settler" "hear" 3 r_Settler_hear (fOp gIx (fVar 7) (fVar 9)) (fCons (fVar 10) (fCons (fVar 11) fNil))) (fMethG "EagerSettler" "hear" 3 r_EagerSettler_hear (fOp gIx (fVar 7) (fVar 9)) (fCons (fVar 10) (fCons (fVar 11) fNil)))) (fCons (fOp (gIn false) (fVar 10) (fOp gIx (fVar 6) (fVar 9))) fNil))))) (fRet (fC (.bool false))) fNext) (fIfS (fNotT (fTru (fCallP 2 (r_law_same 6) (fCons (fOr (fMethG "Settler" "is_down" 1 r_Settler_is_down (fOp gIx (fVar 7) (fVar 9)) fNil) (fMethG "EagerSettler" "is_down" 1 r_EagerSettler_is_down (fOp gIx (fVar 7) (fVar 9)) fNil)) (fCons (fCallP 2 r_law_is_up (fCons (fOp gIx (fVar 6) (fVar 9)) (fCons (fVar 10) fNil))) fNil))))) (fRet (fC (.bool false))) fNext)))
def l_law_2 : FS := (fFor (.nm 9) (fRng1 (fCons (fC (.int 4)) fNil)) l_law_1)
def l_law_3 : FS := (fSeq (fAsg 3 (fOp gAdd (fC (.int 1)) (fCallG 2 r_law_draw (fCons (fVar 1) (fCons (fOp gIx (fFrz (fLst (fCons (fC (.int 5)) (fCons (fC (.int 60)) (fCons (fC (.int 1000)) fNil))))) (fVar 2)) fNil))))) (fSeq (fAsg 4 (fCallG 2 r_law_rows (fCons (fVar 1) (fCons (fVar 3) fNil)))) (fSeq (fAsg 5 (fFrz (fLC [10, 11] (.tp (.cons (.nm 10) (.cons (.nm 11) .nil))) (fSeqI (fVar 4)) fYes (fTup (fCons (fVar 10) (fCons (fBool (fNotT (fTest (fVar 11)))) fNil)))))) (fSeq (fAsg 6 (fFrz (fLst (fCons (fCallP 2 r_law_settled (fCons (fVar 3) (fCons (fVar 4) fNil))) (fCons (fCallP 2 r_law_settled (fCons (fVar 3) (fCons (fVar 5) fNil))) (fCons (fCallP 2 r_law_eager (fCons (fVar 3) (fCons (fVar 4) fNil))) (fCons (fCallP 2 r_law_eager (fCons (fVar 3) (fCons (fVar 5) fNil))) fNil))))))) (fSeq (fIfS (fOrT (fNotT (fTru (fCallP 2 (r_law_same 6) (fCons (fCallP 2 r_settled_ticks (fCons (fVar 3) (fCons (fCall oTuple (fCons (fVar 4) fNil)) fNil))) (fCons (fOp gIx (fVar 6) (fC (.int 0))) fNil))))) (fNotT (fTru (fCallP 2 (r_law_same 6) (fCons (fCallP 2 r_settled_ticks (fCons (fVar 3) (fCons (fCall oTuple (fCons (fVar 5) fNil)) fNil))) (fCons (fOp gIx (fVar 6) (fC (.int 1))) fNil)))))) (fRet (fC (.bool false))) fNext) (fSeq (fAsg 7 (fNewR (fCons (fMake "Settler" 2 r_Settler_init (fCons (fVar 3) fNil)) (fCons (fMake "Settler" 2 r_Settler_init (fCons (fVar 3) fNil)) (fCons (fMake "EagerSettler" 2 r_EagerSettler_init (fCons (fVar 3) fNil)) (fCons (fMake "EagerSettler" 2 r_EagerSettler_init (fCons (fVar 3) fNil)) fNil)))))) (fFor (.nm 8) (fRng1 (fCons (fCall oLen (fCons (fVar 4) fNil)) fNil)) l_law_2)))))))
def d_law : FS := (fSeq (fAsg 1 (fCallG 1 r_law_box (fCons (fVar 0) fNil))) (fSeq (fFor (.nm 2) (fRng1 (fCons (fC (.int 3)) fNil)) l_law_3) (fRet (fC (.bool true)))))
def r_law : List L → S → Option (L × S) := runG 12 d_law
structure Txt (K : PySem.W.Frag) (mg : Str → Option Value) : Prop where
  b_tuple : mg "tuple" = none
  b_list : mg "list" = none
  b_len : mg "len" = none
  b_int : mg "int" = none
  b_isinstance : mg "isinstance" = none
  b_range : mg "range" = none
  b_all : mg "all" = none
  b_bool : mg "bool" = none
  b_str : mg "str" = none
  b_max : mg "max" = none
  f_Settler_settle : FldOk K mg "Settler" "_settle"
  f_Settler_is_down : FldOk K mg "Settler" "_is_down"
  f_Settler_first : FldOk K mg "Settler" "_first"
  f_EagerSettler_rest : FldOk K mg "EagerSettler" "_rest"
  f_EagerSettler_is_down : FldOk K mg "EagerSettler" "_is_down"
  f_EagerSettler_last : FldOk K mg "EagerSettler" "_last"
section
variable {P : Program} {wl : World} {K : PySem.W.Frag} {mg : Str → Option Value} {base : Heap}
theorem sc_Settler_init : FnScope N_Settler_init P_Settler_init (defScope s_Settler_init) := ⟨rfl, rfl, rfl, by decide +kernel, rfl, by decide +kernel, by decide +kernel⟩
theorem ok_Settler_init {f : Addr} {fd : FuncData} (T : Txt K mg) (F : Fun K "__init__" "Settler.__init__" s_Settler_init f fd)  : FnOk P wl K mg base L2.CX0 1 f fd P_Settler_init (spG K mg 2 r_Settler_init) := by
  refine fn_G (N := N_Settler_init) F sc_Settler_init (k := 0) (b := d_Settler_init) fun cdv A outer s H E hr => ?_
  exact (sb_cons (ss_setF T.f_Settler_settle (se_pv 0) (se_pv 1)) (sb_cons (ss_setF T.f_Settler_is_down (se_pv 0) se_bl) (sb_one (ss_setF T.f_Settler_first (se_pv 0) se_non))))
theorem sc_Settler_is_down : FnScope N_Settler_is_down P_Settler_is_down (defScope s_Settler_is_down) := ⟨rfl, rfl, rfl, by decide +kernel, rfl, by decide +kernel, by decide +kernel⟩
theorem ok_Settler_is_down {f : Addr} {fd : FuncData} (T : Txt K mg) (F : Fun K "is_down" "Settler.is_down" s_Settler_is_down f fd)  : FnOk P wl K mg base L2.CX0 1 f fd P_Settler_is_down (spG K mg 1 r_Settler_is_down) := by
  refine fn_G (N := N_Settler_is_down) F sc_Settler_is_down (k := 0) (b := d_Settler_is_down) fun cdv A outer s H E hr => ?_
  exact (sb_one (ss_ret (se_fld T.f_Settler_is_down (se_pv 0))))
theorem sc_Settler_hear : FnScope N_Settler_hear P_Settler_hear (defScope s_Settler_hear) := ⟨rfl, rfl, rfl, by decide +kernel, rfl, by decide +kernel, by decide +kernel⟩
theorem ok_Settler_hear {f : Addr} {fd : FuncData} (T : Txt K mg) (F : Fun K "hear" "Settler.hear" s_Settler_hear f fd)  : FnOk P wl K mg base L2.CX0 1 f fd P_Settler_hear (spG K mg 3 r_Settler_hear) := by
  refine fn_G (N := N_Settler_hear) F sc_Settler_hear (k := 0) (b := d_Settler_hear) fun cdv A outer s H E hr => ?_
  exact (sb_cons (ss_if (st_eq hr (se_pv 2) (se_fld T.f_Settler_is_down (se_pv 0))) (sb_cons (ss_setF T.f_Settler_first (se_pv 0) se_non) (sb_one (ss_ret se_bl))) sb_nil) (sb_cons (ss_if (st_is (se_fld T.f_Settler_first (se_pv 0)) se_non) (sb_one (ss_setF T.f_Settler_first (se_pv 0) (se_pv 1))) sb_nil) (sb_cons (ss_if (st_lt (se_sub (se_pv 1) (se_fld T.f_Settler_first (se_pv 0))) (se_fld T.f_Settler_settle (se_pv 0))) (sb_one (ss_ret se_bl)) sb_nil) (sb_cons (ss_par rfl (svs_l (se_pv 2) (svs_l se_non svs_nil)) (spn_cons (sp_fd T.f_Settler_is_down (se_pv 0)) (spn_cons (sp_fd T.f_Settler_first (se_pv 0)) spn_nil))) (sb_one (ss_ret se_bl))))))
theorem sc_EagerSettler_init : FnScope N_EagerSettler_init P_EagerSettler_init (defScope s_EagerSettler_init) := ⟨rfl, rfl, rfl, by decide +kernel, rfl, by decide +kernel, by decide +kernel⟩
theorem ok_EagerSettler_init {f : Addr} {fd : FuncData} (T : Txt K mg) (F : Fun K "__init__" "EagerSettler.__init__" s_EagerSettler_init f fd)  : FnOk P wl K mg base L2.CX0 1 f fd P_EagerSettler_init (spG K mg 2 r_EagerSettler_init) := by
  refine fn_G (N := N_EagerSettler_init) F sc_EagerSettler_init (k := 0) (b := d_EagerSettler_init) fun cdv A outer s H E hr => ?_
  exact (sb_cons (ss_setF T.f_EagerSettler_rest (se_pv 0) (se_pv 1)) (sb_cons (ss_setF T.f_EagerSettler_is_down (se_pv 0) se_bl) (sb_one (ss_setF T.f_EagerSettler_last (se_pv 0) se_non))))
theorem sc_EagerSettler_is_down : FnScope N_EagerSettler_is_down P_EagerSettler_is_down (defScope s_EagerSettler_is_down) := ⟨rfl, rfl, rfl, by decide +kernel, rfl, by decide +kernel, by decide +kernel⟩
theorem ok_EagerSettler_is_down {f : Addr} {fd : FuncData} (T : Txt K mg) (F : Fun K "is_down" "EagerSettler.is_down" s_EagerSettler_is_down f fd)  : FnOk P wl K mg base L2.CX0 1 f fd P_EagerSettler_is_down (spG K mg 1 r_EagerSettler_is_down) := by
  refine fn_G (N := N_EagerSettler_is_down) F sc_EagerSettler_is_down (k := 0) (b := d_EagerSettler_is_down) fun cdv A outer s H E hr => ?_
  exact (sb_one (ss_ret (se_fld T.f_EagerSettler_is_down (se_pv 0))))
theorem sc_EagerSettler_hear : FnScope N_EagerSettler_hear P_EagerSettler_hear (defScope s_EagerSettler_hear) := ⟨rfl, rfl, rfl, by decide +kernel, rfl, by decide +kernel, by decide +kernel⟩
theorem ok_EagerSettler_hear {f : Addr} {fd : FuncData} (T : Txt K mg) (F : Fun K "hear" "EagerSettler.hear" s_EagerSettler_hear f fd)  : FnOk P wl K mg base L2.CX0 1 f fd P_EagerSettler_hear (spG K mg 3 r_EagerSettler_hear) := by
  refine fn_G (N := N_EagerSettler_hear) F sc_EagerSettler_hear (k := 0) (b := d_EagerSettler_hear) fun cdv A outer s H E hr => ?_
  exact (sb_cons (ss_if (sw_st (sw_or (st_eq hr (se_pv 2) (se_fld T.f_EagerSettler_is_down (se_pv 0))) (sw_or1 (sw_st (sw_and (st_isnot (se_fld T.f_EagerSettler_last (se_pv 0)) se_non) (sw_and1 (st_lt (se_sub (se_pv 1) (se_fld T.f_EagerSettler_last (se_pv 0))) (se_fld T.f_EagerSettler_rest (se_pv 0))))))))) (sb_one (ss_ret se_bl)) sb_nil) (sb_cons (ss_par rfl (svs_l (se_pv 2) (svs_l (se_pv 1) svs_nil)) (spn_cons (sp_fd T.f_EagerSettler_is_down (se_pv 0)) (spn_cons (sp_fd T.f_EagerSettler_last (se_pv 0)) spn_nil))) (sb_one (ss_ret se_bl))))
theorem sc_settled_ticks : FnScope N_settled_ticks P_settled_ticks (defScope s_settled_ticks) := ⟨rfl, rfl, rfl, by decide +kernel, rfl, by decide +kernel, by decide +kernel⟩
theorem ok_settled_ticks {f : Addr} {fd : FuncData} (T : Txt K mg) (F : Fun K "settled_ticks" "settled_ticks" s_settled_ticks f fd) (h_Settler_init : Mq P wl K mg base 1 "Settler" (spG K mg 2 r_Settler_init)) (h_Settler_hear : Mt P wl K mg base 1 "Settler" "hear" (spG K mg 3 r_Settler_hear)) : FnOk P wl K mg base L2.CX0 3 f fd P_settled_ticks (spP K 2 r_settled_ticks) := by
  refine fn_P (N := N_settled_ticks) F sc_settled_ticks (k := 2) (b := d_settled_ticks) fun cdv A outer s H E hr => ?_
  exact (sb_cons (ss_asg (sv_set 2 (se_make h_Settler_init hr (by decide) rfl (sa_cons (se_pv 0) sa_nil)) sc_settled_ticks.nd)) (sb_one (ss_ret (se_tuple rfl T.b_tuple (sa_cons (se_frz (sf_lc (own := [("tick", 3), ("is_closed", 4)]) rfl sc_settled_ticks.nd (si_seq (se_pv 1)) (blkOk_by (own := [("tick", 3), ("is_closed", 4)]) (N := N_settled_ticks) (sc := defScope s_settled_ticks) (by decide +kernel)) (fun _ _ _ _ _ => (sg_tp rfl (sgs_cons (sg_nm 3 sc_settled_ticks.nd) (sgs_cons (sg_nm 4 sc_settled_ticks.nd) sgs_nil)) (len_cons (len_cons len_nil)))) (fun _ _ _ _ _ => (sts_one (st_tru (se_meth h_Settler_hear hr (by decide) (se_pv 2) (sa_cons (se_pv 3) (sa_cons (se_pv 4) sa_nil)))))) (fun _ _ _ _ _ => (se_pv 3)))) sa_nil)))))
theorem sc_law_box : FnScope N_law_box P_law_box (defScope s_law_box) := ⟨rfl, rfl, rfl, by decide +kernel, rfl, by decide +kernel, by decide +kernel⟩
theorem ok_law_box {f : Addr} {fd : FuncData} (T : Txt K mg) (F : Fun K "_law_box" "_law_box" s_law_box f fd)  : FnOk P wl K mg base L2.CX0 1 f fd P_law_box (spG K mg 1 r_law_box) := by
  refine fn_G (N := N_law_box) F sc_law_box (k := 0) (b := d_law_box) fun cdv A outer s H E hr => ?_
  exact (sb_one (ss_ret (se_newR (sa_cons (se_newD (sf_list rfl T.b_list (sa_cons (se_sl (se_pv 0) so_none (so_some se_int)) sa_nil))) (sa_cons se_int (sa_cons (se_add se_int (se_len rfl T.b_len (sa_cons (se_pv 0) sa_nil))) sa_nil))))))
theorem sc_law_load : FnScope N_law_load P_law_load (defScope s_law_load) := ⟨rfl, rfl, rfl, by decide +kernel, rfl, by decide +kernel, by decide +kernel⟩
theorem ok_law_load {f : Addr} {fd : FuncData} (T : Txt K mg) (F : Fun K "_law_load" "_law_load" s_law_load f fd)  : FnOk P wl K mg base L2.CX0 1 f fd P_law_load (spG K mg 1 r_law_load) := by
  refine fn_G (N := N_law_load) F sc_law_load (k := 0) (b := d_law_load) fun cdv A outer s H E hr => ?_
  exact (sb_cons (ss_asg (sv_set 1 (se_at (se_pv 0) se_int) sc_law_load.nd)) (sb_cons (ss_if (st_gt (se_len rfl T.b_len (sa_cons (se_pv 1) sa_nil)) se_int) (sb_cons (ss_asg (sv_set 2 (se_intc rfl T.b_int (sa_cons (se_popAt (se_pv 1) se_int) sa_nil)) sc_law_load.nd)) (sb_cons (ss_asg (sv_set 3 (se_if (st_ge (se_pv 2) se_int) (se_mul se_int (se_pv 2)) (se_sub (se_mul (se_neg se_int) (se_pv 2)) se_int)) sc_law_load.nd)) (sb_cons (ss_if (st_ge (se_pv 3) se_int) (sb_one (ss_ret (se_pv 3))) sb_nil) (sb_one (ss_setS (se_pv 0) se_int (se_mod (se_intc rfl T.b_int (sa_cons (se_add (se_add (se_mul (se_at (se_pv 0) se_int) se_int) (se_mul (se_pv 3) se_int)) se_int) sa_nil)) se_int)))))) sb_nil) (sb_cons (ss_asg (sv_set 4 (se_mod (se_intc rfl T.b_int (sa_cons (se_add (se_mul (se_at (se_pv 0) se_int) se_int) se_int) sa_nil)) se_int) sc_law_load.nd)) (sb_cons (ss_asg (sv_set 5 (se_mod (se_intc rfl T.b_int (sa_cons (se_add (se_mul (se_pv 4) se_int) se_int) sa_nil)) se_int) sc_law_load.nd)) (sb_cons (ss_setS (se_pv 0) se_int (se_mod (se_intc rfl T.b_int (sa_cons (se_add (se_mul (se_pv 5) se_int) se_int) sa_nil)) se_int)) (sb_one (ss_ret (se_add (se_add (se_mul (se_pv 4) se_int) (se_mul (se_pv 5) se_int)) (se_at (se_pv 0) se_int)))))))))
theorem sc_law_draw : FnScope N_law_draw P_law_draw (defScope s_law_draw) := ⟨rfl, rfl, rfl, by decide +kernel, rfl, by decide +kernel, by decide +kernel⟩
theorem ok_law_draw {f : Addr} {fd : FuncData} (T : Txt K mg) (F : Fun K "_law_draw" "_law_draw" s_law_draw f fd) (h_law_load : Cl P wl K mg base 1 "_law_load" (spG K mg 1 r_law_load)) : FnOk P wl K mg base L2.CX0 2 f fd P_law_draw (spG K mg 2 r_law_draw) := by
  refine fn_G (N := N_law_draw) F sc_law_draw (k := 1) (b := d_law_draw) fun cdv A outer s H E hr => ?_
  exact (sb_cons (ss_if (st_lt (se_at (se_pv 0) se_int) (se_pv 1)) (sb_one (ss_setS (se_pv 0) se_int (se_callG h_law_load hr (by decide) rfl (sa_cons (se_pv 0) sa_nil)))) sb_nil) (sb_cons (ss_asg (sv_set 2 (se_mod (se_intc rfl T.b_int (sa_cons (se_at (se_pv 0) se_int) sa_nil)) (se_pv 1)) sc_law_draw.nd)) (sb_cons (ss_setS (se_pv 0) se_int (se_div (se_at (se_pv 0) se_int) (se_pv 1))) (sb_one (ss_ret (se_pv 2))))))
theorem sc_law_same : FnScope N_law_same P_law_same (defScope s_law_same) := ⟨rfl, rfl, rfl, by decide +kernel, rfl, by decide +kernel, by decide +kernel⟩
theorem ok_law_same {f : Addr} {fd : FuncData} (T : Txt K mg) (F : Fun K "_law_same" "_law_same" s_law_same f fd) (B : Binds K fd P_law_same []) (hm : mg "_law_same" = some (.ref f))  : ∀ n : Nat, Cl P wl K mg base (0 + n) "_law_same" (spP K 2 (r_law_same n))
  | 0 => ⟨f, fd, P_law_same, ⟨fun vs H Q E h => (by obtain ⟨_, _, _, _, _, _, h, _⟩ := h; cases h), fun A outer s H args us vs Q E hr he hb hv h => (by obtain ⟨_, _, _, _, _, _, h, _⟩ := h; cases h)⟩, hm, F.kp, B⟩
  | n + 1 => by
    have IH := ok_law_same T F B hm  n
    refine ⟨f, fd, P_law_same, fn_P (N := N_law_same) F sc_law_same (k := 0 + n) (b := d_law_same (r_law_same n)) fun cdv A outer s H E hr => ?_, hm, F.kp, B⟩
    exact (sb_cons (ss_if (sw_st (sw_or (sw_st (sw_and (st_tru (se_isi rfl T.b_isinstance rfl T.b_tuple (by decide +kernel) (se_pv 0) kit_tuple)) (sw_and1 (st_tru (se_isi rfl T.b_isinstance rfl T.b_tuple (by decide +kernel) (se_pv 1) kit_tuple))))) (sw_or1 (sw_st (sw_and (st_tru (se_isi rfl T.b_isinstance rfl T.b_list (by decide +kernel) (se_pv 0) kit_list)) (sw_and1 (st_tru (se_isi rfl T.b_isinstance rfl T.b_list (by decide +kernel) (se_pv 1) kit_list)))))))) (sb_one (ss_ret (se_and (se_eq hr (se_len rfl T.b_len (sa_cons (se_pv 0) sa_nil)) (se_len rfl T.b_len (sa_cons (se_pv 1) sa_nil))) (se_one (se_all rfl rfl T.b_all (sa_cons (se_frz (sf_lc (own := [("k", 2)]) rfl sc_law_same.nd (si_rng1 rfl T.b_range (sa_cons (se_len rfl T.b_len (sa_cons (se_pv 0) sa_nil)) sa_nil)) (blkOk_by (own := [("k", 2)]) (N := N_law_same) (sc := defScope s_law_same) (by decide +kernel)) (fun _ _ _ _ _ => (sg_nm 2 sc_law_same.nd)) (fun _ _ _ _ _ => sts_nil) (fun _ _ _ _ _ => (se_callP IH hr (Nat.le_refl _) rfl (sa_cons (se_at (se_pv 0) (se_pv 2)) (sa_cons (se_at (se_pv 1) (se_pv 2)) sa_nil)))))) sa_nil)))))) sb_nil) (sb_cons (ss_if (sw_st (sw_or (st_tru (se_isi rfl T.b_isinstance rfl T.b_bool (by decide +kernel) (se_pv 0) kit_bool)) (sw_or1 (st_tru (se_isi rfl T.b_isinstance rfl T.b_bool (by decide +kernel) (se_pv 1) kit_bool))))) (sb_one (ss_ret (se_and (se_isi rfl T.b_isinstance rfl T.b_bool (by decide +kernel) (se_pv 0) kit_bool) (se_and (se_isi rfl T.b_isinstance rfl T.b_bool (by decide +kernel) (se_pv 1) kit_bool) (se_one (se_eq hr (se_pv 0) (se_pv 1))))))) sb_nil) (sb_cons (ss_if (sw_st (sw_or (sw_st (sw_and (st_tru (se_isi rfl T.b_isinstance rfl T.b_int (by decide +kernel) (se_pv 0) kit_int)) (sw_and1 (st_tru (se_isi rfl T.b_isinstance rfl T.b_int (by decide +kernel) (se_pv 1) kit_int))))) (sw_or1 (sw_st (sw_and (st_tru (se_isi rfl T.b_isinstance rfl T.b_str (by decide +kernel) (se_pv 0) kit_str)) (sw_and1 (st_tru (se_isi rfl T.b_isinstance rfl T.b_str (by decide +kernel) (se_pv 1) kit_str)))))))) (sb_one (ss_ret (se_eq hr (se_pv 0) (se_pv 1)))) sb_nil) (sb_one (ss_ret (se_and (se_is (se_pv 0) se_non) (se_one (se_is (se_pv 1) se_non))))))))
theorem sc_law_is_up : FnScope N_law_is_up P_law_is_up (defScope s_law_is_up) := ⟨rfl, rfl, rfl, by decide +kernel, rfl, by decide +kernel, by decide +kernel⟩
theorem ok_law_is_up {f : Addr} {fd : FuncData} (T : Txt K mg) (F : Fun K "_law_is_up" "_law_is_up" s_law_is_up f fd)  : FnOk P wl K mg base L2.CX0 1 f fd P_law_is_up (spP K 2 r_law_is_up) := by
  refine fn_P (N := N_law_is_up) F sc_law_is_up (k := 0) (b := d_law_is_up) fun cdv A outer s H E hr => ?_
  exact (sb_one (ss_ret (se_eq hr (se_mod (se_len rfl T.b_len (sa_cons (se_frz (sf_lc (own := [("flip", 2)]) rfl sc_law_is_up.nd (si_seq (se_pv 0)) (blkOk_by (own := [("flip", 2)]) (N := N_law_is_up) (sc := defScope s_law_is_up) (by decide +kernel)) (fun _ _ _ _ _ => (sg_nm 2 sc_law_is_up.nd)) (fun _ _ _ _ _ => (sts_one (st_le (se_pv 2) (se_pv 1)))) (fun _ _ _ _ _ => (se_pv 2)))) sa_nil)) se_int) se_int)))
theorem sc_law_settled : FnScope N_law_settled P_law_settled (defScope s_law_settled) := ⟨rfl, rfl, rfl, by decide +kernel, rfl, by decide +kernel, by decide +kernel⟩
theorem ok_law_settled {f : Addr} {fd : FuncData} (T : Txt K mg) (F : Fun K "_law_settled" "_law_settled" s_law_settled f fd)  : FnOk P wl K mg base L2.CX0 1 f fd P_law_settled (spP K 2 r_law_settled) := by
  refine fn_P (N := N_law_settled) F sc_law_settled (k := 0) (b := d_law_settled) fun cdv A outer s H E hr => ?_
  exact (sb_cons (ss_par3 2 3 4 rfl sc_law_settled.nd (by decide) (by decide) (by decide) (svs_o (sf_lst sa_nil) (svs_l se_bl (svs_l se_non svs_nil)))) (sb_cons (ss_for PassesOwn.never rfl (si_seq (se_pv 1)) (sg_tp rfl (sgs_cons (sg_nm 5 sc_law_settled.nd) (sgs_cons (sg_nm 6 sc_law_settled.nd) sgs_nil)) (len_cons (len_cons len_nil))) (sb_one (ss_if (st_eq hr (se_pv 6) (se_pv 3)) (sb_one (ss_asg (sv_set 4 se_non sc_law_settled.nd))) (sb_cons (ss_asg (sv_set 4 (se_if (st_is (se_pv 4) se_non) (se_pv 5) (se_pv 4)) sc_law_settled.nd)) (sb_one (ss_if (st_ge (se_sub (se_pv 5) (se_pv 4)) (se_pv 0)) (sb_cons (ss_appO 2 (se_pv 5)) (sb_one (ss_par2 3 4 rfl sc_law_settled.nd (by decide) (svs_l (se_not (se_pv 3)) (svs_l se_non svs_nil))))) sb_nil)))))) (sb_one (ss_ret (se_tuple rfl T.b_tuple (sa_cons (se_pv 2) sa_nil))))))
theorem sc_law_rows : FnScope N_law_rows P_law_rows (defScope s_law_rows) := ⟨rfl, rfl, rfl, by decide +kernel, rfl, by decide +kernel, by decide +kernel⟩
theorem ok_law_rows {f : Addr} {fd : FuncData} (T : Txt K mg) (F : Fun K "_law_rows" "_law_rows" s_law_rows f fd) (h_law_draw : Cl P wl K mg base 2 "_law_draw" (spG K mg 2 r_law_draw)) : FnOk P wl K mg base L2.CX0 3 f fd P_law_rows (spG K mg 2 r_law_rows) := by
  refine fn_G (N := N_law_rows) F sc_law_rows (k := 2) (b := d_law_rows) fun cdv A outer s H E hr => ?_
  exact (sb_cons (ss_par rfl (svs_o (sf_lst sa_nil) (svs_l (se_callG h_law_draw hr (by decide) rfl (sa_cons (se_pv 0) (sa_cons se_int sa_nil))) (svs_l se_bl (svs_l (se_add se_int (se_callG h_law_draw hr (by decide) rfl (sa_cons (se_pv 0) (sa_cons se_int sa_nil)))) svs_nil)))) (spn_cons (sp_nm 2 sc_law_rows.nd) (spn_cons (sp_nm 3 sc_law_rows.nd) (spn_cons (sp_nm 4 sc_law_rows.nd) (spn_cons (sp_nm 5 sc_law_rows.nd) spn_nil))))) (sb_cons (ss_for PassesOwn.never rfl (si_rng1 rfl T.b_range (sa_cons (se_add se_int (se_callG h_law_draw hr (by decide) rfl (sa_cons (se_pv 0) (sa_cons se_int sa_nil)))) sa_nil)) (sg_nm 6 sc_law_rows.nd) (sb_cons (ss_asg (sv_set 4 (se_if (st_eq hr (se_callG h_law_draw hr (by decide) rfl (sa_cons (se_pv 0) (sa_cons (se_pv 5) sa_nil))) se_int) (se_not (se_pv 4)) (se_pv 4)) sc_law_rows.nd)) (sb_cons (ss_appO 2 (se_tup (sa_cons (se_pv 3) (sa_cons (se_pv 4) sa_nil)))) (sb_cons (ss_asg (sv_set 7 (se_at (se_frz (sf_lst (sa_cons se_int (sa_cons (se_add se_int (se_callG h_law_draw hr (by decide) rfl (sa_cons (se_pv 0) (sa_cons (se_add (se_pv 1) se_int) sa_nil)))) (sa_cons (se_add (se_div (se_pv 1) se_int) se_int) (sa_cons (se_pv 1) (sa_cons (se_add (se_pv 1) se_int) sa_nil))))))) (se_callG h_law_draw hr (by decide) rfl (sa_cons (se_pv 0) (sa_cons se_int sa_nil)))) sc_law_rows.nd)) (sb_one (ss_asg (sv_set 3 (se_add (se_pv 3) (se_max2 rfl rfl T.b_max (sa_cons se_int (sa_cons (se_pv 7) sa_nil)))) sc_law_rows.nd))))))) (sb_one (ss_retV 2))))
theorem sc_law_eager : FnScope N_law_eager P_law_eager (defScope s_law_eager) := ⟨rfl, rfl, rfl, by decide +kernel, rfl, by decide +kernel, by decide +kernel⟩
theorem ok_law_eager {f : Addr} {fd : FuncData} (T : Txt K mg) (F : Fun K "_law_eager" "_law_eager" s_law_eager f fd)  : FnOk P wl K mg base L2.CX0 1 f fd P_law_eager (spP K 2 r_law_eager) := by
  refine fn_P (N := N_law_eager) F sc_law_eager (k := 0) (b := d_law_eager) fun cdv A outer s H E hr => ?_
  exact (sb_cons (ss_par2 2 3 rfl sc_law_eager.nd (by decide) (svs_o (sf_lst sa_nil) (svs_l se_bl svs_nil))) (sb_cons (ss_for PassesOwn.never rfl (si_seq (se_pv 1)) (sg_tp rfl (sgs_cons (sg_nm 4 sc_law_eager.nd) (sgs_cons (sg_nm 5 sc_law_eager.nd) sgs_nil)) (len_cons (len_cons len_nil))) (sb_one (ss_if (sw_st (sw_and (st_ne hr (se_pv 5) (se_pv 3)) (sw_and1 (sw_st (sw_or (st_eq hr (se_pv 2) (se_frz (sf_lst sa_nil))) (sw_or1 (st_ge (se_sub (se_pv 4) (se_at (se_pv 2) (se_neg se_int))) (se_pv 0)))))))) (sb_cons (ss_appO 2 (se_pv 4)) (sb_one (ss_asg (sv_set 3 (se_not (se_pv 3)) sc_law_eager.nd)))) sb_nil))) (sb_one (ss_ret (se_tuple rfl T.b_tuple (sa_cons (se_pv 2) sa_nil))))))
theorem sc_law : FnScope N_law P_law (defScope s_law) := ⟨rfl, rfl, rfl, by decide +kernel, rfl, by decide +kernel, by decide +kernel⟩
theorem ok_law {f : Addr} {fd : FuncData} (T : Txt K mg) (F : Fun K "law" "law" s_law f fd) (h_law_box : Cl P wl K mg base 1 "_law_box" (spG K mg 1 r_law_box)) (h_law_draw : Cl P wl K mg base 2 "_law_draw" (spG K mg 2 r_law_draw)) (h_law_rows : Cl P wl K mg base 3 "_law_rows" (spG K mg 2 r_law_rows)) (h_law_settled : Cl P wl K mg base 1 "_law_settled" (spP K 2 r_law_settled)) (h_law_eager : Cl P wl K mg base 1 "_law_eager" (spP K 2 r_law_eager)) (h_law_same : Cl P wl K mg base 6 "_law_same" (spP K 2 (r_law_same 6))) (h_settled_ticks : Cl P wl K mg base 3 "settled_ticks" (spP K 2 r_settled_ticks)) (h_Settler_init : Mq P wl K mg base 1 "Settler" (spG K mg 2 r_Settler_init)) (h_EagerSettler_init : Mq P wl K mg base 1 "EagerSettler" (spG K mg 2 r_EagerSettler_init)) (h_EagerSettler_hear : Mt P wl K mg base 1 "EagerSettler" "hear" (spG K mg 3 r_EagerSettler_hear)) (h_Settler_hear : Mt P wl K mg base 1 "Settler" "hear" (spG K mg 3 r_Settler_hear)) (h_EagerSettler_is_down : Mt P wl K mg base 1 "EagerSettler" "is_down" (spG K mg 1 r_EagerSettler_is_down)) (h_Settler_is_down : Mt P wl K mg base 1 "Settler" "is_down" (spG K mg 1 r_Settler_is_down)) (h_law_is_up : Cl P wl K mg base 1 "_law_is_up" (spP K 2 r_law_is_up)) : FnOk P wl K mg base L2.CX0 7 f fd P_law (spG K mg 1 r_law) := by
  refine fn_G (N := N_law) F sc_law (k := 6) (b := d_law) fun cdv A outer s H E hr => ?_
  exact (sb_cons (ss_asg (sv_set 1 (se_callG h_law_box hr (by decide) rfl (sa_cons (se_pv 0) sa_nil)) sc_law.nd)) (sb_cons (ss_for PassesOwn.never rfl (si_rng1 rfl T.b_range (sa_cons se_int sa_nil)) (sg_nm 2 sc_law.nd) (sb_cons (ss_asg (sv_set 3 (se_add se_int (se_callG h_law_draw hr (by decide) rfl (sa_cons (se_pv 1) (sa_cons (se_at (se_frz (sf_lst (sa_cons se_int (sa_cons se_int (sa_cons se_int sa_nil))))) (se_pv 2)) sa_nil)))) sc_law.nd)) (sb_cons (ss_asg (sv_set 4 (se_callG h_law_rows hr (by decide) rfl (sa_cons (se_pv 1) (sa_cons (se_pv 3) sa_nil))) sc_law.nd)) (sb_cons (ss_asg (sv_frz (svf_lc (i := 5) (own := [("tick", 10), ("is_closed", 11)]) rfl sc_law.nd (si_seq (se_pv 4)) (blkOk_by (own := [("tick", 10), ("is_closed", 11)]) (N := N_law) (sc := defScope s_law) (by decide +kernel)) (fun _ _ _ _ _ => (sg_tp rfl (sgs_cons (sg_nm 10 sc_law.nd) (sgs_cons (sg_nm 11 sc_law.nd) sgs_nil)) (len_cons (len_cons len_nil)))) (fun _ _ _ _ _ => sts_nil) (fun _ _ _ _ _ => (se_tup (sa_cons (se_pv 10) (sa_cons (se_not (se_pv 11)) sa_nil))))))) (sb_cons (ss_asg (sv_set 6 (se_frz (sf_lst (sa_cons (se_callP h_law_settled hr (by decide) rfl (sa_cons (se_pv 3) (sa_cons (se_pv 4) sa_nil))) (sa_cons (se_callP h_law_settled hr (by decide) rfl (sa_cons (se_pv 3) (sa_cons (se_pv 5) sa_nil))) (sa_cons (se_callP h_law_eager hr (by decide) rfl (sa_cons (se_pv 3) (sa_cons (se_pv 4) sa_nil))) (sa_cons (se_callP h_law_eager hr (by decide) rfl (sa_cons (se_pv 3) (sa_cons (se_pv 5) sa_nil))) sa_nil)))))) sc_law.nd)) (sb_cons (ss_if (sw_st (sw_or (st_not (st_tru (se_callP h_law_same hr (by decide) rfl (sa_cons (se_callP h_settled_ticks hr (by decide) rfl (sa_cons (se_pv 3) (sa_cons (se_tuple rfl T.b_tuple (sa_cons (se_pv 4) sa_nil)) sa_nil))) (sa_cons (se_at (se_pv 6) se_int) sa_nil))))) (sw_or1 (st_not (st_tru (se_callP h_law_same hr (by decide) rfl (sa_cons (se_callP h_settled_ticks hr (by decide) rfl (sa_cons (se_pv 3) (sa_cons (se_tuple rfl T.b_tuple (sa_cons (se_pv 5) sa_nil)) sa_nil))) (sa_cons (se_at (se_pv 6) se_int) sa_nil)))))))) (sb_one (ss_ret se_bl)) sb_nil) (sb_cons (ss_asg (sv_set 7 (se_newR (sa_cons (se_make h_Settler_init hr (by decide) rfl (sa_cons (se_pv 3) sa_nil)) (sa_cons (se_make h_Settler_init hr (by decide) rfl (sa_cons (se_pv 3) sa_nil)) (sa_cons (se_make h_EagerSettler_init hr (by decide) rfl (sa_cons (se_pv 3) sa_nil)) (sa_cons (se_make h_EagerSettler_init hr (by decide) rfl (sa_cons (se_pv 3) sa_nil)) sa_nil))))) sc_law.nd)) (sb_one (ss_for PassesOwn.never rfl (si_rng1 rfl T.b_range (sa_cons (se_len rfl T.b_len (sa_cons (se_pv 4) sa_nil)) sa_nil)) (sg_nm 8 sc_law.nd) (sb_one (ss_for PassesOwn.never rfl (si_rng1 rfl T.b_range (sa_cons se_int sa_nil)) (sg_nm 9 sc_law.nd) (sb_cons (ss_unp (se_at (se_at (se_frz (sf_lst (sa_cons (se_pv 4) (sa_cons (se_pv 5) sa_nil)))) (se_mod (se_pv 9) se_int)) (se_pv 8)) (sg_tp rfl (sgs_cons (sg_nm 10 sc_law.nd) (sgs_cons (sg_nm 11 sc_law.nd) sgs_nil)) (len_cons (len_cons len_nil)))) (sb_cons (ss_if (st_not (st_tru (se_callP h_law_same hr (by decide) rfl (sa_cons (se_or2 (se_meth h_Settler_hear hr (by decide) (se_at (se_pv 7) (se_pv 9)) (sa_cons (se_pv 10) (sa_cons (se_pv 11) sa_nil))) (se_meth h_EagerSettler_hear hr (by decide) (se_at (se_pv 7) (se_pv 9)) (sa_cons (se_pv 10) (sa_cons (se_pv 11) sa_nil)))) (sa_cons (se_in hr (se_pv 10) (se_at (se_pv 6) (se_pv 9))) sa_nil))))) (sb_one (ss_ret se_bl)) sb_nil) (sb_one (ss_if (st_not (st_tru (se_callP h_law_same hr (by decide) rfl (sa_cons (se_or2 (se_meth0 h_Settler_is_down hr (by decide) (se_at (se_pv 7) (se_pv 9))) (se_meth0 h_EagerSettler_is_down hr (by decide) (se_at (se_pv 7) (se_pv 9)))) (sa_cons (se_callP h_law_is_up hr (by decide) rfl (sa_cons (se_at (se_pv 6) (se_pv 9)) (sa_cons (se_pv 10) sa_nil))) sa_nil))))) (sb_one (ss_ret se_bl)) sb_nil))))))))))))))) (sb_one (ss_ret se_bl))))
end
end K17
set_option Elab.async false
set_option linter.all false
set_option maxRecDepth 100000
namespace K17
open PySem PyProof.Rows L2 Zz
local macro_rules | `(tactic| walk_at "Z") => `(tactic| simp only [e_var, k_var_im, k_var_rf, k_var_ol, k_var_sc, e_c, e_op, k_op1, k_op2, k_res, e_un, k_un, e_test, k_test, e_tru, k_tru_b, e_and, e_or, e_not, k_and, k_or, k_not, e_bool, k_bool, e_if, k_if,
  e_nil, e_cons, k_cons1, k_cons2, e_tup, e_lst, k_tup0, k_tup1, k_tup2, k_tup3, k_lst0, k_lst1, k_lst2, k_lst3, k_lst4, k_lst5, k_lst6, e_frz, k_frz, e_newD, k_newD, e_newR, e_call, k_call, e_callF, k_callF, e_callG, k_callG1, k_callG2, k_callG3, k_callG4, k_keep_im, k_keep_rf, e_callP, k_callP1, k_callP2, k_callP3, k_callP4, k_resD,
  e_meth, k_m0, k_m1, k_m2, k_m3, e_make, k_mk1, k_mk2, k_made, e_or2, k_or2, k_or2n, e_fld, k_stS, e_setF, k_setF1, k_setF2, e_seq, k_seq, k_seq_rt, k_seq_bk, k_seq_ct, e_next, e_asg, k_asg_im, k_asg_rf, e_own, k_own, e_drop, k_drop, e_ret, k_ret_im, k_ret_rf, e_retV, k_retV, e_ifS, k_ifS, e_appO, k_appO, e_app, e_popAt, e_setS, k_setS1, k_setS2, k_setS3,
  e_v0, e_vl, e_vo, k_vl1, k_vo1, k_vl2, e_par, k_pr2, k_pr3, k_pr4, k_pr5, k_par2, e_put0, e_put, k_put, e_putO, e_putI, e_putR, e_putF, e_unp, e_seqI, k_seqI_l, k_seqI_t, e_rng1, e_rng2, e_for, k_for, forL_nil, k_turn, k_turn_ct, k_turn_bk, k_turn_rt, e_lc, e_runG, e_runP, k_outG, k_outGn, k_outP, k_outPn,
  e_sl, k_sl1, k_sl2, k_sl3t, k_sl3l, k_sl3s, e_nop, e_part, k_part, e_slL, k_slL1, k_slL2, e_isi, k_isi_n, k_isi_b, k_isi_i, k_isi_s, k_isi_l, k_isi_t,
  initR, sl1, List.map_cons, List.map_nil, List.length_cons, List.length_nil, Nat.reduceAdd, Nat.reduceSub, List.replicate_succ, List.replicate_zero, List.cons_append, List.nil_append, List.getElem?_cons_zero, List.getElem?_cons_succ, List.set_cons_zero, List.set_cons_succ, if_true, if_false, Bool.false_eq_true,
  bx_0, bx_1, bx_2, bx_s1, bx_s2, bx_len, bx_pop, bx_isL, g_add, g_sub, g_neg, g_lt, g_le, g_gt, g_ge, g_mulr, g_mull, g_mod, g_div, o_int, g_eqI, g_neI, g_eqB, g_neB, g_isN, g_notN, sm0, len_0, len_S, g_eqS, o_lenL, o_lenT, eq_self, decide_true, decide_false, k_pop1, k_pop2, it_tuple_NoneType, it_tuple_bool, it_tuple_int, it_tuple_str, it_tuple_list, it_tuple_tuple, it_list_NoneType, it_list_bool, it_list_int, it_list_str, it_list_list, it_list_tuple, it_bool_NoneType, it_bool_bool, it_bool_int, it_bool_str, it_bool_list, it_bool_tuple, it_int_NoneType, it_int_bool, it_int_int, it_int_str, it_int_list, it_int_tuple, it_str_NoneType, it_str_bool, it_str_int, it_str_str, it_str_list, it_str_tuple, decide_eq_true_eq, Int.reduceLT, Int.reduceNeg, and_self])
local macro_rules | `(tactic| walk_at "Y") => `(tactic| try walk_at "Z")
/-! ### the machines -/
def er (p : Int × Bool) : D := .tuple [.int p.1, .bool p.2]
def oI : Option Int → D
  | none => .none
  | some i => .int i
def obS (settle : Int) (g : Sg) : MO := .ins "Settler" [("_settle", .im (.int settle)), ("_is_down", .im (.bool g.1)), ("_first", .im (oI g.2))]
def obE (rest : Int) (g : Sg) : MO := .ins "EagerSettler" [("_rest", .im (.int rest)), ("_is_down", .im (.bool g.1)), ("_last", .im (oI g.2))]
section
variable {s : S} {n : Nat} {settle rest t : Int} {c d : Bool} {g : Sg} {f : Option Int}
theorem fS1 (h : s[n]? = some (obS settle g)) : kFld "Settler" "_settle" (some (.rf n, s)) = some (.im (.int settle), s) := k_fld h rfl rfl
theorem fS2 (h : s[n]? = some (obS settle g)) : kFld "Settler" "_is_down" (some (.rf n, s)) = some (.im (.bool g.1), s) := k_fld h rfl rfl
theorem fS3 (h : s[n]? = some (obS settle g)) : kFld "Settler" "_first" (some (.rf n, s)) = some (.im (oI g.2), s) := by
  obtain ⟨d, f⟩ := g
  cases f <;> exact k_fld h rfl rfl
theorem pS2 (h : s[n]? = some (obS settle (d, f))) : fldS s n "Settler" "_is_down" (.im (.bool c)) = some (s.set n (obS settle (c, f))) := fldS_of h (by show 3 < 1000; decide) rfl
theorem pS3 (h : s[n]? = some (obS settle (d, f))) : fldS s n "Settler" "_first" (.im .none) = some (s.set n (obS settle (d, none))) := fldS_of h (by show 3 < 1000; decide) rfl
theorem pS3i (h : s[n]? = some (obS settle (d, f))) : fldS s n "Settler" "_first" (.im (.int t)) = some (s.set n (obS settle (d, some t))) := fldS_of h (by show 3 < 1000; decide) rfl
theorem gs {o o' : MO} (h : s[n]? = some o) : (s.set n o')[n]? = some o' := List.getElem?_set_self (List.getElem?_eq_some_iff.mp h).1
theorem hearS (h : s[n]? = some (obS settle g)) : r_Settler_hear [.rf n, .im (.int t), .im (.bool c)] s = some (.im (.bool (stpS settle g (t, c)).1), s.set n (obS settle (stpS settle g (t, c)).2)) := by
  obtain ⟨d, f⟩ := g
  unfold r_Settler_hear d_Settler_hear stpS
  walk_at "Y"
  simp only [fS2 h]
  walk_at "Y"
  by_cases h1 : c = d
  · simp only [h1, if_true]
    walk_at "Y"
    simp only [pS3 h]
    walk_at "Y"
  · simp only [h1, if_false]
    walk_at "Y"
    simp only [fS3 h]
    walk_at "Y"
    cases f with
    | none =>
      simp only [oI, isNone, if_true]
      walk_at "Y"
      simp only [pS3i h]
      walk_at "Y"
      have h2 := gs (o' := obS settle (d, some t)) h
      simp only [fS3 h2, fS1 h2, oI]
      walk_at "Y"
      simp only [fS1 h2]
      walk_at "Y"
      by_cases h3 : t - t < settle
      · simp only [h3, if_true]
        walk_at "Y"
      · simp only [h3, if_false]
        walk_at "Y"
        rw [k_putF (pS2 h2)]
        walk_at "Y"
        rw [List.set_set, k_putF (pS3 (gs h))]
        walk_at "Y"
        rw [List.set_set]
    | some f =>
      simp only [oI, isNone, if_false]
      walk_at "Y"
      simp only [fS3 h, fS1 h, oI]
      walk_at "Y"
      simp only [fS1 h]
      walk_at "Y"
      by_cases h3 : t - f < settle
      · simp only [h3, if_true]
        walk_at "Y"
        rw [set_self h]
      · simp only [h3, if_false]
        walk_at "Y"
        rw [k_putF (pS2 h)]
        walk_at "Y"
        rw [k_putF (pS3 (gs h))]
        walk_at "Y"
        rw [List.set_set]
theorem fE1 (h : s[n]? = some (obE rest g)) : kFld "EagerSettler" "_rest" (some (.rf n, s)) = some (.im (.int rest), s) := k_fld h rfl rfl
theorem fE2 (h : s[n]? = some (obE rest g)) : kFld "EagerSettler" "_is_down" (some (.rf n, s)) = some (.im (.bool g.1), s) := k_fld h rfl rfl
theorem fE3 (h : s[n]? = some (obE rest g)) : kFld "EagerSettler" "_last" (some (.rf n, s)) = some (.im (oI g.2), s) := by
  obtain ⟨d, f⟩ := g
  cases f <;> exact k_fld h rfl rfl
theorem pE2 (h : s[n]? = some (obE rest (d, f))) : fldS s n "EagerSettler" "_is_down" (.im (.bool c)) = some (s.set n (obE rest (c, f))) := fldS_of h (by show 3 < 1000; decide) rfl
theorem pE3i (h : s[n]? = some (obE rest (d, f))) : fldS s n "EagerSettler" "_last" (.im (.int t)) = some (s.set n (obE rest (d, some t))) := fldS_of h (by show 3 < 1000; decide) rfl
theorem hearE (h : s[n]? = some (obE rest g)) : r_EagerSettler_hear [.rf n, .im (.int t), .im (.bool c)] s = some (.im (.bool (stpE rest g (t, c)).1), s.set n (obE rest (stpE rest g (t, c)).2)) := by
  obtain ⟨d, f⟩ := g
  unfold r_EagerSettler_hear d_EagerSettler_hear stpE
  walk_at "Y"
  simp only [fE2 h]
  walk_at "Y"
  by_cases h1 : c = d
  · simp only [h1, if_true]
    walk_at "Y"
    rw [← h1, set_self (by rw [h1]; exact h)]
  · simp only [h1, if_false]
    walk_at "Y"
    simp only [fE3 h]
    walk_at "Y"
    cases f with
    | none =>
      simp only [oI, isNone, Bool.not_true, Bool.false_eq_true, if_false]
      walk_at "Y"
      rw [k_putF (pE2 h)]
      walk_at "Y"
      rw [k_putF (pE3i (gs h))]
      walk_at "Y"
      rw [List.set_set]
    | some f =>
      simp only [oI, isNone, Bool.not_false, if_true]
      walk_at "Y"
      simp only [fE3 h, fE1 h, oI]
      walk_at "Y"
      simp only [fE1 h]
      walk_at "Y"
      by_cases h3 : t - f < rest
      · simp only [h3, if_true]
        walk_at "Y"
        rw [set_self h]
      · simp only [h3, if_false]
        walk_at "Y"
        rw [k_putF (pE2 h)]
        walk_at "Y"
        rw [k_putF (pE3i (gs h))]
        walk_at "Y"
        rw [List.set_set]
theorem initS (h : s[n]? = some (.ins "Settler" [])) : r_Settler_init [.rf n, .im (.int settle)] s = some (.im .none, s.set n (obS settle (false, none))) := by
  unfold r_Settler_init d_Settler_init
  walk_at "Y"
  rw [fldS_of h (by show 0 < 1000; decide) rfl]
  walk_at "Y"
  rw [fldS_of (gs h) (by show 1 < 1000; decide) rfl]
  walk_at "Y"
  rw [List.set_set, fldS_of (gs h) (by show 2 < 1000; decide) rfl]
  walk_at "Y"
  rw [List.set_set]
  rfl
theorem initE (h : s[n]? = some (.ins "EagerSettler" [])) : r_EagerSettler_init [.rf n, .im (.int settle)] s = some (.im .none, s.set n (obE settle (false, none))) := by
  unfold r_EagerSettler_init d_EagerSettler_init
  walk_at "Y"
  rw [fldS_of h (by show 0 < 1000; decide) rfl]
  walk_at "Y"
  rw [fldS_of (gs h) (by show 1 < 1000; decide) rfl]
  walk_at "Y"
  rw [List.set_set, fldS_of (gs h) (by show 2 < 1000; decide) rfl]
  walk_at "Y"
  rw [List.set_set]
  rfl
theorem downS (h : s[n]? = some (obS settle g)) : r_Settler_is_down [.rf n] s = some (.im (.bool g.1), s) := by
  unfold r_Settler_is_down d_Settler_is_down
  walk_at "Y"
  rw [fS2 h]
  walk_at "Y"
theorem downE (h : s[n]? = some (obE settle g)) : r_EagerSettler_is_down [.rf n] s = some (.im (.bool g.1), s) := by
  unfold r_EagerSettler_is_down d_EagerSettler_is_down
  walk_at "Y"
  rw [fE2 h]
  walk_at "Y"
theorem lcS {R : D} : ∀ {rows : List (Int × Bool)} {s : S} {g : Sg}, s[n]? = some (obS settle g) →
    lcL [3, 4] (.tp (.cons (.nm 3) (.cons (.nm 4) .nil))) (fTru (fMethG "Settler" "hear" 3 r_Settler_hear (fVar 2) (fCons (fVar 3) (fCons (fVar 4) fNil)))) (fVar 3) [.im (.int settle), .im R, .rf n, .un, .un] (rows.map er) s = some ((tns (stpS settle) g rows).map PyData.int, s.set n (obS settle (run (stpS settle) g rows)))
  | [], s, g, h => by show some ([], s) = some ([], s.set n (obS settle g)); rw [set_self h]
  | (t, c) :: rows, s, g, h => by
    have hh := hearS (t := t) (c := c) h
    have ev : fTru (fMethG "Settler" "hear" 3 r_Settler_hear (fVar 2) (fCons (fVar 3) (fCons (fVar 4) fNil))) [.im (.int settle), .im R, .rf n, .im (.int t), .im (.bool c)] s = some ((stpS settle g (t, c)).1, s.set n (obS settle (stpS settle g (t, c)).2)) := by
      walk_at "Y"
      rw [k_meth1 h rfl]
      walk_at "Y"
      rw [hh]
      rfl
    have ih := lcS (R := R) (rows := rows) (s := s.set n (obS settle (stpS settle g (t, c)).2)) (g := (stpS settle g (t, c)).2) (gs h)
    rw [List.set_set] at ih
    rw [List.map_cons]
    cases hb : (stpS settle g (t, c)).1 with
    | true =>
      rw [hb] at ev
      rw [lcL_yes rfl ev rfl ih]
      show _ = some ((if (stpS settle g (t, c)).1 = true then t :: tns (stpS settle) (stpS settle g (t, c)).2 rows else tns (stpS settle) (stpS settle g (t, c)).2 rows).map PyData.int, _)
      rw [hb]
      rfl
    | false =>
      rw [hb] at ev
      rw [lcL_no rfl ev ih]
      show _ = some ((if (stpS settle g (t, c)).1 = true then t :: tns (stpS settle) (stpS settle g (t, c)).2 rows else tns (stpS settle) (stpS settle g (t, c)).2 rows).map PyData.int, _)
      rw [hb]
      rfl
theorem o_tupL {l : List D} {s : S} : oTuple s [.im (.list l)] = some (.im (.tuple l)) := rfl
theorem o_tupO {l : List D} {s : S} : oTuple s [.ow l] = some (.im (.tuple l)) := rfl
theorem settled_ok {rows : List (Int × Bool)} (hl : rows.length ≤ big) : r_settled_ticks [.int settle, .tuple (rows.map er)] = some (.tuple ((tns (stpS settle) (false, none) rows).map PyData.int)) := by
  unfold r_settled_ticks d_settled_ticks
  walk_at "Y"
  have h0 : ([MO.ins "Settler" []] : S)[0]? = some (.ins "Settler" []) := rfl
  rw [initS h0, k_made]
  walk_at "Y"
  rw [k_lc (by rw [List.length_map]; exact hl), lcS (n := 0) (s := [obS settle (false, none)]) (g := (false, none)) (settle := settle) (R := .tuple (rows.map er)) rfl]
  walk_at "Y"
  rw [o_tupL]
  walk_at "Y"
theorem loopS {R : D} : ∀ {rows : List (Int × Bool)} {acc : List Int} {d : Bool} {f : Option Int} {a b : Slot}, acc.length + rows.length < big → ∃ a' b', forL (.tp (.cons (.nm 5) (.cons (.nm 6) .nil))) l_law_settled_1 (rows.map er) [.im (.int settle), .im R, .ol (acc.map PyData.int), .im (.bool d), .im (oI f), a, b] s =
    some (.nx, [.im (.int settle), .im R, .ol ((acc ++ tns (stpS settle) (d, f) rows).map PyData.int), .im (.bool (run (stpS settle) (d, f) rows).1), .im (oI (run (stpS settle) (d, f) rows).2), a', b'], s)
  | [], acc, d, f, a, b, _ => ⟨a, b, by show some (Fl.nx, _, s) = _; simp [tns, run]⟩
  | (t, c) :: rows, acc, d, f, a, b, hl => by
    rw [List.length_cons] at hl
    have hlen : (acc.map PyData.int).length < big := by rw [List.length_map]; omega
    rw [List.map_cons, forL_cons (ρ1 := [.im (.int settle), .im R, .ol (acc.map PyData.int), .im (.bool d), .im (oI f), .im (.int t), .im (.bool c)]) rfl]
    unfold tns run
    by_cases h1 : c = d
    · have es : stpS settle (d, f) (t, c) = (false, d, none) := by simp [stpS, h1]
      rw [es]
      obtain ⟨a', b', ih⟩ := loopS (rows := rows) (acc := acc) (d := d) (f := none) (a := .im (.int t)) (b := .im (.bool c)) (by omega)
      refine ⟨a', b', ?_⟩
      unfold l_law_settled_1
      walk_at "Y"
      simp only [h1, if_true]
      walk_at "Y"
      rw [h1] at ih
      exact ih
    · unfold l_law_settled_1
      walk_at "Y"
      simp only [h1, if_false]
      walk_at "Y"
      cases f with
      | none =>
        simp only [oI, isNone, if_true]
        walk_at "Y"
        by_cases h3 : t - t < settle
        · have es : stpS settle (d, none) (t, c) = (false, d, some t) := by simp [stpS, h1]; omega
          rw [es]
          obtain ⟨a', b', ih⟩ := loopS (rows := rows) (acc := acc) (d := d) (f := some t) (a := .im (.int t)) (b := .im (.bool c)) (by omega)
          refine ⟨a', b', ?_⟩
          have h4 : ¬ settle ≤ t - t := by omega
          simp only [h4, if_false]
          walk_at "Y"
          exact ih
        · have es : stpS settle (d, none) (t, c) = (true, c, none) := by simp [stpS, h1]; omega
          rw [es]
          obtain ⟨a', b', ih⟩ := loopS (rows := rows) (acc := acc ++ [t]) (d := c) (f := none) (a := .im (.int t)) (b := .im (.bool c)) (by rw [List.length_append, List.length_singleton]; omega)
          refine ⟨a', b', ?_⟩
          have h4 : settle ≤ t - t := by omega
          have h5 : (!d) = c := by cases c <;> cases d <;> simp_all
          simp only [h4, if_true]
          walk_at "Y"
          rw [k_appO2 hlen]
          walk_at "Y"
          rw [h5]
          rw [List.map_append, List.append_assoc] at ih
          exact ih
      | some f =>
        simp only [oI, isNone, if_false]
        walk_at "Y"
        by_cases h3 : t - f < settle
        · have es : stpS settle (d, some f) (t, c) = (false, d, some f) := by simp [stpS, h1, h3]
          rw [es]
          obtain ⟨a', b', ih⟩ := loopS (rows := rows) (acc := acc) (d := d) (f := some f) (a := .im (.int t)) (b := .im (.bool c)) (by omega)
          refine ⟨a', b', ?_⟩
          have h4 : ¬ settle ≤ t - f := by omega
          simp only [h4, if_false]
          walk_at "Y"
          exact ih
        · have es : stpS settle (d, some f) (t, c) = (true, c, none) := by simp [stpS, h1, h3]
          rw [es]
          obtain ⟨a', b', ih⟩ := loopS (rows := rows) (acc := acc ++ [t]) (d := c) (f := none) (a := .im (.int t)) (b := .im (.bool c)) (by rw [List.length_append, List.length_singleton]; omega)
          refine ⟨a', b', ?_⟩
          have h4 : settle ≤ t - f := by omega
          have h5 : (!d) = c := by cases c <;> cases d <;> simp_all
          simp only [h4, if_true]
          walk_at "Y"
          rw [k_appO2 hlen]
          walk_at "Y"
          rw [h5]
          rw [List.map_append, List.append_assoc] at ih
          exact ih
theorem lsettled_ok {rows : List (Int × Bool)} (hl : rows.length < big) : r_law_settled [.int settle, .list (rows.map er)] = some (.tuple ((tns (stpS settle) (false, none) rows).map PyData.int)) := by
  unfold r_law_settled d_law_settled
  walk_at "Y"
  obtain ⟨a', b', e⟩ := loopS (settle := settle) (R := .list (rows.map er)) (rows := rows) (acc := []) (d := false) (f := none) (a := .un) (b := .un) (s := []) (by simpa using hl)
  rw [show (oI none) = PyData.none from rfl] at e
  simp only [List.map_nil, List.nil_append] at e
  rw [e]
  walk_at "Y"
  rw [o_tupO]
  walk_at "Y"
end
end K17
set_option Elab.async false
set_option linter.all false
set_option maxRecDepth 100000
namespace K17
open PySem PyProof.Rows L2 Zz
local macro_rules | `(tactic| walk_at "Z") => `(tactic| simp only [e_var, k_var_im, k_var_rf, k_var_ol, k_var_sc, e_c, e_op, k_op1, k_op2, k_res, e_un, k_un, e_test, k_test, e_tru, k_tru_b, e_and, e_or, e_not, k_and, k_or, k_not, e_bool, k_bool, e_if, k_if,
  e_nil, e_cons, k_cons1, k_cons2, e_tup, e_lst, k_tup0, k_tup1, k_tup2, k_tup3, k_lst0, k_lst1, k_lst2, k_lst3, k_lst4, k_lst5, k_lst6, e_frz, k_frz, e_newD, k_newD, e_newR, e_call, k_call, e_callF, k_callF, e_callG, k_callG1, k_callG2, k_callG3, k_callG4, k_keep_im, k_keep_rf, e_callP, k_callP1, k_callP2, k_callP3, k_callP4, k_resD,
  e_meth, k_m0, k_m1, k_m2, k_m3, e_make, k_mk1, k_mk2, k_made, e_or2, k_or2, k_or2n, e_fld, k_stS, e_setF, k_setF1, k_setF2, e_seq, k_seq, k_seq_rt, k_seq_bk, k_seq_ct, e_next, e_asg, k_asg_im, k_asg_rf, e_own, k_own, e_drop, k_drop, e_ret, k_ret_im, k_ret_rf, e_retV, k_retV, e_ifS, k_ifS, e_appO, k_appO, e_app, e_popAt, e_setS, k_setS1, k_setS2, k_setS3,
  e_v0, e_vl, e_vo, k_vl1, k_vo1, k_vl2, e_par, k_pr2, k_pr3, k_pr4, k_pr5, k_par2, e_put0, e_put, k_put, e_putO, e_putI, e_putR, e_putF, e_unp, e_seqI, k_seqI_l, k_seqI_t, e_rng1, e_rng2, e_for, k_for, forL_nil, k_turn, k_turn_ct, k_turn_bk, k_turn_rt, e_lc, e_runG, e_runP, k_outG, k_outGn, k_outP, k_outPn,
  e_sl, k_sl1, k_sl2, k_sl3t, k_sl3l, k_sl3s, e_nop, e_part, k_part, e_slL, k_slL1, k_slL2, e_isi, k_isi_n, k_isi_b, k_isi_i, k_isi_s, k_isi_l, k_isi_t,
  initR, sl1, List.map_cons, List.map_nil, List.length_cons, List.length_nil, Nat.reduceAdd, Nat.reduceSub, List.replicate_succ, List.replicate_zero, List.cons_append, List.nil_append, List.getElem?_cons_zero, List.getElem?_cons_succ, List.set_cons_zero, List.set_cons_succ, if_true, if_false, Bool.false_eq_true,
  bx_0, bx_1, bx_2, bx_s1, bx_s2, bx_len, bx_pop, bx_isL, g_add, g_sub, g_neg, g_lt, g_le, g_gt, g_ge, g_mulr, g_mull, g_mod, g_div, o_int, g_eqI, g_neI, g_eqB, g_neB, g_isN, g_notN, sm0, len_0, len_S, g_eqS, o_lenL, o_lenT, eq_self, decide_true, decide_false, k_pop1, k_pop2, it_tuple_NoneType, it_tuple_bool, it_tuple_int, it_tuple_str, it_tuple_list, it_tuple_tuple, it_list_NoneType, it_list_bool, it_list_int, it_list_str, it_list_list, it_list_tuple, it_bool_NoneType, it_bool_bool, it_bool_int, it_bool_str, it_bool_list, it_bool_tuple, it_int_NoneType, it_int_bool, it_int_int, it_int_str, it_int_list, it_int_tuple, it_str_NoneType, it_str_bool, it_str_int, it_str_str, it_str_list, it_str_tuple, decide_eq_true_eq, Int.reduceLT, Int.reduceNeg, and_self])
local macro_rules | `(tactic| walk_at "Y") => `(tactic| try walk_at "Z")
section
variable {s : S} {n : Nat} {settle rest t : Int} {c d : Bool} {g : Sg} {f : Option Int}
theorem last_ix {l : List Int} {z : Int} : gIx s (.ow ((l ++ [z]).map PyData.int)) (.im (.int (-1))) = some (.im (.int z)) := by
  have e : atD ((l ++ [z]).map PyData.int) (-1) = some (.int z) := by rw [List.map_append]; exact atI_last _ _
  show (atD ((l ++ [z]).map PyData.int) (-1)).bind _ = _
  rw [e]; rfl
theorem loopE {R : D} : ∀ {rows : List (Int × Bool)} {acc : List Int} {d : Bool} {a b : Slot}, acc.length + rows.length < big → ∃ d' a' b', forL (.tp (.cons (.nm 4) (.cons (.nm 5) .nil))) l_law_eager_1 (rows.map er) [.im (.int rest), .im R, .ol (acc.map PyData.int), .im (.bool d), a, b] s =
    some (.nx, [.im (.int rest), .im R, .ol ((acc ++ tns (stpE rest) (d, acc.getLast?) rows).map PyData.int), .im (.bool d'), a', b'], s)
  | [], acc, d, a, b, _ => ⟨d, a, b, by show some (Fl.nx, _, s) = _; simp [tns]⟩
  | (t, c) :: rows, acc, d, a, b, hl => by
    rw [List.length_cons] at hl
    have hlen : (acc.map PyData.int).length < big := by rw [List.length_map]; omega
    rw [List.map_cons, forL_cons (ρ1 := [.im (.int rest), .im R, .ol (acc.map PyData.int), .im (.bool d), .im (.int t), .im (.bool c)]) rfl]
    unfold tns
    have yes : ∀ (h5 : (!d) = c), stpE rest (d, acc.getLast?) (t, c) = (true, c, some t) → ∃ d' a' b', kTurn (.tp (.cons (.nm 4) (.cons (.nm 5) .nil))) l_law_eager_1 (rows.map er) (kSeq (fAsg 3 (fBool (fNotT (fTest (fVar 3))))) (kAppO2 2 [.im (.int rest), .im R, .ol (acc.map PyData.int), .im (.bool d), .im (.int t), .im (.bool c)] s (.int t) (some (.ol (acc.map PyData.int))))) =
        some (.nx, [.im (.int rest), .im R, .ol ((acc ++ (if (stpE rest (d, acc.getLast?) (t, c)).1 = true then t :: tns (stpE rest) (stpE rest (d, acc.getLast?) (t, c)).2 rows else tns (stpE rest) (stpE rest (d, acc.getLast?) (t, c)).2 rows)).map PyData.int), .im (.bool d'), a', b'], s) := fun h5 es => by
      obtain ⟨d', a', b', ih⟩ := loopE (rows := rows) (acc := acc ++ [t]) (d := c) (a := .im (.int t)) (b := .im (.bool c)) (by rw [List.length_append, List.length_singleton]; omega)
      refine ⟨d', a', b', ?_⟩
      rw [es, k_appO2 hlen]
      walk_at "Y"
      rw [h5]
      rw [List.getLast?_append, List.map_append, List.append_assoc] at ih
      exact ih
    have no : stpE rest (d, acc.getLast?) (t, c) = (false, d, acc.getLast?) → ∃ d' a' b', kTurn (.tp (.cons (.nm 4) (.cons (.nm 5) .nil))) l_law_eager_1 (rows.map er) (some (.nx, [.im (.int rest), .im R, .ol (acc.map PyData.int), .im (.bool d), .im (.int t), .im (.bool c)], s)) =
        some (.nx, [.im (.int rest), .im R, .ol ((acc ++ (if (stpE rest (d, acc.getLast?) (t, c)).1 = true then t :: tns (stpE rest) (stpE rest (d, acc.getLast?) (t, c)).2 rows else tns (stpE rest) (stpE rest (d, acc.getLast?) (t, c)).2 rows)).map PyData.int), .im (.bool d'), a', b'], s) := fun es => by
      obtain ⟨d', a', b', ih⟩ := loopE (rows := rows) (acc := acc) (d := d) (a := .im (.int t)) (b := .im (.bool c)) (by omega)
      refine ⟨d', a', b', ?_⟩
      rw [es]
      exact ih
    by_cases h1 : c = d
    · have es : stpE rest (d, acc.getLast?) (t, c) = (false, d, acc.getLast?) := by simp [stpE, h1]
      have := no es
      unfold l_law_eager_1
      walk_at "Y"
      simp only [h1, decide_true, Bool.not_true, Bool.false_eq_true, if_false]
      walk_at "Y"
      rw [h1] at this
      exact this
    · have h5 : (!d) = c := by cases c <;> cases d <;> simp_all
      unfold l_law_eager_1
      walk_at "Y"
      simp only [h1, decide_false, Bool.not_false, if_true]
      walk_at "Y"
      rcases List.eq_nil_or_concat acc with e | ⟨ini, z, e⟩
      · have es : stpE rest (d, acc.getLast?) (t, c) = (true, c, some t) := by simp [stpE, h1, e]
        have := yes h5 es
        rw [g_eq_nil]
        walk_at "Y"
        have e2 : acc.isEmpty = true := by rw [e]; rfl
        simp only [e2, if_true]
        walk_at "Y"
        exact this
      · have e' : acc = ini ++ [z] := by rw [e]; simp
        rw [g_eq_nil]
        walk_at "Y"
        have e2 : acc.isEmpty = false := by rw [e']; simp
        simp only [e2, Bool.false_eq_true, if_false]
        walk_at "Y"
        have e3 : gIx s (.ow (acc.map PyData.int)) (.im (.int (-1))) = some (.im (.int z)) := by rw [e']; exact last_ix
        have e4 : acc.getLast? = some z := by rw [e']; simp
        rw [e3]
        walk_at "Y"
        by_cases h3 : t - z < rest
        · have es : stpE rest (d, acc.getLast?) (t, c) = (false, d, acc.getLast?) := by rw [e4]; simp [stpE, h1, h3]
          have := no es
          have h4 : ¬ rest ≤ t - z := by omega
          simp only [h4, decide_false, Bool.false_eq_true, if_false]
          walk_at "Y"
          exact this
        · have es : stpE rest (d, acc.getLast?) (t, c) = (true, c, some t) := by rw [e4]; simp [stpE, h1, h3]
          have := yes h5 es
          have h4 : rest ≤ t - z := by omega
          simp only [h4, decide_true, if_true]
          walk_at "Y"
          exact this
theorem leager_ok {rows : List (Int × Bool)} (hl : rows.length < big) : r_law_eager [.int rest, .list (rows.map er)] = some (.tuple ((tns (stpE rest) (false, none) rows).map PyData.int)) := by
  unfold r_law_eager d_law_eager
  walk_at "Y"
  obtain ⟨d', a', b', e⟩ := loopE (rest := rest) (R := .list (rows.map er)) (rows := rows) (acc := []) (d := false) (a := .un) (b := .un) (s := []) (by simpa using hl)
  simp only [List.map_nil, List.nil_append, List.getLast?_nil] at e
  rw [e]
  walk_at "Y"
  rw [o_tupO]
  walk_at "Y"
theorem up_ok {fl : List Int} (hl : fl.length ≤ big) : r_law_is_up [.tuple (fl.map PyData.int), .int t] = some (.bool (decide (upTo fl t % 2 = 1))) := by
  unfold r_law_is_up d_law_is_up
  walk_at "Y"
  rw [k_lc (by rw [List.length_map]; exact hl)]
  have := lcL_map (vs := [2]) (T := .nm 2) (t := fTest (fOp gLe (fVar 2) (fVar 1))) (f := fVar 2) (ρ := [.im (.tuple (fl.map PyData.int)), .im (.int t), .un]) (s := []) (enc := PyData.int)
    (p := fun x => decide (x ≤ t)) (g := PyData.int) (ρx := fun x => [.im (.tuple (fl.map PyData.int)), .im (.int t), .im (.int x)]) (xs := fl) (fun _ _ => rfl) (fun _ _ => rfl) (fun _ _ _ => rfl)
  rw [this]
  walk_at "Y"
  rw [List.length_map]
  have : (((fl.filter fun x => decide (x ≤ t)).length : Int) % 2 = 1) ↔ (upTo fl t % 2 = 1) := by
    unfold upTo
    omega
  simp only [this]
end
end K17
set_option Elab.async false
set_option linter.all false
set_option maxRecDepth 100000
namespace K17
open PySem PyProof.Rows L2 Zz
local macro_rules | `(tactic| walk_at "Z") => `(tactic| simp only [e_var, k_var_im, k_var_rf, k_var_ol, k_var_sc, e_c, e_op, k_op1, k_op2, k_res, e_un, k_un, e_test, k_test, e_tru, k_tru_b, e_and, e_or, e_not, k_and, k_or, k_not, e_bool, k_bool, e_if, k_if,
  e_nil, e_cons, k_cons1, k_cons2, e_tup, e_lst, k_tup0, k_tup1, k_tup2, k_tup3, k_lst0, k_lst1, k_lst2, k_lst3, k_lst4, k_lst5, k_lst6, e_frz, k_frz, e_newD, k_newD, e_newR, e_call, k_call, e_callF, k_callF, e_callG, k_callG1, k_callG2, k_callG3, k_callG4, k_keep_im, k_keep_rf, e_callP, k_callP1, k_callP2, k_callP3, k_callP4, k_resD,
  e_meth, k_m0, k_m1, k_m2, k_m3, e_make, k_mk1, k_mk2, k_made, e_or2, k_or2, k_or2n, e_fld, k_stS, e_setF, k_setF1, k_setF2, e_seq, k_seq, k_seq_rt, k_seq_bk, k_seq_ct, e_next, e_asg, k_asg_im, k_asg_rf, e_own, k_own, e_drop, k_drop, e_ret, k_ret_im, k_ret_rf, e_retV, k_retV, e_ifS, k_ifS, e_appO, k_appO, e_app, e_popAt, e_setS, k_setS1, k_setS2, k_setS3,
  e_v0, e_vl, e_vo, k_vl1, k_vo1, k_vl2, e_par, k_pr2, k_pr3, k_pr4, k_pr5, k_par2, e_put0, e_put, k_put, e_putO, e_putI, e_putR, e_putF, e_unp, e_seqI, k_seqI_l, k_seqI_t, e_rng1, e_rng2, e_for, k_for, forL_nil, k_turn, k_turn_ct, k_turn_bk, k_turn_rt, e_lc, e_runG, e_runP, k_outG, k_outGn, k_outP, k_outPn,
  e_sl, k_sl1, k_sl2, k_sl3t, k_sl3l, k_sl3s, e_nop, e_part, k_part, e_slL, k_slL1, k_slL2, e_isi, k_isi_n, k_isi_b, k_isi_i, k_isi_s, k_isi_l, k_isi_t,
  initR, sl1, List.map_cons, List.map_nil, List.length_cons, List.length_nil, Nat.reduceAdd, Nat.reduceSub, List.replicate_succ, List.replicate_zero, List.cons_append, List.nil_append, List.getElem?_cons_zero, List.getElem?_cons_succ, List.set_cons_zero, List.set_cons_succ, if_true, if_false, Bool.false_eq_true,
  bx_0, bx_1, bx_2, bx_s1, bx_s2, bx_len, bx_pop, bx_isL, g_add, g_sub, g_neg, g_lt, g_le, g_gt, g_ge, g_mulr, g_mull, g_mod, g_div, o_int, g_eqI, g_neI, g_eqB, g_neB, g_isN, g_notN, sm0, len_0, len_S, g_eqS, o_lenL, o_lenT, eq_self, decide_true, decide_false, k_pop1, k_pop2, it_tuple_NoneType, it_tuple_bool, it_tuple_int, it_tuple_str, it_tuple_list, it_tuple_tuple, it_list_NoneType, it_list_bool, it_list_int, it_list_str, it_list_list, it_list_tuple, it_bool_NoneType, it_bool_bool, it_bool_int, it_bool_str, it_bool_list, it_bool_tuple, it_int_NoneType, it_int_bool, it_int_int, it_int_str, it_int_list, it_int_tuple, it_str_NoneType, it_str_bool, it_str_int, it_str_str, it_str_list, it_str_tuple, decide_eq_true_eq, Int.reduceLT, Int.reduceNeg, and_self])
local macro_rules | `(tactic| walk_at "Y") => `(tactic| try walk_at "Z")
section
variable {s rest : S} {settle tick most x y : Int} {c : List Int} {cl : Bool}
theorem max_gt {i j : Int} : i < i + imax 1 j := by unfold imax; split <;> omega
theorem o_max2 {i j : Int} : oMax2 s [.im (.int i), .im (.int j)] = some (.im (.int (imax i j))) := rfl
theorem pick5 {a b e f g d : Int} (h0 : 0 ≤ d) (h1 : d < 5) : ∃ z, ∀ s : S, gIx s (.im (.list [.int a, .int b, .int e, .int f, .int g])) (.im (.int d)) = some (.im (.int z)) := by
  have h : d = 0 ∨ d = 1 ∨ d = 2 ∨ d = 3 ∨ d = 4 := by omega
  rcases h with h | h | h | h | h <;> subst h
  · exact ⟨a, fun _ => rfl⟩
  · exact ⟨b, fun _ => rfl⟩
  · exact ⟨e, fun _ => rfl⟩
  · exact ⟨f, fun _ => rfl⟩
  · exact ⟨g, fun _ => rfl⟩
/-- what a turn of the rows' loop leaves -/
theorem rows_loop (hs : 0 < settle ∧ settle ≤ 1000) (hm : 0 < most ∧ most ≤ 4) : ∀ (ls : List D) {rows : List (Int × Bool)} {tick : Int} {cl : Bool} {a b : Slot} {c : List Int} {x y : Int}, Up rows → (∀ r ∈ rows, r.1 < tick) → rows.length + ls.length ≤ 1000 →
    ∃ rows' tick' cl' a' b' c' x' y', forL (.nm 6) l_law_rows_1 ls [.rf 1, .im (.int settle), .ol (rows.map er), .im (.int tick), .im (.bool cl), .im (.int most), a, b] (Bx c x y rest) =
      some (.nx, [.rf 1, .im (.int settle), .ol (rows'.map er), .im (.int tick'), .im (.bool cl'), .im (.int most), a', b'], Bx c' x' y' rest) ∧ Up rows' ∧ rows'.length = rows.length + ls.length := by
  intro ls
  induction ls with
  | nil =>
    intro rows tick cl a b c x y hu hlt hl
    exact ⟨rows, tick, cl, a, b, c, x, y, rfl, hu, rfl⟩
  | cons d ls ih =>
    intro rows tick cl a b c x y hu hlt hl
    rw [List.length_cons] at hl
    rw [forL_cons (ρ1 := [.rf 1, .im (.int settle), .ol (rows.map er), .im (.int tick), .im (.bool cl), .im (.int most), .im d, b]) rfl]
    unfold l_law_rows_1
    obtain ⟨d1, x1, y1, c1, e1, _, _⟩ := draw_ok (c := c) (x := x) (y := y) (rest := rest) hm.1 (by omega : most < 1073741824)
    obtain ⟨d2, x2, y2, c2, e2, h20, h21⟩ := draw_ok (c := c1) (x := x1) (y := y1) (rest := rest) (by omega : 0 < settle + 2) (by omega : settle + 2 < 1073741824)
    obtain ⟨d3, x3, y3, c3, e3, h30, h31⟩ := draw_ok (c := c2) (x := x2) (y := y2) (rest := rest) (by omega : (0 : Int) < 5) (by omega : (5 : Int) < 1073741824)
    walk_at "Y"
    rw [e1]
    walk_at "Y"
    -- the contact's side
    have flip : ∃ cl2, (if d1 = 0 then (some (L.im (.bool (!cl)), Bx c1 x1 y1 rest) : Option (L × S)) else some (.im (.bool cl), Bx c1 x1 y1 rest)) = some (.im (.bool cl2), Bx c1 x1 y1 rest) := by
      by_cases h : d1 = 0
      · exact ⟨!cl, by simp [h]⟩
      · exact ⟨cl, by simp [h]⟩
    obtain ⟨cl2, ef⟩ := flip
    rw [ef]
    walk_at "Y"
    rw [k_appO2 (by rw [List.length_map]; show rows.length < 16777216; omega)]
    walk_at "Y"
    rw [e2]
    walk_at "Y"
    rw [e3]
    walk_at "Y"
    obtain ⟨z, ez⟩ := pick5 (a := 1) (b := 1 + d2) (e := settle / 2 + 1) (f := settle) (g := settle + 1) h30 h31
    rw [ez]
    walk_at "Y"
    rw [o_max2]
    walk_at "Y"
    have hu' : Up (rows ++ [(tick, cl2)]) := by
      unfold Up
      rw [List.pairwise_append]
      refine ⟨hu, by simp, fun r hr r' hr' => ?_⟩
      simp at hr'
      rw [hr']
      exact hlt r hr
    have hlt' : ∀ r ∈ rows ++ [(tick, cl2)], r.1 < tick + imax 1 z := fun r hr => by
      have := max_gt (i := tick) (j := z)
      rcases List.mem_append.mp hr with q | q
      · have := hlt r q; omega
      · simp at q
        rw [q]
        omega
    obtain ⟨rows', tick', cl', a', b', c', x', y', e, h1, h2⟩ := ih (a := .im d) (b := .im (.int z)) (c := c3) (x := x3) (y := y3) (cl := cl2) hu' hlt' (by rw [List.length_append, List.length_singleton]; omega)
    refine ⟨rows', tick', cl', a', b', c', x', y', ?_, h1, by rw [h2, List.length_append, List.length_singleton]; omega⟩
    rw [List.map_append] at e
    exact e
theorem rows_ok (hs : 0 < settle ∧ settle ≤ 1000) : ∃ rows c' x' y', r_law_rows [.rf 1, .im (.int settle)] (Bx c x y rest) = some (.im (.list (rows.map er)), Bx c' x' y' rest) ∧ Up rows ∧ rows.length ≤ 40 := by
  unfold r_law_rows d_law_rows
  obtain ⟨d1, x1, y1, c1, e1, _, _⟩ := draw_ok (c := c) (x := x) (y := y) (rest := rest) (by omega : (0 : Int) < 5) (by omega : (5 : Int) < 1073741824)
  obtain ⟨d2, x2, y2, c2, e2, h20, h21⟩ := draw_ok (c := c1) (x := x1) (y := y1) (rest := rest) (by omega : (0 : Int) < 4) (by omega : (4 : Int) < 1073741824)
  obtain ⟨d3, x3, y3, c3, e3, h30, h31⟩ := draw_ok (c := c2) (x := x2) (y := y2) (rest := rest) (by omega : (0 : Int) < 40) (by omega : (40 : Int) < 1073741824)
  walk_at "Y"
  rw [e1]
  walk_at "Y"
  rw [e2]
  walk_at "Y"
  rw [e3]
  walk_at "Y"
  rw [k_rng1 (decide_eq_true (by omega))]
  walk_at "Y"
  have hn : (rngD 0 (1 + d3).toNat).length ≤ 40 := by rw [rngD_len]; omega
  obtain ⟨rows', tick', cl', a', b', c', x', y', e, h1, h2⟩ := rows_loop (rest := rest) hs (by omega : 0 < 1 + d2 ∧ 1 + d2 ≤ 4) (rngD 0 (1 + d3).toNat) (rows := []) (tick := d1) (cl := false) (a := .un) (b := .un) (c := c3) (x := x3) (y := y3) List.Pairwise.nil (by simp) (by simp; omega)
  simp only [List.map_nil] at e
  rw [e]
  refine ⟨rows', c', x', y', ?_, h1, by rw [h2]; simpa using hn⟩
  walk_at "Y"
end
end K17
set_option Elab.async false
set_option linter.all false
set_option maxRecDepth 100000
namespace K17
open PySem PyProof.Rows L2 Zz
local macro_rules | `(tactic| walk_at "Z") => `(tactic| simp only [e_var, k_var_im, k_var_rf, k_var_ol, k_var_sc, e_c, e_op, k_op1, k_op2, k_res, e_un, k_un, e_test, k_test, e_tru, k_tru_b, e_and, e_or, e_not, k_and, k_or, k_not, e_bool, k_bool, e_if, k_if,
  e_nil, e_cons, k_cons1, k_cons2, e_tup, e_lst, k_tup0, k_tup1, k_tup2, k_tup3, k_lst0, k_lst1, k_lst2, k_lst3, k_lst4, k_lst5, k_lst6, e_frz, k_frz, e_newD, k_newD, e_newR, e_call, k_call, e_callF, k_callF, e_callG, k_callG1, k_callG2, k_callG3, k_callG4, k_keep_im, k_keep_rf, e_callP, k_callP1, k_callP2, k_callP3, k_callP4, k_resD,
  e_meth, k_m0, k_m1, k_m2, k_m3, e_make, k_mk1, k_mk2, k_made, e_or2, k_or2, k_or2n, e_fld, k_stS, e_setF, k_setF1, k_setF2, e_seq, k_seq, k_seq_rt, k_seq_bk, k_seq_ct, e_next, e_asg, k_asg_im, k_asg_rf, e_own, k_own, e_drop, k_drop, e_ret, k_ret_im, k_ret_rf, e_retV, k_retV, e_ifS, k_ifS, e_appO, k_appO, e_app, e_popAt, e_setS, k_setS1, k_setS2, k_setS3,
  e_v0, e_vl, e_vo, k_vl1, k_vo1, k_vl2, e_par, k_pr2, k_pr3, k_pr4, k_pr5, k_par2, e_put0, e_put, k_put, e_putO, e_putI, e_putR, e_putF, e_unp, e_seqI, k_seqI_l, k_seqI_t, e_rng1, e_rng2, e_for, k_for, forL_nil, k_turn, k_turn_ct, k_turn_bk, k_turn_rt, e_lc, e_runG, e_runP, k_outG, k_outGn, k_outP, k_outPn,
  e_sl, k_sl1, k_sl2, k_sl3t, k_sl3l, k_sl3s, e_nop, e_part, k_part, e_slL, k_slL1, k_slL2, e_isi, k_isi_n, k_isi_b, k_isi_i, k_isi_s, k_isi_l, k_isi_t,
  initR, sl1, List.map_cons, List.map_nil, List.length_cons, List.length_nil, Nat.reduceAdd, Nat.reduceSub, List.replicate_succ, List.replicate_zero, List.cons_append, List.nil_append, List.getElem?_cons_zero, List.getElem?_cons_succ, List.set_cons_zero, List.set_cons_succ, if_true, if_false, Bool.false_eq_true,
  bx_0, bx_1, bx_2, bx_s1, bx_s2, bx_len, bx_pop, bx_isL, g_add, g_sub, g_neg, g_lt, g_le, g_gt, g_ge, g_mulr, g_mull, g_mod, g_div, o_int, g_eqI, g_neI, g_eqB, g_neB, g_isN, g_notN, sm0, len_0, len_S, g_eqS, o_lenL, o_lenT, eq_self, decide_true, decide_false, k_pop1, k_pop2, it_tuple_NoneType, it_tuple_bool, it_tuple_int, it_tuple_str, it_tuple_list, it_tuple_tuple, it_list_NoneType, it_list_bool, it_list_int, it_list_str, it_list_list, it_list_tuple, it_bool_NoneType, it_bool_bool, it_bool_int, it_bool_str, it_bool_list, it_bool_tuple, it_int_NoneType, it_int_bool, it_int_int, it_int_str, it_int_list, it_int_tuple, it_str_NoneType, it_str_bool, it_str_int, it_str_str, it_str_list, it_str_tuple, decide_eq_true_eq, Int.reduceLT, Int.reduceNeg, and_self])
local macro_rules | `(tactic| walk_at "Y") => `(tactic| try walk_at "Z")
section
variable {s : S} {settle t k m x y q i : Int} {c : Bool} {g : Sg} {n : Nat}
theorem same_b {b b' : Bool} (h : b = b') : r_law_same 6 [.bool b, .bool b'] = some (.bool true) := by
  rw [h]; exact same_refl 5 _ rfl
theorem same_t {l l' : List Int} (h : l = l') (hl : l.length ≤ big) : r_law_same 6 [.tuple (l.map PyData.int), .tuple (l'.map PyData.int)] = some (.bool true) := by
  rw [← h]
  refine same_refl 5 _ ?_
  simp only [fine, Bool.and_eq_true, decide_eq_true_eq, List.length_map]
  exact ⟨hl, fines_of fun d hd => by obtain ⟨i, _, rfl⟩ := List.mem_map.mp hd; rfl⟩
/-- one hearing of one machine: a settler -/
theorem turnS {z0 z1 z2 z10 z11 : Slot} {Rw Ot due Rm : D} {tn : List Int} {Q : Nat} {k m : Int}
    (hT : s[n]? = some (obS settle g)) (h1 : ∀ s, gIx s (.im (.list [Rw, Ot])) (.im (.int (m % 2))) = some (.im Rm)) (h2 : ∀ s, gIx s (.im Rm) (.im (.int k)) = some (.im (er (t, c))))
    (h3 : ∀ o, gIx (s.set n o) (.rf Q) (.im (.int m)) = some (.rf n)) (h4 : ∀ s, gIx s (.im due) (.im (.int m)) = some (.im (.tuple (tn.map PyData.int)))) (hl : tn.length ≤ big)
    (h5 : (stpS settle g (t, c)).1 = decide (t ∈ tn)) (h6 : (stpS settle g (t, c)).2.1 = decide (upTo tn t % 2 = 1)) :
    l_law_1 [z0, z1, z2, .im (.int settle), .im Rw, .im Ot, .im due, .rf Q, .im (.int k), .im (.int m), z10, z11] s =
      some (.nx, [z0, z1, z2, .im (.int settle), .im Rw, .im Ot, .im due, .rf Q, .im (.int k), .im (.int m), .im (.int t), .im (.bool c)], s.set n (obS settle (stpS settle g (t, c)).2)) := by
  have h3' : gIx s (.rf Q) (.im (.int m)) = some (.rf n) := by
    have := h3 (obS settle g)
    rw [set_self hT] at this
    exact this
  unfold l_law_1
  walk_at "Y"
  rw [h1]
  walk_at "Y"
  rw [h2]
  walk_at "Y"
  rw [k_unp (ρ1 := [z0, z1, z2, .im (.int settle), .im Rw, .im Ot, .im due, .rf Q, .im (.int k), .im (.int m), .im (.int t), .im (.bool c)]) rfl]
  walk_at "Y"
  rw [h3']
  walk_at "Y"
  rw [k_meth1 hT rfl]
  walk_at "Y"
  rw [hearS hT]
  walk_at "Y"
  rw [h4]
  walk_at "Y"
  rw [g_in_ints]
  walk_at "Y"
  rw [same_b h5]
  walk_at "Y"
  simp only [Bool.not_true, Bool.false_eq_true, if_false]
  walk_at "Y"
  rw [h3]
  walk_at "Y"
  rw [k_meth1 (gs (o' := obS settle (stpS settle g (t, c)).2) hT) rfl]
  walk_at "Y"
  rw [downS (gs hT)]
  walk_at "Y"
  rw [h4]
  walk_at "Y"
  rw [up_ok hl]
  walk_at "Y"
  rw [same_b h6]
  walk_at "Y"
  simp only [Bool.not_true, Bool.false_eq_true, if_false]
  walk_at "Y"
/-- .. an eager one -/
theorem turnE {z0 z1 z2 z10 z11 : Slot} {Rw Ot due Rm : D} {tn : List Int} {Q : Nat} {k m : Int}
    (hT : s[n]? = some (obE settle g)) (h1 : ∀ s, gIx s (.im (.list [Rw, Ot])) (.im (.int (m % 2))) = some (.im Rm)) (h2 : ∀ s, gIx s (.im Rm) (.im (.int k)) = some (.im (er (t, c))))
    (h3 : ∀ o, gIx (s.set n o) (.rf Q) (.im (.int m)) = some (.rf n)) (h4 : ∀ s, gIx s (.im due) (.im (.int m)) = some (.im (.tuple (tn.map PyData.int)))) (hl : tn.length ≤ big)
    (h5 : (stpE settle g (t, c)).1 = decide (t ∈ tn)) (h6 : (stpE settle g (t, c)).2.1 = decide (upTo tn t % 2 = 1)) :
    l_law_1 [z0, z1, z2, .im (.int settle), .im Rw, .im Ot, .im due, .rf Q, .im (.int k), .im (.int m), z10, z11] s =
      some (.nx, [z0, z1, z2, .im (.int settle), .im Rw, .im Ot, .im due, .rf Q, .im (.int k), .im (.int m), .im (.int t), .im (.bool c)], s.set n (obE settle (stpE settle g (t, c)).2)) := by
  have h3' : gIx s (.rf Q) (.im (.int m)) = some (.rf n) := by
    have := h3 (obE settle g)
    rw [set_self hT] at this
    exact this
  have ne : ¬ (("EagerSettler" : Str) = "Settler") := by decide +kernel
  unfold l_law_1
  walk_at "Y"
  rw [h1]
  walk_at "Y"
  rw [h2]
  walk_at "Y"
  rw [k_unp (ρ1 := [z0, z1, z2, .im (.int settle), .im Rw, .im Ot, .im due, .rf Q, .im (.int k), .im (.int m), .im (.int t), .im (.bool c)]) rfl]
  walk_at "Y"
  rw [h3']
  walk_at "Y"
  rw [k_meth1n hT ne]
  walk_at "Y"
  rw [h3']
  walk_at "Y"
  rw [k_meth1 hT rfl]
  walk_at "Y"
  rw [hearE hT]
  walk_at "Y"
  rw [h4]
  walk_at "Y"
  rw [g_in_ints]
  walk_at "Y"
  rw [same_b h5]
  walk_at "Y"
  simp only [Bool.not_true, Bool.false_eq_true, if_false]
  walk_at "Y"
  rw [h3]
  walk_at "Y"
  rw [k_meth1n (gs (o' := obE settle (stpE settle g (t, c)).2) hT) ne]
  walk_at "Y"
  rw [h3]
  walk_at "Y"
  rw [k_meth1 (gs (o' := obE settle (stpE settle g (t, c)).2) hT) rfl]
  walk_at "Y"
  rw [downE (gs hT)]
  walk_at "Y"
  rw [h4]
  walk_at "Y"
  rw [up_ok hl]
  walk_at "Y"
  rw [same_b h6]
  walk_at "Y"
  simp only [Bool.not_true, Bool.false_eq_true, if_false]
  walk_at "Y"
end
end K17
set_option Elab.async false
set_option linter.all false
set_option maxRecDepth 100000
namespace K17
open PySem PyProof.Rows L2 Zz
local macro_rules | `(tactic| walk_at "Z") => `(tactic| simp only [e_var, k_var_im, k_var_rf, k_var_ol, k_var_sc, e_c, e_op, k_op1, k_op2, k_res, e_un, k_un, e_test, k_test, e_tru, k_tru_b, e_and, e_or, e_not, k_and, k_or, k_not, e_bool, k_bool, e_if, k_if,
  e_nil, e_cons, k_cons1, k_cons2, e_tup, e_lst, k_tup0, k_tup1, k_tup2, k_tup3, k_lst0, k_lst1, k_lst2, k_lst3, k_lst4, k_lst5, k_lst6, e_frz, k_frz, e_newD, k_newD, e_newR, e_call, k_call, e_callF, k_callF, e_callG, k_callG1, k_callG2, k_callG3, k_callG4, k_keep_im, k_keep_rf, e_callP, k_callP1, k_callP2, k_callP3, k_callP4, k_resD,
  e_meth, k_m0, k_m1, k_m2, k_m3, e_make, k_mk1, k_mk2, k_made, e_or2, k_or2, k_or2n, e_fld, k_stS, e_setF, k_setF1, k_setF2, e_seq, k_seq, k_seq_rt, k_seq_bk, k_seq_ct, e_next, e_asg, k_asg_im, k_asg_rf, e_own, k_own, e_drop, k_drop, e_ret, k_ret_im, k_ret_rf, e_retV, k_retV, e_ifS, k_ifS, e_appO, k_appO, e_app, e_popAt, e_setS, k_setS1, k_setS2, k_setS3,
  e_v0, e_vl, e_vo, k_vl1, k_vo1, k_vl2, e_par, k_pr2, k_pr3, k_pr4, k_pr5, k_par2, e_put0, e_put, k_put, e_putO, e_putI, e_putR, e_putF, e_unp, e_seqI, k_seqI_l, k_seqI_t, e_rng1, e_rng2, e_for, k_for, forL_nil, k_turn, k_turn_ct, k_turn_bk, k_turn_rt, e_lc, e_runG, e_runP, k_outG, k_outGn, k_outP, k_outPn,
  e_sl, k_sl1, k_sl2, k_sl3t, k_sl3l, k_sl3s, e_nop, e_part, k_part, e_slL, k_slL1, k_slL2, e_isi, k_isi_n, k_isi_b, k_isi_i, k_isi_s, k_isi_l, k_isi_t,
  initR, sl1, List.map_cons, List.map_nil, List.length_cons, List.length_nil, Nat.reduceAdd, Nat.reduceSub, List.replicate_succ, List.replicate_zero, List.cons_append, List.nil_append, List.getElem?_cons_zero, List.getElem?_cons_succ, List.set_cons_zero, List.set_cons_succ, if_true, if_false, Bool.false_eq_true,
  bx_0, bx_1, bx_2, bx_s1, bx_s2, bx_len, bx_pop, bx_isL, g_add, g_sub, g_neg, g_lt, g_le, g_gt, g_ge, g_mulr, g_mull, g_mod, g_div, o_int, g_eqI, g_neI, g_eqB, g_neB, g_isN, g_notN, sm0, len_0, len_S, g_eqS, o_lenL, o_lenT, eq_self, decide_true, decide_false, k_pop1, k_pop2, it_tuple_NoneType, it_tuple_bool, it_tuple_int, it_tuple_str, it_tuple_list, it_tuple_tuple, it_list_NoneType, it_list_bool, it_list_int, it_list_str, it_list_list, it_list_tuple, it_bool_NoneType, it_bool_bool, it_bool_int, it_bool_str, it_bool_list, it_bool_tuple, it_int_NoneType, it_int_bool, it_int_int, it_int_str, it_int_list, it_int_tuple, it_str_NoneType, it_str_bool, it_str_int, it_str_str, it_str_list, it_str_tuple, decide_eq_true_eq, Int.reduceLT, Int.reduceNeg, and_self])
local macro_rules | `(tactic| walk_at "Y") => `(tactic| try walk_at "Z")
theorem rngD_succ {lo : Int} {n : Nat} : rngD lo (n + 1) = .int lo :: rngD (lo + 1) n := by
  unfold rngD
  rw [List.range_succ_eq_map]
  simp only [List.map_cons, List.map_map]
  refine congr (congrArg _ (by simp)) ?_
  apply List.map_congr_left
  intro i _
  simp only [Function.comp]
  congr 1
  push_cast
  omega
theorem ixR {s : S} {n : Nat} {l : List L} {i : Int} {x : L} (h : s[n]? = some (.rl l)) (h2 : atD l i = some x) (h3 : keepable x = true) : gIx s (.rf n) (.im (.int i)) = some x := by
  unfold gIx
  simp only [sqV, h, h2, Option.bind_some, h3, if_true]
theorem ixL {s : S} {l : List D} {k : Nat} {d : D} (h : l[k]? = some d) : gIx s (.im (.list l)) (.im (.int (k : Int))) = some (.im d) := by
  unfold gIx
  have : atD l (k : Int) = some d := atI_nat h
  simp only [sqV, this, Option.bind_some]
theorem getAp {s l : S} {i : Nat} : (s ++ l)[s.length + i]? = l[i]? := by
  rw [List.getElem?_append_right (by omega)]
  congr 1; omega
theorem setAp {s l : S} {i : Nat} {o : MO} : (s ++ l).set (s.length + i) o = s ++ l.set i o := by
  rw [List.set_append_right _ _ (by omega)]
  congr 2; omega
def fl (r : Int × Bool) : Int × Bool := (r.1, !r.2)
def TT (s : S) (settle : Int) (g0 g1 g2 g3 : Sg) : S := s ++ [obS settle g0, obS settle g1, obE settle g2, obE settle g3, .rl [.rf (s.length + 0), .rf (s.length + 1), .rf (s.length + 2), .rf (s.length + 3)]]
section
variable {s : S} {settle t k m x y q i : Int} {c : Bool} {g g0 g1 g2 g3 : Sg} {n : Nat}
theorem TT_get {i : Nat} {o : MO} (h : ([obS settle g0, obS settle g1, obE settle g2, obE settle g3, .rl [.rf (s.length + 0), .rf (s.length + 1), .rf (s.length + 2), .rf (s.length + 3)]] : S)[i]? = some o) : (TT s settle g0 g1 g2 g3)[s.length + i]? = some o := by
  unfold TT; rw [getAp, h]
theorem TT_set0 : (TT s settle g0 g1 g2 g3).set (s.length + 0) (obS settle g) = TT s settle g g1 g2 g3 := by unfold TT; rw [setAp]; rfl
theorem TT_set1 : (TT s settle g0 g1 g2 g3).set (s.length + 1) (obS settle g) = TT s settle g0 g g2 g3 := by unfold TT; rw [setAp]; rfl
theorem TT_set2 : (TT s settle g0 g1 g2 g3).set (s.length + 2) (obE settle g) = TT s settle g0 g1 g g3 := by unfold TT; rw [setAp]; rfl
theorem TT_set3 : (TT s settle g0 g1 g2 g3).set (s.length + 3) (obE settle g) = TT s settle g0 g1 g2 g := by unfold TT; rw [setAp]; rfl
theorem TT_ix {j : Nat} {o : MO} (hj : j < 4) : gIx ((TT s settle g0 g1 g2 g3).set (s.length + j) o) (.rf (s.length + 4)) (.im (.int (j : Int))) = some (.rf (s.length + j)) := by
  have h : ((TT s settle g0 g1 g2 g3).set (s.length + j) o)[s.length + 4]? = some (.rl [.rf (s.length + 0), .rf (s.length + 1), .rf (s.length + 2), .rf (s.length + 3)]) := by
    rw [List.getElem?_set_ne (by omega)]
    exact TT_get rfl
  refine ixR h (atI_nat ?_) rfl
  rcases j with _ | _ | _ | _ | j
  · rfl
  · rfl
  · rfl
  · rfl
  · omega
theorem row_at {as bs : List (Int × Bool)} {r : Int × Bool} : ((as ++ r :: bs).map er)[as.length]? = some (er r) := by simp
theorem fl_at {as bs : List (Int × Bool)} {r : Int × Bool} : (((as ++ r :: bs).map fl).map er)[as.length]? = some (er (r.1, !r.2)) := by simp [fl]
theorem up_fl {rs : List (Int × Bool)} (h : Up rs) : Up (rs.map fl) := by
  unfold Up at *
  rw [List.pairwise_map]
  exact h
theorem h5_of (st : Step) {as bs : List (Int × Bool)} {r : Int × Bool} {g : Sg} (h : Up (as ++ r :: bs)) : (st (run st g as) r).1 = decide (r.1 ∈ tns st g (as ++ r :: bs)) := by
  rw [Bool.eq_iff_iff, decide_eq_true_eq]
  exact (turn_in st h).symm
theorem h6_of (st : Step) (ok : Ok st) {as bs : List (Int × Bool)} {r : Int × Bool} {f : Option Int} (h : Up (as ++ r :: bs)) : (st (run st (false, f) as) r).2.1 = decide (upTo (tns st (false, f) (as ++ r :: bs)) r.1 % 2 = 1) := by
  rw [Bool.eq_iff_iff, decide_eq_true_eq]
  exact down_is st ok h
theorem tns_len (st : Step) : ∀ (rs : List (Int × Bool)) (g : Sg), (tns st g rs).length ≤ rs.length
  | [], g => Nat.le_refl 0
  | r :: rs, g => by
    have := tns_len st rs (st g r).2
    unfold tns
    split <;> simp only [List.length_cons] <;> omega
abbrev i0 : Sg := (false, none)
def dues (settle : Int) (rows : List (Int × Bool)) : D := .list [.tuple ((tns (stpS settle) i0 rows).map PyData.int), .tuple ((tns (stpS settle) i0 (rows.map fl)).map PyData.int), .tuple ((tns (stpE settle) i0 rows).map PyData.int), .tuple ((tns (stpE settle) i0 (rows.map fl)).map PyData.int)]
/-- the four machines, one row -/
theorem inner {z0 z1 z2 z9 z10 z11 : Slot} {as bs : List (Int × Bool)} {r : Int × Bool} (hu : Up (as ++ r :: bs)) (hl : (as ++ r :: bs).length ≤ big) : ∃ z9' z10' z11',
    l_law_2 [z0, z1, z2, .im (.int settle), .im (.list ((as ++ r :: bs).map er)), .im (.list (((as ++ r :: bs).map fl).map er)), .im (dues settle (as ++ r :: bs)), .rf (s.length + 4), .im (.int (as.length : Int)), z9, z10, z11]
      (TT s settle (run (stpS settle) i0 as) (run (stpS settle) i0 (as.map fl)) (run (stpE settle) i0 as) (run (stpE settle) i0 (as.map fl))) =
    some (.nx, [z0, z1, z2, .im (.int settle), .im (.list ((as ++ r :: bs).map er)), .im (.list (((as ++ r :: bs).map fl).map er)), .im (dues settle (as ++ r :: bs)), .rf (s.length + 4), .im (.int (as.length : Int)), z9', z10', z11'],
      TT s settle (run (stpS settle) i0 (as ++ [r])) (run (stpS settle) i0 ((as ++ [r]).map fl)) (run (stpE settle) i0 (as ++ [r])) (run (stpE settle) i0 ((as ++ [r]).map fl))) := by
  have ef : (as ++ r :: bs).map fl = as.map fl ++ fl r :: bs.map fl := by simp
  have hu2 : Up (as.map fl ++ fl r :: bs.map fl) := by rw [← ef]; exact up_fl hu
  have hr : ∀ st : Step, (st (run st i0 as) r).2 = run st i0 (as ++ [r]) := fun st => by rw [run_append]; rfl
  have hf : ∀ st : Step, (st (run st i0 (as.map fl)) (fl r)).2 = run st i0 ((as ++ [r]).map fl) := fun st => by rw [List.map_append, run_append]; rfl
  have la : ∀ st : Step, (tns st i0 (as ++ r :: bs)).length ≤ big := fun st => Nat.le_trans (tns_len st _ _) hl
  have lb : ∀ st : Step, (tns st i0 ((as ++ r :: bs).map fl)).length ≤ big := fun st => Nat.le_trans (tns_len st _ _) (by rw [List.length_map]; exact hl)
  refine ⟨.im (.int 3), .im (.int r.1), .im (.bool (!r.2)), ?_⟩
  obtain ⟨t, c⟩ := r
  unfold l_law_2
  walk_at "Y"
  rw [k_rng1 (j := 4) (decide_eq_true (by omega))]
  walk_at "Y"
  rw [show rngD 0 (Int.toNat 4) = [.int 0, .int 1, .int 2, .int 3] from rfl]
  -- the first settler
  rw [forL_cons (ρ1 := [z0, z1, z2, .im (.int settle), .im (.list ((as ++ (t, c) :: bs).map er)), .im (.list (((as ++ (t, c) :: bs).map fl).map er)), .im (dues settle (as ++ (t, c) :: bs)), .rf (s.length + 4), .im (.int (as.length : Int)), .im (.int 0), z10, z11]) rfl]
  rw [turnS (Rw := .list ((as ++ (t, c) :: bs).map er)) (Ot := .list (((as ++ (t, c) :: bs).map fl).map er)) (due := dues settle (as ++ (t, c) :: bs)) (Q := s.length + 4) (k := (as.length : Int)) (m := 0) (n := s.length + 0) (g := run (stpS settle) i0 as) (t := t) (c := c) (Rm := .list ((as ++ (t, c) :: bs).map er)) (tn := tns (stpS settle) i0 (as ++ (t, c) :: bs)) (TT_get rfl) (fun _ => rfl) (fun _ => ixL row_at) (fun o => TT_ix (by omega)) (fun _ => rfl) (la _) (h5_of _ hu) (h6_of _ (okS _) hu)]
  rw [TT_set0, hr, k_turn]
  -- the second
  rw [forL_cons (ρ1 := [z0, z1, z2, .im (.int settle), .im (.list ((as ++ (t, c) :: bs).map er)), .im (.list (((as ++ (t, c) :: bs).map fl).map er)), .im (dues settle (as ++ (t, c) :: bs)), .rf (s.length + 4), .im (.int (as.length : Int)), .im (.int 1), .im (.int t), .im (.bool c)]) rfl]
  rw [turnS (Rw := .list ((as ++ (t, c) :: bs).map er)) (Ot := .list (((as ++ (t, c) :: bs).map fl).map er)) (due := dues settle (as ++ (t, c) :: bs)) (Q := s.length + 4) (k := (as.length : Int)) (m := 1) (n := s.length + 1) (g := run (stpS settle) i0 (as.map fl)) (t := t) (c := !c) (Rm := .list (((as ++ (t, c) :: bs).map fl).map er)) (tn := tns (stpS settle) i0 ((as ++ (t, c) :: bs).map fl)) (TT_get rfl) (fun _ => rfl) (fun _ => ixL fl_at) (fun o => TT_ix (by omega)) (fun _ => rfl) (lb _) (by rw [ef]; exact h5_of _ hu2) (by rw [ef]; exact h6_of _ (okS _) hu2)]
  rw [TT_set1, show (t, !c) = fl (t, c) from rfl, hf, k_turn]
  -- the first eager one
  rw [forL_cons (ρ1 := [z0, z1, z2, .im (.int settle), .im (.list ((as ++ (t, c) :: bs).map er)), .im (.list (((as ++ (t, c) :: bs).map fl).map er)), .im (dues settle (as ++ (t, c) :: bs)), .rf (s.length + 4), .im (.int (as.length : Int)), .im (.int 2), .im (.int t), .im (.bool (!c))]) rfl]
  rw [turnE (Rw := .list ((as ++ (t, c) :: bs).map er)) (Ot := .list (((as ++ (t, c) :: bs).map fl).map er)) (due := dues settle (as ++ (t, c) :: bs)) (Q := s.length + 4) (k := (as.length : Int)) (m := 2) (n := s.length + 2) (g := run (stpE settle) i0 as) (t := t) (c := c) (Rm := .list ((as ++ (t, c) :: bs).map er)) (tn := tns (stpE settle) i0 (as ++ (t, c) :: bs)) (TT_get rfl) (fun _ => rfl) (fun _ => ixL row_at) (fun o => TT_ix (by omega)) (fun _ => rfl) (la _) (h5_of _ hu) (h6_of _ (okE _) hu)]
  rw [TT_set2, hr, k_turn]
  -- the second
  rw [forL_cons (ρ1 := [z0, z1, z2, .im (.int settle), .im (.list ((as ++ (t, c) :: bs).map er)), .im (.list (((as ++ (t, c) :: bs).map fl).map er)), .im (dues settle (as ++ (t, c) :: bs)), .rf (s.length + 4), .im (.int (as.length : Int)), .im (.int 3), .im (.int t), .im (.bool c)]) rfl]
  rw [turnE (Rw := .list ((as ++ (t, c) :: bs).map er)) (Ot := .list (((as ++ (t, c) :: bs).map fl).map er)) (due := dues settle (as ++ (t, c) :: bs)) (Q := s.length + 4) (k := (as.length : Int)) (m := 3) (n := s.length + 3) (g := run (stpE settle) i0 (as.map fl)) (t := t) (c := !c) (Rm := .list (((as ++ (t, c) :: bs).map fl).map er)) (tn := tns (stpE settle) i0 ((as ++ (t, c) :: bs).map fl)) (TT_get rfl) (fun _ => rfl) (fun _ => ixL fl_at) (fun o => TT_ix (by omega)) (fun _ => rfl) (lb _) (by rw [ef]; exact h5_of _ hu2) (by rw [ef]; exact h6_of _ (okE _) hu2)]
  rw [TT_set3, show (t, !c) = fl (t, c) from rfl, hf, k_turn]
  rfl
theorem outer {z0 z1 z2 : Slot} {rows : List (Int × Bool)} (hu : Up rows) (hl : rows.length ≤ big) : ∀ (bs as : List (Int × Bool)) {z8 z9 z10 z11 : Slot}, as ++ bs = rows → ∃ z8' z9' z10' z11' s',
    forL (.nm 8) l_law_2 (rngD (as.length : Int) bs.length) [z0, z1, z2, .im (.int settle), .im (.list (rows.map er)), .im (.list ((rows.map fl).map er)), .im (dues settle rows), .rf (s.length + 4), z8, z9, z10, z11]
      (TT s settle (run (stpS settle) i0 as) (run (stpS settle) i0 (as.map fl)) (run (stpE settle) i0 as) (run (stpE settle) i0 (as.map fl))) =
    some (.nx, [z0, z1, z2, .im (.int settle), .im (.list (rows.map er)), .im (.list ((rows.map fl).map er)), .im (dues settle rows), .rf (s.length + 4), z8', z9', z10', z11'], s ++ s') := by
  intro bs
  induction bs with
  | nil => intro as z8 z9 z10 z11 e; exact ⟨z8, z9, z10, z11, _, rfl⟩
  | cons r bs ih =>
    intro as z8 z9 z10 z11 e
    subst e
    obtain ⟨a, b, d, e1⟩ := inner (s := s) (settle := settle) (z0 := z0) (z1 := z1) (z2 := z2) (z9 := z9) (z10 := z10) (z11 := z11) hu hl
    obtain ⟨z8', z9', z10', z11', s', e2⟩ := ih (as ++ [r]) (z8 := .im (.int (as.length : Int))) (z9 := a) (z10 := b) (z11 := d) (by simp)
    refine ⟨z8', z9', z10', z11', s', ?_⟩
    rw [List.length_cons, rngD_succ, forL_cons (ρ1 := [z0, z1, z2, .im (.int settle), .im (.list ((as ++ r :: bs).map er)), .im (.list (((as ++ r :: bs).map fl).map er)), .im (dues settle (as ++ r :: bs)), .rf (s.length + 4), .im (.int (as.length : Int)), z9, z10, z11]) rfl, e1, k_turn]
    rw [List.length_append, List.length_singleton] at e2
    exact e2
end
end K17
set_option Elab.async false
set_option linter.all false
set_option maxRecDepth 100000
namespace K17
open PySem PyProof.Rows L2 Zz
local macro_rules | `(tactic| walk_at "Z") => `(tactic| simp only [e_var, k_var_im, k_var_rf, k_var_ol, k_var_sc, e_c, e_op, k_op1, k_op2, k_res, e_un, k_un, e_test, k_test, e_tru, k_tru_b, e_and, e_or, e_not, k_and, k_or, k_not, e_bool, k_bool, e_if, k_if,
  e_nil, e_cons, k_cons1, k_cons2, e_tup, e_lst, k_tup0, k_tup1, k_tup2, k_tup3, k_lst0, k_lst1, k_lst2, k_lst3, k_lst4, k_lst5, k_lst6, e_frz, k_frz, e_newD, k_newD, e_newR, e_call, k_call, e_callF, k_callF, e_callG, k_callG1, k_callG2, k_callG3, k_callG4, k_keep_im, k_keep_rf, e_callP, k_callP1, k_callP2, k_callP3, k_callP4, k_resD,
  e_meth, k_m0, k_m1, k_m2, k_m3, e_make, k_mk1, k_mk2, k_made, e_or2, k_or2, k_or2n, e_fld, k_stS, e_setF, k_setF1, k_setF2, e_seq, k_seq, k_seq_rt, k_seq_bk, k_seq_ct, e_next, e_asg, k_asg_im, k_asg_rf, e_own, k_own, e_drop, k_drop, e_ret, k_ret_im, k_ret_rf, e_retV, k_retV, e_ifS, k_ifS, e_appO, k_appO, e_app, e_popAt, e_setS, k_setS1, k_setS2, k_setS3,
  e_v0, e_vl, e_vo, k_vl1, k_vo1, k_vl2, e_par, k_pr2, k_pr3, k_pr4, k_pr5, k_par2, e_put0, e_put, k_put, e_putO, e_putI, e_putR, e_putF, e_unp, e_seqI, k_seqI_l, k_seqI_t, e_rng1, e_rng2, e_for, k_for, forL_nil, k_turn, k_turn_ct, k_turn_bk, k_turn_rt, e_lc, e_runG, e_runP, k_outG, k_outGn, k_outP, k_outPn,
  e_sl, k_sl1, k_sl2, k_sl3t, k_sl3l, k_sl3s, e_nop, e_part, k_part, e_slL, k_slL1, k_slL2, e_isi, k_isi_n, k_isi_b, k_isi_i, k_isi_s, k_isi_l, k_isi_t,
  initR, sl1, List.map_cons, List.map_nil, List.length_cons, List.length_nil, Nat.reduceAdd, Nat.reduceSub, List.replicate_succ, List.replicate_zero, List.cons_append, List.nil_append, List.getElem?_cons_zero, List.getElem?_cons_succ, List.set_cons_zero, List.set_cons_succ, if_true, if_false, Bool.false_eq_true,
  bx_0, bx_1, bx_2, bx_s1, bx_s2, bx_len, bx_pop, bx_isL, g_add, g_sub, g_neg, g_lt, g_le, g_gt, g_ge, g_mulr, g_mull, g_mod, g_div, o_int, g_eqI, g_neI, g_eqB, g_neB, g_isN, g_notN, sm0, len_0, len_S, g_eqS, o_lenL, o_lenT, eq_self, decide_true, decide_false, k_pop1, k_pop2, it_tuple_NoneType, it_tuple_bool, it_tuple_int, it_tuple_str, it_tuple_list, it_tuple_tuple, it_list_NoneType, it_list_bool, it_list_int, it_list_str, it_list_list, it_list_tuple, it_bool_NoneType, it_bool_bool, it_bool_int, it_bool_str, it_bool_list, it_bool_tuple, it_int_NoneType, it_int_bool, it_int_int, it_int_str, it_int_list, it_int_tuple, it_str_NoneType, it_str_bool, it_str_int, it_str_str, it_str_list, it_str_tuple, decide_eq_true_eq, Int.reduceLT, Int.reduceNeg, and_self])
local macro_rules | `(tactic| walk_at "Y") => `(tactic| try walk_at "Z")
section
variable {s rest : S} {settle x y tn : Int} {c : List Int}
theorem mkS : kMade s.length (r_Settler_init [.rf s.length, .im (.int settle)] (s ++ [.ins "Settler" []])) = some (.rf s.length, s ++ [obS settle i0]) := by
  rw [initS (by simp), k_made]
  simp
theorem mkE : kMade s.length (r_EagerSettler_init [.rf s.length, .im (.int settle)] (s ++ [.ins "EagerSettler" []])) = some (.rf s.length, s ++ [obE settle i0]) := by
  rw [initE (by simp), k_made]
  simp
theorem newR4 {a b c d : Nat} : kNewR (some ([.rf a, .rf b, .rf c, .rf d], s)) = some (.rf s.length, s ++ [.rl [.rf a, .rf b, .rf c, .rf d]]) := k_newR (l := [.rf a, .rf b, .rf c, .rf d]) rfl (by show 4 ≤ 16777216; decide)
theorem callG_sc {F : List L → S → Option (L × S)} {l : List D} : kCallG 1 F (some ([.sc l], s)) = kKeep (F [.sc l] s) := k_callG (x := [.sc l]) rfl rfl
theorem TT_is : ((((s ++ [obS settle i0]) ++ [obS settle i0]) ++ [obE settle i0]) ++ [obE settle i0]) ++ [MO.rl [L.rf s.length, .rf (s ++ [obS settle i0]).length, .rf ((s ++ [obS settle i0]) ++ [obS settle i0]).length, .rf (((s ++ [obS settle i0]) ++ [obS settle i0]) ++ [obE settle i0]).length]] = TT s settle i0 i0 i0 i0 := by
  unfold TT
  simp
theorem TT_n : ((((s ++ [obS settle i0]) ++ [obS settle i0]) ++ [obE settle i0]) ++ [obE settle i0]).length = s.length + 4 := by simp
theorem mk_four {z0 z2 z5 z6 z7 z8 z9 z10 z11 : Slot} {R : D} : (fAsg 7 (fNewR (fCons (fMake "Settler" 2 r_Settler_init (fCons (fVar 3) fNil)) (fCons (fMake "Settler" 2 r_Settler_init (fCons (fVar 3) fNil)) (fCons (fMake "EagerSettler" 2 r_EagerSettler_init (fCons (fVar 3) fNil)) (fCons (fMake "EagerSettler" 2 r_EagerSettler_init (fCons (fVar 3) fNil)) fNil))))))
    [z0, .rf 1, z2, .im (.int settle), .im R, z5, z6, z7, z8, z9, z10, z11] s = some (.nx, [z0, .rf 1, z2, .im (.int settle), .im R, z5, z6, .rf (s.length + 4), z8, z9, z10, z11], TT s settle i0 i0 i0 i0) := by
  walk_at "Y"
  rw [mkS]
  walk_at "Y"
  rw [mkS]
  walk_at "Y"
  rw [mkE]
  walk_at "Y"
  rw [mkE]
  walk_at "Y"
  rw [newR4, TT_is, TT_n]
  walk_at "Y"
def tail7 : FS := (fSeq (fAsg 7 (fNewR (fCons (fMake "Settler" 2 r_Settler_init (fCons (fVar 3) fNil)) (fCons (fMake "Settler" 2 r_Settler_init (fCons (fVar 3) fNil)) (fCons (fMake "EagerSettler" 2 r_EagerSettler_init (fCons (fVar 3) fNil)) (fCons (fMake "EagerSettler" 2 r_EagerSettler_init (fCons (fVar 3) fNil)) fNil)))))) (fFor (.nm 8) (fRng1 (fCons (fCall oLen (fCons (fVar 4) fNil)) fNil)) l_law_2))
theorem machines {z0 z2 z7 z8 z9 z10 z11 : Slot} {rows : List (Int × Bool)} (hu : Up rows) (hb : rows.length < big) : ∃ z3' z4' z5' z6' z7' z8' z9' z10' z11' c' x' y' rest',
    tail7 [z0, .rf 1, z2, .im (.int settle), .im (.list (rows.map er)), .im (.list ((rows.map fl).map er)), .im (dues settle rows), z7, z8, z9, z10, z11] (Bx c x y rest) = some (.nx, [z0, .rf 1, z2, z3', z4', z5', z6', z7', z8', z9', z10', z11'], Bx c' x' y' rest') := by
  unfold tail7
  rw [e_seq, mk_four, k_seq]
  generalize hQ : List.length (Bx c x y rest) + 4 = Q
  generalize hT : TT (Bx c x y rest) settle i0 i0 i0 i0 = T
  walk_at "Y"
  rw [List.length_map, k_rng1 (okR_big (Nat.le_of_lt hb))]
  walk_at "Y"
  rw [← hQ, ← hT]
  obtain ⟨z8', z9', z10', z11', s', e3⟩ := outer (s := Bx c x y rest) (settle := settle) (z0 := z0) (z1 := .rf 1) (z2 := z2) hu (Nat.le_of_lt hb) rows [] (z8 := z8) (z9 := z9) (z10 := z10) (z11 := z11) rfl
  rw [Int.toNat_natCast]
  exact ⟨_, _, _, _, _, _, _, _, _, _, _, _, _, e3⟩
theorem one_turn {z0 z3 z4 z5 z6 z7 z8 z9 z10 z11 : Slot} (ht : tn = 0 ∨ tn = 1 ∨ tn = 2) : ∃ z3' z4' z5' z6' z7' z8' z9' z10' z11' c' x' y' rest',
    l_law_3 [z0, .rf 1, .im (.int tn), z3, z4, z5, z6, z7, z8, z9, z10, z11] (Bx c x y rest) = some (.nx, [z0, .rf 1, .im (.int tn), z3', z4', z5', z6', z7', z8', z9', z10', z11'], Bx c' x' y' rest') := by
  have p3 : ∃ z : Int, (0 < z ∧ z ≤ 1000) ∧ ∀ s : S, gIx s (.im (.list [.int 5, .int 60, .int 1000])) (.im (.int tn)) = some (.im (.int z)) := by
    rcases ht with h | h | h <;> subst h
    · exact ⟨5, by omega, fun _ => rfl⟩
    · exact ⟨60, by omega, fun _ => rfl⟩
    · exact ⟨1000, by omega, fun _ => rfl⟩
  obtain ⟨z, hz, ez⟩ := p3
  obtain ⟨d1, x1, y1, c1, e1, h0, h1⟩ := draw_ok (c := c) (x := x) (y := y) (rest := rest) (by omega : 0 < z) (by omega : z < 1073741824)
  have hs : 0 < 1 + d1 ∧ 1 + d1 ≤ 1000 := by omega
  obtain ⟨rows, c2, x2, y2, e2, hu, hl⟩ := rows_ok (c := c1) (x := x1) (y := y1) (rest := rest) hs
  have hb : rows.length < big := by unfold big; omega
  have hb' : (rows.map fl).length < big := by rw [List.length_map]; exact hb
  have hbm : (rows.map er).length ≤ big := by rw [List.length_map]; omega
  have hbm' : ((rows.map fl).map er).length ≤ big := by rw [List.length_map, List.length_map]; omega
  have hlc : ∀ (ρ : Ro) (s : S), ρ = [z0, .rf 1, .im (.int tn), .im (.int (1 + d1)), .im (.list (rows.map er)), z5, z6, z7, z8, z9, z10, z11] → lcL [10, 11] (.tp (.cons (.nm 10) (.cons (.nm 11) .nil))) fYes (fTup (fCons (fVar 10) (fCons (fBool (fNotT (fTest (fVar 11)))) fNil))) ρ (rows.map er) s = some ((rows.map fl).map er, s) := by
    intro ρ s e
    subst e
    have := lcL_map (vs := [10, 11]) (T := .tp (.cons (.nm 10) (.cons (.nm 11) .nil))) (t := fYes) (f := fTup (fCons (fVar 10) (fCons (fBool (fNotT (fTest (fVar 11)))) fNil))) (ρ := [z0, .rf 1, .im (.int tn), .im (.int (1 + d1)), .im (.list (rows.map er)), z5, z6, z7, z8, z9, z10, z11]) (s := s) (enc := er)
      (p := fun _ => true) (g := fun r => er (fl r)) (ρx := fun r => [z0, .rf 1, .im (.int tn), .im (.int (1 + d1)), .im (.list (rows.map er)), z5, z6, z7, z8, z9, .im (.int r.1), .im (.bool r.2)]) (xs := rows) (fun _ _ => rfl) (fun _ _ => rfl) (fun r _ _ => by
        walk_at "Y"
        rfl)
    rw [this, List.filter_eq_self.mpr (by simp), List.map_map]
    rfl
  unfold l_law_3
  rw [show (fSeq (fAsg 7 (fNewR (fCons (fMake "Settler" 2 r_Settler_init (fCons (fVar 3) fNil)) (fCons (fMake "Settler" 2 r_Settler_init (fCons (fVar 3) fNil)) (fCons (fMake "EagerSettler" 2 r_EagerSettler_init (fCons (fVar 3) fNil)) (fCons (fMake "EagerSettler" 2 r_EagerSettler_init (fCons (fVar 3) fNil)) fNil)))))) (fFor (.nm 8) (fRng1 (fCons (fCall oLen (fCons (fVar 4) fNil)) fNil)) l_law_2)) = tail7 from rfl]
  walk_at "Y"
  rw [ez]
  walk_at "Y"
  rw [e1]
  walk_at "Y"
  rw [e2]
  walk_at "Y"
  rw [k_lc hbm, hlc _ _ rfl]
  walk_at "Y"
  rw [lsettled_ok hb]
  walk_at "Y"
  rw [lsettled_ok hb']
  walk_at "Y"
  rw [leager_ok hb]
  walk_at "Y"
  rw [leager_ok hb']
  walk_at "Y"
  rw [o_tupL]
  walk_at "Y"
  rw [settled_ok (Nat.le_of_lt hb)]
  walk_at "Y"
  have ix0 : ∀ (s : S) (a b d e : D), gIx s (.im (.list [a, b, d, e])) (.im (.int 0)) = some (.im a) := fun _ _ _ _ _ => rfl
  have ix1 : ∀ (s : S) (a b d e : D), gIx s (.im (.list [a, b, d, e])) (.im (.int 1)) = some (.im b) := fun _ _ _ _ _ => rfl
  rw [ix0]
  walk_at "Y"
  rw [same_t rfl (Nat.le_trans (tns_len _ _ _) (Nat.le_of_lt hb))]
  walk_at "Y"
  simp only [Bool.not_true, Bool.false_eq_true, if_false]
  walk_at "Y"
  rw [o_tupL]
  walk_at "Y"
  rw [settled_ok (Nat.le_of_lt hb')]
  walk_at "Y"
  rw [ix1]
  walk_at "Y"
  rw [same_t rfl (Nat.le_trans (tns_len _ _ _) (Nat.le_of_lt hb'))]
  walk_at "Y"
  simp only [Bool.not_true, Bool.false_eq_true, if_false]
  walk_at "Y"
  exact machines hu hb
theorem law_true : ∀ ns : List Int, ns.length ≤ 63 → ∃ s', r_law [.sc (ns.map PyData.int)] [] = some (.im (.bool true), s') := by
  intro ns h
  unfold r_law d_law
  walk_at "Y"
  rw [callG_sc, box_ok h]
  walk_at "Y"
  rw [k_rng1 (j := 3) (decide_eq_true (by omega))]
  walk_at "Y"
  rw [show rngD 0 (Int.toNat 3) = [.int 0, .int 1, .int 2] from rfl]
  obtain ⟨a3, a4, a5, a6, a7, a8, a9, a10, a11, c1, x1, y1, r1, e1⟩ := one_turn (c := ns) (x := 0) (y := 4711 + (ns.length : Int)) (rest := []) (z0 := .sc (ns.map PyData.int)) (z3 := .un) (z4 := .un) (z5 := .un) (z6 := .un) (z7 := .un) (z8 := .un) (z9 := .un) (z10 := .un) (z11 := .un) (tn := 0) (by omega)
  rw [forL_cons rfl]
  erw [e1]
  rw [k_turn]
  obtain ⟨b3, b4, b5, b6, b7, b8, b9, b10, b11, c2, x2, y2, r2, e2⟩ := one_turn (c := c1) (x := x1) (y := y1) (rest := r1) (z0 := .sc (ns.map PyData.int)) (z3 := a3) (z4 := a4) (z5 := a5) (z6 := a6) (z7 := a7) (z8 := a8) (z9 := a9) (z10 := a10) (z11 := a11) (tn := 1) (by omega)
  rw [forL_cons rfl]
  erw [e2]
  rw [k_turn]
  obtain ⟨d3, d4, d5, d6, d7, d8, d9, d10, d11, c3, x3, y3, r3, e3⟩ := one_turn (c := c2) (x := x2) (y := y2) (rest := r2) (z0 := .sc (ns.map PyData.int)) (z3 := b3) (z4 := b4) (z5 := b5) (z6 := b6) (z7 := b7) (z8 := b8) (z9 := b9) (z10 := b10) (z11 := b11) (tn := 2) (by omega)
  rw [forL_cons rfl]
  erw [e3]
  rw [k_turn]
  walk_at "Y"
  exact ⟨_, rfl⟩
end
end K17
set_option maxRecDepth 100000
set_option maxHeartbeats 8000000
namespace K17
open PySem PyProof.Rows L2 Zz
section
theorem all_mk {l : PySem.W.OpenLaw} {w : World} {K : PySem.W.Frag} {h : Heap} {mg : Str → Option Value} {fa : Addr} (X : K.In h) (G : h.Ns mainGlobals mg) (hfa : mg "law" = some (.ref fa)) {C_Settler C_EagerSettler f_Settler_init f_Settler_is_down f_Settler_hear f_EagerSettler_init f_EagerSettler_is_down f_EagerSettler_hear f_settled_ticks f_law_box f_law_load f_law_draw f_law_same f_law_is_up f_law_settled f_law_rows f_law_eager f_law : Addr} {od_Settler_init an_Settler_init od_Settler_is_down an_Settler_is_down od_Settler_hear an_Settler_hear od_EagerSettler_init an_EagerSettler_init od_EagerSettler_is_down an_EagerSettler_is_down od_EagerSettler_hear an_EagerSettler_hear od_settled_ticks an_settled_ticks od_law_box an_law_box od_law_load an_law_load od_law_draw an_law_draw od_law_same an_law_same od_law_is_up an_law_is_up od_law_settled an_law_settled od_law_rows an_law_rows od_law_eager an_law_eager od_law an_law : Option Addr} {sl_Settler_init sl_Settler_is_down sl_Settler_hear sl_EagerSettler_init sl_EagerSettler_is_down sl_EagerSettler_hear sl_settled_ticks sl_law_box sl_law_load sl_law_draw sl_law_same sl_law_is_up sl_law_settled sl_law_rows sl_law_eager sl_law : Array (Option Value)} {oc_Settler_init kV_Settler_init dc_Settler_init pm_Settler_init cd_Settler_init ct_Settler_init oc_Settler_is_down kV_Settler_is_down dc_Settler_is_down pm_Settler_is_down cd_Settler_is_down ct_Settler_is_down oc_Settler_hear kV_Settler_hear dc_Settler_hear pm_Settler_hear cd_Settler_hear ct_Settler_hear oc_EagerSettler_init kV_EagerSettler_init dc_EagerSettler_init pm_EagerSettler_init cd_EagerSettler_init ct_EagerSettler_init oc_EagerSettler_is_down kV_EagerSettler_is_down dc_EagerSettler_is_down pm_EagerSettler_is_down cd_EagerSettler_is_down ct_EagerSettler_is_down oc_EagerSettler_hear kV_EagerSettler_hear dc_EagerSettler_hear pm_EagerSettler_hear cd_EagerSettler_hear ct_EagerSettler_hear oc_settled_ticks kV_settled_ticks dc_settled_ticks pm_settled_ticks cd_settled_ticks ct_settled_ticks oc_law_box kV_law_box dc_law_box pm_law_box cd_law_box ct_law_box oc_law_load kV_law_load dc_law_load pm_law_load cd_law_load ct_law_load oc_law_draw kV_law_draw dc_law_draw pm_law_draw cd_law_draw ct_law_draw oc_law_same kV_law_same dc_law_same pm_law_same cd_law_same ct_law_same oc_law_is_up kV_law_is_up dc_law_is_up pm_law_is_up cd_law_is_up ct_law_is_up oc_law_settled kV_law_settled dc_law_settled pm_law_settled cd_law_settled ct_law_settled oc_law_rows kV_law_rows dc_law_rows pm_law_rows cd_law_rows ct_law_rows oc_law_eager kV_law_eager dc_law_eager pm_law_eager cd_law_eager ct_law_eager oc_law kV_law dc_law pm_law cd_law ct_law : Value}
    (aC_Settler : PySem.W.nsIn K mainGlobals "Settler" = some (some (.ref C_Settler)))
    (aC_EagerSettler : PySem.W.nsIn K mainGlobals "EagerSettler" = some (some (.ref C_EagerSettler)))
    (a_Settler_init : PySem.W.findIn K (.ref C_Settler) "__init__" = some (some (.ref f_Settler_init)))
    (i_Settler_init : PySem.W.isFn K (.ref f_Settler_init) = true)
    (l_Settler_init : K.lookup f_Settler_init = some ⟨oc_Settler_init, od_Settler_init, .func (PySem.W.fnOf "__init__" "Settler.__init__" (defArgs s_Settler_init) (defBody s_Settler_init) (defScope s_Settler_init) .none kV_Settler_init dc_Settler_init pm_Settler_init an_Settler_init cd_Settler_init ct_Settler_init), sl_Settler_init⟩)
    (c_Settler_init : PySem.W.codeIn K cd_Settler_init "Settler.__init__" = true)
    (k_Settler_init : PySem.W.keepIn K (.ref f_Settler_init) = true)
    (a_Settler_is_down : PySem.W.findIn K (.ref C_Settler) "is_down" = some (some (.ref f_Settler_is_down)))
    (i_Settler_is_down : PySem.W.isFn K (.ref f_Settler_is_down) = true)
    (l_Settler_is_down : K.lookup f_Settler_is_down = some ⟨oc_Settler_is_down, od_Settler_is_down, .func (PySem.W.fnOf "is_down" "Settler.is_down" (defArgs s_Settler_is_down) (defBody s_Settler_is_down) (defScope s_Settler_is_down) .none kV_Settler_is_down dc_Settler_is_down pm_Settler_is_down an_Settler_is_down cd_Settler_is_down ct_Settler_is_down), sl_Settler_is_down⟩)
    (c_Settler_is_down : PySem.W.codeIn K cd_Settler_is_down "Settler.is_down" = true)
    (k_Settler_is_down : PySem.W.keepIn K (.ref f_Settler_is_down) = true)
    (a_Settler_hear : PySem.W.findIn K (.ref C_Settler) "hear" = some (some (.ref f_Settler_hear)))
    (i_Settler_hear : PySem.W.isFn K (.ref f_Settler_hear) = true)
    (l_Settler_hear : K.lookup f_Settler_hear = some ⟨oc_Settler_hear, od_Settler_hear, .func (PySem.W.fnOf "hear" "Settler.hear" (defArgs s_Settler_hear) (defBody s_Settler_hear) (defScope s_Settler_hear) .none kV_Settler_hear dc_Settler_hear pm_Settler_hear an_Settler_hear cd_Settler_hear ct_Settler_hear), sl_Settler_hear⟩)
    (c_Settler_hear : PySem.W.codeIn K cd_Settler_hear "Settler.hear" = true)
    (k_Settler_hear : PySem.W.keepIn K (.ref f_Settler_hear) = true)
    (a_EagerSettler_init : PySem.W.findIn K (.ref C_EagerSettler) "__init__" = some (some (.ref f_EagerSettler_init)))
    (i_EagerSettler_init : PySem.W.isFn K (.ref f_EagerSettler_init) = true)
    (l_EagerSettler_init : K.lookup f_EagerSettler_init = some ⟨oc_EagerSettler_init, od_EagerSettler_init, .func (PySem.W.fnOf "__init__" "EagerSettler.__init__" (defArgs s_EagerSettler_init) (defBody s_EagerSettler_init) (defScope s_EagerSettler_init) .none kV_EagerSettler_init dc_EagerSettler_init pm_EagerSettler_init an_EagerSettler_init cd_EagerSettler_init ct_EagerSettler_init), sl_EagerSettler_init⟩)
    (c_EagerSettler_init : PySem.W.codeIn K cd_EagerSettler_init "EagerSettler.__init__" = true)
    (k_EagerSettler_init : PySem.W.keepIn K (.ref f_EagerSettler_init) = true)
    (a_EagerSettler_is_down : PySem.W.findIn K (.ref C_EagerSettler) "is_down" = some (some (.ref f_EagerSettler_is_down)))
    (i_EagerSettler_is_down : PySem.W.isFn K (.ref f_EagerSettler_is_down) = true)
    (l_EagerSettler_is_down : K.lookup f_EagerSettler_is_down = some ⟨oc_EagerSettler_is_down, od_EagerSettler_is_down, .func (PySem.W.fnOf "is_down" "EagerSettler.is_down" (defArgs s_EagerSettler_is_down) (defBody s_EagerSettler_is_down) (defScope s_EagerSettler_is_down) .none kV_EagerSettler_is_down dc_EagerSettler_is_down pm_EagerSettler_is_down an_EagerSettler_is_down cd_EagerSettler_is_down ct_EagerSettler_is_down), sl_EagerSettler_is_down⟩)
    (c_EagerSettler_is_down : PySem.W.codeIn K cd_EagerSettler_is_down "EagerSettler.is_down" = true)
    (k_EagerSettler_is_down : PySem.W.keepIn K (.ref f_EagerSettler_is_down) = true)
    (a_EagerSettler_hear : PySem.W.findIn K (.ref C_EagerSettler) "hear" = some (some (.ref f_EagerSettler_hear)))
    (i_EagerSettler_hear : PySem.W.isFn K (.ref f_EagerSettler_hear) = true)
    (l_EagerSettler_hear : K.lookup f_EagerSettler_hear = some ⟨oc_EagerSettler_hear, od_EagerSettler_hear, .func (PySem.W.fnOf "hear" "EagerSettler.hear" (defArgs s_EagerSettler_hear) (defBody s_EagerSettler_hear) (defScope s_EagerSettler_hear) .none kV_EagerSettler_hear dc_EagerSettler_hear pm_EagerSettler_hear an_EagerSettler_hear cd_EagerSettler_hear ct_EagerSettler_hear), sl_EagerSettler_hear⟩)
    (c_EagerSettler_hear : PySem.W.codeIn K cd_EagerSettler_hear "EagerSettler.hear" = true)
    (k_EagerSettler_hear : PySem.W.keepIn K (.ref f_EagerSettler_hear) = true)
    (a_settled_ticks : PySem.W.nsIn K mainGlobals "settled_ticks" = some (some (.ref f_settled_ticks)))
    (l_settled_ticks : K.lookup f_settled_ticks = some ⟨oc_settled_ticks, od_settled_ticks, .func (PySem.W.fnOf "settled_ticks" "settled_ticks" (defArgs s_settled_ticks) (defBody s_settled_ticks) (defScope s_settled_ticks) .none kV_settled_ticks dc_settled_ticks pm_settled_ticks an_settled_ticks cd_settled_ticks ct_settled_ticks), sl_settled_ticks⟩)
    (c_settled_ticks : PySem.W.codeIn K cd_settled_ticks "settled_ticks" = true)
    (k_settled_ticks : PySem.W.keepIn K (.ref f_settled_ticks) = true)
    (a_law_box : PySem.W.nsIn K mainGlobals "_law_box" = some (some (.ref f_law_box)))
    (l_law_box : K.lookup f_law_box = some ⟨oc_law_box, od_law_box, .func (PySem.W.fnOf "_law_box" "_law_box" (defArgs s_law_box) (defBody s_law_box) (defScope s_law_box) .none kV_law_box dc_law_box pm_law_box an_law_box cd_law_box ct_law_box), sl_law_box⟩)
    (c_law_box : PySem.W.codeIn K cd_law_box "_law_box" = true)
    (k_law_box : PySem.W.keepIn K (.ref f_law_box) = true)
    (a_law_load : PySem.W.nsIn K mainGlobals "_law_load" = some (some (.ref f_law_load)))
    (l_law_load : K.lookup f_law_load = some ⟨oc_law_load, od_law_load, .func (PySem.W.fnOf "_law_load" "_law_load" (defArgs s_law_load) (defBody s_law_load) (defScope s_law_load) .none kV_law_load dc_law_load pm_law_load an_law_load cd_law_load ct_law_load), sl_law_load⟩)
    (c_law_load : PySem.W.codeIn K cd_law_load "_law_load" = true)
    (k_law_load : PySem.W.keepIn K (.ref f_law_load) = true)
    (a_law_draw : PySem.W.nsIn K mainGlobals "_law_draw" = some (some (.ref f_law_draw)))
    (l_law_draw : K.lookup f_law_draw = some ⟨oc_law_draw, od_law_draw, .func (PySem.W.fnOf "_law_draw" "_law_draw" (defArgs s_law_draw) (defBody s_law_draw) (defScope s_law_draw) .none kV_law_draw dc_law_draw pm_law_draw an_law_draw cd_law_draw ct_law_draw), sl_law_draw⟩)
    (c_law_draw : PySem.W.codeIn K cd_law_draw "_law_draw" = true)
    (k_law_draw : PySem.W.keepIn K (.ref f_law_draw) = true)
    (a_law_same : PySem.W.nsIn K mainGlobals "_law_same" = some (some (.ref f_law_same)))
    (l_law_same : K.lookup f_law_same = some ⟨oc_law_same, od_law_same, .func (PySem.W.fnOf "_law_same" "_law_same" (defArgs s_law_same) (defBody s_law_same) (defScope s_law_same) .none kV_law_same dc_law_same pm_law_same an_law_same cd_law_same ct_law_same), sl_law_same⟩)
    (c_law_same : PySem.W.codeIn K cd_law_same "_law_same" = true)
    (k_law_same : PySem.W.keepIn K (.ref f_law_same) = true)
    (a_law_is_up : PySem.W.nsIn K mainGlobals "_law_is_up" = some (some (.ref f_law_is_up)))
    (l_law_is_up : K.lookup f_law_is_up = some ⟨oc_law_is_up, od_law_is_up, .func (PySem.W.fnOf "_law_is_up" "_law_is_up" (defArgs s_law_is_up) (defBody s_law_is_up) (defScope s_law_is_up) .none kV_law_is_up dc_law_is_up pm_law_is_up an_law_is_up cd_law_is_up ct_law_is_up), sl_law_is_up⟩)
    (c_law_is_up : PySem.W.codeIn K cd_law_is_up "_law_is_up" = true)
    (k_law_is_up : PySem.W.keepIn K (.ref f_law_is_up) = true)
    (a_law_settled : PySem.W.nsIn K mainGlobals "_law_settled" = some (some (.ref f_law_settled)))
    (l_law_settled : K.lookup f_law_settled = some ⟨oc_law_settled, od_law_settled, .func (PySem.W.fnOf "_law_settled" "_law_settled" (defArgs s_law_settled) (defBody s_law_settled) (defScope s_law_settled) .none kV_law_settled dc_law_settled pm_law_settled an_law_settled cd_law_settled ct_law_settled), sl_law_settled⟩)
    (c_law_settled : PySem.W.codeIn K cd_law_settled "_law_settled" = true)
    (k_law_settled : PySem.W.keepIn K (.ref f_law_settled) = true)
    (a_law_rows : PySem.W.nsIn K mainGlobals "_law_rows" = some (some (.ref f_law_rows)))
    (l_law_rows : K.lookup f_law_rows = some ⟨oc_law_rows, od_law_rows, .func (PySem.W.fnOf "_law_rows" "_law_rows" (defArgs s_law_rows) (defBody s_law_rows) (defScope s_law_rows) .none kV_law_rows dc_law_rows pm_law_rows an_law_rows cd_law_rows ct_law_rows), sl_law_rows⟩)
    (c_law_rows : PySem.W.codeIn K cd_law_rows "_law_rows" = true)
    (k_law_rows : PySem.W.keepIn K (.ref f_law_rows) = true)
    (a_law_eager : PySem.W.nsIn K mainGlobals "_law_eager" = some (some (.ref f_law_eager)))
    (l_law_eager : K.lookup f_law_eager = some ⟨oc_law_eager, od_law_eager, .func (PySem.W.fnOf "_law_eager" "_law_eager" (defArgs s_law_eager) (defBody s_law_eager) (defScope s_law_eager) .none kV_law_eager dc_law_eager pm_law_eager an_law_eager cd_law_eager ct_law_eager), sl_law_eager⟩)
    (c_law_eager : PySem.W.codeIn K cd_law_eager "_law_eager" = true)
    (k_law_eager : PySem.W.keepIn K (.ref f_law_eager) = true)
    (a_law : PySem.W.nsIn K mainGlobals "law" = some (some (.ref f_law)))
    (l_law : K.lookup f_law = some ⟨oc_law, od_law, .func (PySem.W.fnOf "law" "law" (defArgs s_law) (defBody s_law) (defScope s_law) .none kV_law dc_law pm_law an_law cd_law ct_law), sl_law⟩)
    (c_law : PySem.W.codeIn K cd_law "law" = true)
    (k_law : PySem.W.keepIn K (.ref f_law) = true)
    (pg_Settler : PySem.W.plainGet K C_Settler Str.empty = true)
    (hd_Settler : PySem.W.hasDictIn K C_Settler = true)
    (po_Settler : PySem.W.plainOver K C_Settler = true)
    (sa_Settler : PySem.W.findIn K (.ref C_Settler) "__setattr__" = some (some (.builtin "object.__setattr__")))
    (mk_Settler : PySem.W.makesIn K C_Settler = true)
    (kc_Settler : PySem.W.keepIn K (.ref C_Settler) = true)
    (pg_EagerSettler : PySem.W.plainGet K C_EagerSettler Str.empty = true)
    (hd_EagerSettler : PySem.W.hasDictIn K C_EagerSettler = true)
    (po_EagerSettler : PySem.W.plainOver K C_EagerSettler = true)
    (sa_EagerSettler : PySem.W.findIn K (.ref C_EagerSettler) "__setattr__" = some (some (.builtin "object.__setattr__")))
    (mk_EagerSettler : PySem.W.makesIn K C_EagerSettler = true)
    (kc_EagerSettler : PySem.W.keepIn K (.ref C_EagerSettler) = true)
    (nf_Settler_settle : PySem.W.findIn K (.ref C_Settler) "_settle" = some none)
    (nf_Settler_is_down : PySem.W.findIn K (.ref C_Settler) "_is_down" = some none)
    (nf_Settler_first : PySem.W.findIn K (.ref C_Settler) "_first" = some none)
    (nf_EagerSettler_rest : PySem.W.findIn K (.ref C_EagerSettler) "_rest" = some none)
    (nf_EagerSettler_is_down : PySem.W.findIn K (.ref C_EagerSettler) "_is_down" = some none)
    (nf_EagerSettler_last : PySem.W.findIn K (.ref C_EagerSettler) "_last" = some none)
    (z_tuple : PySem.W.nsIn K mainGlobals "tuple" = some none)
    (z_list : PySem.W.nsIn K mainGlobals "list" = some none)
    (z_len : PySem.W.nsIn K mainGlobals "len" = some none)
    (z_int : PySem.W.nsIn K mainGlobals "int" = some none)
    (z_isinstance : PySem.W.nsIn K mainGlobals "isinstance" = some none)
    (z_range : PySem.W.nsIn K mainGlobals "range" = some none)
    (z_all : PySem.W.nsIn K mainGlobals "all" = some none)
    (z_bool : PySem.W.nsIn K mainGlobals "bool" = some none)
    (z_str : PySem.W.nsIn K mainGlobals "str" = some none)
    (z_max : PySem.W.nsIn K mainGlobals "max" = some none)
    (law : ∀ ns : List Int, ns.length ≤ 63 → ∃ s', r_law [.sc (ns.map PyData.int)] [] = some (.im (.bool true), s')) :
    ∃ fd : FuncData, (∀ (s : Shared) (v : Value), BindsTo s fd ⟨[v], []⟩ [("script", v)]) ∧ ∀ base : Heap, K.In base → base.Ns mainGlobals mg → FnOk l.prog w K mg base L2.CX0 7 fa fd ["script"] (spLaw K) := by
  have e := hfa.symm.trans (PySem.W.mg_of X G a_law)
  cases e
  have T : Txt K mg := ⟨PySem.W.mg_none_of X G z_tuple, PySem.W.mg_none_of X G z_list, PySem.W.mg_none_of X G z_len, PySem.W.mg_none_of X G z_int, PySem.W.mg_none_of X G z_isinstance, PySem.W.mg_none_of X G z_range, PySem.W.mg_none_of X G z_all, PySem.W.mg_none_of X G z_bool, PySem.W.mg_none_of X G z_str, PySem.W.mg_none_of X G z_max, ⟨⟨C_Settler, PySem.W.mg_of X G aC_Settler, ⟨pg_Settler, hd_Settler, po_Settler, sa_Settler⟩, nf_Settler_settle⟩⟩, ⟨⟨C_Settler, PySem.W.mg_of X G aC_Settler, ⟨pg_Settler, hd_Settler, po_Settler, sa_Settler⟩, nf_Settler_is_down⟩⟩, ⟨⟨C_Settler, PySem.W.mg_of X G aC_Settler, ⟨pg_Settler, hd_Settler, po_Settler, sa_Settler⟩, nf_Settler_first⟩⟩, ⟨⟨C_EagerSettler, PySem.W.mg_of X G aC_EagerSettler, ⟨pg_EagerSettler, hd_EagerSettler, po_EagerSettler, sa_EagerSettler⟩, nf_EagerSettler_rest⟩⟩, ⟨⟨C_EagerSettler, PySem.W.mg_of X G aC_EagerSettler, ⟨pg_EagerSettler, hd_EagerSettler, po_EagerSettler, sa_EagerSettler⟩, nf_EagerSettler_is_down⟩⟩, ⟨⟨C_EagerSettler, PySem.W.mg_of X G aC_EagerSettler, ⟨pg_EagerSettler, hd_EagerSettler, po_EagerSettler, sa_EagerSettler⟩, nf_EagerSettler_last⟩⟩⟩
  refine ⟨PySem.W.fnOf "law" "law" (defArgs s_law) (defBody s_law) (defScope s_law) .none kV_law dc_law pm_law an_law cd_law ct_law, fun s v => .of_eq rfl, fun base _ _ => ?_⟩
  have F_Settler_init := fun_mk (st := s_Settler_init) l_Settler_init c_Settler_init k_Settler_init
  have B_Settler_init := F_Settler_init.binds (ps := P_Settler_init) fun _ _ _ _ _ _ us hl => match us, hl with | [_, _], _ => rfl
  have h_Settler_init : Mq l.prog w K mg base 1 "Settler" (spG K mg 2 r_Settler_init) := ⟨C_Settler, f_Settler_init, _, P_Settler_init, PySem.W.mg_of X G aC_Settler, ⟨mk_Settler, a_Settler_init, i_Settler_init, kc_Settler⟩, ok_Settler_init T F_Settler_init , B_Settler_init⟩
  have F_Settler_is_down := fun_mk (st := s_Settler_is_down) l_Settler_is_down c_Settler_is_down k_Settler_is_down
  have B_Settler_is_down := F_Settler_is_down.binds (ps := P_Settler_is_down) fun _ _ _ _ _ _ us hl => match us, hl with | [_], _ => rfl
  have h_Settler_is_down : Mt l.prog w K mg base 1 "Settler" "is_down" (spG K mg 1 r_Settler_is_down) := ⟨C_Settler, f_Settler_is_down, _, P_Settler_is_down, PySem.W.mg_of X G aC_Settler, ⟨pg_Settler, hd_Settler, po_Settler, sa_Settler⟩, ⟨a_Settler_is_down, i_Settler_is_down, k_Settler_is_down⟩, ok_Settler_is_down T F_Settler_is_down , B_Settler_is_down⟩
  have F_Settler_hear := fun_mk (st := s_Settler_hear) l_Settler_hear c_Settler_hear k_Settler_hear
  have B_Settler_hear := F_Settler_hear.binds (ps := P_Settler_hear) fun _ _ _ _ _ _ us hl => match us, hl with | [_, _, _], _ => rfl
  have h_Settler_hear : Mt l.prog w K mg base 1 "Settler" "hear" (spG K mg 3 r_Settler_hear) := ⟨C_Settler, f_Settler_hear, _, P_Settler_hear, PySem.W.mg_of X G aC_Settler, ⟨pg_Settler, hd_Settler, po_Settler, sa_Settler⟩, ⟨a_Settler_hear, i_Settler_hear, k_Settler_hear⟩, ok_Settler_hear T F_Settler_hear , B_Settler_hear⟩
  have F_EagerSettler_init := fun_mk (st := s_EagerSettler_init) l_EagerSettler_init c_EagerSettler_init k_EagerSettler_init
  have B_EagerSettler_init := F_EagerSettler_init.binds (ps := P_EagerSettler_init) fun _ _ _ _ _ _ us hl => match us, hl with | [_, _], _ => rfl
  have h_EagerSettler_init : Mq l.prog w K mg base 1 "EagerSettler" (spG K mg 2 r_EagerSettler_init) := ⟨C_EagerSettler, f_EagerSettler_init, _, P_EagerSettler_init, PySem.W.mg_of X G aC_EagerSettler, ⟨mk_EagerSettler, a_EagerSettler_init, i_EagerSettler_init, kc_EagerSettler⟩, ok_EagerSettler_init T F_EagerSettler_init , B_EagerSettler_init⟩
  have F_EagerSettler_is_down := fun_mk (st := s_EagerSettler_is_down) l_EagerSettler_is_down c_EagerSettler_is_down k_EagerSettler_is_down
  have B_EagerSettler_is_down := F_EagerSettler_is_down.binds (ps := P_EagerSettler_is_down) fun _ _ _ _ _ _ us hl => match us, hl with | [_], _ => rfl
  have h_EagerSettler_is_down : Mt l.prog w K mg base 1 "EagerSettler" "is_down" (spG K mg 1 r_EagerSettler_is_down) := ⟨C_EagerSettler, f_EagerSettler_is_down, _, P_EagerSettler_is_down, PySem.W.mg_of X G aC_EagerSettler, ⟨pg_EagerSettler, hd_EagerSettler, po_EagerSettler, sa_EagerSettler⟩, ⟨a_EagerSettler_is_down, i_EagerSettler_is_down, k_EagerSettler_is_down⟩, ok_EagerSettler_is_down T F_EagerSettler_is_down , B_EagerSettler_is_down⟩
  have F_EagerSettler_hear := fun_mk (st := s_EagerSettler_hear) l_EagerSettler_hear c_EagerSettler_hear k_EagerSettler_hear
  have B_EagerSettler_hear := F_EagerSettler_hear.binds (ps := P_EagerSettler_hear) fun _ _ _ _ _ _ us hl => match us, hl with | [_, _, _], _ => rfl
  have h_EagerSettler_hear : Mt l.prog w K mg base 1 "EagerSettler" "hear" (spG K mg 3 r_EagerSettler_hear) := ⟨C_EagerSettler, f_EagerSettler_hear, _, P_EagerSettler_hear, PySem.W.mg_of X G aC_EagerSettler, ⟨pg_EagerSettler, hd_EagerSettler, po_EagerSettler, sa_EagerSettler⟩, ⟨a_EagerSettler_hear, i_EagerSettler_hear, k_EagerSettler_hear⟩, ok_EagerSettler_hear T F_EagerSettler_hear , B_EagerSettler_hear⟩
  have F_settled_ticks := fun_mk (st := s_settled_ticks) l_settled_ticks c_settled_ticks k_settled_ticks
  have B_settled_ticks := F_settled_ticks.binds (ps := P_settled_ticks) fun _ _ _ _ _ _ us hl => match us, hl with | [_, _], _ => rfl
  have h_settled_ticks : Cl l.prog w K mg base 3 "settled_ticks" (spP K 2 r_settled_ticks) := ⟨f_settled_ticks, _, P_settled_ticks, ok_settled_ticks T F_settled_ticks h_Settler_init h_Settler_hear, PySem.W.mg_of X G a_settled_ticks, k_settled_ticks, B_settled_ticks⟩
  have F_law_box := fun_mk (st := s_law_box) l_law_box c_law_box k_law_box
  have B_law_box := F_law_box.binds (ps := P_law_box) fun _ _ _ _ _ _ us hl => match us, hl with | [_], _ => rfl
  have h_law_box : Cl l.prog w K mg base 1 "_law_box" (spG K mg 1 r_law_box) := ⟨f_law_box, _, P_law_box, ok_law_box T F_law_box , PySem.W.mg_of X G a_law_box, k_law_box, B_law_box⟩
  have F_law_load := fun_mk (st := s_law_load) l_law_load c_law_load k_law_load
  have B_law_load := F_law_load.binds (ps := P_law_load) fun _ _ _ _ _ _ us hl => match us, hl with | [_], _ => rfl
  have h_law_load : Cl l.prog w K mg base 1 "_law_load" (spG K mg 1 r_law_load) := ⟨f_law_load, _, P_law_load, ok_law_load T F_law_load , PySem.W.mg_of X G a_law_load, k_law_load, B_law_load⟩
  have F_law_draw := fun_mk (st := s_law_draw) l_law_draw c_law_draw k_law_draw
  have B_law_draw := F_law_draw.binds (ps := P_law_draw) fun _ _ _ _ _ _ us hl => match us, hl with | [_, _], _ => rfl
  have h_law_draw : Cl l.prog w K mg base 2 "_law_draw" (spG K mg 2 r_law_draw) := ⟨f_law_draw, _, P_law_draw, ok_law_draw T F_law_draw h_law_load, PySem.W.mg_of X G a_law_draw, k_law_draw, B_law_draw⟩
  have F_law_same := fun_mk (st := s_law_same) l_law_same c_law_same k_law_same
  have B_law_same := F_law_same.binds (ps := P_law_same) fun _ _ _ _ _ _ us hl => match us, hl with | [_, _], _ => rfl
  have h_law_same : Cl l.prog w K mg base 6 "_law_same" (spP K 2 (r_law_same 6)) := ok_law_same T F_law_same B_law_same (PySem.W.mg_of X G a_law_same)  6
  have F_law_is_up := fun_mk (st := s_law_is_up) l_law_is_up c_law_is_up k_law_is_up
  have B_law_is_up := F_law_is_up.binds (ps := P_law_is_up) fun _ _ _ _ _ _ us hl => match us, hl with | [_, _], _ => rfl
  have h_law_is_up : Cl l.prog w K mg base 1 "_law_is_up" (spP K 2 r_law_is_up) := ⟨f_law_is_up, _, P_law_is_up, ok_law_is_up T F_law_is_up , PySem.W.mg_of X G a_law_is_up, k_law_is_up, B_law_is_up⟩
  have F_law_settled := fun_mk (st := s_law_settled) l_law_settled c_law_settled k_law_settled
  have B_law_settled := F_law_settled.binds (ps := P_law_settled) fun _ _ _ _ _ _ us hl => match us, hl with | [_, _], _ => rfl
  have h_law_settled : Cl l.prog w K mg base 1 "_law_settled" (spP K 2 r_law_settled) := ⟨f_law_settled, _, P_law_settled, ok_law_settled T F_law_settled , PySem.W.mg_of X G a_law_settled, k_law_settled, B_law_settled⟩
  have F_law_rows := fun_mk (st := s_law_rows) l_law_rows c_law_rows k_law_rows
  have B_law_rows := F_law_rows.binds (ps := P_law_rows) fun _ _ _ _ _ _ us hl => match us, hl with | [_, _], _ => rfl
  have h_law_rows : Cl l.prog w K mg base 3 "_law_rows" (spG K mg 2 r_law_rows) := ⟨f_law_rows, _, P_law_rows, ok_law_rows T F_law_rows h_law_draw, PySem.W.mg_of X G a_law_rows, k_law_rows, B_law_rows⟩
  have F_law_eager := fun_mk (st := s_law_eager) l_law_eager c_law_eager k_law_eager
  have B_law_eager := F_law_eager.binds (ps := P_law_eager) fun _ _ _ _ _ _ us hl => match us, hl with | [_, _], _ => rfl
  have h_law_eager : Cl l.prog w K mg base 1 "_law_eager" (spP K 2 r_law_eager) := ⟨f_law_eager, _, P_law_eager, ok_law_eager T F_law_eager , PySem.W.mg_of X G a_law_eager, k_law_eager, B_law_eager⟩
  have F_law := fun_mk (st := s_law) l_law c_law k_law
  exact fn_law (ok_law T F_law h_law_box h_law_draw h_law_rows h_law_settled h_law_eager h_law_same h_settled_ticks h_Settler_init h_EagerSettler_init h_EagerSettler_hear h_Settler_hear h_EagerSettler_is_down h_Settler_is_down h_law_is_up) rfl law
end
theorem walk {l : PySem.W.OpenLaw} {q : Program} {loose : List Str} {XP : (Str → Option Value) → Heap → Prop} {YP : World → Heap → Prop} {d : DefRec} {K : Params → PySem.W.Frag} (hn : l.most = some 63) (hdf : d.params.defaults = []) (hY : ∀ (w : World) (h : Heap), YP w h → (K w.params).In h)
    (F : ∀ (w : World) (mg : Str → Option Value) (fa : Addr) (h : Heap), (K w.params).In h → h.Ns mainGlobals mg → mg d.name = some (.ref fa) → ∃ fd : FuncData, (∀ (s : Shared) (u : Value), BindsTo s fd ⟨[u], []⟩ [("script", u)]) ∧ ∀ base : Heap, (K w.params).In base → base.Ns mainGlobals mg → FnOk l.prog w (K w.params) mg base L2.CX0 7 fa fd ["script"] (spLaw (K w.params))) :
    PySem.W.WalkO q loose XP YP l.row.toRowW d [] (fun f vs => PySem.call f vs) :=
  L2.walk_of (n := 63) (k := 7) (x := "script") (CX := fun _ => L2.CX0) (sp := fun w => spLaw (K w.params)) hn (by decide) hdf ⟨rfl, by decide, by decide⟩ hY F (fun _ _ a ns hl _ hS => ⟨a, ns, rfl, hS, hl, fun _ => rfl⟩) fun _ _ _ _ _ z => z
end K17
open PySem PySem.W PyProof.Rows in
set_option maxRecDepth 100000 in
set_option maxHeartbeats 0 in
theorem PySem.Challenge.cw_keystotext_k17_whole_settlers_holds : PySem.Challenge.rw_keystotext_k17_whole_settlers.Holds := by
  w_on; o_law; k_head; (case hw => w_witness2)
  k_fill
  refine K17.walk (l := PySem.Challenge.rw_keystotext_k17_whole_settlers) rfl rfl (fun w h Y => PySem.W.kIn_of Y) ?F
  case F =>
    intro w mg fa h KX G hmg
    refine' K17.all_mk KX G hmg ?aC_Settler ?aC_EagerSettler ?a_Settler_init ?i_Settler_init ?l_Settler_init ?c_Settler_init ?k_Settler_init ?a_Settler_is_down ?i_Settler_is_down ?l_Settler_is_down ?c_Settler_is_down ?k_Settler_is_down ?a_Settler_hear ?i_Settler_hear ?l_Settler_hear ?c_Settler_hear ?k_Settler_hear ?a_EagerSettler_init ?i_EagerSettler_init ?l_EagerSettler_init ?c_EagerSettler_init ?k_EagerSettler_init ?a_EagerSettler_is_down ?i_EagerSettler_is_down ?l_EagerSettler_is_down ?c_EagerSettler_is_down ?k_EagerSettler_is_down ?a_EagerSettler_hear ?i_EagerSettler_hear ?l_EagerSettler_hear ?c_EagerSettler_hear ?k_EagerSettler_hear ?a_settled_ticks ?l_settled_ticks ?c_settled_ticks ?k_settled_ticks ?a_law_box ?l_law_box ?c_law_box ?k_law_box ?a_law_load ?l_law_load ?c_law_load ?k_law_load ?a_law_draw ?l_law_draw ?c_law_draw ?k_law_draw ?a_law_same ?l_law_same ?c_law_same ?k_law_same ?a_law_is_up ?l_law_is_up ?c_law_is_up ?k_law_is_up ?a_law_settled ?l_law_settled ?c_law_settled ?k_law_settled ?a_law_rows ?l_law_rows ?c_law_rows ?k_law_rows ?a_law_eager ?l_law_eager ?c_law_eager ?k_law_eager ?a_law ?l_law ?c_law ?k_law ?pg_Settler ?hd_Settler ?po_Settler ?sa_Settler ?mk_Settler ?kc_Settler ?pg_EagerSettler ?hd_EagerSettler ?po_EagerSettler ?sa_EagerSettler ?mk_EagerSettler ?kc_EagerSettler ?nf_Settler_settle ?nf_Settler_is_down ?nf_Settler_first ?nf_EagerSettler_rest ?nf_EagerSettler_is_down ?nf_EagerSettler_last ?z_tuple ?z_list ?z_len ?z_int ?z_isinstance ?z_range ?z_all ?z_bool ?z_str ?z_max K17.law_true
    (case aC_Settler => k_is)
    (case aC_EagerSettler => k_is)
    (case a_Settler_init => k_is)
    (case i_Settler_init => k_is)
    (case l_Settler_init => k_is)
    (case c_Settler_init => k_is)
    (case k_Settler_init => k_is)
    (case a_Settler_is_down => k_is)
    (case i_Settler_is_down => k_is)
    (case l_Settler_is_down => k_is)
    (case c_Settler_is_down => k_is)
    (case k_Settler_is_down => k_is)
    (case a_Settler_hear => k_is)
    (case i_Settler_hear => k_is)
    (case l_Settler_hear => k_is)
    (case c_Settler_hear => k_is)
    (case k_Settler_hear => k_is)
    (case a_EagerSettler_init => k_is)
    (case i_EagerSettler_init => k_is)
    (case l_EagerSettler_init => k_is)
    (case c_EagerSettler_init => k_is)
    (case k_EagerSettler_init => k_is)
    (case a_EagerSettler_is_down => k_is)
    (case i_EagerSettler_is_down => k_is)
    (case l_EagerSettler_is_down => k_is)
    (case c_EagerSettler_is_down => k_is)
    (case k_EagerSettler_is_down => k_is)
    (case a_EagerSettler_hear => k_is)
    (case i_EagerSettler_hear => k_is)
    (case l_EagerSettler_hear => k_is)
    (case c_EagerSettler_hear => k_is)
    (case k_EagerSettler_hear => k_is)
    (case a_settled_ticks => k_is)
    (case l_settled_ticks => k_is)
    (case c_settled_ticks => k_is)
    (case k_settled_ticks => k_is)
    (case a_law_box => k_is)
    (case l_law_box => k_is)
    (case c_law_box => k_is)
    (case k_law_box => k_is)
    (case a_law_load => k_is)
    (case l_law_load => k_is)
    (case c_law_load => k_is)
    (case k_law_load => k_is)
    (case a_law_draw => k_is)
    (case l_law_draw => k_is)
    (case c_law_draw => k_is)
    (case k_law_draw => k_is)
    (case a_law_same => k_is)
    (case l_law_same => k_is)
    (case c_law_same => k_is)
    (case k_law_same => k_is)
    (case a_law_is_up => k_is)
    (case l_law_is_up => k_is)
    (case c_law_is_up => k_is)
    (case k_law_is_up => k_is)
    (case a_law_settled => k_is)
    (case l_law_settled => k_is)
    (case c_law_settled => k_is)
    (case k_law_settled => k_is)
    (case a_law_rows => k_is)
    (case l_law_rows => k_is)
    (case c_law_rows => k_is)
    (case k_law_rows => k_is)
    (case a_law_eager => k_is)
    (case l_law_eager => k_is)
    (case c_law_eager => k_is)
    (case k_law_eager => k_is)
    (case a_law => k_is)
    (case l_law => k_is)
    (case c_law => k_is)
    (case k_law => k_is)
    (case pg_Settler => k_is)
    (case hd_Settler => k_is)
    (case po_Settler => k_is)
    (case sa_Settler => k_is)
    (case mk_Settler => k_is)
    (case kc_Settler => k_is)
    (case pg_EagerSettler => k_is)
    (case hd_EagerSettler => k_is)
    (case po_EagerSettler => k_is)
    (case sa_EagerSettler => k_is)
    (case mk_EagerSettler => k_is)
    (case kc_EagerSettler => k_is)
    (case nf_Settler_settle => k_is)
    (case nf_Settler_is_down => k_is)
    (case nf_Settler_first => k_is)
    (case nf_EagerSettler_rest => k_is)
    (case nf_EagerSettler_is_down => k_is)
    (case nf_EagerSettler_last => k_is)
    (case z_tuple => k_is)
    (case z_list => k_is)
    (case z_len => k_is)
    (case z_int => k_is)
    (case z_isinstance => k_is)
    (case z_range => k_is)
    (case z_all => k_is)
    (case z_bool => k_is)
    (case z_str => k_is)
    (case z_max => k_is)
#print axioms PySem.Challenge.cw_keystotext_k17_whole_settlers_holds
