import PyProof.Rows.All
import Wide.All
import OpenK.AllK
import Wide.FinOn
import HandS.ForMost
import HandS.IsInst
import HandS.Style
import HandS.Walk
import HandS.Deep
import HandS.TupAny
import HandS.TupMul
import HandS.SortInts
import HandS.Codes
import HandS.Flow
import KE.KAssignIn
import PySem.Challenge.RW_keystotext_k39_whole_givers_and_askers
set_option Elab.async false
set_option linter.all false
/-! ZA: data and store level. A value is immutable data (PyData) or a number of a mutable
object of a store; what an expression, a statement, a def does is a plain function of slots and
store; what these functions say is sound for the machine, by the hand layer's rules. -/
namespace Zz
open PySem L2
abbrev D := PyData
inductive L where
  | im (d : D)
  | rf (n : Nat)
  | ow (l : List D)
  | sc (l : List D)
inductive MO where
  | dl (l : List D)
  | rl (l : List L)
  | ins (c : Str) (fs : List (Str × L))
  | gone
abbrev S := List MO
inductive Slot where
  | un
  | im (d : D)
  | rf (n : Nat)
  | ol (l : List D)
  | sc (l : List D)
abbrev Ro := List Slot
/-! two lists, item by item -/
inductive A2 {α β : Type} (R : α → β → Prop) : List α → List β → Prop where
  | nil : A2 R [] []
  | cons {a : α} {b : β} {as : List α} {bs : List β} : R a b → A2 R as bs → A2 R (a :: as) (b :: bs)
section
variable {α β : Type} {R R' : α → β → Prop}
theorem A2.length : ∀ {as : List α} {bs : List β}, A2 R as bs → as.length = bs.length
  | _, _, .nil => rfl
  | _, _, .cons _ t => congrArg (· + 1) (A2.length t)
theorem A2.mono (h : ∀ a b, R a b → R' a b) : ∀ {as : List α} {bs : List β}, A2 R as bs → A2 R' as bs
  | _, _, .nil => .nil
  | _, _, .cons r t => .cons (h _ _ r) (A2.mono h t)
theorem A2.append : ∀ {as cs : List α} {bs ds : List β}, A2 R as bs → A2 R cs ds → A2 R (as ++ cs) (bs ++ ds)
  | _, _, _, _, .nil, t => t
  | _, _, _, _, .cons r u, t => .cons r (A2.append u t)
theorem A2.get : ∀ {as : List α} {bs : List β} {i : Nat} {b : β}, A2 R as bs → bs[i]? = some b → ∃ a, as[i]? = some a ∧ R a b
  | _, _, i, b, .nil, h => by simp at h
  | _, _, 0, b, .cons r _, h => by
    simp at h; subst h; exact ⟨_, by simp, r⟩
  | _, _, i + 1, b, .cons _ t, h => by
    simp at h
    obtain ⟨a, h1, h2⟩ := A2.get t h
    exact ⟨a, by simpa using h1, h2⟩
theorem A2.getL : ∀ {as : List α} {bs : List β} {i : Nat} {a : α}, A2 R as bs → as[i]? = some a → ∃ b, bs[i]? = some b ∧ R a b
  | _, _, i, b, .nil, h => by simp at h
  | _, _, 0, b, .cons r _, h => by
    simp at h; subst h; exact ⟨_, by simp, r⟩
  | _, _, i + 1, b, .cons _ t, h => by
    simp at h
    obtain ⟨a, h1, h2⟩ := A2.getL t h
    exact ⟨a, by simpa using h1, h2⟩
theorem A2.set {a : α} {b : β} (r : R a b) : ∀ {as : List α} {bs : List β} (i : Nat), A2 R as bs → A2 R (as.set i a) (bs.set i b)
  | _, _, _, .nil => .nil
  | _, _, 0, .cons _ t => .cons r t
  | _, _, i + 1, .cons q t => .cons q (A2.set r i t)
theorem A2.take : ∀ {as : List α} {bs : List β} (i : Nat), A2 R as bs → A2 R (as.take i) (bs.take i)
  | _, _, i, .nil => by simpa using A2.nil
  | _, _, 0, .cons _ _ => by simpa using A2.nil
  | _, _, i + 1, .cons q t => by simpa using A2.cons q (A2.take i t)
theorem A2.drop : ∀ {as : List α} {bs : List β} (i : Nat), A2 R as bs → A2 R (as.drop i) (bs.drop i)
  | _, _, i, .nil => by simpa using A2.nil
  | _, _, 0, .cons q t => by simpa using A2.cons q t
  | _, _, i + 1, .cons _ t => by simpa using A2.drop i t
theorem A2.eraseIdx : ∀ {as : List α} {bs : List β} (i : Nat), A2 R as bs → A2 R (as.eraseIdx i) (bs.eraseIdx i)
  | _, _, _, .nil => .nil
  | _, _, 0, .cons _ t => by simpa using t
  | _, _, i + 1, .cons q t => by simpa using A2.cons q (A2.eraseIdx i t)
theorem A2.reverse {as : List α} {bs : List β} (h : A2 R as bs) : A2 R as.reverse bs.reverse := by
  induction h with
  | nil => exact .nil
  | cons r _ ih => simpa using ih.append (.cons r .nil)
theorem A2.rep {as : List α} {bs : List β} (h : A2 R as bs) : ∀ k : Nat, A2 R (List.replicate k as).flatten (List.replicate k bs).flatten
  | 0 => .nil
  | k + 1 => by simpa [List.replicate_succ] using h.append (A2.rep h k)
theorem A2.last {as : List α} {bs : List β} (h : A2 R as bs) : A2 R as.dropLast bs.dropLast := by
  rw [List.dropLast_eq_take, List.dropLast_eq_take, h.length]
  exact h.take _
end
/-! data as it lies in a heap: lists are tracked as lists -/
mutual
inductive Dq (K : PySem.W.Frag) (B : Hp) : V → D → Prop where
  | non : Dq K B .non .none
  | bl (b : Bool) : Dq K B (.bl b) (.bool b)
  | int (i : Int) : Dq K B (.int i) (.int i)
  | str (x : Str) : Dq K B (.str x) (.str x)
  | lst {a : Addr} {vs : List V} {ds : List D} : B a = some (.lst vs) → DqA K B vs ds → Dq K B (.ref a) (.list ds)
  | tup {a : Addr} {vs : List V} {ds : List D} : SqT K B a vs → DqA K B vs ds → Dq K B (.ref a) (.tuple ds)
inductive DqA (K : PySem.W.Frag) (B : Hp) : List V → List D → Prop where
  | nil : DqA K B [] []
  | cons {v : V} {vs : List V} {d : D} {ds : List D} : Dq K B v d → DqA K B vs ds → DqA K B (v :: vs) (d :: ds)
end
theorem dpAll_iff {K : PySem.W.Frag} {H : Hp} {vs : List V} {ds : List D} : DqA K H vs ds ↔ A2 (Dq K H) vs ds := by
  constructor
  · intro h
    induction ds generalizing vs with
    | nil => cases h; exact .nil
    | cons d ds ih => cases h with | cons a b => exact .cons a (ih b)
  · intro h
    induction ds generalizing vs with
    | nil => cases h; exact .nil
    | cons d ds ih => cases h with | cons a b => exact .cons a (ih b)
theorem sqL_mono {K : PySem.W.Frag} {B H : Hp} {a : Addr} {xs : List V} (e : ∀ a o, B a = some o → H a = some o) (h : SqL K B a xs) : SqL K H a xs := by
  rcases h with (h | ⟨o, h⟩) | h
  · exact .inl (.inl (e _ _ h))
  · exact .inl (.inr ⟨o, e _ _ h⟩)
  · exact .inr h
theorem sqT_mono {K : PySem.W.Frag} {B H : Hp} {a : Addr} {xs : List V} (e : ∀ a o, B a = some o → H a = some o) (h : SqT K B a xs) : SqT K H a xs := by
  rcases h with (h | ⟨o, h⟩) | h
  · exact .inl (.inl (e _ _ h))
  · exact .inl (.inr ⟨o, e _ _ h⟩)
  · exact .inr h
mutual
theorem dp_mono {K : PySem.W.Frag} {B H : Hp} (e : ∀ a o, B a = some o → H a = some o) : ∀ (d : D) (v : V), Dq K B v d → Dq K H v d
  | _, _, .non => .non
  | _, _, .bl b => .bl b
  | _, _, .int b => .int b
  | _, _, .str b => .str b
  | .list ds, _, .lst s h => .lst (e _ _ s) (dpAll_mono e ds _ h)
  | .tuple ds, _, .tup s h => .tup (sqT_mono e s) (dpAll_mono e ds _ h)
theorem dpAll_mono {K : PySem.W.Frag} {B H : Hp} (e : ∀ a o, B a = some o → H a = some o) : ∀ (ds : List D) (vs : List V), DqA K B vs ds → DqA K H vs ds
  | [], _, .nil => .nil
  | d :: ds, _, .cons h t => .cons (dp_mono e d _ h) (dpAll_mono e ds _ t)
end
mutual
theorem dq_dp {K : PySem.W.Frag} {B : Hp} : ∀ (d : D) (v : V), Dq K B v d → Dp K B v d
  | _, _, .non => .non
  | _, _, .bl b => .bl b
  | _, _, .int b => .int b
  | _, _, .str b => .str b
  | .list ds, _, .lst s h => .lst (SqL.of s) (dqA_dp ds _ h)
  | .tuple ds, _, .tup s h => .tup s (dqA_dp ds _ h)
theorem dqA_dp {K : PySem.W.Frag} {B : Hp} : ∀ (ds : List D) (vs : List V), DqA K B vs ds → DpAll K B vs ds
  | [], _, .nil => .nil
  | d :: ds, _, .cons h t => .cons (dq_dp d _ h) (dqA_dp ds _ t)
end
/-! the worlds: where the store's objects lie, what is immutable, what is there -/
structure Wd where
  m : List Addr
  B : Hp
  H : Hp
structure Stp (w w' : Wd) : Prop where
  m : ∃ e, w'.m = w.m ++ e ∧ ∀ a ∈ e, w.H a = none
  b : ∀ a o, w.B a = some o → w'.B a = some o
  bn : ∀ a, w.B a = none → w'.B a ≠ none → w.H a = none
  fr : ∀ a o, a ∉ w.m → w.H a = some o → w'.H a = some o
  lv : ∀ a, w'.H a = none → w.H a = none
theorem Stp.refl (w : Wd) : Stp w w := ⟨⟨[], by simp, by simp⟩, fun _ _ h => h, fun _ h h' => absurd h h', fun _ _ _ h => h, fun _ h => h⟩
theorem Stp.nm {w w' : Wd} (h : Stp w w') {a : Addr} (n : a ∉ w.m) (ha : w.H a ≠ none) : a ∉ w'.m := by
  obtain ⟨e, he, hn⟩ := h.m
  rw [he, List.mem_append]
  rintro (q | q)
  · exact n q
  · exact ha (hn a q)
theorem Stp.trans {w1 w2 w3 : Wd} (h : Stp w1 w2) (k : Stp w2 w3) : Stp w1 w3 := by
  obtain ⟨e1, he1, hn1⟩ := h.m
  obtain ⟨e2, he2, hn2⟩ := k.m
  refine ⟨⟨e1 ++ e2, by rw [he2, he1, List.append_assoc], fun a ha => ?_⟩, fun a o q => k.b a o (h.b a o q), fun a q q' => ?_, fun a o n q => ?_, fun a q => h.lv a (k.lv a q)⟩
  · rcases List.mem_append.mp ha with z | z
    · exact hn1 a z
    · exact h.lv a (hn2 a z)
  · cases e : w2.B a with
    | none => exact h.lv a (k.bn a e q')
    | some o => exact h.bn a q (by rw [e]; simp)
  · exact k.fr a o (h.nm n (by rw [q]; simp)) (h.fr a o n q)
/-- the class of a name -/
def ClsAt (mg : Str → Option Value) (c : Str) (C : Addr) : Prop := mg c = some (.ref C)
/-- a value that is told -/
def Lv (K : PySem.W.Frag) (w : Wd) (v : V) : L → Prop
  | .im d => Dq K w.B v d
  | .rf n => ∃ a, w.m[n]? = some a ∧ v = .ref a
  | .ow l => ∃ a vs, v = .ref a ∧ a ∉ w.m ∧ w.B a = none ∧ w.H a = some (.lst vs) ∧ A2 (Dq K w.B) vs l
  | .sc l => ∃ a vs, v = .ref a ∧ SqL K w.B a vs ∧ A2 (Dq K w.B) vs l
/-- a value to be kept: no borrowed list -/
def Kv (K : PySem.W.Frag) (w : Wd) (v : V) : L → Prop
  | .im d => Dq K w.B v d
  | .rf n => ∃ a, w.m[n]? = some a ∧ v = .ref a
  | .ow _ => False
  | .sc l => ∃ a vs, v = .ref a ∧ SqL K w.B a vs ∧ A2 (Dq K w.B) vs l
def Mok (K : PySem.W.Frag) (mg : Str → Option Value) (w : Wd) (a : Addr) : MO → Prop
  | .dl l => ∃ vs, w.H a = some (.lst vs) ∧ A2 (Dq K w.B) vs l
  | .rl l => ∃ vs, w.H a = some (.lst vs) ∧ A2 (Kv K w) vs l
  | .ins c fs => ∃ C dx hs, ClsAt mg c C ∧ w.H a = some (.ins C dx hs) ∧ A2 (fun (p : Str × V) (q : Str × L) => p.1 = q.1 ∧ Kv K w p.2 q.2) hs fs
  | .gone => True
structure Wok (K : PySem.W.Frag) (mg : Str → Option Value) (w : Wd) (s : S) : Prop where
  ex : ∀ a o, w.B a = some o → w.H a = some o
  len : w.m.length = s.length
  nd : w.m.Nodup
  fresh : ∀ a ∈ w.m, w.B a = none
  live : ∀ a ∈ w.m, w.H a ≠ none
  ok : ∀ (n : Nat) (a : Addr) (o : MO), w.m[n]? = some a → s[n]? = some o → Mok K mg w a o
def SlotOk (K : PySem.W.Frag) (w0 w : Wd) (v : Option V) : Slot → Prop
  | .un => True
  | .im d => ∃ x, v = some x ∧ Dq K w.B x d
  | .rf n => ∃ a, v = some (.ref a) ∧ w.m[n]? = some a
  | .ol l => ∃ a vs, v = some (.ref a) ∧ a ∉ w.m ∧ w0.H a = none ∧ w.B a = none ∧ w.H a = some (.lst vs) ∧ A2 (Dq K w.B) vs l
  | .sc l => ∃ a vs, v = some (.ref a) ∧ SqL K w.B a vs ∧ A2 (Dq K w.B) vs l
structure FR (K : PySem.W.Frag) (mg : Str → Option Value) (w0 w : Wd) (s : S) (ρ : Ro) (σ : L2.St) : Prop where
  st : Stp w0 w
  wk : Wok K mg w s
  len : σ.length = ρ.length
  sl : ∀ (i : Nat) (z : Slot) (v : Option V), ρ[i]? = some z → σ[i]? = some v → SlotOk K w0 w v z
  di : ∀ (i j : Nat) (l l' : List D) (a : Addr), i ≠ j → ρ[i]? = some (.ol l) → ρ[j]? = some (.ol l') → σ[i]? = some (some (.ref a)) → σ[j]? = some (some (.ref a)) → False
section
variable {K : PySem.W.Frag} {mg : Str → Option Value} {w w' w0 : Wd} {s s' : S} {ρ : Ro} {σ : L2.St}
theorem Stp.get (h : Stp w w') {n : Nat} {a : Addr} (q : w.m[n]? = some a) : w'.m[n]? = some a := by
  obtain ⟨e, he, _⟩ := h.m
  rw [he, List.getElem?_append_left]
  · exact q
  · exact (List.getElem?_eq_some_iff.mp q).1
theorem Stp.dp (h : Stp w w') {v : V} {d : D} (q : Dq K w.B v d) : Dq K w'.B v d := dp_mono h.b d v q
theorem Stp.dps (h : Stp w w') {v : List V} {d : List D} (q : A2 (Dq K w.B) v d) : A2 (Dq K w'.B) v d := q.mono fun _ _ => h.dp
theorem Stp.kv (h : Stp w w') {v : V} {d : L} (q : Kv K w v d) : Kv K w' v d := by
  cases d with
  | im d => exact h.dp q
  | rf n => obtain ⟨a, h1, h2⟩ := q; exact ⟨a, h.get h1, h2⟩
  | ow l => exact q.elim
  | sc l => obtain ⟨a, vs, h1, h2, h3⟩ := q; exact ⟨a, vs, h1, sqL_mono h.b h2, h.dps h3⟩
/-- what is there and not the store's stays the same, and not immutable if it was not -/
theorem Stp.keepB (h : Stp w w') {a : Addr} (q : w.B a = none) (ha : w.H a ≠ none) : w'.B a = none := by
  cases e : w'.B a with
  | none => rfl
  | some o => exact absurd (h.bn a q (by rw [e]; simp)) ha
theorem Stp.lv' (h : Stp w w') {v : V} {d : L} (q : Lv K w v d) : Lv K w' v d := by
  cases d with
  | im d => exact h.dp q
  | rf n => obtain ⟨a, h1, h2⟩ := q; exact ⟨a, h.get h1, h2⟩
  | ow l =>
    obtain ⟨a, vs, h1, h2, h3, h4, h5⟩ := q
    have hn : w.H a ≠ none := by rw [h4]; simp
    exact ⟨a, vs, h1, h.nm h2 hn, h.keepB h3 hn, h.fr a _ h2 h4, h.dps h5⟩
  | sc l => obtain ⟨a, vs, h1, h2, h3⟩ := q; exact ⟨a, vs, h1, sqL_mono h.b h2, h.dps h3⟩
theorem SlotOk.mono (h : Stp w w') {v : Option V} {z : Slot} (q : SlotOk K w0 w v z) : SlotOk K w0 w' v z := by
  cases z with
  | un => exact True.intro
  | im d => obtain ⟨x, h1, h2⟩ := q; exact ⟨x, h1, h.dp h2⟩
  | rf n => obtain ⟨a, h1, h2⟩ := q; exact ⟨a, h1, h.get h2⟩
  | ol l =>
    obtain ⟨a, vs, h1, h2, h0, h3, h4, h5⟩ := q
    have hn : w.H a ≠ none := by rw [h4]; simp
    exact ⟨a, vs, h1, h.nm h2 hn, h0, h.keepB h3 hn, h.fr a _ h2 h4, h.dps h5⟩
  | sc l => obtain ⟨a, vs, h1, h2, h3⟩ := q; exact ⟨a, vs, h1, sqL_mono h.b h2, h.dps h3⟩
theorem FR.step (F : FR K mg w0 w s ρ σ) (h : Stp w w') (k : Wok K mg w' s') : FR K mg w0 w' s' ρ σ :=
  ⟨F.st.trans h, k, F.len, fun i z v a b => (F.sl i z v a b).mono h, F.di⟩
/-- a new immutable object -/
theorem Wok.imm (k : Wok K mg w s) {p : Addr} {o : HO} (hp : w.H p = none) : Stp w ⟨w.m, upd w.B p o, upd w.H p o⟩ ∧ Wok K mg ⟨w.m, upd w.B p o, upd w.H p o⟩ s := by
  have nB : w.B p = none := by
    cases e : w.B p with
    | none => rfl
    | some u => rw [k.ex p u e] at hp; cases hp
  have nm : p ∉ w.m := fun q => k.live p q hp
  have st : Stp w ⟨w.m, upd w.B p o, upd w.H p o⟩ := by
    refine ⟨⟨[], by simp, by simp⟩, fun a u q => ?_, fun a q q' => ?_, fun a u _ q => ?_, fun a q => ?_⟩
    · have ne : a ≠ p := fun z => by rw [z, nB] at q; cases q
      show upd w.B p o a = _
      rw [upd_ne ne]; exact q
    · by_cases z : a = p
      · rw [z]; exact hp
      · exact absurd ((upd_ne (H := w.B) (o := o) z).trans q) q'
    · have ne : a ≠ p := fun z => by rw [z, hp] at q; cases q
      show upd w.H p o a = _
      rw [upd_ne ne]; exact q
    · by_cases z : a = p
      · rw [z]; exact hp
      · have q : upd w.H p o a = none := q
        rw [upd_ne z] at q; exact q
  refine ⟨st, fun a u q => ?_, k.len, k.nd, fun a q => ?_, fun a q q' => ?_, fun n a mo h1 h2 => ?_⟩
  · by_cases z : a = p
    · have q : upd w.B p o a = some u := q
      show upd w.H p o a = some u
      rw [z, upd_same] at q ⊢; exact q
    · have q : upd w.B p o a = some u := q
      show upd w.H p o a = some u
      rw [upd_ne z] at q ⊢; exact k.ex a u q
  · show upd w.B p o a = none
    rw [upd_ne (show a ≠ p from fun z => nm (z ▸ q))]; exact k.fresh a q
  · exact k.live a q (st.lv a q')
  · have ne : a ≠ p := fun z => nm (z ▸ List.mem_of_getElem? h1)
    have hm := k.ok n a mo h1 h2
    cases mo with
    | dl l =>
      obtain ⟨vs, h3, h4⟩ := hm
      exact ⟨vs, (upd_ne ne).trans h3, st.dps h4⟩
    | rl l =>
      obtain ⟨vs, h3, h4⟩ := hm
      exact ⟨vs, (upd_ne ne).trans h3, h4.mono fun _ _ => st.kv⟩
    | ins c fs =>
      obtain ⟨C, dx, hs, h3, h4, h5⟩ := hm
      exact ⟨C, dx, hs, h3, (upd_ne ne).trans h4, h5.mono fun _ _ q => ⟨q.1, st.kv q.2⟩⟩
    | gone => exact True.intro
/-- a new object that nobody tells of (a list of one's own) -/
theorem Wok.own (k : Wok K mg w s) {p : Addr} {o : HO} (hp : w.H p = none) : Stp w ⟨w.m, w.B, upd w.H p o⟩ ∧ Wok K mg ⟨w.m, w.B, upd w.H p o⟩ s ∧ w.B p = none ∧ p ∉ w.m := by
  have nB : w.B p = none := by
    cases e : w.B p with
    | none => rfl
    | some u => rw [k.ex p u e] at hp; cases hp
  have nm : p ∉ w.m := fun q => k.live p q hp
  have st : Stp w ⟨w.m, w.B, upd w.H p o⟩ := by
    refine ⟨⟨[], by simp, by simp⟩, fun a u q => q, fun a q q' => absurd q q', fun a u _ q => ?_, fun a q => ?_⟩
    · have ne : a ≠ p := fun z => by rw [z, hp] at q; cases q
      exact (upd_ne ne).trans q
    · by_cases z : a = p
      · rw [z]; exact hp
      · exact (upd_ne (H := w.H) (o := o) z).symm.trans q
  refine ⟨st, ⟨fun a u q => ?_, k.len, k.nd, k.fresh, fun a q q' => k.live a q (st.lv a q'), fun n a mo h1 h2 => ?_⟩, nB, nm⟩
  · have ne : a ≠ p := fun z => by
      have q : w.B a = some u := q
      rw [z, nB] at q; cases q
    exact (upd_ne ne).trans (k.ex a u q)
  · have ne : a ≠ p := fun z => nm (z ▸ List.mem_of_getElem? h1)
    have hm := k.ok n a mo h1 h2
    cases mo with
    | dl l =>
      obtain ⟨vs, h3, h4⟩ := hm
      exact ⟨vs, (upd_ne ne).trans h3, h4⟩
    | rl l =>
      obtain ⟨vs, h3, h4⟩ := hm
      exact ⟨vs, (upd_ne ne).trans h3, h4.mono fun _ _ => st.kv⟩
    | ins c fs =>
      obtain ⟨C, dx, hs, h3, h4, h5⟩ := hm
      exact ⟨C, dx, hs, h3, (upd_ne ne).trans h4, h5.mono fun _ _ q => ⟨q.1, st.kv q.2⟩⟩
    | gone => exact True.intro
/-- a list of one's own becomes immutable -/
theorem Wok.freeze (k : Wok K mg w s) {p : Addr} {o : HO} (hp : w.H p = some o) (nB : w.B p = none) (nm : p ∉ w.m) : Wok K mg ⟨w.m, upd w.B p o, w.H⟩ s ∧ (∀ a u, w.B a = some u → upd w.B p o a = some u) := by
  have ex : ∀ a u, w.B a = some u → upd w.B p o a = some u := fun a u q => by
    have ne : a ≠ p := fun z => by rw [z, nB] at q; cases q
    exact (upd_ne ne).trans q
  refine ⟨⟨fun a u q => ?_, k.len, k.nd, fun a q => ?_, k.live, fun n a mo h1 h2 => ?_⟩, ex⟩
  · by_cases z : a = p
    · have q : upd w.B p o a = some u := q
      rw [z, upd_same] at q
      rw [z]; exact hp.trans q
    · exact k.ex a u ((upd_ne (H := w.B) (o := o) z).symm.trans q)
  · exact (upd_ne (show a ≠ p from fun z => nm (z ▸ q))).trans (k.fresh a q)
  · have hm := k.ok n a mo h1 h2
    have kk : ∀ v d, Kv K w v d → Kv K ⟨w.m, upd w.B p o, w.H⟩ v d := fun v d q => by
      cases d with
      | im d => exact dp_mono ex d v q
      | rf n => exact q
      | ow l => exact q.elim
      | sc l => obtain ⟨a, vs, h1, h2, h3⟩ := q; exact ⟨a, vs, h1, sqL_mono ex h2, h3.mono fun v d => dp_mono ex d v⟩
    cases mo with
    | dl l =>
      obtain ⟨vs, h3, h4⟩ := hm
      exact ⟨vs, h3, h4.mono fun v d => dp_mono ex d v⟩
    | rl l =>
      obtain ⟨vs, h3, h4⟩ := hm
      exact ⟨vs, h3, h4.mono kk⟩
    | ins c fs =>
      obtain ⟨C, dx, hs, h3, h4, h5⟩ := hm
      exact ⟨C, dx, hs, h3, h4, h5.mono fun _ _ q => ⟨q.1, kk _ _ q.2⟩⟩
    | gone => exact True.intro
/-- the store's n-th object is changed -/
theorem Wok.put (k : Wok K mg w s) {n : Nat} {a : Addr} {o : HO} {mo : MO} (ha : w.m[n]? = some a) (h : Mok K mg ⟨w.m, w.B, upd w.H a o⟩ a mo) : Stp w ⟨w.m, w.B, upd w.H a o⟩ ∧ Wok K mg ⟨w.m, w.B, upd w.H a o⟩ (s.set n mo) := by
  have mem := List.mem_of_getElem? ha
  have nB := k.fresh a mem
  have st : Stp w ⟨w.m, w.B, upd w.H a o⟩ := by
    refine ⟨⟨[], by simp, by simp⟩, fun a u q => q, fun a q q' => absurd q q', fun b u nb q => ?_, fun b q => ?_⟩
    · have ne : b ≠ a := fun z => nb (z ▸ mem)
      exact (upd_ne ne).trans q
    · by_cases z : b = a
      · have q : upd w.H a o b = none := q
        rw [z, upd_same] at q; cases q
      · exact (upd_ne (H := w.H) (o := o) z).symm.trans q
  refine ⟨st, fun b u q => ?_, by rw [List.length_set]; exact k.len, k.nd, k.fresh, fun b q q' => k.live b q (st.lv b q'), fun i b mo' h1 h2 => ?_⟩
  · have ne : b ≠ a := fun z => by
      have q : w.B b = some u := q
      rw [z, nB] at q; cases q
    exact (upd_ne ne).trans (k.ex b u q)
  · by_cases z : i = n
    · subst z
      have e : b = a := Option.some.inj (h1.symm.trans ha)
      subst e
      rw [List.getElem?_set_self (by rw [← k.len]; exact (List.getElem?_eq_some_iff.mp ha).1)] at h2
      cases h2
      exact h
    · rw [List.getElem?_set_ne (fun q => z q.symm)] at h2
      have ne : b ≠ a := fun q => z (by
        subst q
        obtain ⟨l1, e1⟩ := List.getElem?_eq_some_iff.mp h1
        obtain ⟨l2, e2⟩ := List.getElem?_eq_some_iff.mp ha
        exact (List.getElem_inj k.nd).mp (e1.trans e2.symm))
      have hm := k.ok i b mo' h1 h2
      cases mo' with
      | dl l =>
        obtain ⟨vs, h3, h4⟩ := hm
        exact ⟨vs, (upd_ne ne).trans h3, h4⟩
      | rl l =>
        obtain ⟨vs, h3, h4⟩ := hm
        exact ⟨vs, (upd_ne ne).trans h3, h4.mono fun _ _ => st.kv⟩
      | ins c fs =>
        obtain ⟨C, dx, hs, h3, h4, h5⟩ := hm
        exact ⟨C, dx, hs, h3, (upd_ne ne).trans h4, h5.mono fun _ _ q => ⟨q.1, st.kv q.2⟩⟩
      | gone => exact True.intro
/-- a new object of the store, at p -/
theorem Wok.push (k : Wok K mg w s) {p : Addr} {H1 : Hp} {o : HO} {mo : MO} (hp : w.H p = none) (hH : ∀ a u, w.H a = some u → H1 a = some u) (hq : H1 p = none) (h : Mok K mg ⟨w.m ++ [p], w.B, upd H1 p o⟩ p mo) :
    Stp w ⟨w.m ++ [p], w.B, upd H1 p o⟩ ∧ Wok K mg ⟨w.m ++ [p], w.B, upd H1 p o⟩ (s ++ [mo]) := by
  have nB : w.B p = none := by
    cases e : w.B p with
    | none => rfl
    | some u => rw [k.ex p u e] at hp; cases hp
  have nm : p ∉ w.m := fun q => k.live p q hp
  have keep : ∀ a u, w.H a = some u → upd H1 p o a = some u := fun a u q => by
    have ne : a ≠ p := fun z => by rw [z, hp] at q; cases q
    exact (upd_ne ne).trans (hH a u q)
  have st : Stp w ⟨w.m ++ [p], w.B, upd H1 p o⟩ := by
    refine ⟨⟨[p], rfl, by simpa using hp⟩, fun a u q => q, fun a q q' => absurd q q', fun b u _ q => keep b u q, fun b q => ?_⟩
    cases e : w.H b with
    | none => rfl
    | some u =>
      have q : upd H1 p o b = none := q
      rw [keep b u e] at q; cases q
  refine ⟨st, fun a u q => keep a u (k.ex a u q), by simp [k.len], ?_, fun a q => ?_, fun a q => ?_, fun i b mo' h1 h2 => ?_⟩
  · show (w.m ++ [p]).Nodup
    rw [List.nodup_append]
    refine ⟨k.nd, by simp, fun a ha b hb => ?_⟩
    simp at hb
    subst hb
    exact fun z => nm (z ▸ ha)
  · rcases List.mem_append.mp q with z | z
    · exact k.fresh a z
    · simp at z; rw [z]; exact nB
  · rcases List.mem_append.mp q with z | z
    · intro y
      cases e : w.H a with
      | none => exact k.live a z e
      | some u =>
        have y : upd H1 p o a = none := y
        rw [keep a u e] at y; cases y
    · simp at z
      subst z
      intro y
      have y : upd H1 a o a = none := y
      rw [upd_same] at y; cases y
  · by_cases z : i < w.m.length
    · have h1 : (w.m ++ [p])[i]? = some b := h1
      rw [List.getElem?_append_left z] at h1
      rw [List.getElem?_append_left (by rw [← k.len]; exact z)] at h2
      have hm := k.ok i b mo' h1 h2
      cases mo' with
      | dl l =>
        obtain ⟨vs, h3, h4⟩ := hm
        exact ⟨vs, keep _ _ h3, h4⟩
      | rl l =>
        obtain ⟨vs, h3, h4⟩ := hm
        exact ⟨vs, keep _ _ h3, h4.mono fun _ _ => st.kv⟩
      | ins c fs =>
        obtain ⟨C, dx, hs, h3, h4, h5⟩ := hm
        exact ⟨C, dx, hs, h3, keep _ _ h4, h5.mono fun _ _ q => ⟨q.1, st.kv q.2⟩⟩
      | gone => exact True.intro
    · have h1 : (w.m ++ [p])[i]? = some b := h1
      rw [List.getElem?_append_right (by omega)] at h1
      rw [List.getElem?_append_right (by rw [← k.len]; omega)] at h2
      have e1 : i - w.m.length = 0 := by
        have := (List.getElem?_eq_some_iff.mp h1).1
        simp at this; omega
      rw [e1] at h1
      rw [← k.len, e1] at h2
      simp at h1 h2
      subst h1 h2
      exact h
end
end Zz
set_option Elab.async false
set_option linter.all false
/-! ZB: what expressions do, as functions of slots and store -/
namespace Zz
open PySem L2
abbrev FE := Ro → S → Option (L × S)
abbrev FT := Ro → S → Option (Bool × S)
abbrev FA := Ro → S → Option (List L × S)
section
variable (K : PySem.W.Frag) (mg : Str → Option Value)
def EO (t : TE) (f : FE) : Prop := ∀ (w0 w : Wd) (s s' : S) (ρ : Ro) (σ : L2.St) (r : L) (Q : VK), FR K mg w0 w s ρ σ → f ρ s = some (r, s') → (∀ v w', Stp w w' → FR K mg w0 w' s' ρ σ → Lv K w' v r → Q v w'.H) → t σ w.H Q
def TO (t : TT) (f : FT) : Prop := ∀ (w0 w : Wd) (s s' : S) (ρ : Ro) (σ : L2.St) (r : Bool) (Q : Bool → Hp → Prop), FR K mg w0 w s ρ σ → f ρ s = some (r, s') → (∀ w', Stp w w' → FR K mg w0 w' s' ρ σ → Q r w'.H) → t σ w.H Q
def AO (t : TA) (f : FA) : Prop := ∀ (w0 w : Wd) (s s' : S) (ρ : Ro) (σ : L2.St) (r : List L) (Q : List V → Hp → Prop), FR K mg w0 w s ρ σ → f ρ s = some (r, s') → (∀ v w', Stp w w' → FR K mg w0 w' s' ρ σ → A2 (Lv K w') v r → Q v w'.H) → t σ w.H Q
/-- a new list, nobody's yet -/
abbrev FF := Ro → S → Option (List D × S)
def Nw (w : Wd) (v : V) (l : List D) : Prop := ∃ a vs, v = .ref a ∧ a ∉ w.m ∧ w.B a = none ∧ w.H a = some (.lst vs) ∧ A2 (Dq K w.B) vs l
def FO (t : TE) (f : FF) : Prop := ∀ (w0 w : Wd) (s s' : S) (ρ : Ro) (σ : L2.St) (r : List D) (Q : VK), FR K mg w0 w s ρ σ → f ρ s = some (r, s') → (∀ a vs w', Stp w w' → FR K mg w0 w' s' ρ σ → w.H a = none → a ∉ w'.m → w'.B a = none → w'.H a = some (.lst vs) → A2 (Dq K w'.B) vs r → Q (.ref a) w'.H) → t σ w.H Q
/-- two values -/
def RO (r : R2) (g : S → L → L → Option L) : Prop := ∀ (w : Wd) (s : S) (x y : V) (lx ly l : L) (Q : VK), Wok K mg w s → Lv K w x lx → Lv K w y ly → g s lx ly = some l → (∀ v w', Stp w w' → Wok K mg w' s → Lv K w' v l → Q v w'.H) → r x y w.H Q
def UO (r : V → Hp → VK → Prop) (g : S → L → Option L) : Prop := ∀ (w : Wd) (s : S) (x : V) (lx l : L) (Q : VK), Wok K mg w s → Lv K w x lx → g s lx = some l → (∀ v w', Stp w w' → Wok K mg w' s → Lv K w' v l → Q v w'.H) → r x w.H Q
def CO (r : List V → Hp → VK → Prop) (g : S → List L → Option L) : Prop := ∀ (w : Wd) (s : S) (x : List V) (lx : List L) (l : L) (Q : VK), Wok K mg w s → A2 (Lv K w) x lx → g s lx = some l → (∀ v w', Stp w w' → Wok K mg w' s → Lv K w' v l → Q v w'.H) → r x w.H Q
end
structure SE (X : Cx) (e : Expr) (f : FE) : Prop where
  ex : ∃ t, PE X e t ∧ EO X.K X.mg t f
structure ST (X : Cx) (e : Expr) (f : FT) : Prop where
  ex : ∃ t, PT X e t ∧ TO X.K X.mg t f
structure SW (X : Cx) (e : Expr) (f : FT) : Prop where
  ex : ∃ t, PW X e t ∧ TO X.K X.mg t f
structure SA (X : Cx) (e : List Expr) (f : FA) : Prop where
  ex : ∃ t, PA X e t ∧ AO X.K X.mg t f
structure SF (X : Cx) (e : Expr) (f : FF) : Prop where
  ex : ∃ t, PE X e t ∧ FO X.K X.mg t f
/-! ### views -/
def lsV (s : S) : L → Option (List D)
  | .im (.list l) => some l
  | .ow l => some l
  | .rf n => match s[n]? with
    | some (.dl l) => some l
    | _ => none
  | _ => none
def tpV : L → Option (List D)
  | .im (.tuple l) => some l
  | _ => none
/-- any row -/
def sqV (s : S) : L → Option (List D)
  | .im (.list l) => some l
  | .im (.tuple l) => some l
  | .ow l => some l
  | .sc l => some l
  | .rf n => match s[n]? with
    | some (.dl l) => some l
    | _ => none
  | _ => none
/-- as data -/
def vw (s : S) : L → Option D
  | .im d => some d
  | .ow l => some (.list l)
  | .sc l => some (.list l)
  | .rf n => match s[n]? with
    | some (.dl l) => some (.list l)
    | _ => none
section
variable {K : PySem.W.Frag} {mg : Str → Option Value} {w w' w0 : Wd} {s s' : S} {v : V} {x : L} {l : List D}
theorem lsV_at (W : Wok K mg w s) (h : Lv K w v x) (e : lsV s x = some l) : ∃ a vs, v = .ref a ∧ w.H a = some (.lst vs) ∧ A2 (Dq K w.B) vs l := by
  cases x with
  | im d =>
    cases d with
    | list ds =>
      cases e
      cases h with
      | lst h1 h2 => exact ⟨_, _, rfl, W.ex _ _ h1, dpAll_iff.mp h2⟩
    | _ => cases e
  | rf n =>
    obtain ⟨a, h1, rfl⟩ := h
    dsimp only [lsV] at e
    cases q : s[n]? with
    | none => rw [q] at e; cases e
    | some o =>
      rw [q] at e
      have := W.ok n a o h1 q
      cases o with
      | dl l' =>
        cases e
        obtain ⟨vs, h3, h4⟩ := this
        exact ⟨a, vs, rfl, h3, h4⟩
      | _ => cases e
  | ow l' =>
    cases e
    obtain ⟨a, vs, h1, h2, h3, h4, h5⟩ := h
    exact ⟨a, vs, h1, h4, h5⟩
  | sc l' => cases e
theorem tpV_at (h : Lv K w v x) (e : tpV x = some l) : ∃ a vs, v = .ref a ∧ SqT K w.B a vs ∧ A2 (Dq K w.B) vs l := by
  cases x with
  | im d =>
    cases d with
    | tuple ds =>
      cases e
      cases h with
      | tup h1 h2 => exact ⟨_, _, rfl, h1, dpAll_iff.mp h2⟩
    | _ => cases e
  | _ => cases e
theorem sqV_at (W : Wok K mg w s) (h : Lv K w v x) (e : sqV s x = some l) : ∃ a vs, v = .ref a ∧ (SqL K w.H a vs ∨ SqT K w.H a vs) ∧ A2 (Dq K w.B) vs l := by
  have viaL : lsV s x = some l → ∃ a vs, v = .ref a ∧ (SqL K w.H a vs ∨ SqT K w.H a vs) ∧ A2 (Dq K w.B) vs l := fun e => by
    obtain ⟨a, vs, h1, h2, h3⟩ := lsV_at W h e
    exact ⟨a, vs, h1, .inl (SqL.of h2), h3⟩
  cases x with
  | im d =>
    cases d with
    | list ds => exact viaL e
    | tuple ds =>
      obtain ⟨a, vs, h1, h2, h3⟩ := tpV_at h e
      exact ⟨a, vs, h1, .inr (sqT_mono W.ex h2), h3⟩
    | _ => cases e
  | rf n => exact viaL e
  | ow l' => exact viaL e
  | sc l' =>
    cases e
    obtain ⟨a, vs, h1, h2, h3⟩ := h
    exact ⟨a, vs, h1, .inl (sqL_mono W.ex h2), h3⟩
theorem dq_list {a : Addr} {vs : List V} (h1 : w.H a = some (.lst vs)) (W : Wok K mg w s) (h : A2 (Dq K w.B) vs l) : Dq K w.H (.ref a) (.list l) :=
  .lst h1 (dpAll_iff.mpr (h.mono fun _ _ => dp_mono W.ex _ _))
theorem vw_at (W : Wok K mg w s) (h : Lv K w v x) {d : D} (e : vw s x = some d) : Dp K w.H v d := by
  have viaL : ∀ l, lsV s x = some l → d = .list l → Dp K w.H v d := fun l e q => by
    obtain ⟨a, vs, rfl, h2, h3⟩ := lsV_at W h e
    rw [q]
    exact dq_dp _ _ (dq_list h2 W h3)
  cases x with
  | im d' =>
    cases e
    exact dq_dp _ _ (dp_mono W.ex _ _ h)
  | ow l' => cases e; exact viaL _ rfl rfl
  | sc l' =>
    cases e
    obtain ⟨a, vs, rfl, h2, h3⟩ := h
    exact .lst (sqL_mono W.ex h2) (dqA_dp _ _ (dpAll_iff.mpr (h3.mono fun _ _ => dp_mono W.ex _ _)))
  | rf n =>
    dsimp only [vw] at e
    cases q : s[n]? with
    | none => rw [q] at e; cases e
    | some o =>
      rw [q] at e
      cases o with
      | dl l' =>
        cases e
        exact viaL l' (by dsimp only [lsV]; rw [q]) rfl
      | _ => cases e
theorem lv_kv {r : L} (h : Kv K w v r) : Lv K w v r := by
  cases r with
  | im d => exact h
  | rf n => exact h
  | ow l => exact h.elim
  | sc l => exact h
end
/-! ### names, constants -/
def fVar (i : Nat) : FE := fun ρ s => match ρ[i]? with
  | some (.im d) => some (.im d, s)
  | some (.rf n) => some (.rf n, s)
  | some (.ol l) => some (.ow l, s)
  | some (.sc l) => some (.sc l, s)
  | _ => none
def fC (d : D) : FE := fun _ s => some (.im d, s)
section
variable {X : Cx} {e a b c : Expr} {f g h : FE} {pos : Pos}
theorem fr_slot {K : PySem.W.Frag} {mg : Str → Option Value} {w w0 : Wd} {s : S} {ρ : Ro} {σ : L2.St} (F : FR K mg w0 w s ρ σ) {i : Nat} {z : Slot} (h : ρ[i]? = some z) : ∃ v, σ[i]? = some v ∧ SlotOk K w0 w v z := by
  have hl : i < ρ.length := (List.getElem?_eq_some_iff.mp h).1
  have hl' : i < σ.length := by rw [F.len]; exact hl
  exact ⟨σ[i], by simp [hl'], F.sl i z _ h (by simp [hl'])⟩
theorem se_pv (i : Nat) {x : Str} (hN : X.N[i]? = some x := by rfl) (hv : Vis X.env.scope x := by first | exact Or.inl rfl | exact Or.inr (Or.inl rfl) | exact Or.inr (Or.inr rfl)) (hd : (x == ("__debug__" : Str)) = false := by decide)
    (hcd : (x == ("__classdict__" : Str)) = false := by decide) : SE X (.Name x pos) (fVar i) := by
  refine ⟨tVar i, pe_var hN hv hd hcd, fun w0 w s s' ρ σ r Q F e q => ?_⟩
  unfold fVar at e
  cases hz : ρ[i]? with
  | none => rw [hz] at e; cases e
  | some z =>
    rw [hz] at e
    obtain ⟨v, h1, h2⟩ := fr_slot F hz
    cases z with
    | un => cases e
    | im d =>
      cases e
      obtain ⟨x, rfl, h3⟩ := h2
      exact ⟨x, h1, q x w (Stp.refl w) F h3⟩
    | rf n =>
      cases e
      obtain ⟨a, rfl, h3⟩ := h2
      exact ⟨_, h1, q _ w (Stp.refl w) F ⟨a, h3, rfl⟩⟩
    | ol l =>
      cases e
      obtain ⟨a, vs, rfl, h3, h0, h4, h5, h6⟩ := h2
      exact ⟨_, h1, q _ w (Stp.refl w) F ⟨a, vs, rfl, h3, h4, h5, h6⟩⟩
    | sc l =>
      cases e
      obtain ⟨a, vs, rfl, h3, h4⟩ := h2
      exact ⟨_, h1, q _ w (Stp.refl w) F ⟨a, vs, rfl, h3, h4⟩⟩
theorem eo_c {K : PySem.W.Frag} {mg : Str → Option Value} {v : V} {d : D} (h : ∀ B, Dq K B v d) : EO K mg (tC v) (fC d) := by
  intro w0 w s s' ρ σ r Q F e q
  cases e
  exact q v w (Stp.refl w) F (h _)
theorem se_int {i : Int} {j : Nat} : SE X (.Constant (.int i) j pos) (fC (.int i)) := ⟨_, pe_int, eo_c fun _ => .int i⟩
theorem se_bl {i : Bool} {j : Nat} : SE X (.Constant (.bool i) j pos) (fC (.bool i)) := ⟨_, pe_bl, eo_c fun _ => .bl i⟩
theorem se_str {i : Str} {j : Nat} : SE X (.Constant (.str i) j pos) (fC (.str i)) := ⟨_, pe_str, eo_c fun _ => .str i⟩
theorem se_non {j : Nat} : SE X (.Constant .none j pos) (fC .none) := ⟨_, pe_non, eo_c fun _ => .non⟩
/-- a number of the module -/
theorem se_gint {x : Str} {i : Int} {u : Value} (hg : Gl X x) (hm : X.mg x = some u) (r : RelV (.int i) u) (hd : (x == ("__debug__" : Str)) = false := by decide) : SE X (.Name x pos) (fC (.int i)) := ⟨_, pe_glob hg hm r hd, eo_c fun _ => .int i⟩
/-! ### two operands -/
def fOp (g : S → L → L → Option L) (f h : FE) : FE := fun ρ s => (f ρ s).bind fun p => (h ρ p.2).bind fun q => (g q.2 p.1 q.1).bind fun r => some (r, q.2)
def fUn (g : S → L → Option L) (f : FE) : FE := fun ρ s => (f ρ s).bind fun p => (g p.2 p.1).bind fun r => some (r, p.2)
theorem eo_op {K : PySem.W.Frag} {mg : Str → Option Value} {ta tb : TE} {r : R2} {o : S → L → L → Option L} (ha : EO K mg ta f) (hb : EO K mg tb g) (hr : RO K mg r o) : EO K mg (tOp r ta tb) (fOp o f g) := by
  intro w0 w s s' ρ σ l Q F e q
  unfold fOp at e
  obtain ⟨⟨x, s1⟩, e1, e⟩ := Option.bind_eq_some_iff.mp e
  obtain ⟨⟨y, s2⟩, e2, e⟩ := Option.bind_eq_some_iff.mp e
  obtain ⟨lz, e3, e⟩ := Option.bind_eq_some_iff.mp e
  cases e
  refine ha w0 w s s1 ρ σ x _ F e1 fun v w1 st1 F1 r1 => ?_
  refine hb w0 w1 s1 s2 ρ σ y _ F1 e2 fun u w2 st2 F2 r2 => ?_
  exact hr w2 s2 v u x y _ Q F2.wk (st2.lv' r1) r2 e3 fun v3 w3 st3 k3 r3 => q v3 w3 ((st1.trans st2).trans st3) (F2.step st3 k3) r3
theorem eo_un {K : PySem.W.Frag} {mg : Str → Option Value} {ta : TE} {r : V → Hp → VK → Prop} {o : S → L → Option L} (ha : EO K mg ta f) (hr : UO K mg r o) : EO K mg (tUn r ta) (fUn o f) := by
  intro w0 w s s' ρ σ l Q F e q
  unfold fUn at e
  obtain ⟨⟨x, s1⟩, e1, e⟩ := Option.bind_eq_some_iff.mp e
  obtain ⟨lz, e3, e⟩ := Option.bind_eq_some_iff.mp e
  cases e
  refine ha w0 w s s1 ρ σ x _ F e1 fun v w1 st1 F1 r1 => ?_
  exact hr w1 s1 v x _ Q F1.wk r1 e3 fun v3 w3 st3 k3 r3 => q v3 w3 (st1.trans st3) (F1.step st3 k3) r3
theorem RO.or {K : PySem.W.Frag} {mg : Str → Option Value} {r r' : R2} {o o' : S → L → L → Option L} (h : RO K mg r o) (h' : RO K mg r' o') : RO K mg (fun x y H Q => r x y H Q ∨ r' x y H Q) (fun s x y => (o s x y).or (o' s x y)) := by
  intro w s x y lx ly l Q k r1 r2 e q
  cases e1 : o s lx ly with
  | some z =>
    have e : (o s lx ly).or (o' s lx ly) = some l := e
    rw [e1] at e; cases e
    exact .inl (h w s x y lx ly l Q k r1 r2 e1 q)
  | none =>
    have e : (o s lx ly).or (o' s lx ly) = some l := e
    rw [e1] at e
    exact .inr (h' w s x y lx ly l Q k r1 r2 e q)
theorem se_bin {op : Operator} {r : R2} {o : S → L → L → Option L} (ho : OpR X (binaryOp op) r) (hr : RO X.K X.mg r o) (ha : SE X a f) (hb : SE X b g) : SE X (.BinOp a op b pos) (fOp o f g) := by
  obtain ⟨ta, pa, ea⟩ := ha.ex
  obtain ⟨tb, pb, eb⟩ := hb.ex
  exact ⟨_, pe_op ho pa pb, eo_op ea eb hr⟩
theorem se_cmp {op : CmpOp} {r : R2} {o : S → L → L → Option L} (ho : OpR X (compareOp op) r) (hr : RO X.K X.mg r o) (ha : SE X a f) (hb : SE X b g) (hm : behindInMarks op b = false) : SE X (.Compare a [op] [b] pos) (fOp o f g) := by
  obtain ⟨ta, pa, ea⟩ := ha.ex
  obtain ⟨tb, pb, eb⟩ := hb.ex
  exact ⟨_, pe_cmpR ho pa pb hm, eo_op ea eb hr⟩
theorem se_un {op : UnaryOp} {r : V → Hp → VK → Prop} {o : S → L → Option L} (ho : UnR X (unaryOp op) r) (hr : UO X.K X.mg r o) (ha : SE X a f) : SE X (.UnaryOp op a pos) (fUn o f) := by
  obtain ⟨ta, pa, ea⟩ := ha.ex
  exact ⟨_, pe_un ho pa, eo_un ea hr⟩
theorem se_ix {r : R2} {o : S → L → L → Option L} (ho : IxR X r) (hr : RO X.K X.mg r o) (ha : SE X a f) (hb : SE X b g) (hs : PlainIx b := by exact fun _ _ => rfl) : SE X (.Subscript a b pos) (fOp o f g) := by
  obtain ⟨ta, pa, ea⟩ := ha.ex
  obtain ⟨tb, pb, eb⟩ := hb.ex
  exact ⟨_, pe_ix ho pa pb hs, eo_op ea eb hr⟩
end
/-! ints -/
def gI (o : Int → Int → Option D) : S → L → L → Option L
  | _, .im (.int i), .im (.int j) => (o i j).bind fun d => some (.im d)
  | _, _, _ => none
theorem gI_some {o : Int → Int → Option D} {s : S} {x y l : L} (e : gI o s x y = some l) : ∃ i j d, x = .im (.int i) ∧ y = .im (.int j) ∧ o i j = some d ∧ l = .im d := by
  unfold gI at e
  split at e
  · obtain ⟨d, h1, h2⟩ := Option.bind_eq_some_iff.mp e
    cases h2
    exact ⟨_, _, d, rfl, rfl, h1, rfl⟩
  · cases e
section
variable {K : PySem.W.Frag} {mg : Str → Option Value} {w : Wd} {v : V}
theorem lv_int {i : Int} (h : Lv K w v (.im (.int i))) : v = .int i := by cases h; rfl
theorem lv_bl {i : Bool} (h : Lv K w v (.im (.bool i))) : v = .bl i := by cases h; rfl
theorem lv_str {i : Str} (h : Lv K w v (.im (.str i))) : v = .str i := by cases h; rfl
theorem lv_non (h : Lv K w v (.im .none)) : v = .non := by cases h; rfl
theorem ro_I0 {h : Int → Int → Int} : RO K mg (rI0 fun i j => .int (h i j)) (gI fun i j => some (.int (h i j))) := by
  intro w s x y lx ly l Q k r1 r2 e q
  obtain ⟨i, j, d, rfl, rfl, e1, rfl⟩ := gI_some e
  cases e1
  exact ⟨i, j, lv_int r1, lv_int r2, q _ w (Stp.refl w) k (.int _)⟩
theorem ro_B0 {h : Int → Int → Bool} : RO K mg (rI0 fun i j => .bl (h i j)) (gI fun i j => some (.bool (h i j))) := by
  intro w s x y lx ly l Q k r1 r2 e q
  obtain ⟨i, j, d, rfl, rfl, e1, rfl⟩ := gI_some e
  cases e1
  exact ⟨i, j, lv_int r1, lv_int r2, q _ w (Stp.refl w) k (.bl _)⟩
theorem ro_I {C : Int → Int → Prop} [∀ i j, Decidable (C i j)] {h : Int → Int → Int} : RO K mg (rI C fun i j => .int (h i j)) (gI fun i j => if C i j then some (.int (h i j)) else none) := by
  intro w s x y lx ly l Q k r1 r2 e q
  obtain ⟨i, j, d, rfl, rfl, e1, rfl⟩ := gI_some e
  by_cases c : C i j
  · rw [if_pos c] at e1; cases e1
    exact ⟨i, j, lv_int r1, lv_int r2, c, q _ w (Stp.refl w) k (.int _)⟩
  · rw [if_neg c] at e1; cases e1
end
instance (i j : Int) : Decidable (CMul i j) := inferInstanceAs (Decidable (_ ∨ _))
instance (i j : Int) : Decidable (CDivN i j) := inferInstanceAs (Decidable (_ ∧ _))
instance (i j : Int) : Decidable (CDiv i j) := inferInstanceAs (Decidable (_ ∧ _))
/-! sums: ints, lists, tuples -/
def big : Nat := 16777216
theorem big_line {n : Nat} (h : n ≤ big) : n ≤ sizeLine := by rw [sizeLine_eq]; exact h
theorem big_lt {n : Nat} (h : n < big) : n < sizeLine := by rw [sizeLine_eq]; exact h
def gCatL : S → L → L → Option L := fun s x y => (lsV s x).bind fun a => (lsV s y).bind fun b => if a.length + b.length ≤ big then some (.im (.list (a ++ b))) else none
def gCatT : S → L → L → Option L := fun _ x y => (tpV x).bind fun a => (tpV y).bind fun b => if a ≠ [] ∧ a.length + b.length ≤ big then some (.im (.tuple (a ++ b))) else none
section
variable {K : PySem.W.Frag} {mg : Str → Option Value}
theorem new_lst {w : Wd} {s : S} (k : Wok K mg w s) {p : Addr} {vs : List V} {l : List D} (hp : w.H p = none) (h : A2 (Dq K w.B) vs l) {Q : VK} (q : ∀ v w', Stp w w' → Wok K mg w' s → Lv K w' v (.im (.list l)) → Q v w'.H) : Q (.ref p) (upd w.H p (.lst vs)) := by
  obtain ⟨st, k'⟩ := k.imm (o := .lst vs) hp
  exact q (.ref p) _ st k' (.lst upd_same (dpAll_iff.mpr (st.dps h)))
theorem new_tup {w : Wd} {s : S} (k : Wok K mg w s) {p : Addr} {vs : List V} {l : List D} (hp : w.H p = none) (h : A2 (Dq K w.B) vs l) {Q : VK} (q : ∀ v w', Stp w w' → Wok K mg w' s → Lv K w' v (.im (.tuple l)) → Q v w'.H) : Q (.ref p) (upd w.H p (.tup vs)) := by
  obtain ⟨st, k'⟩ := k.imm (o := .tup vs) hp
  exact q (.ref p) _ st k' (.tup (SqT.of upd_same) (dpAll_iff.mpr (st.dps h)))
theorem ro_catL : RO K mg rCat gCatL := by
  intro w s x y lx ly l Q k r1 r2 e q
  obtain ⟨a, e1, e⟩ := Option.bind_eq_some_iff.mp e
  obtain ⟨b, e2, e⟩ := Option.bind_eq_some_iff.mp e
  obtain ⟨p1, v1, rfl, h1, d1⟩ := lsV_at k r1 e1
  obtain ⟨p2, v2, rfl, h2, d2⟩ := lsV_at k r2 e2
  split at e
  · rename_i c
    cases e
    exact ⟨p1, p2, v1, v2, rfl, rfl, h1, h2, by rw [d1.length, d2.length]; exact big_line c, fun p hp => new_lst k hp (d1.append d2) q⟩
  · cases e
theorem A2.ne {α β : Type} {R : α → β → Prop} {as : List α} {bs : List β} (h : A2 R as bs) (n : bs ≠ []) : as ≠ [] := by
  cases h with
  | nil => exact absurd rfl n
  | cons _ _ => simp
theorem ro_catT : RO K mg (rCatT K) gCatT := by
  intro w s x y lx ly l Q k r1 r2 e q
  obtain ⟨a, e1, e⟩ := Option.bind_eq_some_iff.mp e
  obtain ⟨b, e2, e⟩ := Option.bind_eq_some_iff.mp e
  obtain ⟨p1, v1, rfl, h1, d1⟩ := tpV_at r1 e1
  obtain ⟨p2, v2, rfl, h2, d2⟩ := tpV_at r2 e2
  split at e
  · rename_i c
    cases e
    refine ⟨p1, p2, v1, v2, rfl, rfl, sqT_mono k.ex h1, sqT_mono k.ex h2, d1.ne c.1, by rw [d1.length, d2.length]; exact big_line c.2, fun z => ?_, fun _ p hp => new_tup k hp (d1.append d2) q⟩
    subst z
    cases d2
    exact q _ w (Stp.refl w) k (.tup h1 (dpAll_iff.mpr (by simpa using d1)))
  · cases e
end
end Zz
set_option Elab.async false
set_option linter.all false
/-! ZC: operators, tests, displays, built-in calls, places and slices -/
namespace Zz
open PySem L2
/-! ### operators -/
def gCatA : S → L → L → Option L := fun _ x y => (tpV x).bind fun a => (tpV y).bind fun b => if a.length + b.length ≤ big then some (.im (.tuple (a ++ b))) else none
def gStrS : S → L → L → Option L
  | _, .im (.str a), .im (.str b) => if a.length + b.length ≤ big then some (.im (.str (a ++ b))) else none
  | _, _, _ => none
def gAdd : S → L → L → Option L := fun s x y => (gI (fun i j => some (.int (i + j))) s x y).or ((gCatL s x y).or ((gCatA s x y).or (gStrS s x y)))
def gSub : S → L → L → Option L := gI fun i j => some (.int (i - j))
def gRepL : S → L → L → Option L := fun s x y => match lsV s x, y with
  | some l, .im (.int k) => if -(2 ^ 63) ≤ k ∧ k < 2 ^ 63 ∧ l.length * k.toNat ≤ big then some (.im (.list (List.replicate k.toNat l).flatten)) else none
  | _, _ => none
def gRepT : S → L → L → Option L := fun s x y => match tpV x, y with
  | some l, .im (.int k) => if l ≠ [] ∧ 2 ≤ k ∧ k ≤ 1000 ∧ l.length ≤ 1000 then some (.im (.tuple (List.replicate k.toNat l).flatten)) else none
  | _, _ => none
def gMulI : S → L → L → Option L := gI fun i j => if CMul i j then some (.int (i * j)) else none
def gMul : S → L → L → Option L := fun s x y => (gMulI s x y).or ((gRepL s x y).or (gRepT s x y))
def gMod : S → L → L → Option L := gI fun i j => if 0 < j then some (.int (i % j)) else none
def gDiv : S → L → L → Option L := gI fun i j => if CDiv i j then some (.int (i / j)) else none
def gLt : S → L → L → Option L := gI fun i j => some (.bool (decide (i < j)))
def gLe : S → L → L → Option L := gI fun i j => some (.bool (decide (i ≤ j)))
def gGt : S → L → L → Option L := gI fun i j => some (.bool (decide (j < i)))
def gGe : S → L → L → Option L := gI fun i j => some (.bool (decide (j ≤ i)))
def eqS : L → L → Option Bool
  | .im (.int i), .im (.int j) => some (decide (i = j))
  | .im (.bool i), .im (.bool j) => some (decide (i = j))
  | .im (.str i), .im (.str j) => some (decide (i = j))
  | .im .none, .im .none => some true
  | .im .none, .im (.int _) => some false
  | .im (.int _), .im .none => some false
  | .im .none, .im (.bool _) => some false
  | .im (.bool _), .im .none => some false
  | .im .none, .im (.str _) => some false
  | .im (.str _), .im .none => some false
  | .im (.int _), .im (.str _) => some false
  | .im (.str _), .im (.int _) => some false
  | .im (.bool _), .im (.str _) => some false
  | .im (.str _), .im (.bool _) => some false
  | _, _ => none
def okD (d : D) : Bool := SeqAt.shaped d
def gEqS (neg : Bool) : S → L → L → Option L := fun _ x y => (eqS x y).bind fun b => some (.im (.bool (if neg then !b else b)))
def gEqD (neg : Bool) : S → L → L → Option L := fun s x y => (vw s x).bind fun d => (vw s y).bind fun e => if okD d = true ∧ okD e = true then some (.im (.bool (if neg then !PyData.eqv d e else PyData.eqv d e))) else none
def gEq : S → L → L → Option L := fun s x y => (gEqS false s x y).or (gEqD false s x y)
def gNe : S → L → L → Option L := fun s x y => (gEqS true s x y).or (gEqD true s x y)
def isNone : L → Bool
  | .im .none => true
  | _ => false
def gIsN (neg : Bool) : S → L → L → Option L
  | _, x, .im .none => some (.im (.bool (if neg then !isNone x else isNone x)))
  | _, _, _ => none
def gIsB (neg : Bool) : S → L → L → Option L
  | _, .im (.bool a), .im (.bool b) => some (.im (.bool (if neg then !decide (a = b) else decide (a = b))))
  | _, _, _ => none
def gIs : S → L → L → Option L := fun s x y => (gIsN false s x y).or (gIsB false s x y)
def gNotIs : S → L → L → Option L := fun s x y => (gIsN true s x y).or (gIsB true s x y)
def flatD : D → Bool
  | .none => true
  | .bool _ => true
  | .int _ => true
  | .str _ => true
  | _ => false
/-- x in a row of flat things, or in a list of any data -/
def gInF (neg : Bool) : S → L → L → Option L := fun s x y => match x with
  | .im d => (sqV s y).bind fun l => if flatD d = true ∧ l.all flatD = true then some (.im (.bool (if neg then !(l.any fun z => PyData.eqv z d) else l.any fun z => PyData.eqv z d))) else none
  | _ => none
def gInD (neg : Bool) : S → L → L → Option L := fun s x y => (vw s x).bind fun d => (lsV s y).bind fun l => if okD d = true ∧ okD (.list l) = true then some (.im (.bool (if neg then !(l.any fun z => PyData.eqv z d) else l.any fun z => PyData.eqv z d))) else none
def gIn (neg : Bool) : S → L → L → Option L := fun s x y => (gInF neg s x y).or (gInD neg s x y)
section
variable {K : PySem.W.Frag} {mg : Str → Option Value}
theorem ro_catA : RO K mg (rCatA K) gCatA := by
  intro w s x y lx ly l Q k r1 r2 e q
  obtain ⟨a, e1, e⟩ := Option.bind_eq_some_iff.mp e
  obtain ⟨b, e2, e⟩ := Option.bind_eq_some_iff.mp e
  obtain ⟨p1, v1, rfl, h1, d1⟩ := tpV_at r1 e1
  obtain ⟨p2, v2, rfl, h2, d2⟩ := tpV_at r2 e2
  split at e
  · rename_i c
    cases e
    refine ⟨p1, p2, v1, v2, rfl, rfl, sqT_mono k.ex h1, sqT_mono k.ex h2, by rw [d1.length, d2.length]; exact big_line c, ?_⟩
    refine ⟨fun z => ?_, fun _ z => ?_, fun _ _ p hp => new_tup k hp (d1.append d2) q⟩
    · subst z
      cases d1
      exact q _ w (Stp.refl w) k (.tup h2 (dpAll_iff.mpr (by simpa using d2)))
    · subst z
      cases d2
      exact q _ w (Stp.refl w) k (.tup h1 (dpAll_iff.mpr (by simpa using d1)))
  · cases e
theorem ro_strS : RO K mg (fun x y H Q => ∃ i j, x = .str i ∧ y = .str j ∧ i.length + j.length ≤ sizeLine ∧ Q (.str (i ++ j)) H) gStrS := by
  intro w s x y lx ly l Q k r1 r2 e q
  unfold gStrS at e
  split at e
  · split at e
    · rename_i c
      cases e
      exact ⟨_, _, lv_str r1, lv_str r2, big_line c, q _ w (Stp.refl w) k (.str _)⟩
    · cases e
  · cases e
theorem ro_repL : RO K mg rRep gRepL := by
  intro w s x y lx ly l Q k r1 r2 e q
  unfold gRepL at e
  split at e
  · rename_i l' n e1
    obtain ⟨p1, v1, rfl, h1, d1⟩ := lsV_at k r1 e1
    split at e
    · rename_i c
      cases e
      exact ⟨p1, n, v1, rfl, lv_int r2, h1, c.1, c.2.1, by rw [d1.length]; exact big_line c.2.2, fun p hp => new_lst k hp (d1.rep _) q⟩
    · cases e
  · cases e
theorem ro_repT : RO K mg (rRepT K) gRepT := by
  intro w s x y lx ly l Q k r1 r2 e q
  unfold gRepT at e
  split at e
  · rename_i l' n e1
    obtain ⟨p1, v1, rfl, h1, d1⟩ := tpV_at r1 e1
    split at e
    · rename_i c
      cases e
      exact ⟨p1, n, v1, rfl, lv_int r2, sqT_mono k.ex h1, d1.ne c.1, c.2.1, c.2.2.1, by rw [d1.length]; exact c.2.2.2, fun p hp => new_tup k hp (d1.rep _) q⟩
    · cases e
  · cases e
theorem eqS_at {w : Wd} {x y : V} {lx ly : L} {b : Bool} (r1 : Lv K w x lx) (r2 : Lv K w y ly) (e : eqS lx ly = some b) : scal x y = true ∧ decide (x = y) = b := by
  unfold eqS at e
  split at e <;> first | cases e | skip
  all_goals (cases r1; cases r2; refine ⟨rfl, ?_⟩; first | rfl | simp)
theorem ro_eqS : RO K mg rEq (gEqS false) := by
  intro w s x y lx ly l Q k r1 r2 e q
  obtain ⟨b, e1, e⟩ := Option.bind_eq_some_iff.mp e
  cases e
  obtain ⟨h1, h2⟩ := eqS_at r1 r2 e1
  exact ⟨h1, by rw [h2]; exact q _ w (Stp.refl w) k (.bl _)⟩
theorem ro_neS : RO K mg rNe (gEqS true) := by
  intro w s x y lx ly l Q k r1 r2 e q
  obtain ⟨b, e1, e⟩ := Option.bind_eq_some_iff.mp e
  cases e
  obtain ⟨h1, h2⟩ := eqS_at r1 r2 e1
  exact ⟨h1, by rw [h2]; exact q _ w (Stp.refl w) k (.bl _)⟩
theorem ro_eqD : RO K mg (rEqD K) (gEqD false) := by
  intro w s x y lx ly l Q k r1 r2 e q
  obtain ⟨d, e1, e⟩ := Option.bind_eq_some_iff.mp e
  obtain ⟨d', e2, e⟩ := Option.bind_eq_some_iff.mp e
  split at e
  · rename_i c
    cases e
    exact ⟨d, d', vw_at k r1 e1, vw_at k r2 e2, c.1, c.2, q _ w (Stp.refl w) k (.bl _)⟩
  · cases e
theorem ro_neD : RO K mg (rNeD K) (gEqD true) := by
  intro w s x y lx ly l Q k r1 r2 e q
  obtain ⟨d, e1, e⟩ := Option.bind_eq_some_iff.mp e
  obtain ⟨d', e2, e⟩ := Option.bind_eq_some_iff.mp e
  split at e
  · rename_i c
    cases e
    exact ⟨d, d', vw_at k r1 e1, vw_at k r2 e2, c.1, c.2, q _ w (Stp.refl w) k (.bl _)⟩
  · cases e
theorem isNone_at {w : Wd} {x : V} {lx : L} (r : Lv K w x lx) : decide (x = .non) = isNone lx := by
  cases lx with
  | im d => cases r <;> rfl
  | rf n => obtain ⟨a, _, rfl⟩ := r; rfl
  | ow l => obtain ⟨a, _, rfl, _⟩ := r; rfl
  | sc l => obtain ⟨a, _, rfl, _⟩ := r; rfl
theorem ro_isN : RO K mg (fun x y H Q => y = .non ∧ Q (.bl (decide (x = .non))) H) (gIsN false) := by
  intro w s x y lx ly l Q k r1 r2 e q
  unfold gIsN at e
  split at e
  · cases e
    exact ⟨lv_non r2, by rw [isNone_at r1]; exact q _ w (Stp.refl w) k (.bl _)⟩
  · cases e
theorem ro_notN : RO K mg (fun x y H Q => y = .non ∧ Q (.bl (!decide (x = .non))) H) (gIsN true) := by
  intro w s x y lx ly l Q k r1 r2 e q
  unfold gIsN at e
  split at e
  · cases e
    exact ⟨lv_non r2, by rw [isNone_at r1]; exact q _ w (Stp.refl w) k (.bl _)⟩
  · cases e
theorem ro_isB : RO K mg rIsB (gIsB false) := by
  intro w s x y lx ly l Q k r1 r2 e q
  unfold gIsB at e
  split at e
  · cases e
    exact ⟨_, _, lv_bl r1, lv_bl r2, q _ w (Stp.refl w) k (.bl _)⟩
  · cases e
theorem ro_notB : RO K mg rNotB (gIsB true) := by
  intro w s x y lx ly l Q k r1 r2 e q
  unfold gIsB at e
  split at e
  · cases e
    exact ⟨_, _, lv_bl r1, lv_bl r2, q _ w (Stp.refl w) k (.bl _)⟩
  · cases e
theorem flat_at {B : Hp} {v : V} {d : D} (h : Dq K B v d) (f : flatD d = true) : flatV v = true := by
  cases h <;> first | rfl | cases f
theorem eqV_at {B : Hp} {v u : V} {d e : D} (h : Dq K B v d) (f : flatD d = true) (h' : Dq K B u e) (f' : flatD e = true) : eqV v u = PyData.eqv d e := by
  cases h <;> first
    | (cases h' <;> first | rfl | (simp [eqV, PyData.eqv]; done) | (exact absurd f' (by simp [flatD])))
    | exact absurd f (by simp [flatD])
theorem allF_at {B : Hp} {vs : List V} {l : List D} (h : A2 (Dq K B) vs l) (f : l.all flatD = true) : vs.all flatV = true := by
  induction h with
  | nil => rfl
  | cons r _ ih =>
    simp only [List.all_cons, Bool.and_eq_true] at f ⊢
    exact ⟨flat_at r f.1, ih f.2⟩
theorem inV_at {B : Hp} {vs : List V} {l : List D} {x : V} {d : D} (h : A2 (Dq K B) vs l) (f : l.all flatD = true) (r : Dq K B x d) (fd : flatD d = true) : inV x vs = l.any fun z => PyData.eqv z d := by
  unfold inV
  induction h with
  | nil => rfl
  | cons q _ ih =>
    simp only [List.all_cons, Bool.and_eq_true, List.any_cons] at f ⊢
    rw [ih f.2, eqV_at q f.1 r fd]
theorem ro_inF (neg : Bool) : RO K mg (rIn K neg) (gInF neg) := by
  intro w s x y lx ly l Q k r1 r2 e q
  unfold gInF at e
  split at e
  · rename_i d
    obtain ⟨ds, e1, e⟩ := Option.bind_eq_some_iff.mp e
    obtain ⟨p, vs, rfl, h1, h2⟩ := sqV_at k r2 e1
    split at e
    · rename_i c
      cases e
      refine ⟨p, vs, rfl, h1, flat_at r1 c.1, allF_at h2 c.2, ?_⟩
      rw [inV_at h2 c.2 r1 c.1]
      exact q _ w (Stp.refl w) k (.bl _)
    · cases e
  · cases e
theorem in_lst {w : Wd} {s : S} (k : Wok K mg w s) {y : V} {ly : L} {ds : List D} (r2 : Lv K w y ly) (e2 : lsV s ly = some ds) : Dp K w.H y (.list ds) := by
  obtain ⟨p, vs, rfl, h1, h2⟩ := lsV_at k r2 e2
  exact dq_dp _ _ (dq_list h1 k h2)
theorem ro_inD : RO K mg (rInD K) (gInD false) := by
  intro w s x y lx ly l Q k r1 r2 e q
  obtain ⟨d, e1, e⟩ := Option.bind_eq_some_iff.mp e
  obtain ⟨ds, e2, e⟩ := Option.bind_eq_some_iff.mp e
  split at e
  · rename_i c
    cases e
    exact ⟨d, ds, vw_at k r1 e1, in_lst k r2 e2, c.1, c.2, q _ w (Stp.refl w) k (.bl _)⟩
  · cases e
theorem ro_notInD : RO K mg (rNotInD K) (gInD true) := by
  intro w s x y lx ly l Q k r1 r2 e q
  obtain ⟨d, e1, e⟩ := Option.bind_eq_some_iff.mp e
  obtain ⟨ds, e2, e⟩ := Option.bind_eq_some_iff.mp e
  split at e
  · rename_i c
    cases e
    exact ⟨d, ds, vw_at k r1 e1, in_lst k r2 e2, c.1, c.2, q _ w (Stp.refl w) k (.bl _)⟩
  · cases e
end
section
variable {X : Cx} {a b c : Expr} {f g h : FE} {pos : Pos}
theorem se_add (ha : SE X a f) (hb : SE X b g) : SE X (.BinOp a .Add b pos) (fOp gAdd f g) := se_bin (op_add.or (op_cat.or (op_catA.or op_add_str))) ((ro_I0 (h := fun i j => i + j)).or (ro_catL.or (ro_catA.or ro_strS))) ha hb
theorem se_sub (ha : SE X a f) (hb : SE X b g) : SE X (.BinOp a .Sub b pos) (fOp gSub f g) := se_bin op_sub (ro_I0 (h := fun i j => i - j)) ha hb
theorem se_mul (ha : SE X a f) (hb : SE X b g) : SE X (.BinOp a .Mult b pos) (fOp gMul f g) := se_bin (op_mul.or (op_rep.or op_repT)) ((ro_I (C := CMul) (h := fun i j => i * j)).or (ro_repL.or ro_repT)) ha hb
theorem se_mod (ha : SE X a f) (hb : SE X b g) : SE X (.BinOp a .Mod b pos) (fOp gMod f g) := se_bin op_mod (ro_I (C := fun _ j => 0 < j) (h := fun i j => i % j)) ha hb
theorem se_div (ha : SE X a f) (hb : SE X b g) : SE X (.BinOp a .FloorDiv b pos) (fOp gDiv f g) := se_bin op_fdiv (ro_I (C := CDiv) (h := fun i j => i / j)) ha hb
theorem se_lt (ha : SE X a f) (hb : SE X b g) : SE X (.Compare a [.Lt] [b] pos) (fOp gLt f g) := se_cmp op_lt (ro_B0 (h := fun i j => decide (i < j))) ha hb (nomark _)
theorem se_le (ha : SE X a f) (hb : SE X b g) : SE X (.Compare a [.LtE] [b] pos) (fOp gLe f g) := se_cmp op_le (ro_B0 (h := fun i j => decide (i ≤ j))) ha hb (nomark _)
theorem se_gt (ha : SE X a f) (hb : SE X b g) : SE X (.Compare a [.Gt] [b] pos) (fOp gGt f g) := se_cmp op_gt (ro_B0 (h := fun i j => decide (j < i))) ha hb (nomark _)
theorem se_ge (ha : SE X a f) (hb : SE X b g) : SE X (.Compare a [.GtE] [b] pos) (fOp gGe f g) := se_cmp op_ge (ro_B0 (h := fun i j => decide (j ≤ i))) ha hb (nomark _)
theorem se_eq {k : Nat} (hr : Room k X.A) (ha : SE X a f) (hb : SE X b g) : SE X (.Compare a [.Eq] [b] pos) (fOp gEq f g) := se_cmp (op_eq.or (op_eqD hr.units)) (ro_eqS.or ro_eqD) ha hb (nomark _)
theorem se_ne {k : Nat} (hr : Room k X.A) (ha : SE X a f) (hb : SE X b g) : SE X (.Compare a [.NotEq] [b] pos) (fOp gNe f g) := se_cmp (op_ne.or (op_neD hr.units)) (ro_neS.or ro_neD) ha hb (nomark _)
theorem se_is (ha : SE X a f) (hb : SE X b g) : SE X (.Compare a [.Is] [b] pos) (fOp gIs f g) := se_cmp (op_isN.or op_isBl) (ro_isN.or ro_isB) ha hb (nomark _)
theorem se_isnot (ha : SE X a f) (hb : SE X b g) : SE X (.Compare a [.IsNot] [b] pos) (fOp gNotIs f g) := se_cmp (op_notN.or op_notBl) (ro_notN.or ro_notB) ha hb (nomark _)
theorem room65 {k : Nat} {A : Around} (hr : Room k A) : A.units + 65 < cLine := by have := hr.un; omega
theorem se_in {k : Nat} (hr : Room k X.A) (ha : SE X a f) (hb : SE X b g) (hm : behindInMarks .In b = false := by rfl) : SE X (.Compare a [.In] [b] pos) (fOp (gIn false) f g) := se_cmp (op_in_seq.or (op_inD (room65 hr))) ((ro_inF false).or ro_inD) ha hb hm
theorem se_notin {k : Nat} (hr : Room k X.A) (ha : SE X a f) (hb : SE X b g) (hm : behindInMarks .NotIn b = false := by rfl) : SE X (.Compare a [.NotIn] [b] pos) (fOp (gIn true) f g) := se_cmp (op_notIn_seq.or (op_notInD (room65 hr))) ((ro_inF true).or ro_notInD) ha hb hm
end
end Zz
set_option Elab.async false
set_option linter.all false
/-! ZD: tests, truth, displays, places, slices, built-in functions -/
namespace Zz
open PySem L2
/-! ### truth -/
def trL (s : S) : L → Option Bool
  | .im .none => some false
  | .im (.bool b) => some b
  | .im (.int i) => some (i != 0)
  | .im (.str z) => if z.length ≤ big then some ((z.length : Int) != 0) else none
  | x => (sqV s x).bind fun l => some (!l.isEmpty)
section
variable {K : PySem.W.Frag} {mg : Str → Option Value} {w : Wd} {s : S}
theorem trL_at (k : Wok K mg w s) {v : V} {x : L} {b : Bool} (r : Lv K w v x) (e : trL s x = some b) : TruV K v w.H b := by
  have seq : ∀ l, sqV s x = some l → b = !l.isEmpty → TruV K v w.H b := fun l h q => by
    obtain ⟨a, vs, rfl, h1, h2⟩ := sqV_at k r h
    have hv : (!l.isEmpty) = !vs.isEmpty := by cases h2 <;> rfl
    rcases h1 with h1 | h1
    · exact .inl ⟨vs, h1, by rw [q, hv]⟩
    · exact .inr (.inl ⟨vs, h1, by rw [q, hv]⟩)
  unfold trL at e
  split at e
  · cases e; cases r; exact rfl
  · cases e; cases r; exact rfl
  · cases e; cases r; exact rfl
  · split at e
    · rename_i c
      cases e; cases r; exact ⟨big_line c, rfl⟩
    · cases e
  · obtain ⟨l, h1, h2⟩ := Option.bind_eq_some_iff.mp e
    cases h2
    exact seq l h1 rfl
end
/-! ### tests -/
def fTest (f : FE) : FT := fun ρ s => (f ρ s).bind fun p => match p.1 with
  | .im (.bool b) => some (b, p.2)
  | _ => none
def fTru (f : FE) : FT := fun ρ s => (f ρ s).bind fun p => (trL p.2 p.1).bind fun b => some (b, p.2)
def fAndT (f g : FT) : FT := fun ρ s => (f ρ s).bind fun p => if p.1 = true then g ρ p.2 else some (false, p.2)
def fOrT (f g : FT) : FT := fun ρ s => (f ρ s).bind fun p => if p.1 = true then some (true, p.2) else g ρ p.2
def fNotT (f : FT) : FT := fun ρ s => (f ρ s).bind fun p => some (!p.1, p.2)
def fBool (f : FT) : FE := fun ρ s => (f ρ s).bind fun p => some (.im (.bool p.1), p.2)
def fIf (t : FT) (f g : FE) : FE := fun ρ s => (t ρ s).bind fun p => if p.1 = true then f ρ p.2 else g ρ p.2
section
variable {X : Cx} {a b c : Expr} {f g h : FE} {t u : FT} {pos : Pos} {rest : List Expr}
theorem st_val (h : SE X a f) (he : ∀ whole, isTrue a X.env whole = (do let v ← whole; standAt a.pos; holding [v] (truthy v)) := by intro _; rfl) : ST X a (fTest f) := by
  obtain ⟨ta, pa, ea⟩ := h.ex
  refine ⟨_, pt_val pa he, fun w0 w s s' ρ σ r Q F e q => ?_⟩
  obtain ⟨⟨x, s1⟩, e1, e⟩ := Option.bind_eq_some_iff.mp e
  refine ea w0 w s s1 ρ σ x _ F e1 fun v w1 st1 F1 r1 => ?_
  dsimp only at e
  split at e
  · cases e
    exact ⟨_, lv_bl r1, q w1 st1 F1⟩
  · cases e
theorem st_tru (h : SE X a f) (he : ∀ whole, isTrue a X.env whole = (do let v ← whole; standAt a.pos; holding [v] (truthy v)) := by intro _; rfl) : ST X a (fTru f) := by
  obtain ⟨ta, pa, ea⟩ := h.ex
  refine ⟨_, pt_truth pa he, fun w0 w s s' ρ σ r Q F e q => ?_⟩
  obtain ⟨⟨x, s1⟩, e1, e⟩ := Option.bind_eq_some_iff.mp e
  obtain ⟨y, e2, e⟩ := Option.bind_eq_some_iff.mp e
  cases e
  exact ea w0 w s _ ρ σ x _ F e1 fun v w1 st1 F1 r1 => ⟨_, trL_at F1.wk r1 e2, q w1 st1 F1⟩
theorem sw_and1 (ha : ST X a t) : SW X (.BoolOp .And [a] pos) t := by
  obtain ⟨ta, pa, ea⟩ := ha.ex
  exact ⟨_, pw_and1 pa, ea⟩
theorem sw_or1 (ha : ST X a t) : SW X (.BoolOp .Or [a] pos) t := by
  obtain ⟨ta, pa, ea⟩ := ha.ex
  exact ⟨_, pw_or1 pa, ea⟩
theorem sw_and (ha : ST X a t) (hb : SW X (.BoolOp .And (b :: rest) pos) u) : SW X (.BoolOp .And (a :: b :: rest) pos) (fAndT t u) := by
  obtain ⟨ta, pa, ea⟩ := ha.ex
  obtain ⟨tb, pb, eb⟩ := hb.ex
  refine ⟨_, pw_and pa pb, fun w0 w s s' ρ σ r Q F e q => ?_⟩
  obtain ⟨⟨x, s1⟩, e1, e⟩ := Option.bind_eq_some_iff.mp e
  refine ea w0 w s s1 ρ σ x _ F e1 fun w1 st1 F1 => ?_
  cases x with
  | true => exact iteT (eb w0 w1 s1 s' ρ σ r _ F1 e fun w2 st2 F2 => q w2 (st1.trans st2) F2)
  | false =>
    cases e
    exact iteF (q w1 st1 F1)
theorem sw_or (ha : ST X a t) (hb : SW X (.BoolOp .Or (b :: rest) pos) u) : SW X (.BoolOp .Or (a :: b :: rest) pos) (fOrT t u) := by
  obtain ⟨ta, pa, ea⟩ := ha.ex
  obtain ⟨tb, pb, eb⟩ := hb.ex
  refine ⟨_, pw_or pa pb, fun w0 w s s' ρ σ r Q F e q => ?_⟩
  obtain ⟨⟨x, s1⟩, e1, e⟩ := Option.bind_eq_some_iff.mp e
  refine ea w0 w s s1 ρ σ x _ F e1 fun w1 st1 F1 => ?_
  cases x with
  | true =>
    cases e
    exact iteT (q w1 st1 F1)
  | false => exact iteF (eb w0 w1 s1 s' ρ σ r _ F1 e fun w2 st2 F2 => q w2 (st1.trans st2) F2)
theorem sw_st (h : SW X a t) : ST X a t := by
  obtain ⟨ta, pa, ea⟩ := h.ex
  exact ⟨_, pa.pt, ea⟩
theorem st_not (ha : ST X a t) : ST X (.UnaryOp .Not a pos) (fNotT t) := by
  obtain ⟨ta, pa, ea⟩ := ha.ex
  refine ⟨_, pt_not pa, fun w0 w s s' ρ σ r Q F e q => ?_⟩
  obtain ⟨⟨x, s1⟩, e1, e⟩ := Option.bind_eq_some_iff.mp e
  cases e
  exact ea w0 w s _ ρ σ x _ F e1 fun w1 st1 F1 => q w1 st1 F1
/-! values by tests: and, or of truth values; not -/
theorem se_one {op : BoolOp} (ha : SE X a f) : SE X (.BoolOp op [a] pos) f := by
  obtain ⟨ta, pa, ea⟩ := ha.ex
  exact ⟨_, pe_one pa, ea⟩
theorem se_and (ha : SE X a f) (hb : SE X (.BoolOp .And (b :: rest) pos) g) : SE X (.BoolOp .And (a :: b :: rest) pos) (fIf (fTest f) g (fC (.bool false))) := by
  obtain ⟨ta, pa, ea⟩ := ha.ex
  obtain ⟨tb, pb, eb⟩ := hb.ex
  refine ⟨_, pe_and pa pb, fun w0 w s s' ρ σ r Q F e q => ?_⟩
  obtain ⟨⟨x, s1⟩, e0, e⟩ := Option.bind_eq_some_iff.mp e
  obtain ⟨⟨y, s2⟩, e1, e2⟩ := Option.bind_eq_some_iff.mp e0
  refine ea w0 w s s2 ρ σ y _ F e1 fun v w1 st1 F1 r1 => ?_
  dsimp only at e2
  split at e2
  · cases e2
    refine ⟨_, lv_bl r1, ?_⟩
    cases x with
    | true => exact iteT (eb w0 w1 s1 s' ρ σ r _ F1 e fun v2 w2 st2 F2 r2 => q v2 w2 (st1.trans st2) F2 r2)
    | false =>
      cases e
      exact iteF (q _ w1 st1 F1 (.bl false))
  · cases e2
theorem se_or (ha : SE X a f) (hb : SE X (.BoolOp .Or (b :: rest) pos) g) : SE X (.BoolOp .Or (a :: b :: rest) pos) (fIf (fTest f) (fC (.bool true)) g) := by
  obtain ⟨ta, pa, ea⟩ := ha.ex
  obtain ⟨tb, pb, eb⟩ := hb.ex
  refine ⟨_, pe_or pa pb, fun w0 w s s' ρ σ r Q F e q => ?_⟩
  obtain ⟨⟨x, s1⟩, e0, e⟩ := Option.bind_eq_some_iff.mp e
  obtain ⟨⟨y, s2⟩, e1, e2⟩ := Option.bind_eq_some_iff.mp e0
  refine ea w0 w s s2 ρ σ y _ F e1 fun v w1 st1 F1 r1 => ?_
  dsimp only at e2
  split at e2
  · cases e2
    refine ⟨_, lv_bl r1, ?_⟩
    cases x with
    | true =>
      cases e
      exact iteT (q _ w1 st1 F1 (.bl true))
    | false => exact iteF (eb w0 w1 s1 s' ρ σ r _ F1 e fun v2 w2 st2 F2 r2 => q v2 w2 (st1.trans st2) F2 r2)
  · cases e2
theorem se_not (ha : SE X a f) : SE X (.UnaryOp .Not a pos) (fBool (fNotT (fTest f))) := by
  obtain ⟨ta, pa, ea⟩ := ha.ex
  refine ⟨_, pe_not pa, fun w0 w s s' ρ σ r Q F e q => ?_⟩
  obtain ⟨⟨x, s1⟩, e0, e⟩ := Option.bind_eq_some_iff.mp e
  obtain ⟨⟨y, s2⟩, e1, e2⟩ := Option.bind_eq_some_iff.mp e0
  obtain ⟨⟨z, s3⟩, e3, e4⟩ := Option.bind_eq_some_iff.mp e1
  refine ea w0 w s s3 ρ σ z _ F e3 fun v w1 st1 F1 r1 => ?_
  dsimp only at e4
  split at e4
  · cases e4; cases e2; cases e
    exact ⟨_, lv_bl r1, q _ w1 st1 F1 (.bl _)⟩
  · cases e4
theorem se_if (hc : ST X c t) (ha : SE X a f) (hb : SE X b g) : SE X (.IfExp c a b pos) (fIf t f g) := by
  obtain ⟨tc, pc, ec⟩ := hc.ex
  obtain ⟨ta, pa, ea⟩ := ha.ex
  obtain ⟨tb, pb, eb⟩ := hb.ex
  refine ⟨_, pe_ifExp pc pa pb, fun w0 w s s' ρ σ r Q F e q => ?_⟩
  obtain ⟨⟨x, s1⟩, e1, e⟩ := Option.bind_eq_some_iff.mp e
  refine ec w0 w s s1 ρ σ x _ F e1 fun w1 st1 F1 => ?_
  cases x with
  | true => exact iteT (ea w0 w1 s1 s' ρ σ r _ F1 e fun v2 w2 st2 F2 r2 => q v2 w2 (st1.trans st2) F2 r2)
  | false => exact iteF (eb w0 w1 s1 s' ρ σ r _ F1 e fun v2 w2 st2 F2 r2 => q v2 w2 (st1.trans st2) F2 r2)
end
/-! ### arguments, displays -/
def fNil : FA := fun _ s => some ([], s)
def fCons (f : FE) (g : FA) : FA := fun ρ s => (f ρ s).bind fun p => (g ρ p.2).bind fun q => some (p.1 :: q.1, q.2)
/-- all are data -/
def imAll : List L → Option (List D)
  | [] => some []
  | .im d :: r => (imAll r).bind fun l => some (d :: l)
  | _ :: _ => none
def fTup (g : FA) : FE := fun ρ s => (g ρ s).bind fun p => (imAll p.1).bind fun l => if l.length ≤ big then some (.im (.tuple l), p.2) else none
def fLst (g : FA) : FF := fun ρ s => (g ρ s).bind fun p => (imAll p.1).bind fun l => if l.length ≤ big then some (l, p.2) else none
/-- a new list that becomes data -/
def fFrz (f : FF) : FE := fun ρ s => (f ρ s).bind fun p => some (.im (.list p.1), p.2)
def keepable : L → Bool
  | .ow _ => false
  | _ => true
/-- a new list of the store: of data alone, or of anything -/
def fNewD (f : FF) : FE := fun ρ s => (f ρ s).bind fun p => some (.rf p.2.length, p.2 ++ [.dl p.1])
def fNewR (g : FA) : FE := fun ρ s => (g ρ s).bind fun p => if p.1.all keepable = true ∧ p.1.length ≤ big then some (.rf p.2.length, p.2 ++ [.rl p.1]) else none
section
variable {K : PySem.W.Frag} {mg : Str → Option Value} {w : Wd} {s : S}
theorem imAll_at : ∀ {xs : List L} {vs : List V} {l : List D}, A2 (Lv K w) vs xs → imAll xs = some l → A2 (Dq K w.B) vs l
  | [], _, _, .nil, e => by cases e; exact .nil
  | .im d :: r, _, _, .cons h t, e => by
    obtain ⟨l, e1, e2⟩ := Option.bind_eq_some_iff.mp e
    cases e2
    exact .cons h (imAll_at t e1)
  | .rf _ :: r, _, _, .cons h t, e => by cases e
  | .ow _ :: r, _, _, .cons h t, e => by cases e
  | .sc _ :: r, _, _, .cons h t, e => by cases e
theorem kv_of {v : V} {x : L} (h : Lv K w v x) (k : keepable x = true) : Kv K w v x := by
  cases x with
  | im d => exact h
  | rf n => exact h
  | ow l => cases k
  | sc l => exact h
theorem kvAll_of {vs : List V} {xs : List L} (h : A2 (Lv K w) vs xs) (k : xs.all keepable = true) : A2 (Kv K w) vs xs := by
  induction h with
  | nil => exact .nil
  | cons r _ ih =>
    simp only [List.all_cons, Bool.and_eq_true] at k
    exact .cons (kv_of r k.1) (ih k.2)
end
section
variable {X : Cx} {a b c : Expr} {es : List Expr} {f : FE} {g : FA} {h : FF} {pos : Pos}
theorem sa_nil : SA X [] fNil := by
  refine ⟨tNil, pa_nil, fun w0 w s s' ρ σ r Q F e q => ?_⟩
  cases e
  exact q [] w (Stp.refl w) F .nil
theorem sa_cons (ha : SE X a f) (hb : SA X es g) (hs : starEach (a :: es) X.env = (false, eval a X.env) :: starEach es X.env := by rfl) : SA X (a :: es) (fCons f g) := by
  obtain ⟨ta, pa, ea⟩ := ha.ex
  obtain ⟨tb, pb, eb⟩ := hb.ex
  refine ⟨_, pa_cons pa pb hs, fun w0 w s s' ρ σ r Q F e q => ?_⟩
  obtain ⟨⟨x, s1⟩, e1, e⟩ := Option.bind_eq_some_iff.mp e
  obtain ⟨⟨y, s2⟩, e2, e⟩ := Option.bind_eq_some_iff.mp e
  cases e
  refine ea w0 w s s1 ρ σ x _ F e1 fun v w1 st1 F1 r1 => ?_
  refine eb w0 w1 s1 _ ρ σ y _ F1 e2 fun vs w2 st2 F2 r2 => ?_
  exact q _ w2 (st1.trans st2) F2 (.cons (st2.lv' r1) r2)
theorem se_tup {x1} (hg : SA X es g) : SE X (.Tuple es x1 pos) (fTup g) := by
  obtain ⟨ta, pa, ea⟩ := hg.ex
  refine ⟨_, pe_tup pa, fun w0 w s s' ρ σ r Q F e q => ?_⟩
  obtain ⟨⟨x, s1⟩, e1, e⟩ := Option.bind_eq_some_iff.mp e
  obtain ⟨l, e2, e⟩ := Option.bind_eq_some_iff.mp e
  split at e
  · rename_i c
    cases e
    refine ea w0 w s _ ρ σ x _ F e1 fun vs w1 st1 F1 r1 => ?_
    have d := imAll_at r1 e2
    exact ⟨by rw [d.length]; exact big_line c, fun p hp => new_tup F1.wk hp d fun v w2 st2 k2 r2 => q v w2 (st1.trans st2) (F1.step st2 k2) r2⟩
  · cases e
theorem sf_lst (hg : SA X es g) : SF X (.List es pos) (fLst g) := by
  obtain ⟨ta, pa, ea⟩ := hg.ex
  refine ⟨_, pe_lst pa, fun w0 w s s' ρ σ r Q F e q => ?_⟩
  obtain ⟨⟨x, s1⟩, e1, e⟩ := Option.bind_eq_some_iff.mp e
  obtain ⟨l, e2, e⟩ := Option.bind_eq_some_iff.mp e
  split at e
  · rename_i c
    cases e
    refine ea w0 w s _ ρ σ x _ F e1 fun vs w1 st1 F1 r1 => ?_
    have d := imAll_at r1 e2
    refine ⟨by rw [d.length]; exact big_line c, fun p hp => ?_⟩
    obtain ⟨st2, k2, nB, nm⟩ := F1.wk.own (o := .lst vs) hp
    exact q p vs _ (st1.trans st2) (F1.step st2 k2) (st1.lv p hp) nm nB upd_same (st2.dps d)
  · cases e
/-- a new list as data -/
theorem se_frz (hh : SF X a h) : SE X a (fFrz h) := by
  obtain ⟨ta, pa, ea⟩ := hh.ex
  refine ⟨ta, pa, fun w0 w s s' ρ σ r Q F e q => ?_⟩
  obtain ⟨⟨x, s1⟩, e1, e⟩ := Option.bind_eq_some_iff.mp e
  cases e
  refine ea w0 w s _ ρ σ x _ F e1 fun p vs w1 st1 F1 hp nm nB hH d => ?_
  obtain ⟨k2, ex⟩ := F1.wk.freeze hH nB nm
  have st2 : Stp w ⟨w1.m, upd w1.B p (.lst vs), w1.H⟩ := by
    refine ⟨st1.m, fun a o z => ex a o (st1.b a o z), fun a z z' => ?_, st1.fr, st1.lv⟩
    by_cases y : a = p
    · rw [y]; exact hp
    · exact st1.bn a z (by rw [← upd_ne (H := w1.B) (o := .lst vs) y]; exact z')
  refine q (.ref p) ⟨w1.m, upd w1.B p (.lst vs), w1.H⟩ st2 ⟨F.st.trans st2, k2, F.len, fun i z v h1 h2 => (F.sl i z v h1 h2).mono st2, F.di⟩ ?_
  exact .lst upd_same (dpAll_iff.mpr (d.mono fun v e => dp_mono ex e v))
theorem se_newD (hh : SF X a h) : SE X a (fNewD h) := by
  obtain ⟨ta, pa, ea⟩ := hh.ex
  refine ⟨ta, pa, fun w0 w s s' ρ σ r Q F e q => ?_⟩
  obtain ⟨⟨x, s1⟩, e1, e⟩ := Option.bind_eq_some_iff.mp e
  cases e
  refine ea w0 w s _ ρ σ x _ F e1 fun p vs w1 st1 F1 hp nm nB hH d => ?_
  have live : w1.H p ≠ none := by rw [hH]; simp
  have st2 : Stp w ⟨w1.m ++ [p], w1.B, w1.H⟩ := by
    obtain ⟨e, he, hn⟩ := st1.m
    refine ⟨⟨e ++ [p], by rw [he, List.append_assoc], fun a ha => ?_⟩, st1.b, st1.bn, st1.fr, st1.lv⟩
    rcases List.mem_append.mp ha with z | z
    · exact hn a z
    · simp at z; rw [z]; exact hp
  have get : ∀ {n : Nat} {b : Addr}, w1.m[n]? = some b → (w1.m ++ [p])[n]? = some b := fun {n b} z => by
    rw [List.getElem?_append_left (List.getElem?_eq_some_iff.mp z).1]; exact z
  have kv : ∀ v y, Kv X.K w1 v y → Kv X.K ⟨w1.m ++ [p], w1.B, w1.H⟩ v y := fun v y z => by
    cases y with
    | im d => exact z
    | rf n => obtain ⟨b, h1, h2⟩ := z; exact ⟨b, get h1, h2⟩
    | ow l => exact z.elim
    | sc l => exact z
  have k2 : Wok X.K X.mg ⟨w1.m ++ [p], w1.B, w1.H⟩ (s1 ++ [.dl x]) := by
    refine ⟨F1.wk.ex, by simp [F1.wk.len], ?_, fun a z => ?_, fun a z => ?_, fun n b o h1 h2 => ?_⟩
    · show (w1.m ++ [p]).Nodup
      rw [List.nodup_append]
      refine ⟨F1.wk.nd, by simp, fun a ha b hb => ?_⟩
      simp at hb
      subst hb
      exact fun z => nm (z ▸ ha)
    · rcases List.mem_append.mp z with z | z
      · exact F1.wk.fresh a z
      · simp at z; rw [z]; exact nB
    · rcases List.mem_append.mp z with z | z
      · exact F1.wk.live a z
      · simp at z; rw [z]; exact live
    · by_cases z : n < w1.m.length
      · have h1 : (w1.m ++ [p])[n]? = some b := h1
        rw [List.getElem?_append_left z] at h1
        rw [List.getElem?_append_left (by rw [← F1.wk.len]; exact z)] at h2
        have hm := F1.wk.ok n b o h1 h2
        cases o with
        | dl l => exact hm
        | rl l =>
          obtain ⟨us, h3, h4⟩ := hm
          exact ⟨us, h3, h4.mono kv⟩
        | ins c fs =>
          obtain ⟨C, dx, hs, h3, h4, h5⟩ := hm
          exact ⟨C, dx, hs, h3, h4, h5.mono fun _ _ q => ⟨q.1, kv _ _ q.2⟩⟩
        | gone => exact True.intro
      · have h1 : (w1.m ++ [p])[n]? = some b := h1
        rw [List.getElem?_append_right (by omega)] at h1
        rw [List.getElem?_append_right (by rw [← F1.wk.len]; omega)] at h2
        have e1 : n - w1.m.length = 0 := by
          have := (List.getElem?_eq_some_iff.mp h1).1
          simp at this; omega
        rw [e1] at h1
        rw [← F1.wk.len, e1] at h2
        simp at h1 h2
        subst h1 h2
        exact ⟨vs, hH, d⟩
  refine q (.ref p) ⟨w1.m ++ [p], w1.B, w1.H⟩ st2 ⟨F.st.trans st2, k2, F.len, fun i z v h1 h2 => (F.sl i z v h1 h2).mono st2, F.di⟩ ⟨p, ?_, rfl⟩
  show (w1.m ++ [p])[s1.length]? = some p
  rw [← F1.wk.len]
  simp
theorem se_newR (hg : SA X es g) : SE X (.List es pos) (fNewR g) := by
  obtain ⟨ta, pa, ea⟩ := hg.ex
  refine ⟨_, pe_lst pa, fun w0 w s s' ρ σ r Q F e q => ?_⟩
  obtain ⟨⟨x, s1⟩, e1, e⟩ := Option.bind_eq_some_iff.mp e
  split at e
  · rename_i c
    cases e
    refine ea w0 w s _ ρ σ x _ F e1 fun vs w1 st1 F1 r1 => ?_
    refine ⟨by rw [r1.length]; exact big_line c.2, fun p hp => ?_⟩
    have kk := kvAll_of r1 c.1
    have hnone : w1.H p = none := hp
    obtain ⟨st2, k2⟩ := F1.wk.push (p := p) (H1 := w1.H) (o := .lst vs) (mo := .rl x) hp (fun _ _ h => h) hp ⟨vs, upd_same, by
      refine kk.mono fun v y z => ?_
      cases y with
      | im d => exact z
      | rf n =>
        obtain ⟨b, h1, h2⟩ := z
        refine ⟨b, ?_, h2⟩
        show (w1.m ++ [p])[n]? = some b
        rw [List.getElem?_append_left (List.getElem?_eq_some_iff.mp h1).1]; exact h1
      | ow l => exact z.elim
      | sc l => exact z⟩
    refine q (.ref p) _ (st1.trans st2) (F1.step st2 k2) ⟨p, ?_, rfl⟩
    show (w1.m ++ [p])[s1.length]? = some p
    rw [← F1.wk.len]
    simp
  · cases e
end
end Zz
set_option Elab.async false
set_option linter.all false
/-! ZE: places, slices, built-in functions, attributes, calls of defs and methods -/
namespace Zz
open PySem L2
/-! ### places and slices -/
def atD {α : Type} (l : List α) (i : Int) : Option α := atI l i
def gIx : S → L → L → Option L := fun s x y => match y with
  | .im (.int i) => match sqV s x with
    | some l => (atD l i).bind fun d => some (.im d)
    | none => match x with
      | .rf n => match s[n]? with
        | some (.rl l) => (atD l i).bind fun d => if keepable d = true then some d else none
        | _ => none
      | _ => none
  | _ => none
abbrev FO1 := Ro → S → Option (Option Int × S)
def PTO (K : PySem.W.Frag) (mg : Str → Option Value) (t : L2.TO) (f : FO1) : Prop := ∀ (w0 w : Wd) (s s' : S) (ρ : Ro) (σ : L2.St) (r : Option Int) (Q : Option Int → Hp → Prop), FR K mg w0 w s ρ σ → f ρ s = some (r, s') → (∀ w', Stp w w' → FR K mg w0 w' s' ρ σ → Q r w'.H) → t σ w.H Q
structure SO (X : Cx) (e : Option Expr) (f : FO1) : Prop where
  ex : ∃ t, PO X e t ∧ PTO X.K X.mg t f
def fNoP : FO1 := fun _ s => some (none, s)
def fPart (f : FE) : FO1 := fun ρ s => (f ρ s).bind fun p => match p.1 with
  | .im (.int i) => some (some i, p.2)
  | _ => none
def cutD (l : List D) (lo hi : Option Int) : List D := (l.drop (HT.sIx l.length 0 lo)).take (HT.sIx l.length l.length hi - HT.sIx l.length 0 lo)
def lstV (s : S) : L → Option (List D)
  | .sc l => some l
  | x => lsV s x
def fSlL (f : FE) (g h : FO1) : FF := fun ρ s => (f ρ s).bind fun p => (g ρ p.2).bind fun q => (h ρ q.2).bind fun u => (lstV u.2 p.1).bind fun l => some (cutD l q.1 u.1, u.2)
def fSl (f : FE) (g h : FO1) : FE := fun ρ s => (f ρ s).bind fun p => (g ρ p.2).bind fun q => (h ρ q.2).bind fun u => match tpV p.1 with
  | some l => some (.im (.tuple (cutD l q.1 u.1)), u.2)
  | none => (lstV u.2 p.1).bind fun l => some (.im (.list (cutD l q.1 u.1)), u.2)
section
variable {K : PySem.W.Frag} {mg : Str → Option Value} {w : Wd} {s : S}
theorem A2.atI {α β : Type} {R : α → β → Prop} {as : List α} {bs : List β} (h : A2 R as bs) {i : Int} {b : β} (e : atD bs i = some b) : ∃ a, L2.atI as i = some a ∧ R a b := by
  unfold atD L2.atI at e
  unfold L2.atI
  rw [h.length]
  obtain ⟨j, h1, h2⟩ := Option.bind_eq_some_iff.mp e
  obtain ⟨a, h3, h4⟩ := h.get h2
  exact ⟨a, by rw [h1]; exact h3, h4⟩
theorem ro_ix : RO K mg (rIx K) gIx := by
  intro w s x y lx ly l Q k r1 r2 e q
  unfold gIx at e
  split at e
  · rename_i i
    cases r2
    split at e
    · rename_i l' e1
      obtain ⟨d, e2, e⟩ := Option.bind_eq_some_iff.mp e
      cases e
      obtain ⟨a, vs, rfl, h1, h2⟩ := sqV_at k r1 e1
      obtain ⟨v, h3, h4⟩ := h2.atI e2
      rcases h1 with h1 | h1
      · exact .inl ⟨a, vs, i, v, rfl, rfl, h1, h3, q v w (Stp.refl w) k h4⟩
      · exact .inr (.inl ⟨a, vs, i, v, rfl, rfl, h1, h3, q v w (Stp.refl w) k h4⟩)
    · split at e
      · split at e
        · rename_i n _ l' e2
          obtain ⟨d, e3, e⟩ := Option.bind_eq_some_iff.mp e
          split at e
          · cases e
            obtain ⟨a, ha, rfl⟩ := r1
            obtain ⟨vs, h1, h2⟩ := k.ok _ a _ ha e2
            obtain ⟨v, h3, h4⟩ := h2.atI e3
            exact .inl ⟨a, vs, i, v, rfl, rfl, SqL.of h1, h3, q v w (Stp.refl w) k (lv_kv h4)⟩
          · cases e
        · cases e
      · cases e
  · cases e
theorem lstV_at (k : Wok K mg w s) {v : V} {x : L} {l : List D} (r : Lv K w v x) (e : lstV s x = some l) : ∃ a vs, v = .ref a ∧ SqL K w.H a vs ∧ A2 (Dq K w.B) vs l := by
  have viaL : lsV s x = some l → ∃ a vs, v = .ref a ∧ SqL K w.H a vs ∧ A2 (Dq K w.B) vs l := fun e => by
    obtain ⟨a, vs, h1, h2, h3⟩ := lsV_at k r e
    exact ⟨a, vs, h1, SqL.of h2, h3⟩
  cases x with
  | im d => exact viaL e
  | rf n => exact viaL e
  | ow l' => exact viaL e
  | sc l' =>
    cases e
    obtain ⟨a, vs, h1, h2, h3⟩ := r
    exact ⟨a, vs, h1, sqL_mono k.ex h2, h3⟩
theorem cut_at {vs : List V} {l : List D} (h : A2 (Dq K w.B) vs l) (lo hi : Option Int) : A2 (Dq K w.B) (cutV vs lo hi) (cutD l lo hi) := by
  unfold cutV cutD
  rw [h.length]
  exact (h.drop _).take _
end
section
variable {X : Cx} {a b c : Expr} {es : List Expr} {lo hi : Option Expr} {f g h : FE} {fl fh : FO1} {pos p2 : Pos}
theorem se_at (ha : SE X a f) (hb : SE X b g) (hs : PlainIx b := by exact fun _ _ => rfl) : SE X (.Subscript a b pos) (fOp gIx f g) := se_ix ix_seq ro_ix ha hb hs
theorem so_none : SO X none fNoP := ⟨_, po_none, fun w0 w s s' ρ σ r Q F e q => by cases e; exact q w (Stp.refl w) F⟩
theorem so_some (ha : SE X a f) : SO X (some a) (fPart f) := by
  obtain ⟨ta, pa, ea⟩ := ha.ex
  refine ⟨_, po_some pa, fun w0 w s s' ρ σ r Q F e q => ?_⟩
  obtain ⟨⟨x, s1⟩, e1, e⟩ := Option.bind_eq_some_iff.mp e
  refine ea w0 w s s1 ρ σ x _ F e1 fun v w1 st1 F1 r1 => ?_
  dsimp only at e
  split at e
  · cases e
    exact ⟨_, lv_int r1, q w1 st1 F1⟩
  · cases e
theorem sf_slL (ha : SE X a f) (hl : SO X lo fl) (hh : SO X hi fh) : SF X (.Subscript a (.Slice lo hi none p2) pos) (fSlL f fl fh) := by
  obtain ⟨ta, pa, ea⟩ := ha.ex
  obtain ⟨tl, pl, el⟩ := hl.ex
  obtain ⟨th, ph, eh⟩ := hh.ex
  refine ⟨_, pe_slice sl_list pa pl ph, fun w0 w s s' ρ σ r Q F e q => ?_⟩
  obtain ⟨⟨x, s1⟩, e1, e⟩ := Option.bind_eq_some_iff.mp e
  obtain ⟨⟨y, s2⟩, e2, e⟩ := Option.bind_eq_some_iff.mp e
  obtain ⟨⟨z, s3⟩, e3, e⟩ := Option.bind_eq_some_iff.mp e
  obtain ⟨l, e4, e⟩ := Option.bind_eq_some_iff.mp e
  cases e
  refine ea w0 w s s1 ρ σ x _ F e1 fun v w1 st1 F1 r1 => ?_
  refine el w0 w1 s1 s2 ρ σ y _ F1 e2 fun w2 st2 F2 => ?_
  refine eh w0 w2 s2 _ ρ σ z _ F2 e3 fun w3 st3 F3 => ?_
  obtain ⟨A, vs, rfl, h1, h2⟩ := lstV_at F3.wk ((st2.trans st3).lv' r1) e4
  refine ⟨A, vs, rfl, h1, fun p hp => ?_⟩
  obtain ⟨st4, k4, nB, nm⟩ := F3.wk.own (o := .lst (cutV vs y z)) hp
  exact q p _ _ (((st1.trans st2).trans st3).trans st4) (F3.step st4 k4) (((st1.trans st2).trans st3).lv p hp) nm nB upd_same (cut_at (st4.dps h2) y z)
theorem se_sl (ha : SE X a f) (hl : SO X lo fl) (hh : SO X hi fh) : SE X (.Subscript a (.Slice lo hi none p2) pos) (fSl f fl fh) := by
  obtain ⟨ta, pa, ea⟩ := ha.ex
  obtain ⟨tl, pl, el⟩ := hl.ex
  obtain ⟨th, ph, eh⟩ := hh.ex
  refine ⟨_, pe_slice (sl_list.or sl_tupA) pa pl ph, fun w0 w s s' ρ σ r Q F e q => ?_⟩
  obtain ⟨⟨x, s1⟩, e1, e⟩ := Option.bind_eq_some_iff.mp e
  obtain ⟨⟨y, s2⟩, e2, e⟩ := Option.bind_eq_some_iff.mp e
  obtain ⟨⟨z, s3⟩, e3, e⟩ := Option.bind_eq_some_iff.mp e
  refine ea w0 w s s1 ρ σ x _ F e1 fun v w1 st1 F1 r1 => ?_
  refine el w0 w1 s1 s2 ρ σ y _ F1 e2 fun w2 st2 F2 => ?_
  refine eh w0 w2 s2 s3 ρ σ z _ F2 e3 fun w3 st3 F3 => ?_
  have st := (st1.trans st2).trans st3
  have r3 := (st2.trans st3).lv' r1
  dsimp only at e
  split at e
  · rename_i l e4
    cases e
    obtain ⟨A, vs, rfl, h1, h2⟩ := tpV_at r3 e4
    refine .inr ⟨A, vs, rfl, sqT_mono F3.wk.ex h1, fun c => ?_, fun _ p hp => new_tup F3.wk hp (cut_at h2 y z) fun v w4 st4 k4 r4 => q v w4 (st.trans st4) (F3.step st4 k4) r4⟩
    refine q _ w3 st F3 (.tup h1 (dpAll_iff.mpr ?_))
    have ez : cutD l y z = l := by
      unfold cutD
      rw [← h2.length, c.1, c.2, h2.length]
      simp
    rw [ez]; exact h2
  · obtain ⟨l, e4, e⟩ := Option.bind_eq_some_iff.mp e
    cases e
    obtain ⟨A, vs, rfl, h1, h2⟩ := lstV_at F3.wk r3 e4
    exact .inl ⟨A, vs, rfl, h1, fun p hp => new_lst F3.wk hp (cut_at h2 y z) fun v w4 st4 k4 r4 => q v w4 (st.trans st4) (F3.step st4 k4) r4⟩
end
/-! ### built-in functions -/
def fCall (o : S → List L → Option L) (g : FA) : FE := fun ρ s => (g ρ s).bind fun p => (o p.2 p.1).bind fun r => some (r, p.2)
def intsOf : List D → Option (List Int)
  | [] => some []
  | .int i :: r => (intsOf r).bind fun l => some (i :: l)
  | _ :: _ => none
def boolsOf : List D → Option (List Bool)
  | [] => some []
  | .bool i :: r => (boolsOf r).bind fun l => some (i :: l)
  | _ :: _ => none
def lenL (s : S) : L → Option Nat
  | .im (.str z) => if z.length ≤ big then some z.length else none
  | .rf n => match s[n]? with
    | some (.dl l) => some l.length
    | some (.rl l) => some l.length
    | _ => none
  | x => (sqV s x).bind fun l => some l.length
def oLen : S → List L → Option L
  | s, [x] => (lenL s x).bind fun n => some (.im (.int n))
  | _, _ => none
def oTuple : S → List L → Option L
  | s, [x] => match tpV x with
    | some l => some (.im (.tuple l))
    | none => (lstV s x).bind fun l => some (.im (.tuple l))
  | _, _ => none
def oList : S → List L → Option (List D)
  | s, [x] => sqV s x
  | _, _ => none
def oInt : S → List L → Option L
  | _, [.im (.int i)] => some (.im (.int i))
  | _, [.im (.bool b)] => some (.im (.int (if b then 1 else 0)))
  | _, _ => none
def imax (i j : Int) : Int := if j > i then j else i
def imin (i j : Int) : Int := if j < i then j else i
def oMax2 : S → List L → Option L
  | _, [.im (.int i), .im (.int j)] => some (.im (.int (imax i j)))
  | _, _ => none
def oMin2 : S → List L → Option L
  | _, [.im (.int i), .im (.int j)] => some (.im (.int (imin i j)))
  | _, _ => none
def oAbs : S → List L → Option L
  | _, [.im (.int i)] => some (.im (.int (if i < 0 then -i else i)))
  | _, _ => none
def oSum : S → List L → Option L
  | s, [x] => (lstV s x).bind fun l => (intsOf l).bind fun is => some (.im (.int is.sum))
  | _, _ => none
def oAll : S → List L → Option L
  | s, [x] => (lstV s x).bind fun l => (boolsOf l).bind fun bs => some (.im (.bool (bs.all id)))
  | _, _ => none
def oAny : S → List L → Option L
  | s, [x] => (lstV s x).bind fun l => (boolsOf l).bind fun bs => some (.im (.bool (bs.any id)))
  | _, _ => none
def maxOf : List Int → Int
  | [] => 0
  | [i] => i
  | i :: r => max i (maxOf r)
def minOf : List Int → Int
  | [] => 0
  | [i] => i
  | i :: r => min i (minOf r)
def oMaxL : S → List L → Option L
  | s, [x] => (lstV s x).bind fun l => (intsOf l).bind fun is => if 0 < is.length then some (.im (.int (maxOf is))) else none
  | _, _ => none
def oMinL : S → List L → Option L
  | s, [x] => (lstV s x).bind fun l => (intsOf l).bind fun is => if 0 < is.length then some (.im (.int (minOf is))) else none
  | _, _ => none
def isort (l : List Int) : List Int := l.mergeSort fun a b => decide (a ≤ b)
def oSorted : S → List L → Option (List D)
  | s, [x] => (lstV s x).bind fun l => (intsOf l).bind fun is => some ((isort is).map PyData.int)
  | _, _ => none
def fCallF (o : S → List L → Option (List D)) (g : FA) : FF := fun ρ s => (g ρ s).bind fun p => (o p.2 p.1).bind fun r => some (r, p.2)
section
variable {K : PySem.W.Frag} {mg : Str → Option Value} {w : Wd} {s : S}
theorem maxOf_is : ∀ {l : List Int} {m : Int}, m ∈ l → (∀ y, y ∈ l → y ≤ m) → maxOf l = m
  | [], m, h, _ => by cases h
  | [i], m, h, _ => by simp at h; exact h.symm
  | i :: j :: r, m, h, g => by
    show max i (maxOf (j :: r)) = m
    have gi := g i (by simp)
    by_cases z : m ∈ j :: r
    · have ih := maxOf_is z fun y hy => g y (List.mem_cons_of_mem _ hy)
      rw [ih]; omega
    · have e : m = i := by rcases List.mem_cons.mp h with q | q; exact q; exact absurd q z
      subst e
      have le : ∀ (l : List Int), l ≠ [] → (∀ y, y ∈ l → y ≤ m) → maxOf l ≤ m := by
        intro l
        induction l with
        | nil => intro h; exact absurd rfl h
        | cons a t ih =>
          intro _ hh
          cases t with
          | nil => exact hh a (by simp)
          | cons b t =>
            show max a (maxOf (b :: t)) ≤ m
            have h1 := ih (by simp) fun y hy => hh y (List.mem_cons_of_mem _ hy)
            have h2 := hh a (by simp)
            omega
      have h1 := le (j :: r) (by simp) fun y hy => g y (List.mem_cons_of_mem _ hy)
      omega
theorem minOf_is : ∀ {l : List Int} {m : Int}, m ∈ l → (∀ y, y ∈ l → m ≤ y) → minOf l = m
  | [], m, h, _ => by cases h
  | [i], m, h, _ => by simp at h; exact h.symm
  | i :: j :: r, m, h, g => by
    show min i (minOf (j :: r)) = m
    have gi := g i (by simp)
    by_cases z : m ∈ j :: r
    · have ih := minOf_is z fun y hy => g y (List.mem_cons_of_mem _ hy)
      rw [ih]; omega
    · have e : m = i := by rcases List.mem_cons.mp h with q | q; exact q; exact absurd q z
      subst e
      have le : ∀ (l : List Int), l ≠ [] → (∀ y, y ∈ l → m ≤ y) → m ≤ minOf l := by
        intro l
        induction l with
        | nil => intro h; exact absurd rfl h
        | cons a t ih =>
          intro _ hh
          cases t with
          | nil => exact hh a (by simp)
          | cons b t =>
            show m ≤ min a (minOf (b :: t))
            have h1 := ih (by simp) fun y hy => hh y (List.mem_cons_of_mem _ hy)
            have h2 := hh a (by simp)
            omega
      have h1 := le (j :: r) (by simp) fun y hy => g y (List.mem_cons_of_mem _ hy)
      omega
theorem ints_at : ∀ {l : List D} {vs : List V} {is : List Int}, A2 (Dq K w.B) vs l → intsOf l = some is → vs = is.map V.int ∧ l = is.map PyData.int
  | [], _, _, .nil, e => by cases e; exact ⟨rfl, rfl⟩
  | .int i :: r, _, _, .cons h t, e => by
    obtain ⟨l, e1, e2⟩ := Option.bind_eq_some_iff.mp e
    cases e2
    cases h
    obtain ⟨h1, h2⟩ := ints_at t e1
    exact ⟨by rw [h1]; rfl, by rw [h2]; rfl⟩
  | .none :: _, _, _, _, e => by cases e
  | .bool _ :: _, _, _, _, e => by cases e
  | .str _ :: _, _, _, _, e => by cases e
  | .list _ :: _, _, _, _, e => by cases e
  | .tuple _ :: _, _, _, _, e => by cases e
  | .dict _ :: _, _, _, _, e => by cases e
theorem bools_at : ∀ {l : List D} {vs : List V} {is : List Bool}, A2 (Dq K w.B) vs l → boolsOf l = some is → vs = is.map V.bl
  | [], _, _, .nil, e => by cases e; exact rfl
  | .bool i :: r, _, _, .cons h t, e => by
    obtain ⟨l, e1, e2⟩ := Option.bind_eq_some_iff.mp e
    cases e2
    cases h
    rw [bools_at t e1]; rfl
  | .none :: _, _, _, _, e => by cases e
  | .int _ :: _, _, _, _, e => by cases e
  | .str _ :: _, _, _, _, e => by cases e
  | .list _ :: _, _, _, _, e => by cases e
  | .tuple _ :: _, _, _, _, e => by cases e
  | .dict _ :: _, _, _, _, e => by cases e
theorem a2_one {R : V → L → Prop} {vs : List V} {x : L} (h : A2 R vs [x]) : ∃ v, vs = [v] ∧ R v x := by
  cases h with | cons r t => cases t; exact ⟨_, rfl, r⟩
theorem a2_two {R : V → L → Prop} {vs : List V} {x y : L} (h : A2 R vs [x, y]) : ∃ v u, vs = [v, u] ∧ R v x ∧ R u y := by
  cases h with | cons r t => cases t with | cons r' t => cases t; exact ⟨_, _, rfl, r, r'⟩
theorem lenL_at (k : Wok K mg w s) {v : V} {x : L} {n : Nat} (r : Lv K w v x) (e : lenL s x = some n) : LenV K v w.H n := by
  have seq : ∀ l, sqV s x = some l → n = l.length → LenV K v w.H n := fun l h q => by
    obtain ⟨a, vs, rfl, h1, h2⟩ := sqV_at k r h
    rcases h1 with h1 | h1
    · exact .inl ⟨vs, h1, by rw [q, h2.length]⟩
    · exact .inr ⟨vs, h1, by rw [q, h2.length]⟩
  unfold lenL at e
  split at e
  · split at e
    · rename_i c
      cases e; cases r; exact ⟨big_line c, rfl⟩
    · cases e
  · rename_i n'
    split at e
    · rename_i l q
      cases e
      exact seq l (by dsimp only [sqV]; rw [q]) rfl
    · rename_i l q
      cases e
      obtain ⟨a, ha, rfl⟩ := r
      obtain ⟨vs, h1, h2⟩ := k.ok _ a _ ha q
      exact .inl ⟨vs, SqL.of h1, h2.length.symm⟩
    · cases e
  · obtain ⟨l, h1, h2⟩ := Option.bind_eq_some_iff.mp e
    cases h2
    exact seq l h1 rfl
end
section
variable {X : Cx} {a b c e0 : Expr} {es : List Expr} {f g : FE} {ga : FA} {pos p : Pos}
/-- a built-in function by its name: what its arguments are worth -/
theorem eo_cb {K : PySem.W.Frag} {mg : Str → Option Value} {ta : TA} {r : List V → Hp → VK → Prop} {o : S → List L → Option L} (ha : AO K mg ta ga) (hr : CO K mg r o) : EO K mg (tCB r ta) (fCall o ga) := by
  intro w0 w s s' ρ σ l Q F e q
  obtain ⟨⟨x, s1⟩, e1, e⟩ := Option.bind_eq_some_iff.mp e
  obtain ⟨z, e3, e⟩ := Option.bind_eq_some_iff.mp e
  cases e
  refine ha w0 w s _ ρ σ x _ F e1 fun v w1 st1 F1 r1 => ?_
  exact hr w1 _ v x _ Q F1.wk r1 e3 fun v3 w3 st3 k3 r3 => q v3 w3 (st1.trans st3) (F1.step st3 k3) r3
theorem se_cb {id : String} {x : Str} {r : List V → Hp → VK → Prop} {o : S → List L → Option L} (hc : CallR X (.builtin id) r) (hr : CO X.K X.mg r o) (hg : Gl X x) (hm : X.mg x = none) (hv : bootBuiltins x = some (.builtin id)) (ha : SA X (e0 :: es) ga)
    (hn : x ≠ "__name__" := by decide) (hdb : (x == ("__debug__" : Str)) = false := by decide) (he : starEach (e0 :: es) X.env = (false, eval e0 X.env) :: starEach es X.env := by rfl) (hpl : (backTo pos (starEach es X.env)).any (·.1) = false := by rfl) :
    SE X (.Call (.Name x p) (e0 :: es) [] pos) (fCall o ga) := by
  obtain ⟨ta, pa, ea⟩ := ha.ex
  exact ⟨_, pe_callB hc hg hm hv pa hn hdb he hpl, eo_cb ea hr⟩
theorem se_cty {id : String} {x : Str} {r : List V → Hp → VK → Prop} {o : S → List L → Option L} (hc : CallR X (.type id) r) (hr : CO X.K X.mg r o) (hg : Gl X x) (hm : X.mg x = none) (hv : bootBuiltins x = some (.type id)) (ha : SA X (e0 :: es) ga)
    (hn : x ≠ "__name__" := by decide) (hdb : (x == ("__debug__" : Str)) = false := by decide) (he : starEach (e0 :: es) X.env = (false, eval e0 X.env) :: starEach es X.env := by rfl) (hpl : (backTo pos (starEach es X.env)).any (·.1) = false := by rfl) :
    SE X (.Call (.Name x p) (e0 :: es) [] pos) (fCall o ga) := by
  obtain ⟨ta, pa, ea⟩ := ha.ex
  exact ⟨_, pe_callTy hc hg hm hv pa hn hdb he hpl, eo_cb ea hr⟩
theorem co_len {K : PySem.W.Frag} {mg : Str → Option Value} : CO K mg (fun xs H Q => ∃ x n, xs = [x] ∧ LenV K x H n ∧ Q (.int n) H) oLen := by
  intro w s x lx l Q k r e q
  unfold oLen at e
  split at e
  · obtain ⟨n, e1, e⟩ := Option.bind_eq_some_iff.mp e
    cases e
    obtain ⟨v, rfl, r1⟩ := a2_one r
    exact ⟨v, n, rfl, lenL_at k r1 e1, q _ w (Stp.refl w) k (.int _)⟩
  · cases e
theorem se_len (hg : Gl X "len") (hm : X.mg "len" = none) (ha : SA X [a] ga) (he : starEach [a] X.env = (false, eval a X.env) :: starEach [] X.env := by rfl) : SE X (.Call (.Name "len" p) [a] [] pos) (fCall oLen ga) :=
  se_cb call_len co_len hg hm boot_len ha (by decide) (by decide) he
theorem co_tuple {K : PySem.W.Frag} {mg : Str → Option Value} : CO K mg (fun xs H Q => ∃ p ys, xs = [.ref p] ∧ ((SqL K H p ys ∧ ∀ l, H l = none → Q (.ref l) (upd H l (.tup ys))) ∨ (SqT K H p ys ∧ Q (.ref p) H))) oTuple := by
  intro w s x lx l Q k r e q
  unfold oTuple at e
  split at e
  · obtain ⟨v, rfl, r1⟩ := a2_one r
    split at e
    · rename_i l e1
      cases e
      obtain ⟨a, vs, rfl, h1, h2⟩ := tpV_at r1 e1
      exact ⟨a, vs, rfl, .inr ⟨sqT_mono k.ex h1, q _ w (Stp.refl w) k (.tup h1 (dpAll_iff.mpr h2))⟩⟩
    · obtain ⟨l, e1, e⟩ := Option.bind_eq_some_iff.mp e
      cases e
      obtain ⟨a, vs, rfl, h1, h2⟩ := lstV_at k r1 e1
      exact ⟨a, vs, rfl, .inl ⟨h1, fun p hp => new_tup k hp h2 q⟩⟩
  · cases e
theorem se_tuple (hg : Gl X "tuple") (hm : X.mg "tuple" = none) (ha : SA X [a] ga) (he : starEach [a] X.env = (false, eval a X.env) :: starEach [] X.env := by rfl) : SE X (.Call (.Name "tuple" p) [a] [] pos) (fCall oTuple ga) :=
  se_cty call_tuple_of co_tuple hg hm PyProof.Rows.boot_tuple ha (by decide) (by decide) he
theorem co_int {K : PySem.W.Frag} {mg : Str → Option Value} : CO K mg (fun xs H Q => (∃ i, xs = [.int i] ∧ Q (.int i) H) ∨ ∃ k, xs = [.bl k] ∧ Q (.int (if k then 1 else 0)) H) oInt := by
  intro w s x lx l Q k r e q
  unfold oInt at e
  split at e
  · cases e
    obtain ⟨v, rfl, r1⟩ := a2_one r
    cases r1
    exact .inl ⟨_, rfl, q _ w (Stp.refl w) k (.int _)⟩
  · cases e
    obtain ⟨v, rfl, r1⟩ := a2_one r
    cases r1
    exact .inr ⟨_, rfl, q _ w (Stp.refl w) k (.int _)⟩
  · cases e
theorem se_intc (hg : Gl X "int") (hm : X.mg "int" = none) (ha : SA X [a] ga) (he : starEach [a] X.env = (false, eval a X.env) :: starEach [] X.env := by rfl) : SE X (.Call (.Name "int" p) [a] [] pos) (fCall oInt ga) :=
  se_cty call_int1 co_int hg hm PyProof.Rows.boot_int ha (by decide) (by decide) he
theorem co_max2 {K : PySem.W.Frag} {mg : Str → Option Value} : CO K mg (fun xs H Q => ∃ i j, xs = [.int i, .int j] ∧ Q (.int (if j > i then j else i)) H) oMax2 := by
  intro w s x lx l Q k r e q
  unfold oMax2 at e
  split at e
  · cases e
    obtain ⟨v, u, rfl, r1, r2⟩ := a2_two r
    cases r1; cases r2
    exact ⟨_, _, rfl, q _ w (Stp.refl w) k (.int _)⟩
  · cases e
theorem co_min2 {K : PySem.W.Frag} {mg : Str → Option Value} : CO K mg (fun xs H Q => ∃ i j, xs = [.int i, .int j] ∧ Q (.int (if j < i then j else i)) H) oMin2 := by
  intro w s x lx l Q k r e q
  unfold oMin2 at e
  split at e
  · cases e
    obtain ⟨v, u, rfl, r1, r2⟩ := a2_two r
    cases r1; cases r2
    exact ⟨_, _, rfl, q _ w (Stp.refl w) k (.int _)⟩
  · cases e
theorem boot_max : bootBuiltins "max" = some (.builtin "max") := by decide +kernel
theorem boot_min : bootBuiltins "min" = some (.builtin "min") := by decide +kernel
theorem boot_all : bootBuiltins "all" = some (.builtin "all") := by decide +kernel
theorem boot_any : bootBuiltins "any" = some (.builtin "any") := by decide +kernel
theorem boot_sum : bootBuiltins "sum" = some (.builtin "sum") := by decide +kernel
theorem boot_sorted : bootBuiltins "sorted" = some (.builtin "sorted") := by decide +kernel
theorem se_max2 (hc : X.calm = true) (hg : Gl X "max") (hm : X.mg "max" = none) (ha : SA X [a, b] ga) (he : starEach [a, b] X.env = (false, eval a X.env) :: starEach [b] X.env := by rfl) (hpl : (backTo pos (starEach [b] X.env)).any (·.1) = false := by rfl) : SE X (.Call (.Name "max" p) [a, b] [] pos) (fCall oMax2 ga) :=
  se_cb (call_max2 hc) co_max2 hg hm boot_max ha (by decide) (by decide) he hpl
theorem se_min2 (hc : X.calm = true) (hg : Gl X "min") (hm : X.mg "min" = none) (ha : SA X [a, b] ga) (he : starEach [a, b] X.env = (false, eval a X.env) :: starEach [b] X.env := by rfl) (hpl : (backTo pos (starEach [b] X.env)).any (·.1) = false := by rfl) : SE X (.Call (.Name "min" p) [a, b] [] pos) (fCall oMin2 ga) :=
  se_cb (call_min2 hc) co_min2 hg hm boot_min ha (by decide) (by decide) he hpl
theorem co_sum {K : PySem.W.Frag} {mg : Str → Option Value} : CO K mg (rSum K) oSum := by
  intro w s x lx l Q k r e q
  unfold oSum at e
  split at e
  · obtain ⟨ds, e1, e⟩ := Option.bind_eq_some_iff.mp e
    obtain ⟨is, e2, e⟩ := Option.bind_eq_some_iff.mp e
    cases e
    obtain ⟨v, rfl, r1⟩ := a2_one r
    obtain ⟨a, vs, rfl, h1, h2⟩ := lstV_at k r1 e1
    obtain ⟨rfl, _⟩ := ints_at h2 e2
    exact ⟨a, is, rfl, h1, q _ w (Stp.refl w) k (.int _)⟩
  · cases e
theorem co_maxL {K : PySem.W.Frag} {mg : Str → Option Value} : CO K mg (rMax K) oMaxL := by
  intro w s x lx l Q k r e q
  unfold oMaxL at e
  split at e
  · obtain ⟨ds, e1, e⟩ := Option.bind_eq_some_iff.mp e
    obtain ⟨is, e2, e⟩ := Option.bind_eq_some_iff.mp e
    split at e
    · rename_i c
      cases e
      obtain ⟨v, rfl, r1⟩ := a2_one r
      obtain ⟨a, vs, rfl, h1, h2⟩ := lstV_at k r1 e1
      obtain ⟨rfl, _⟩ := ints_at h2 e2
      exact ⟨a, is, rfl, h1, c, fun m hm hle => by rw [← maxOf_is hm hle]; exact q _ w (Stp.refl w) k (.int _)⟩
    · cases e
  · cases e
theorem co_minL {K : PySem.W.Frag} {mg : Str → Option Value} : CO K mg (rMin K) oMinL := by
  intro w s x lx l Q k r e q
  unfold oMinL at e
  split at e
  · obtain ⟨ds, e1, e⟩ := Option.bind_eq_some_iff.mp e
    obtain ⟨is, e2, e⟩ := Option.bind_eq_some_iff.mp e
    split at e
    · rename_i c
      cases e
      obtain ⟨v, rfl, r1⟩ := a2_one r
      obtain ⟨a, vs, rfl, h1, h2⟩ := lstV_at k r1 e1
      obtain ⟨rfl, _⟩ := ints_at h2 e2
      exact ⟨a, is, rfl, h1, c, fun m hm hle => by rw [← minOf_is hm hle]; exact q _ w (Stp.refl w) k (.int _)⟩
    · cases e
  · cases e
theorem co_all {K : PySem.W.Frag} {mg : Str → Option Value} : CO K mg (rAll K) oAll := by
  intro w s x lx l Q k r e q
  unfold oAll at e
  split at e
  · obtain ⟨ds, e1, e⟩ := Option.bind_eq_some_iff.mp e
    obtain ⟨is, e2, e⟩ := Option.bind_eq_some_iff.mp e
    cases e
    obtain ⟨v, rfl, r1⟩ := a2_one r
    obtain ⟨a, vs, rfl, h1, h2⟩ := lstV_at k r1 e1
    obtain rfl := bools_at h2 e2
    exact ⟨a, is, rfl, h1, q _ w (Stp.refl w) k (.bl _)⟩
  · cases e
theorem co_any {K : PySem.W.Frag} {mg : Str → Option Value} : CO K mg (rAny K) oAny := by
  intro w s x lx l Q k r e q
  unfold oAny at e
  split at e
  · obtain ⟨ds, e1, e⟩ := Option.bind_eq_some_iff.mp e
    obtain ⟨is, e2, e⟩ := Option.bind_eq_some_iff.mp e
    cases e
    obtain ⟨v, rfl, r1⟩ := a2_one r
    obtain ⟨a, vs, rfl, h1, h2⟩ := lstV_at k r1 e1
    obtain rfl := bools_at h2 e2
    exact ⟨a, is, rfl, h1, q _ w (Stp.refl w) k (.bl _)⟩
  · cases e
theorem se_sum (hc : X.calm = true) (hg : Gl X "sum") (hm : X.mg "sum" = none) (ha : SA X [a] ga) (he : starEach [a] X.env = (false, eval a X.env) :: starEach [] X.env := by rfl) : SE X (.Call (.Name "sum" p) [a] [] pos) (fCall oSum ga) :=
  se_cb (cr_sum hc) co_sum hg hm boot_sum ha (by decide) (by decide) he
theorem se_maxL (hc : X.calm = true) (hg : Gl X "max") (hm : X.mg "max" = none) (ha : SA X [a] ga) (he : starEach [a] X.env = (false, eval a X.env) :: starEach [] X.env := by rfl) : SE X (.Call (.Name "max" p) [a] [] pos) (fCall oMaxL ga) :=
  se_cb (cr_max hc) co_maxL hg hm boot_max ha (by decide) (by decide) he
theorem se_minL (hc : X.calm = true) (hg : Gl X "min") (hm : X.mg "min" = none) (ha : SA X [a] ga) (he : starEach [a] X.env = (false, eval a X.env) :: starEach [] X.env := by rfl) : SE X (.Call (.Name "min" p) [a] [] pos) (fCall oMinL ga) :=
  se_cb (cr_min hc) co_minL hg hm boot_min ha (by decide) (by decide) he
theorem se_all (hc : X.calm = true) (hg : Gl X "all") (hm : X.mg "all" = none) (ha : SA X [a] ga) (he : starEach [a] X.env = (false, eval a X.env) :: starEach [] X.env := by rfl) : SE X (.Call (.Name "all" p) [a] [] pos) (fCall oAll ga) :=
  se_cb (cr_all hc) co_all hg hm boot_all ha (by decide) (by decide) he
theorem se_any (hc : X.calm = true) (hg : Gl X "any") (hm : X.mg "any" = none) (ha : SA X [a] ga) (he : starEach [a] X.env = (false, eval a X.env) :: starEach [] X.env := by rfl) : SE X (.Call (.Name "any" p) [a] [] pos) (fCall oAny ga) :=
  se_cb (cr_any hc) co_any hg hm boot_any ha (by decide) (by decide) he
theorem sf_list (hg : Gl X "list") (hm : X.mg "list" = none) (ha : SA X [a] ga) (he : starEach [a] X.env = (false, eval a X.env) :: starEach [] X.env := by rfl) : SF X (.Call (.Name "list" p) [a] [] pos) (fCallF oList ga) := by
  obtain ⟨ta, pa, ea⟩ := ha.ex
  refine ⟨_, pe_callTy call_list_of hg hm PyProof.Rows.boot_list pa (by decide) (by decide) he, fun w0 w s s' ρ σ r Q F e q => ?_⟩
  obtain ⟨⟨x, s1⟩, e1, e⟩ := Option.bind_eq_some_iff.mp e
  obtain ⟨z, e3, e⟩ := Option.bind_eq_some_iff.mp e
  cases e
  refine ea w0 w s _ ρ σ x _ F e1 fun v w1 st1 F1 r1 => ?_
  have e3 : oList s1 x = some r := e3
  unfold oList at e3
  split at e3
  · obtain ⟨v, rfl, r2⟩ := a2_one r1
    obtain ⟨A, vs, rfl, h1, h2⟩ := sqV_at F1.wk r2 e3
    refine ⟨A, vs, rfl, h1, fun p hp => ?_⟩
    obtain ⟨st4, k4, nB, nm⟩ := F1.wk.own (o := .lst vs) hp
    exact q p _ _ (st1.trans st4) (F1.step st4 k4) (st1.lv p hp) nm nB upd_same (st4.dps h2)
  · cases e3
theorem isort_is {l l' : List Int} (h : l'.Perm l) (p : l'.Pairwise (· ≤ ·)) : l' = isort l := by
  have p2 : (isort l).Pairwise (· ≤ ·) := by
    have := List.pairwise_mergeSort (le := fun a b : Int => decide (a ≤ b)) (fun a b c h1 h2 => by simp at *; omega) (fun a b => by simp; omega) l
    exact this.imp fun h => by simpa using h
  have e := (h.trans (List.mergeSort_perm l (fun a b => decide (a ≤ b))).symm)
  exact e.eq_of_pairwise (fun a b _ _ h1 h2 => by omega) p p2
theorem a2_ints {is : List Int} {B : Hp} {K : PySem.W.Frag} : A2 (Dq K B) (is.map V.int) (is.map PyData.int) := by
  induction is with
  | nil => exact .nil
  | cons i r ih => exact .cons (.int i) ih
theorem sf_sorted (hg : Gl X "sorted") (hm : X.mg "sorted" = none) (ha : SA X [a] ga) (he : starEach [a] X.env = (false, eval a X.env) :: starEach [] X.env := by rfl) : SF X (.Call (.Name "sorted" p) [a] [] pos) (fCallF oSorted ga) := by
  obtain ⟨ta, pa, ea⟩ := ha.ex
  refine ⟨_, pe_callB cr_sortedI hg hm boot_sorted pa (by decide) (by decide) he, fun w0 w s s' ρ σ r Q F e q => ?_⟩
  obtain ⟨⟨x, s1⟩, e1, e⟩ := Option.bind_eq_some_iff.mp e
  obtain ⟨z, e3, e⟩ := Option.bind_eq_some_iff.mp e
  cases e
  refine ea w0 w s _ ρ σ x _ F e1 fun v w1 st1 F1 r1 => ?_
  have e3 : oSorted s1 x = some r := e3
  unfold oSorted at e3
  split at e3
  · obtain ⟨v, rfl, r2⟩ := a2_one r1
    obtain ⟨ds, e4, e3⟩ := Option.bind_eq_some_iff.mp e3
    obtain ⟨is, e5, e3⟩ := Option.bind_eq_some_iff.mp e3
    cases e3
    obtain ⟨A, vs, rfl, h1, h2⟩ := lstV_at F1.wk r2 e4
    obtain ⟨rfl, _⟩ := ints_at h2 e5
    refine ⟨A, is, rfl, h1, fun ns' p pm pw hp => ?_⟩
    obtain ⟨st4, k4, nB, nm⟩ := F1.wk.own (o := .lst (ns'.map V.int)) hp
    rw [isort_is pm pw] at *
    exact q p _ _ (st1.trans st4) (F1.step st4 k4) (st1.lv p hp) nm nB upd_same a2_ints
  · cases e3
end
end Zz
set_option Elab.async false
set_option linter.all false
/-! ZF: isinstance, attributes, calls of defs, methods, classes; methods of lists -/
namespace Zz
open PySem L2
/-! ### isinstance -/
def tyL (s : S) : L → Option String
  | .im .none => some "NoneType"
  | .im (.bool _) => some "bool"
  | .im (.int _) => some "int"
  | .im (.str _) => some "str"
  | .im (.list _) => some "list"
  | .im (.tuple _) => some "tuple"
  | .ow _ => some "list"
  | .rf n => match s[n]? with
    | some (.dl _) => some "list"
    | some (.rl _) => some "list"
    | _ => none
  | _ => none
def isT (n : String) (t : String) : Bool := t == n || (t == "bool" && n == "int")
def fIsi (n : String) (f : FE) : FE := fun ρ s => (f ρ s).bind fun p => (tyL p.2 p.1).bind fun t => some (.im (.bool (isT n t)), p.2)
section
variable {K : PySem.W.Frag} {mg : Str → Option Value} {w : Wd} {s : S}
theorem tyL_at (k : Wok K mg w s) {v : V} {x : L} {t : String} (r : Lv K w v x) (e : tyL s x = some t) : TyX K w.H v (.type t) ∧ (t = "NoneType" ∨ t = "bool" ∨ t = "int" ∨ t = "str" ∨ t = "list" ∨ t = "tuple") := by
  have viaL : ∀ l, lsV s x = some l → t = "list" → TyX K w.H v (.type t) := fun l h q => by
    obtain ⟨a, vs, rfl, h2, h3⟩ := lsV_at k r h
    rw [q]; exact .base (.lst h2)
  unfold tyL at e
  split at e
  · cases e; cases r; exact ⟨.base .non, by simp⟩
  · cases e; cases r; exact ⟨.base (.bl _), by simp⟩
  · cases e; cases r; exact ⟨.base (.int _), by simp⟩
  · cases e; cases r; exact ⟨.base (.str _), by simp⟩
  · cases e; exact ⟨viaL _ rfl rfl, by simp⟩
  · cases e
    refine ⟨?_, by simp⟩
    obtain ⟨a, vs, rfl, h1, h2⟩ := tpV_at r rfl
    rcases sqT_mono k.ex h1 with (h | ⟨o, h⟩) | ⟨o, its, n, h, hc, _⟩
    · exact .base (.tup h)
    · exact .fTuple h
    · exact .kTuple h hc
  · cases e; exact ⟨viaL _ rfl rfl, by simp⟩
  · split at e
    · rename_i l q
      cases e; exact ⟨viaL l (by dsimp only [lsV]; rw [q]) rfl, by simp⟩
    · rename_i l q
      cases e
      obtain ⟨a, ha, rfl⟩ := r
      obtain ⟨vs, h1, h2⟩ := k.ok _ a _ ha q
      exact ⟨.base (.lst h1), by simp⟩
    · cases e
  · cases e
end
section
variable {X : Cx} {a b c : Expr} {f g : FE} {pos p p2 : Pos}
theorem se_isi {n : String} {x : Str} (hg : Gl X "isinstance") (hm : X.mg "isinstance" = none) (hgx : Gl X x) (hmx : X.mg x = none) (hv : bootBuiltins x = some (.type n)) (ha : SE X a f)
    (hk : kitB "NoneType" n = some (isT n "NoneType") ∧ kitB "bool" n = some (isT n "bool") ∧ kitB "int" n = some (isT n "int") ∧ kitB "str" n = some (isT n "str") ∧ kitB "list" n = some (isT n "list") ∧ kitB "tuple" n = some (isT n "tuple"))
    (hn : x ≠ "__name__" := by decide) (hd : (x == ("__debug__" : Str)) = false := by decide)
    (he : starEach [a, .Name x p2] X.env = (false, eval a X.env) :: starEach [.Name x p2] X.env := by rfl) (he2 : starEach [.Name x p2] X.env = (false, eval (.Name x p2) X.env) :: starEach [] X.env := by rfl)
    (hpl : (backTo pos (starEach [.Name x p2] X.env)).any (·.1) = false := by rfl) :
    SE X (.Call (.Name "isinstance" p) [a, .Name x p2] [] pos) (fIsi n f) := by
  obtain ⟨ta, pa, ea⟩ := ha.ex
  refine ⟨_, pe_callB call_isi hg hm PyProof.Rows.boot_isinstance (pa_cons pa (pa_cons (pe_bltn (v := .ty n) hgx hmx hv rfl hn hd) pa_nil he2) he) (by decide) (by decide) he hpl, fun w0 w s s' ρ σ r Q F e q => ?_⟩
  obtain ⟨⟨x, s1⟩, e1, e⟩ := Option.bind_eq_some_iff.mp e
  obtain ⟨t, e2, e⟩ := Option.bind_eq_some_iff.mp e
  cases e
  refine ea w0 w s _ ρ σ x _ F e1 fun v w1 st1 F1 r1 => ?_
  obtain ⟨h1, h2⟩ := tyL_at F1.wk r1 e2
  refine ⟨v, .ty n, .type t, .type n, isT n t, rfl, .ty n, h1, kit_ty ?_, q _ w1 st1 F1 (.bl _)⟩
  obtain ⟨k1, k2, k3, k4, k5, k6⟩ := hk
  rcases h2 with z | z | z | z | z | z <;> rw [z] <;> assumption
end
theorem kit_tuple : kitB "NoneType" "tuple" = some (isT "tuple" "NoneType") ∧ kitB "bool" "tuple" = some (isT "tuple" "bool") ∧ kitB "int" "tuple" = some (isT "tuple" "int") ∧ kitB "str" "tuple" = some (isT "tuple" "str") ∧ kitB "list" "tuple" = some (isT "tuple" "list") ∧ kitB "tuple" "tuple" = some (isT "tuple" "tuple") := by decide +kernel
theorem kit_list : kitB "NoneType" "list" = some (isT "list" "NoneType") ∧ kitB "bool" "list" = some (isT "list" "bool") ∧ kitB "int" "list" = some (isT "list" "int") ∧ kitB "str" "list" = some (isT "list" "str") ∧ kitB "list" "list" = some (isT "list" "list") ∧ kitB "tuple" "list" = some (isT "list" "tuple") := by decide +kernel
theorem kit_bool : kitB "NoneType" "bool" = some (isT "bool" "NoneType") ∧ kitB "bool" "bool" = some (isT "bool" "bool") ∧ kitB "int" "bool" = some (isT "bool" "int") ∧ kitB "str" "bool" = some (isT "bool" "str") ∧ kitB "list" "bool" = some (isT "bool" "list") ∧ kitB "tuple" "bool" = some (isT "bool" "tuple") := by decide +kernel
theorem kit_int : kitB "NoneType" "int" = some (isT "int" "NoneType") ∧ kitB "bool" "int" = some (isT "int" "bool") ∧ kitB "int" "int" = some (isT "int" "int") ∧ kitB "str" "int" = some (isT "int" "str") ∧ kitB "list" "int" = some (isT "int" "list") ∧ kitB "tuple" "int" = some (isT "int" "tuple") := by decide +kernel
theorem kit_str : kitB "NoneType" "str" = some (isT "str" "NoneType") ∧ kitB "bool" "str" = some (isT "str" "bool") ∧ kitB "int" "str" = some (isT "str" "int") ∧ kitB "str" "str" = some (isT "str" "str") ∧ kitB "list" "str" = some (isT "str" "list") ∧ kitB "tuple" "str" = some (isT "str" "tuple") := by decide +kernel
/-! ### attributes -/
structure FldOk (K : PySem.W.Frag) (mg : Str → Option Value) (c f : Str) : Prop where
  ex : ∃ C, mg c = some (.ref C) ∧ Cls K C ∧ NoAttr K C f
def lkp {α : Type} (f : Str) : List (Str × α) → Option α
  | [] => none
  | (g, x) :: r => if f = g then some x else lkp f r
def putA {α : Type} (f : Str) (x : α) : List (Str × α) → List (Str × α)
  | [] => [(f, x)]
  | (g, y) :: r => if f = g then (f, x) :: r else (g, y) :: putA f x r
def fFld (c f : Str) (h : FE) : FE := fun ρ s => (h ρ s).bind fun p => match p.1 with
  | .rf n => match p.2[n]? with
    | some (.ins c' fs) => if c' = c then (lkp f fs).bind fun l => if keepable l = true then some (l, p.2) else none else none
    | _ => none
  | _ => none
section
variable {K : PySem.W.Frag} {mg : Str → Option Value} {w : Wd} {s : S}
abbrev FsR (K : PySem.W.Frag) (w : Wd) : (Str × V) → (Str × L) → Prop := fun p q => p.1 = q.1 ∧ Kv K w p.2 q.2
theorem lkp_at {f : Str} : ∀ {hs : List (Str × V)} {fs : List (Str × L)} {l : L}, A2 (FsR K w) hs fs → lkp f fs = some l → ∃ v, hs.lookup f = some v ∧ Kv K w v l
  | _, _, _, .nil, e => by cases e
  | (g, x) :: r, (g', y) :: r', l, .cons h t, e => by
    obtain ⟨rfl, h2⟩ := h
    dsimp only [lkp] at e
    by_cases z : f = g
    · rw [if_pos z] at e
      cases e
      subst z
      exact ⟨x, by simp [List.lookup], h2⟩
    · rw [if_neg z] at e
      obtain ⟨v, h3, h4⟩ := lkp_at t e
      refine ⟨v, ?_, h4⟩
      have : (f == g) = false := by simpa using z
      simp [List.lookup, this, h3]
theorem lkp_none {f : Str} : ∀ {hs : List (Str × V)} {fs : List (Str × L)}, A2 (FsR K w) hs fs → lkp f fs = none → hs.lookup f = none
  | _, _, .nil, e => rfl
  | (g, x) :: r, (g', y) :: r', .cons h t, e => by
    obtain ⟨rfl, h2⟩ := h
    dsimp only [lkp] at e
    by_cases z : f = g
    · rw [if_pos z] at e; cases e
    · rw [if_neg z] at e
      have : (f == g) = false := by simpa using z
      simp [List.lookup, this, lkp_none t e]
theorem putA_at {f : Str} {v : V} {l : L} (k : Kv K w v l) : ∀ {hs : List (Str × V)} {fs : List (Str × L)}, A2 (FsR K w) hs fs → A2 (FsR K w) (putF f v hs) (putA f l fs)
  | _, _, .nil => .cons ⟨rfl, k⟩ .nil
  | (g, x) :: r, (g', y) :: r', .cons h t => by
    obtain ⟨rfl, h2⟩ := h
    show A2 _ (if g = f then (g, v) :: r else (g, x) :: putF f v r) (if f = g then (f, l) :: r' else (g, y) :: putA f l r')
    by_cases z : f = g
    · subst z
      rw [if_pos rfl, if_pos rfl]; exact .cons ⟨rfl, k⟩ t
    · rw [if_neg z, if_neg (fun q => z q.symm)]; exact .cons ⟨rfl, h2⟩ (putA_at k t)
end
section
variable {X : Cx} {a b c : Expr} {f g : FE} {pos p p2 : Pos}
theorem se_fld {cn fn : Str} (hF : FldOk X.K X.mg cn fn) (ha : SE X a f) (hb : attributeBase a fn X.env (eval a X.env) = eval a X.env := by rfl) : SE X (.Attribute a fn pos) (fFld cn fn f) := by
  obtain ⟨ta, pa, ea⟩ := ha.ex
  obtain ⟨C, hC, hcl, hna⟩ := hF.ex
  refine ⟨_, pe_fld pa hb, fun w0 w s s' ρ σ r Q F e q => ?_⟩
  obtain ⟨⟨x, s1⟩, e1, e⟩ := Option.bind_eq_some_iff.mp e
  refine ea w0 w s s1 ρ σ x _ F e1 fun v w1 st1 F1 r1 => ?_
  dsimp only at e
  split at e
  · split at e
    · rename_i n _ c' fs e2
      split at e
      · rename_i ec
        obtain ⟨l, e3, e⟩ := Option.bind_eq_some_iff.mp e
        split at e
        · cases e
          subst ec
          obtain ⟨A, hA, rfl⟩ := r1
          obtain ⟨C', dx, hs, h1, h2, h3⟩ := F1.wk.ok _ A _ hA e2
          have eC : C' = C := by
            have := h1.symm.trans hC
            cases this; rfl
          subst eC
          obtain ⟨v, h4, h5⟩ := lkp_at h3 e3
          exact ⟨A, C', dx, hs, v, rfl, h2, hcl, hna, h4, q v w1 st1 F1 (lv_kv h5)⟩
        · cases e
      · cases e
    · cases e
  · cases e
end
/-! ### promises of defs -/
/-- a def that may use and change the store -/
def spG (K : PySem.W.Frag) (mg : Str → Option Value) (n : Nat) (F : List L → S → Option (L × S)) : Sp := fun vs H Q _ => ∃ (w : Wd) (s : S) (ls : List L) (r : L) (s' : S), w.H = H ∧ Wok K mg w s ∧ A2 (Kv K w) vs ls ∧ ls.length = n ∧ F ls s = some (r, s') ∧ ∀ v w', Stp w w' → Wok K mg w' s' → Kv K w' v r → Q v w'.H
/-- a def that leaves what there is: data to data -/
def spP (K : PySem.W.Frag) (n : Nat) (F : List D → Option D) : Sp := fun vs H Q _ => ∃ (B : Hp) (ds : List D) (d : D), (∀ a o, B a = some o → H a = some o) ∧ A2 (Dq K B) vs ds ∧ ds.length = n ∧ F ds = some d ∧
  ∀ v B' H', (∀ a o, B a = some o → B' a = some o) → (∀ a o, B' a = some o → H' a = some o) → (∀ a, B a = none → B' a ≠ none → H a = none) → (∀ a o, H a = some o → H' a = some o) → Dq K B' v d → Q v H'
structure Cl (P : Program) (w : World) (K : PySem.W.Frag) (mg : Str → Option Value) (base : Heap) (k : Nat) (x : Str) (sp : Sp) : Prop where
  ex : ∃ (f : Addr) (fd : FuncData) (ps : List Str), FnOk P w K mg base L2.CX0 k f fd ps sp ∧ mg x = some (.ref f) ∧ PySem.W.keepIn K (.ref f) = true ∧ Binds K fd ps []
structure Mt (P : Program) (w : World) (K : PySem.W.Frag) (mg : Str → Option Value) (base : Heap) (k : Nat) (c m : Str) (sp : Sp) : Prop where
  ex : ∃ (C f : Addr) (fd : FuncData) (ps : List Str), mg c = some (.ref C) ∧ Cls K C ∧ Meth K C m f ∧ FnOk P w K mg base L2.CX0 k f fd ps sp ∧ Binds K fd ps []
structure Mq (P : Program) (w : World) (K : PySem.W.Frag) (mg : Str → Option Value) (base : Heap) (k : Nat) (c : Str) (sp : Sp) : Prop where
  ex : ∃ (C f : Addr) (fd : FuncData) (ps : List Str), mg c = some (.ref C) ∧ Mk K C f ∧ FnOk P w K mg base L2.CX0 k f fd ps sp ∧ Binds K fd ps []
def fCallG (n : Nat) (F : List L → S → Option (L × S)) (g : FA) : FE := fun ρ s => (g ρ s).bind fun p => if p.1.all keepable = true ∧ p.1.length = n then (F p.1 p.2).bind fun r => if keepable r.1 = true then some r else none else none
def vwAll (s : S) : List L → Option (List D)
  | [] => some []
  | x :: r => (match x with
    | .im d => some d
    | x => (lsV s x).bind fun l => some (.list l)).bind fun d => (vwAll s r).bind fun l => some (d :: l)
def fCallP (n : Nat) (F : List D → Option D) (g : FA) : FE := fun ρ s => (g ρ s).bind fun p => match imAll p.1 with
  | some ds => if ds.length = n then (F ds).bind fun d => some (.im d, p.2) else none
  | none => (vwAll p.2 p.1).bind fun ds => if ds.length = n then (F ds).bind fun d => if flatD d = true then some (.im d, p.2) else none else none
/-- a method of objects of a class -/
def fMethG (c : Str) (m : Str) (n : Nat) (F : List L → S → Option (L × S)) (h : FE) (g : FA) : FE := fun ρ s => (h ρ s).bind fun o => match o.1 with
  | .rf i => match o.2[i]? with
    | some (.ins c' fs) => if c' = c ∧ (lkp m fs).isNone = true then (g ρ o.2).bind fun p => if p.1.all keepable = true ∧ p.1.length + 1 = n then (F (.rf i :: p.1) p.2).bind fun r => if keepable r.1 = true then some r else none else none else none
    | _ => none
  | _ => none
def fMake (c : Str) (n : Nat) (F : List L → S → Option (L × S)) (g : FA) : FE := fun ρ s => (g ρ s).bind fun p => if p.1.all keepable = true ∧ p.1.length + 1 = n then (F (.rf p.2.length :: p.1) (p.2 ++ [.ins c []])).bind fun r => match r.1 with
    | .im .none => some (.rf p.2.length, r.2)
    | _ => none
  else none
section
variable {K : PySem.W.Frag} {mg : Str → Option Value} {w : Wd} {s : S}
theorem vwAll_at (k : Wok K mg w s) : ∀ {xs : List L} {vs : List V} {l : List D}, A2 (Lv K w) vs xs → vwAll s xs = some l → A2 (Dq K w.H) vs l
  | [], _, _, .nil, e => by cases e; exact .nil
  | x :: r, v :: _, _, .cons h t, e => by
    obtain ⟨d, e0, e⟩ := Option.bind_eq_some_iff.mp e
    obtain ⟨l, e1, e⟩ := Option.bind_eq_some_iff.mp e
    cases e
    refine .cons ?_ (vwAll_at k t e1)
    have viaL : ∀ d, ((lsV s x).bind fun l => some (PyData.list l)) = some d → Dq K w.H v d := fun d e => by
      obtain ⟨l, e2, e⟩ := Option.bind_eq_some_iff.mp e
      cases e
      obtain ⟨a, vs, rfl, h2, h3⟩ := lsV_at k h e2
      exact dq_list h2 k h3
    cases x with
    | im d => cases e0; exact dp_mono k.ex _ _ h
    | rf n => exact viaL d e0
    | ow l => exact viaL d e0
    | sc l => exact viaL d e0
theorem kv_lv {v : V} {x : L} (h : Kv K w v x) : Lv K w v x := lv_kv h
end
section
variable {X : Cx} {a b c e0 o : Expr} {es : List Expr} {f g h : FE} {ga : FA} {pos p p2 apos : Pos} {k j n : Nat} {x m cn : Str}
theorem eo_callG {K : PySem.W.Frag} {mg : Str → Option Value} {ta : TA} {F : List L → S → Option (L × S)} {E : XK} (ha : AO K mg ta ga) : EO K mg (tCall (spG K mg n F) [] E ta) (fCallG n F ga) := by
  intro w0 w s s' ρ σ l Q Fr e q
  obtain ⟨⟨x, s1⟩, e1, e⟩ := Option.bind_eq_some_iff.mp e
  split at e
  · rename_i hk
    obtain ⟨⟨r, s2⟩, e2, e⟩ := Option.bind_eq_some_iff.mp e
    split at e
    · cases e
      refine ha w0 w s _ ρ σ x _ Fr e1 fun v w1 st1 F1 r1 => ?_
      refine ⟨w1, s1, x, _, _, rfl, F1.wk, by rw [List.append_nil]; exact kvAll_of r1 hk.1, hk.2, e2, fun v3 w3 st3 k3 r3 => q v3 w3 (st1.trans st3) (F1.step st3 k3) (lv_kv r3)⟩
    · cases e
  · cases e
theorem flat_any {K : PySem.W.Frag} {B B' : Hp} {v : V} {d : D} (h : Dq K B v d) (f : flatD d = true) : Dq K B' v d := by
  cases h <;> first | exact .non | exact .bl _ | exact .int _ | exact .str _ | cases f
theorem eo_callP {K : PySem.W.Frag} {mg : Str → Option Value} {ta : TA} {F : List D → Option D} {E : XK} (ha : AO K mg ta ga) : EO K mg (tCall (spP K n F) [] E ta) (fCallP n F ga) := by
  intro w0 w s s' ρ σ l Q Fr e q
  obtain ⟨⟨x, s1⟩, e1, e⟩ := Option.bind_eq_some_iff.mp e
  refine ha w0 w s s1 ρ σ x _ Fr e1 fun v w1 st1 F1 r1 => ?_
  dsimp only at e
  split at e
  · rename_i ds e2
    split at e
    · rename_i hl
      obtain ⟨d, e3, e⟩ := Option.bind_eq_some_iff.mp e
      cases e
      refine ⟨w1.B, ds, d, F1.wk.ex, by rw [List.append_nil]; exact imAll_at r1 e2, hl, e3, fun u B' H' h1 h2 h3 h4 h5 => ?_⟩
      have st2 : Stp w1 ⟨w1.m, B', H'⟩ := by
        refine ⟨⟨[], by simp, by simp⟩, h1, h3, fun a o _ z => h4 a o z, fun a z => ?_⟩
        cases y : w1.H a with
        | none => rfl
        | some o =>
          have z : H' a = none := z
          rw [h4 a o y] at z; cases z
      refine q u ⟨w1.m, B', H'⟩ (st1.trans st2) (F1.step st2 ⟨h2, F1.wk.len, F1.wk.nd, fun a z => ?_, fun a z z' => F1.wk.live a z (st2.lv a z'), fun i a mo z z' => ?_⟩) h5
      · exact st2.keepB (F1.wk.fresh a z) (F1.wk.live a z)
      · have hm := F1.wk.ok i a mo z z'
        cases mo with
        | dl l => obtain ⟨vs, y1, y2⟩ := hm; exact ⟨vs, h4 _ _ y1, st2.dps y2⟩
        | rl l => obtain ⟨vs, y1, y2⟩ := hm; exact ⟨vs, h4 _ _ y1, y2.mono fun _ _ => st2.kv⟩
        | ins c fs => obtain ⟨C, dx, hs, y1, y2, y3⟩ := hm; exact ⟨C, dx, hs, y1, h4 _ _ y2, y3.mono fun _ _ y => ⟨y.1, st2.kv y.2⟩⟩
        | gone => exact True.intro
    · cases e
  · obtain ⟨ds, e2, e⟩ := Option.bind_eq_some_iff.mp e
    split at e
    · rename_i hl
      obtain ⟨d, e3, e⟩ := Option.bind_eq_some_iff.mp e
      split at e
      · rename_i hf
        cases e
        refine ⟨w1.H, ds, d, fun _ _ z => z, by rw [List.append_nil]; exact vwAll_at F1.wk r1 e2, hl, e3, fun u B' H' h1 h2 h3 h4 h5 => ?_⟩
        have st2 : Stp w1 ⟨w1.m, w1.B, H'⟩ := by
          refine ⟨⟨[], by simp, by simp⟩, fun _ _ z => z, fun a z z' => absurd z z', fun a o _ z => h4 a o z, fun a z => ?_⟩
          cases y : w1.H a with
          | none => rfl
          | some o =>
            have z : H' a = none := z
            rw [h4 a o y] at z; cases z
        refine q u ⟨w1.m, w1.B, H'⟩ (st1.trans st2) (F1.step st2 ⟨fun a o z => h4 a o (F1.wk.ex a o z), F1.wk.len, F1.wk.nd, F1.wk.fresh, fun a z z' => F1.wk.live a z (st2.lv a z'), fun i a mo z z' => ?_⟩) (flat_any h5 hf)
        have hm := F1.wk.ok i a mo z z'
        cases mo with
        | dl l => obtain ⟨vs, y1, y2⟩ := hm; exact ⟨vs, h4 _ _ y1, y2⟩
        | rl l => obtain ⟨vs, y1, y2⟩ := hm; exact ⟨vs, h4 _ _ y1, y2⟩
        | ins c fs => obtain ⟨C, dx, hs, y1, y2, y3⟩ := hm; exact ⟨C, dx, hs, y1, h4 _ _ y2, y3⟩
        | gone => exact True.intro
      · cases e
    · cases e
theorem se_callG {F : List L → S → Option (L × S)} (c : Cl X.prog X.w X.K X.mg X.base k x (spG X.K X.mg n F)) (hr : Room j X.A) (hk : k ≤ j) (hg : Gl X x) (ha : SA X (e0 :: es) ga)
    (hdb : (x == ("__debug__" : Str)) = false := by decide) (he : starEach (e0 :: es) X.env = (false, eval e0 X.env) :: starEach es X.env := by rfl) (hpl : (backTo pos (starEach es X.env)).any (·.1) = false := by rfl) :
    SE X (.Call (.Name x p) (e0 :: es) [] pos) (fCallG n F ga) := by
  obtain ⟨ta, pa, ea⟩ := ha.ex
  obtain ⟨f, fd, ps, hF, hm, kp, b⟩ := c.ex
  exact ⟨_, pe_call hF (hr.mono hk) hg hm kp b .nil pass0 pa hdb he hpl, eo_callG ea⟩
theorem se_callG0 {F : List L → S → Option (L × S)} (c : Cl X.prog X.w X.K X.mg X.base k x (spG X.K X.mg n F)) (hr : Room j X.A) (hk : k ≤ j) (hg : Gl X x)
    (hdb : (x == ("__debug__" : Str)) = false := by decide) : SE X (.Call (.Name x p) [] [] pos) (fCallG n F fNil) := by
  obtain ⟨ta, pa, ea⟩ := (sa_nil (X := X)).ex
  obtain ⟨f, fd, ps, hF, hm, kp, b⟩ := c.ex
  refine ⟨_, pe_call0 hF (hr.mono hk) hg hm kp b .nil pass0 hdb, eo_callG ?_⟩
  intro w0 w s s' ρ σ r Q F e q
  cases e
  exact q [] w (Stp.refl w) F .nil
theorem se_callP {F : List D → Option D} (c : Cl X.prog X.w X.K X.mg X.base k x (spP X.K n F)) (hr : Room j X.A) (hk : k ≤ j) (hg : Gl X x) (ha : SA X (e0 :: es) ga)
    (hdb : (x == ("__debug__" : Str)) = false := by decide) (he : starEach (e0 :: es) X.env = (false, eval e0 X.env) :: starEach es X.env := by rfl) (hpl : (backTo pos (starEach es X.env)).any (·.1) = false := by rfl) :
    SE X (.Call (.Name x p) (e0 :: es) [] pos) (fCallP n F ga) := by
  obtain ⟨ta, pa, ea⟩ := ha.ex
  obtain ⟨f, fd, ps, hF, hm, kp, b⟩ := c.ex
  exact ⟨_, pe_call hF (hr.mono hk) hg hm kp b .nil pass0 pa hdb he hpl, eo_callP ea⟩
/-- o.m(..): to, the object, then the arguments -/
theorem eo_meth {K : PySem.W.Frag} {mg : Str → Option Value} {C : Addr} {to : TE} {ta : TA} {F : List L → S → Option (L × S)} {E : XK} (hC : mg cn = some (.ref C)) (ho : EO K mg to h) (ha : AO K mg ta ga) : EO K mg (tMeth C m (spG K mg n F) [] E to ta) (fMethG cn m n F h ga) := by
  intro w0 w s s' ρ σ l Q Fr e q
  obtain ⟨⟨y, s1⟩, e1, e⟩ := Option.bind_eq_some_iff.mp e
  refine ho w0 w s s1 ρ σ y _ Fr e1 fun v w1 st1 F1 r1 => ?_
  dsimp only at e
  split at e
  · rename_i i
    split at e
    · rename_i c' fs e2
      split at e
      · rename_i hc
        obtain ⟨⟨xs, s2⟩, e3, e⟩ := Option.bind_eq_some_iff.mp e
        split at e
        · rename_i hk
          obtain ⟨⟨r, s3⟩, e4, e⟩ := Option.bind_eq_some_iff.mp e
          split at e
          · cases e
            obtain ⟨A, hA, rfl⟩ := r1
            obtain ⟨C', dx, hs, h1, h2, h3⟩ := F1.wk.ok _ A _ hA e2
            have eC : C' = C := by
              rw [hc.1] at h1
              have := h1.symm.trans hC
              cases this; rfl
            subst eC
            refine ⟨A, dx, hs, rfl, h2, lkp_none h3 (by simpa using hc.2), ?_⟩
            refine ha w0 w1 s1 _ ρ σ xs _ F1 e3 fun vs w2 st2 F2 r2 => ?_
            refine ⟨w2, s2, .rf i :: xs, _, _, rfl, F2.wk, by rw [List.append_nil]; exact .cons ⟨A, st2.get hA, rfl⟩ (kvAll_of r2 hk.1), by simpa using hk.2, e4, fun v3 w3 st3 k3 r3 => q v3 w3 ((st1.trans st2).trans st3) (F2.step st3 k3) (lv_kv r3)⟩
          · cases e
        · cases e
      · cases e
    · cases e
  · cases e
theorem se_meth {pl : Sem Bool} {F : List L → S → Option (L × S)} (c : Mt X.prog X.w X.K X.mg X.base k cn m (spG X.K X.mg n F)) (hr : Room j X.A) (hk : k ≤ j) (ho : SE X o h) (ha : SA X (e0 :: es) ga)
    (hst : starEach (e0 :: es) X.env = (false, eval e0 X.env) :: starEach es X.env := by rfl) (hpl : (backTo pos (starEach es X.env)).any (·.1) = false := by rfl)
    (ht : eval (.Call (.Attribute o m apos) (e0 :: es) [] pos) X.env = (do let ov ← eval o X.env; standAt apos.atName; let (f, first) ← holding [ov] (getMethod ov m pl); callWith pos f first (backTo pos (starEach (e0 :: es) X.env)) (backToKw pos (keywordEach [] X.env))) := by rfl) :
    SE X (.Call (.Attribute o m apos) (e0 :: es) [] pos) (fMethG cn m n F h ga) := by
  obtain ⟨to, po, eo⟩ := ho.ex
  obtain ⟨ta, pa, ea⟩ := ha.ex
  obtain ⟨C, f, fd, ps, hC, hcl, hme, hF, b⟩ := c.ex
  exact ⟨_, pe_meth (pl := pl) po hcl hme hF (hr.mono hk) b .nil pass0 pa hst hpl ht, eo_meth hC eo ea⟩
theorem se_meth0 {pl : Sem Bool} {F : List L → S → Option (L × S)} (c : Mt X.prog X.w X.K X.mg X.base k cn m (spG X.K X.mg n F)) (hr : Room j X.A) (hk : k ≤ j) (ho : SE X o h)
    (ht : eval (.Call (.Attribute o m apos) [] [] pos) X.env = (do let ov ← eval o X.env; standAt apos.atName; let (f, first) ← holding [ov] (getMethod ov m pl); callWith pos f first (backTo pos (starEach [] X.env)) (backToKw pos (keywordEach [] X.env))) := by rfl) :
    SE X (.Call (.Attribute o m apos) [] [] pos) (fMethG cn m n F h fNil) := by
  obtain ⟨to, po, eo⟩ := ho.ex
  obtain ⟨C, f, fd, ps, hC, hcl, hme, hF, b⟩ := c.ex
  refine ⟨_, pe_meth0 (pl := pl) po hcl hme hF (hr.mono hk) b .nil pass0 ht, eo_meth hC eo ?_⟩
  intro w0 w s s' ρ σ r Q F e q
  cases e
  exact q [] w (Stp.refl w) F .nil
theorem eo_make {K : PySem.W.Frag} {mg : Str → Option Value} {C : Addr} {ta : TA} {F : List L → S → Option (L × S)} {E : XK} (hC : mg cn = some (.ref C)) (ha : AO K mg ta ga) : EO K mg (tMake C (spG K mg n F) [] E ta) (fMake cn n F ga) := by
  intro w0 w s s' ρ σ l Q Fr e q
  obtain ⟨⟨xs, s1⟩, e1, e⟩ := Option.bind_eq_some_iff.mp e
  split at e
  · rename_i hk
    obtain ⟨⟨r, s2⟩, e2, e⟩ := Option.bind_eq_some_iff.mp e
    refine ha w0 w s s1 ρ σ xs _ Fr e1 fun vs w1 st1 F1 r1 => ?_
    dsimp only at e
    split at e
    · cases e
      intro x dx nx nd ne
      obtain ⟨st2, k2⟩ := F1.wk.push (p := x) (H1 := upd w1.H dx (.own x)) (o := .ins C dx []) (mo := .ins cn []) nx (fun a u z => by rw [upd_ne (ne_of_none z nd)]; exact z) (by rw [upd_ne ne.symm]; exact nx) ⟨C, dx, [], hC, upd_same, .nil⟩
      have hx : (w1.m ++ [x])[s1.length]? = some x := by rw [← F1.wk.len]; simp
      have F2 := F1.step st2 k2
      refine ⟨_, s1 ++ [.ins cn []], .rf s1.length :: xs, _, _, rfl, k2, by rw [List.append_nil]; exact .cons ⟨x, hx, rfl⟩ ((kvAll_of r1 hk.1).mono fun _ _ => st2.kv), by simpa using hk.2, e2, fun v3 w3 st3 k3 r3 => ⟨by cases r3; rfl, q (.ref x) w3 ((st1.trans st2).trans st3) (F2.step st3 k3) ⟨x, st3.get hx, rfl⟩⟩⟩
    · cases e
  · cases e
theorem se_make {F : List L → S → Option (L × S)} (c : Mq X.prog X.w X.K X.mg X.base k x (spG X.K X.mg n F)) (hr : Room j X.A) (hk : k + 1 ≤ j) (hg : Gl X x) (ha : SA X (e0 :: es) ga)
    (hdb : (x == ("__debug__" : Str)) = false := by decide) (he : starEach (e0 :: es) X.env = (false, eval e0 X.env) :: starEach es X.env := by rfl) (hpl : (backTo pos (starEach es X.env)).any (·.1) = false := by rfl) :
    SE X (.Call (.Name x p) (e0 :: es) [] pos) (fMake x n F ga) := by
  obtain ⟨ta, pa, ea⟩ := ha.ex
  obtain ⟨C, f, fd, ps, hC, M, hF, b⟩ := c.ex
  exact ⟨_, pe_make M hF (hr.mono hk) hg hC b .nil pass0 pa hdb he hpl, eo_make hC ea⟩
/-- one rule or the other -/
def fOr (f g : FE) : FE := fun ρ s => (f ρ s).or (g ρ s)
theorem se_or2 (hf : SE X a f) (hg : SE X a g) : SE X a (fOr f g) := by
  obtain ⟨t, pt, et⟩ := hf.ex
  obtain ⟨u, pu, eu⟩ := hg.ex
  refine ⟨fun σ H Q => t σ H Q ∨ u σ H Q, ⟨fun pins s σ H Q I h => ?_⟩, fun w0 w s s' ρ σ r Q F e q => ?_⟩
  · rcases h with h | h
    · exact pt.run pins s σ H Q I h
    · exact pu.run pins s σ H Q I h
  · have e : (f ρ s).or (g ρ s) = some (r, s') := e
    cases y : f ρ s with
    | some z =>
      rw [y] at e; cases e
      exact .inl (et w0 w s s' ρ σ r Q F y q)
    | none =>
      rw [y] at e
      exact .inr (eu w0 w s s' ρ σ r Q F e q)
end
end Zz
set_option Elab.async false
set_option linter.all false
/-! ZG: statements: what they do with slots and store -/
namespace Zz
open PySem L2
inductive Fl where
  | nx
  | bk
  | ct
  | rt (l : L)
abbrev FS := Ro → S → Option (Fl × Ro × S)
def Bm (w w' : Wd) : Prop := ∀ a o, w.B a = some o → w'.B a = some o
theorem Bm.refl (w : Wd) : Bm w w := fun _ _ h => h
theorem Bm.trans {a b c : Wd} (h : Bm a b) (k : Bm b c) : Bm a c := fun x o q => k x o (h x o q)
theorem Stp.bm {w w' : Wd} (h : Stp w w') : Bm w w' := h.b
section
variable (K : PySem.W.Frag) (mg : Str → Option Value)
def Post (w0 w : Wd) (D : Ends) (ρ : Ro) (s : S) : Fl → Prop
  | .nx => ∀ w' σ', Bm w w' → FR K mg w0 w' s ρ σ' → D.nx σ' w'.H
  | .bk => ∀ w' σ', Bm w w' → FR K mg w0 w' s ρ σ' → D.bk σ' w'.H
  | .ct => ∀ w' σ', Bm w w' → FR K mg w0 w' s ρ σ' → D.ct σ' w'.H
  | .rt l => ∀ v w', Stp w0 w' → Wok K mg w' s → Kv K w' v l → D.rt v w'.H
def BO (t : TS) (f : FS) : Prop := ∀ (w0 w : Wd) (s s' : S) (ρ ρ' : Ro) (σ : L2.St) (fl : Fl) (D : Ends), FR K mg w0 w s ρ σ → f ρ s = some (fl, ρ', s') → Post K mg w0 w D ρ' s' fl → t D σ w.H
end
structure SS (X : Cx) (st : Stmt) (f : FS) : Prop where
  ex : ∃ t, PS X st t ∧ BO X.K X.mg t f
structure SB (X : Cx) (st : List Stmt) (f : FS) : Prop where
  ex : ∃ t, PSs X st t ∧ BO X.K X.mg t f
/-! ### blocks -/
def fNext : FS := fun ρ s => some (.nx, ρ, s)
def fSeq (f g : FS) : FS := fun ρ s => (f ρ s).bind fun r => match r.1 with
  | .nx => g r.2.1 r.2.2
  | _ => some r
def slotOf : L → Option Slot
  | .im d => some (.im d)
  | .rf n => some (.rf n)
  | .sc l => some (.sc l)
  | .ow _ => none
section
variable {K : PySem.W.Frag} {mg : Str → Option Value} {w0 w w' w1 : Wd} {s s' : S} {ρ : Ro} {σ : L2.St} {D : Ends}
theorem Post.back (h : Bm w w1) {fl : Fl} (p : Post K mg w0 w D ρ s fl) : Post K mg w0 w1 D ρ s fl := by
  cases fl with
  | nx => exact fun w' σ' b F => p w' σ' (h.trans b) F
  | bk => exact fun w' σ' b F => p w' σ' (h.trans b) F
  | ct => exact fun w' σ' b F => p w' σ' (h.trans b) F
  | rt l => exact p
/-- a slot is set -/
theorem FR.set (F : FR K mg w0 w s ρ σ) {i : Nat} {v : V} {z : Slot} (k : SlotOk K w0 w (some v) z) (hd : ∀ l a, z = .ol l → v = .ref a → ∀ j l', j ≠ i → ρ[j]? = some (.ol l') → σ[j]? = some (some (.ref a)) → False) : FR K mg w0 w s (ρ.set i z) (σ.set i (some v)) := by
  refine ⟨F.st, F.wk, by rw [List.length_set, List.length_set]; exact F.len, fun j y u h1 h2 => ?_, fun a b l l' p hab h1 h2 h3 h4 => ?_⟩
  · by_cases e : i = j
    · subst e
      rw [List.getElem?_set] at h1 h2
      rw [if_pos rfl] at h1 h2
      split at h1
      · split at h2
        · cases h1; cases h2; exact k
        · cases h2
      · cases h1
    · rw [List.getElem?_set_ne e] at h1 h2
      exact F.sl j y u h1 h2
  · by_cases ea : i = a
    · subst ea
      have eb : i ≠ b := hab
      rw [List.getElem?_set_ne eb] at h2 h4
      rw [List.getElem?_set, if_pos rfl] at h1 h3
      split at h1
      · split at h3
        · cases h1; cases h3
          exact hd _ _ rfl rfl b _ eb.symm h2 h4
        · cases h3
      · cases h1
    · rw [List.getElem?_set_ne ea] at h1 h3
      by_cases eb : i = b
      · subst eb
        rw [List.getElem?_set, if_pos rfl] at h2 h4
        split at h2
        · split at h4
          · cases h2; cases h4
            exact hd _ _ rfl rfl a _ hab h1 h3
          · cases h4
        · cases h2
      · rw [List.getElem?_set_ne eb] at h2 h4
        exact F.di a b l l' p hab h1 h2 h3 h4
theorem slotOf_at {v : V} {x : L} {z : Slot} (h : Lv K w v x) (e : slotOf x = some z) : SlotOk K w0 w (some v) z ∧ ∀ l, z ≠ .ol l := by
  cases x with
  | im d => cases e; exact ⟨⟨v, rfl, h⟩, fun l q => by cases q⟩
  | rf n => cases e; obtain ⟨a, h1, rfl⟩ := h; exact ⟨⟨a, rfl, h1⟩, fun l q => by cases q⟩
  | ow l => cases e
  | sc l => cases e; obtain ⟨a, vs, rfl, h1, h2⟩ := h; exact ⟨⟨a, vs, rfl, h1, h2⟩, fun l q => by cases q⟩
/-- the list of a slot, changed -/
theorem FR.own (F : FR K mg w0 w s ρ σ) {i : Nat} {l l' : List Zz.D} {a : Addr} {vs vs' : List V} (hi : ρ[i]? = some (.ol l)) (hv : σ[i]? = some (some (.ref a))) (hH : w.H a = some (.lst vs)) (d : A2 (Dq K w.B) vs' l') :
    FR K mg w0 ⟨w.m, w.B, upd w.H a (.lst vs')⟩ s (ρ.set i (.ol l')) σ := by
  obtain ⟨b, us, h1, h2, h0, h3, h4, h5⟩ := F.sl i _ _ hi hv
  cases h1
  have st : Stp w0 ⟨w.m, w.B, upd w.H a (.lst vs')⟩ := by
    refine ⟨F.st.m, F.st.b, F.st.bn, fun c o n q => ?_, fun c q => ?_⟩
    · have ne : c ≠ a := fun z => by rw [z, h0] at q; cases q
      exact (upd_ne ne).trans (F.st.fr c o n q)
    · by_cases z : c = a
      · rw [z]; exact h0
      · exact F.st.lv c ((upd_ne (H := w.H) (o := .lst vs') z).symm.trans q)
  have lens : i < σ.length := (List.getElem?_eq_some_iff.mp hv).1
  refine ⟨st, ⟨fun c o q => ?_, F.wk.len, F.wk.nd, F.wk.fresh, fun c q q' => ?_, fun n c o q q' => ?_⟩, by rw [List.length_set]; exact F.len, fun j y u q q' => ?_, fun j k m m' c hjk q1 q2 q3 q4 => ?_⟩
  · have ne : c ≠ a := fun z => by
      have q : w.B c = some o := q
      rw [z, h3] at q; cases q
    exact (upd_ne ne).trans (F.wk.ex c o q)
  · have ne : c ≠ a := fun z => h2 (z ▸ q)
    exact F.wk.live c q ((upd_ne (H := w.H) (o := .lst vs') ne).symm.trans q')
  · have ne : c ≠ a := fun z => h2 (z ▸ List.mem_of_getElem? q)
    have hm := F.wk.ok n c o q q'
    cases o with
    | dl l => obtain ⟨us, y1, y2⟩ := hm; exact ⟨us, (upd_ne ne).trans y1, y2⟩
    | rl l => obtain ⟨us, y1, y2⟩ := hm; exact ⟨us, (upd_ne ne).trans y1, y2⟩
    | ins c fs => obtain ⟨C, dx, hs, y1, y2, y3⟩ := hm; exact ⟨C, dx, hs, y1, (upd_ne ne).trans y2, y3⟩
    | gone => exact True.intro
  · by_cases e : i = j
    · subst e
      rw [List.getElem?_set, if_pos rfl] at q
      split at q
      · cases q
        rw [hv] at q'; cases q'
        exact ⟨a, vs', rfl, h2, h0, h3, upd_same, d⟩
      · cases q
    · rw [List.getElem?_set_ne e] at q
      have hm := F.sl j y u q q'
      cases y with
      | un => exact True.intro
      | im d => exact hm
      | rf n => exact hm
      | sc l => exact hm
      | ol m =>
        obtain ⟨c, us', y1, y2, y0, y3, y4, y5⟩ := hm
        subst y1
        have ne : c ≠ a := fun z => by
          subst z
          exact F.di i j _ _ _ e hi q hv q'
        exact ⟨c, us', rfl, y2, y0, y3, (upd_ne ne).trans y4, y5⟩
  · have old : ∀ {j : Nat} {m : List Zz.D}, (ρ.set i (.ol l'))[j]? = some (.ol m) → ∃ m2, ρ[j]? = some (.ol m2) := fun {j m} q => by
      by_cases e : i = j
      · subst e; exact ⟨l, hi⟩
      · rw [List.getElem?_set_ne e] at q; exact ⟨m, q⟩
    obtain ⟨m2, y1⟩ := old q1
    obtain ⟨m3, y2⟩ := old q2
    exact F.di j k _ _ _ hjk y1 y2 q3 q4
end
section
variable {X : Cx} {st : Stmt} {rest : List Stmt} {f g : FS}
theorem sb_nil : SB X [] fNext := ⟨_, pss_nil, fun w0 w s s' ρ ρ' σ fl D F e p => by cases e; exact p w σ (Bm.refl w) F⟩
theorem bo_seq {K : PySem.W.Frag} {mg : Str → Option Value} {t u : TS} (h1 : BO K mg t f) (h2 : BO K mg u g) : BO K mg (tSeq t u) (fSeq f g) := by
  intro w0 w s s' ρ ρ' σ fl D F e p
  obtain ⟨⟨a, ρ1, s1⟩, e1, e⟩ := Option.bind_eq_some_iff.mp e
  refine h1 w0 w s s1 ρ ρ1 σ a _ F e1 ?_
  cases a with
  | nx => exact fun w' σ' b F' => h2 w0 w' s1 s' ρ1 ρ' σ' fl D F' e (p.back b)
  | bk => cases e; exact p
  | ct => cases e; exact p
  | rt l => cases e; exact p
theorem sb_cons (h1 : SS X st f) (h2 : SB X rest g) : SB X (st :: rest) (fSeq f g) := by
  obtain ⟨t, pt, et⟩ := h1.ex
  obtain ⟨u, pu, eu⟩ := h2.ex
  exact ⟨_, pss_cons pt pu, bo_seq et eu⟩
theorem sb_one (h1 : SS X st f) : SB X [st] f := by
  obtain ⟨t, pt, et⟩ := h1.ex
  exact ⟨_, pss_one pt, et⟩
end
/-! ### stores into slots -/
def fAsg (i : Nat) (f : FE) : FS := fun ρ s => (f ρ s).bind fun p => (slotOf p.1).bind fun z => some (.nx, ρ.set i z, p.2)
def fOwn (i : Nat) (f : FF) : FS := fun ρ s => (f ρ s).bind fun p => some (.nx, ρ.set i (.ol p.1), p.2)
/-- the list of slot i is no more changed -/
def fFix (i : Nat) (f : FS) : FS := fun ρ s => match ρ[i]? with
  | some (.ol l) => f (ρ.set i (.im (.list l))) s
  | _ => f ρ s
/-- name = value, as a statement -/
structure SV (X : Cx) (i : Nat) (st : Stmt) (f : FE) : Prop where
  ex : ∃ t, PS X st (tAsg t (gName i)) ∧ EO X.K X.mg t f
structure SVF (X : Cx) (i : Nat) (st : Stmt) (f : FF) : Prop where
  ex : ∃ t, PS X st (tAsg t (gName i)) ∧ FO X.K X.mg t f
section
variable {X : Cx} {st : Stmt} {a e : Expr} {f g : FE} {h : FF} {pos pos' : Pos} {y : Str}
theorem sv_set (i : Nat) (he : SE X e f) (hN : X.N.Nodup) (hi : X.N[i]? = some y := by rfl) (hx : Loc X.env.scope y := by first | exact Or.inl rfl | exact Or.inr rfl) (hs : swapsWith e (some (.Name y pos')) pos.line X.env = pure false := by rfl)
    (hf : X.fn y = true ∨ X.env.scope.names.lookup y = some .local := by first | exact .inl rfl | exact .inr rfl) : SV X i (.Assign [.Name y pos'] e pos) f := by
  obtain ⟨t, pt, et⟩ := he.ex
  exact ⟨t, ps_set hN hi hx pt hs hf, et⟩
theorem svf_set (i : Nat) (he : SF X e h) (hN : X.N.Nodup) (hi : X.N[i]? = some y := by rfl) (hx : Loc X.env.scope y := by first | exact Or.inl rfl | exact Or.inr rfl) (hs : swapsWith e (some (.Name y pos')) pos.line X.env = pure false := by rfl)
    (hf : X.fn y = true ∨ X.env.scope.names.lookup y = some .local := by first | exact .inl rfl | exact .inr rfl) : SVF X i (.Assign [.Name y pos'] e pos) h := by
  obtain ⟨t, pt, et⟩ := he.ex
  exact ⟨t, ps_set hN hi hx pt hs hf, et⟩
theorem sv_frz {i : Nat} (hv : SVF X i st h) : SV X i st (fFrz h) := by
  obtain ⟨t, pt, et⟩ := hv.ex
  refine ⟨t, pt, fun w0 w s s' ρ σ r Q F e q => ?_⟩
  have hh : SF X (.Constant .none 0 ⟨0, 0, 0, 0⟩) h → True := fun _ => True.intro
  obtain ⟨⟨x, s1⟩, e1, e⟩ := Option.bind_eq_some_iff.mp e
  cases e
  refine et w0 w s _ ρ σ x _ F e1 fun p vs w1 st1 F1 hp nm nB hH d => ?_
  obtain ⟨k2, ex⟩ := F1.wk.freeze hH nB nm
  have st2 : Stp w ⟨w1.m, upd w1.B p (.lst vs), w1.H⟩ := by
    refine ⟨st1.m, fun a o z => ex a o (st1.b a o z), fun a z z' => ?_, st1.fr, st1.lv⟩
    by_cases y : a = p
    · rw [y]; exact hp
    · exact st1.bn a z (by rw [← upd_ne (H := w1.B) (o := .lst vs) y]; exact z')
  refine q (.ref p) ⟨w1.m, upd w1.B p (.lst vs), w1.H⟩ st2 ⟨F.st.trans st2, k2, F.len, fun i z v h1 h2 => (F.sl i z v h1 h2).mono st2, F.di⟩ ?_
  exact .lst upd_same (dpAll_iff.mpr (d.mono fun v e => dp_mono ex e v))
theorem ss_asg {i : Nat} (hv : SV X i st f) : SS X st (fAsg i f) := by
  obtain ⟨t, pt, et⟩ := hv.ex
  refine ⟨_, pt, fun w0 w s s' ρ ρ' σ fl D F e p => ?_⟩
  obtain ⟨⟨x, s1⟩, e1, e⟩ := Option.bind_eq_some_iff.mp e
  obtain ⟨z, e2, e⟩ := Option.bind_eq_some_iff.mp e
  cases e
  refine et w0 w s _ ρ σ x _ F e1 fun v w1 st1 F1 r1 => ?_
  obtain ⟨k, nl⟩ := slotOf_at (w0 := w0) r1 e2
  exact p w1 _ st1.bm (F1.set k fun l a q => absurd q (nl l))
theorem ss_own {i : Nat} (hv : SVF X i st h) : SS X st (fOwn i h) := by
  obtain ⟨t, pt, et⟩ := hv.ex
  refine ⟨_, pt, fun w0 w s s' ρ ρ' σ fl D F e p => ?_⟩
  obtain ⟨⟨x, s1⟩, e1, e⟩ := Option.bind_eq_some_iff.mp e
  cases e
  refine et w0 w s _ ρ σ x _ F e1 fun b vs w1 st1 F1 hp nm nB hH d => ?_
  refine p w1 _ st1.bm (F1.set ⟨b, vs, rfl, nm, F.st.lv b hp, nB, hH, d⟩ fun l c _ q j l' hj h1 h2 => ?_)
  cases q
  obtain ⟨v, h3, h4⟩ := fr_slot F h1
  rw [h2] at h3; cases h3
  obtain ⟨c, us, z1, z2, z0, z3, z4, z5⟩ := h4
  cases z1
  rw [hp] at z4; cases z4
theorem sb_fix {i : Nat} {sts : List Stmt} {k : FS} (hb : SB X sts k) : SB X sts (fFix i k) := by
  obtain ⟨t, pt, et⟩ := hb.ex
  refine ⟨t, pt, fun w0 w s s' ρ ρ' σ fl D F e p => ?_⟩
  unfold fFix at e
  split at e
  · rename_i l hi
    obtain ⟨v, h1, h2⟩ := fr_slot F hi
    obtain ⟨a, vs, rfl, z2, z0, z3, z4, z5⟩ := h2
    obtain ⟨k2, ex⟩ := F.wk.freeze z4 z3 z2
    have st2 : Stp w0 ⟨w.m, upd w.B a (.lst vs), w.H⟩ := by
      refine ⟨F.st.m, fun b o z => ex b o (F.st.b b o z), fun b z z' => ?_, F.st.fr, F.st.lv⟩
      by_cases y : b = a
      · rw [y]; exact z0
      · exact F.st.bn b z (by rw [← upd_ne (H := w.B) (o := .lst vs) y]; exact z')
    refine et w0 ⟨w.m, upd w.B a (.lst vs), w.H⟩ s s' _ ρ' σ fl D ⟨st2, k2, by rw [List.length_set]; exact F.len, fun j z u q q' => ?_, fun j k m m' c hjk q1 q2 q3 q4 => ?_⟩ e (p.back (show Bm w ⟨w.m, upd w.B a (.lst vs), w.H⟩ from ex))
    · by_cases ei : i = j
      · subst ei
        rw [List.getElem?_set, if_pos rfl] at q
        split at q
        · cases q
          rw [h1] at q'; cases q'
          exact ⟨_, rfl, .lst upd_same (dpAll_iff.mpr (z5.mono fun v e => dp_mono ex e v))⟩
        · cases q
      · rw [List.getElem?_set_ne ei] at q
        have hm := F.sl j z u q q'
        cases z with
        | un => exact True.intro
        | im d => obtain ⟨x, y1, y2⟩ := hm; exact ⟨x, y1, dp_mono ex _ _ y2⟩
        | rf n => exact hm
        | sc l => obtain ⟨b, us, y1, y2, y3⟩ := hm; exact ⟨b, us, y1, sqL_mono ex y2, y3.mono fun v e => dp_mono ex e v⟩
        | ol m =>
          obtain ⟨c, us', y1, y2, y0, y3, y4, y5⟩ := hm
          subst y1
          have ne : c ≠ a := fun z => by
            subst z
            exact F.di i j _ _ _ ei hi q h1 q'
          exact ⟨c, us', rfl, y2, y0, (upd_ne ne).trans y3, y4, y5.mono fun v e => dp_mono ex e v⟩
    · have old : ∀ {j : Nat} {m : List Zz.D}, (ρ.set i (.im (.list l)))[j]? = some (.ol m) → ρ[j]? = some (.ol m) := fun {j m} q => by
        by_cases e : i = j
        · subst e
          rw [List.getElem?_set, if_pos rfl] at q
          split at q <;> cases q
        · rw [List.getElem?_set_ne e] at q; exact q
      exact F.di j k _ _ _ hjk (old q1) (old q2) q3 q4
  · exact et w0 w s s' ρ ρ' σ fl D F e p
end
/-! ### other simple statements -/
def fDrop (f : FE) : FS := fun ρ s => (f ρ s).bind fun p => some (.nx, ρ, p.2)
def fRet (f : FE) : FS := fun ρ s => (f ρ s).bind fun p => if keepable p.1 = true then some (.rt p.1, ρ, p.2) else none
/-- return name, the name's own list given away -/
def fRetV (i : Nat) : FS := fun ρ s => match ρ[i]? with
  | some (.ol l) => some (.rt (.im (.list l)), ρ, s)
  | _ => none
def fRetN : FS := fun ρ s => some (.rt (.im .none), ρ, s)
def fIfS (t : FT) (f g : FS) : FS := fun ρ s => (t ρ s).bind fun p => if p.1 = true then f ρ p.2 else g ρ p.2
def fBrk : FS := fun ρ s => some (.bk, ρ, s)
def fCnt : FS := fun ρ s => some (.ct, ρ, s)
section
variable {X : Cx} {st : Stmt} {a e c : Expr} {p q : List Stmt} {f : FE} {u v : FS} {t : FT} {pos pos' : Pos} {y : Str}
theorem ss_expr (he : SE X e f) (hs : swapsWith e none pos.line X.env = pure false := by rfl) : SS X (.Expr e pos) (fDrop f) := by
  obtain ⟨t, pt, et⟩ := he.ex
  refine ⟨_, ps_expr pt hs, fun w0 w s s' ρ ρ' σ fl D F e p => ?_⟩
  obtain ⟨⟨x, s1⟩, e1, e⟩ := Option.bind_eq_some_iff.mp e
  cases e
  exact et w0 w s _ ρ σ x _ F e1 fun v w1 st1 F1 r1 => p w1 σ st1.bm F1
theorem ss_ret (he : SE X e f) : SS X (.Return (some e) pos) (fRet f) := by
  obtain ⟨t, pt, et⟩ := he.ex
  refine ⟨_, ps_ret pt, fun w0 w s s' ρ ρ' σ fl D F e p => ?_⟩
  obtain ⟨⟨x, s1⟩, e1, e⟩ := Option.bind_eq_some_iff.mp e
  split at e
  · rename_i hk
    cases e
    exact et w0 w s _ ρ σ x _ F e1 fun v w1 st1 F1 r1 => p v w1 F1.st F1.wk (kv_of r1 hk)
  · cases e
theorem ss_retV (i : Nat) (hN : X.N[i]? = some y := by rfl) (hv : Vis X.env.scope y := by first | exact Or.inl rfl | exact Or.inr (Or.inl rfl) | exact Or.inr (Or.inr rfl)) (hd : (y == ("__debug__" : Str)) = false := by decide)
    (hcd : (y == ("__classdict__" : Str)) = false := by decide) : SS X (.Return (some (.Name y pos')) pos) (fRetV i) := by
  refine ⟨_, ps_ret (pe_var hN hv hd hcd), fun w0 w s s' ρ ρ' σ fl D F e p => ?_⟩
  unfold fRetV at e
  split at e
  · rename_i l hi
    cases e
    obtain ⟨v, h1, h2⟩ := fr_slot F hi
    obtain ⟨a, vs, rfl, z2, z0, z3, z4, z5⟩ := h2
    obtain ⟨k2, ex⟩ := F.wk.freeze z4 z3 z2
    refine ⟨_, h1, p (.ref a) ⟨w.m, upd w.B a (.lst vs), w.H⟩ ?_ k2 (.lst upd_same (dpAll_iff.mpr (z5.mono fun v e => dp_mono ex e v)))⟩
    refine ⟨F.st.m, fun b o z => ex b o (F.st.b b o z), fun b z z' => ?_, F.st.fr, F.st.lv⟩
    by_cases y : b = a
    · rw [y]; exact z0
    · exact F.st.bn b z (by rw [← upd_ne (H := w.B) (o := .lst vs) y]; exact z')
  · cases e
theorem ss_retN : SS X (.Return none pos) fRetN := ⟨_, ps_retN, fun w0 w s s' ρ ρ' σ fl D F e p => by cases e; exact p .non w F.st F.wk .non⟩
theorem ss_pass : SS X (.Pass pos) fNext := ⟨_, ps_pass, fun w0 w s s' ρ ρ' σ fl D F e p => by cases e; exact p w σ (Bm.refl w) F⟩
theorem ss_brk : SS X (.Break pos) fBrk := ⟨_, ps_break, fun w0 w s s' ρ ρ' σ fl D F e p => by cases e; exact p w σ (Bm.refl w) F⟩
theorem ss_cnt : SS X (.Continue pos) fCnt := ⟨_, ps_continue, fun w0 w s s' ρ ρ' σ fl D F e p => by cases e; exact p w σ (Bm.refl w) F⟩
theorem ss_if (hc : ST X c t) (hp : SB X p u) (hq : SB X q v) : SS X (.If c p q pos) (fIfS t u v) := by
  obtain ⟨tc, pc, ec⟩ := hc.ex
  obtain ⟨tp, pp, ep⟩ := hp.ex
  obtain ⟨tq, pq, eq⟩ := hq.ex
  refine ⟨_, ps_if pc pp pq, fun w0 w s s' ρ ρ' σ fl D F e p => ?_⟩
  obtain ⟨⟨x, s1⟩, e1, e⟩ := Option.bind_eq_some_iff.mp e
  refine ec w0 w s s1 ρ σ x _ F e1 fun w1 st1 F1 => ?_
  cases x with
  | true => exact iteT (ep w0 w1 s1 s' ρ ρ' σ fl D F1 e (p.back st1.bm))
  | false => exact iteF (eq w0 w1 s1 s' ρ ρ' σ fl D F1 e (p.back st1.bm))
end
end Zz
set_option Elab.async false
set_option linter.all false
/-! ZH: lists and attributes that change; several names at once -/
namespace Zz
open PySem L2
/-! ### a name's own list -/
def fAppO (i : Nat) (f : FE) : FS := fun ρ s => (f ρ s).bind fun p => match ρ[i]?, p.1 with
  | some (.ol l), .im d => if l.length < big then some (.nx, ρ.set i (.ol (l ++ [d])), p.2) else none
  | _, _ => none
def fExtO (i : Nat) (f : FE) : FS := fun ρ s => (f ρ s).bind fun p => match ρ[i]?, lsV p.2 p.1 with
  | some (.ol l), some r => if l.length + r.length ≤ big then some (.nx, ρ.set i (.ol (l ++ r)), p.2) else none
  | _, _ => none
def fSetO (i : Nat) (g : FE) (f : FE) : FS := fun ρ s => (f ρ s).bind fun p => (g ρ p.2).bind fun q => match ρ[i]? with
  | some (.ol l) => match p.1 with
    | .im d => match q.1 with
      | .im (.int k) => (ixN l.length k).bind fun j => some (.nx, ρ.set i (.ol (l.set j d)), q.2)
      | _ => none
    | _ => none
  | _ => none
section
variable {X : Cx} {e a : Expr} {f g : FE} {pos cpos apos p2 : Pos} {y : Str}
theorem ss_appO (i : Nat) (he : SE X e f) (hN : X.N[i]? = some y := by rfl) (hv : Vis X.env.scope y := by first | exact Or.inl rfl | exact Or.inr (Or.inl rfl) | exact Or.inr (Or.inr rfl)) (hd : (y == ("__debug__" : Str)) = false := by decide)
    (hcd : (y == ("__classdict__" : Str)) = false := by decide)
    (hs : swapsWith (.Call (.Attribute (.Name y p2) "append" apos) [e] [] cpos) none pos.line X.env = pure false := by rfl)
    (hbase : attributeBase (.Name y p2) "append" X.env (eval (.Name y p2) X.env) = eval (.Name y p2) X.env := by rfl)
    (hfew : ((backTo cpos (starEach [e] X.env)).all (fun x => !x.1) && (backToKw cpos (keywordEach [] X.env)).all (fun x => x.1.isSome) && decide ([e].length + ([] : List Keyword).length + (if ([] : List Keyword).isEmpty then 0 else 1) < 30)) = true := by rfl)
    (hline : (apos.endLine == cpos.line) = true := by rfl) (hst : starEach [e] X.env = (false, eval e X.env) :: starEach [] X.env := by rfl) :
    SS X (.Expr (.Call (.Attribute (.Name y p2) "append" apos) [e] [] cpos) pos) (fAppO i f) := by
  obtain ⟨t, pt, et⟩ := he.ex
  refine ⟨_, ps_expr (pe_bm PySem.F.plainAttrs_list PySem.F.slot_list_append PySem.F.type_list_append mt_append (pe_var hN hv hd hcd) (pa_cons pt pa_nil hst) hbase hfew hline hst) hs, fun w0 w s s' ρ ρ' σ fl D F e p => ?_⟩
  obtain ⟨⟨x, s1⟩, e1, e⟩ := Option.bind_eq_some_iff.mp e
  dsimp only at e
  split at e
  · rename_i l d hi
    split at e
    · rename_i hl
      cases e
      obtain ⟨v, h1, h2⟩ := fr_slot F hi
      obtain ⟨b, vs, rfl, z2, z0, z3, z4, z5⟩ := h2
      refine ⟨_, h1, .inl ⟨rfl, _, SqL.of z4⟩, ?_⟩
      refine et w0 w s _ ρ σ _ _ F e1 fun u w1 st1 F1 r1 => ?_
      obtain ⟨_, us, y1, y2, y0, y3, y4, y5⟩ := F1.sl i _ _ hi h1
      cases y1
      refine ⟨b, us, u, rfl, rfl, y4, by rw [y5.length]; exact big_lt hl, ?_⟩
      exact p ⟨w1.m, w1.B, upd w1.H b (.lst (us ++ [u]))⟩ σ st1.bm (F1.own hi h1 y4 (y5.append (.cons r1 .nil)))
    · cases e
  · cases e
theorem ss_extO (i : Nat) (he : SE X e f) (hN : X.N[i]? = some y := by rfl) (hv : Vis X.env.scope y := by first | exact Or.inl rfl | exact Or.inr (Or.inl rfl) | exact Or.inr (Or.inr rfl)) (hd : (y == ("__debug__" : Str)) = false := by decide)
    (hcd : (y == ("__classdict__" : Str)) = false := by decide)
    (hs : swapsWith (.Call (.Attribute (.Name y p2) "extend" apos) [e] [] cpos) none pos.line X.env = pure false := by rfl)
    (hbase : attributeBase (.Name y p2) "extend" X.env (eval (.Name y p2) X.env) = eval (.Name y p2) X.env := by rfl)
    (hfew : ((backTo cpos (starEach [e] X.env)).all (fun x => !x.1) && (backToKw cpos (keywordEach [] X.env)).all (fun x => x.1.isSome) && decide ([e].length + ([] : List Keyword).length + (if ([] : List Keyword).isEmpty then 0 else 1) < 30)) = true := by rfl)
    (hline : (apos.endLine == cpos.line) = true := by rfl) (hst : starEach [e] X.env = (false, eval e X.env) :: starEach [] X.env := by rfl) :
    SS X (.Expr (.Call (.Attribute (.Name y p2) "extend" apos) [e] [] cpos) pos) (fExtO i f) := by
  obtain ⟨t, pt, et⟩ := he.ex
  refine ⟨_, ps_expr (pe_bm PySem.F.plainAttrs_list PySem.F.slot_list_extend PySem.F.type_list_extend mt_extend (pe_var hN hv hd hcd) (pa_cons pt pa_nil hst) hbase hfew hline hst) hs, fun w0 w s s' ρ ρ' σ fl D F e p => ?_⟩
  obtain ⟨⟨x, s1⟩, e1, e⟩ := Option.bind_eq_some_iff.mp e
  dsimp only at e
  split at e
  · rename_i l r hi hr
    split at e
    · rename_i hl
      cases e
      obtain ⟨v, h1, h2⟩ := fr_slot F hi
      obtain ⟨b, vs, rfl, z2, z0, z3, z4, z5⟩ := h2
      refine ⟨_, h1, .inl ⟨rfl, _, SqL.of z4⟩, ?_⟩
      refine et w0 w s _ ρ σ _ _ F e1 fun u w1 st1 F1 r1 => ?_
      obtain ⟨_, us, y1, y2, y0, y3, y4, y5⟩ := F1.sl i _ _ hi h1
      cases y1
      obtain ⟨c, cs, rfl, k1, k2⟩ := lsV_at F1.wk r1 hr
      refine ⟨b, c, us, cs, rfl, rfl, y4, k1, by rw [y5.length, k2.length]; exact big_line hl, ?_⟩
      exact p ⟨w1.m, w1.B, upd w1.H b (.lst (us ++ cs))⟩ σ st1.bm (F1.own hi h1 y4 (y5.append k2))
    · cases e
  · cases e
theorem ss_setO (i : Nat) (ha : SE X a g) (he : SE X e f) (hN : X.N[i]? = some y := by rfl) (hv : Vis X.env.scope y := by first | exact Or.inl rfl | exact Or.inr (Or.inl rfl) | exact Or.inr (Or.inr rfl)) (hd : (y == ("__debug__" : Str)) = false := by decide)
    (hcd : (y == ("__classdict__" : Str)) = false := by decide)
    (hp : ∀ v, assign (.Subscript (.Name y p2) a apos) X.env v = (do let ov ← holding [v] (eval (.Name y p2) X.env); let iv ← holding [v, ov] (eval a X.env); standAt apos; holding [v, ov, iv] (setItem ov iv v); release [v, ov, iv] []) := by intro _; rfl)
    (hs : swapsWithSole [.Subscript (.Name y p2) a apos] e pos.line X.env = pure false := by rfl) (hw : swappedStores [.Subscript (.Name y p2) a apos] e X.env = pure none := by rfl)
    (h1 : (assignEach [.Subscript (.Name y p2) a apos] X.env).map (·.2) = [assign (.Subscript (.Name y p2) a apos) X.env] := by rfl) :
    SS X (.Assign [.Subscript (.Name y p2) a apos] e pos) (fSetO i g f) := by
  obtain ⟨t, pt, et⟩ := he.ex
  obtain ⟨u, pu, eu⟩ := ha.ex
  refine ⟨_, ps_asg pt (pg_sub (pe_var hN hv hd hcd) pu set_list hp) hs hw h1, fun w0 w s s' ρ ρ' σ fl D F e p => ?_⟩
  obtain ⟨⟨x, s1⟩, e1, e⟩ := Option.bind_eq_some_iff.mp e
  obtain ⟨⟨z, s2⟩, e2, e⟩ := Option.bind_eq_some_iff.mp e
  dsimp only at e
  split at e
  · rename_i l hi
    split at e
    · rename_i d
      split at e
      · rename_i k
        obtain ⟨j, e3, e⟩ := Option.bind_eq_some_iff.mp e
        cases e
        refine et w0 w s _ ρ σ _ _ F e1 fun v w1 st1 F1 r1 => ?_
        obtain ⟨v', h1, h2⟩ := fr_slot F1 hi
        obtain ⟨b, vs, rfl, z2, z0, z3, z4, z5⟩ := h2
        refine ⟨_, h1, ?_⟩
        refine eu w0 w1 s1 _ ρ σ _ _ F1 e2 fun v2 w2 st2 F2 r2 => ?_
        obtain ⟨_, us, y1, y2, y0, y3, y4, y5⟩ := F2.sl i _ _ hi h1
        cases y1
        refine ⟨b, us, k, j, rfl, lv_int r2, y4, by rw [y5.length]; exact e3, ?_⟩
        exact p ⟨w2.m, w2.B, upd w2.H b (.lst (us.set j v))⟩ σ (st1.trans st2).bm (F2.own hi h1 y4 (y5.set (st2.dp r1) j))
      · cases e
    · cases e
  · cases e
end
/-! ### lists of the store -/
def isLst (s : S) (n : Nat) : Bool := match s[n]? with
  | some (.dl _) => true
  | some (.rl _) => true
  | _ => false
def pushS (s : S) (n : Nat) (x : L) : Option S := match s[n]? with
  | some (.dl l) => match x with
    | .im d => if l.length < big then some (s.set n (.dl (l ++ [d]))) else none
    | _ => none
  | some (.rl l) => if keepable x = true ∧ l.length < big then some (s.set n (.rl (l ++ [x]))) else none
  | _ => none
def fApp (o f : FE) : FE := fun ρ s => (o ρ s).bind fun q => match q.1 with
  | .rf n => if isLst q.2 n = true then (f ρ q.2).bind fun p => (pushS p.2 n p.1).bind fun s3 => some (.im .none, s3) else none
  | _ => none
def popS (s : S) (n : Nat) (i : Int) : Option (L × S) := match s[n]? with
  | some (.dl l) => (ixN l.length i).bind fun k => (l[k]?).bind fun d => some (.im d, s.set n (.dl (l.eraseIdx k)))
  | some (.rl l) => (ixN l.length i).bind fun k => (l[k]?).bind fun d => some (d, s.set n (.rl (l.eraseIdx k)))
  | _ => none
def small63 (i : Int) : Bool := decide (-(2 ^ 63) ≤ i ∧ i < 2 ^ 63)
def fPopAt (o f : FE) : FE := fun ρ s => (o ρ s).bind fun q => match q.1 with
  | .rf n => if isLst q.2 n = true then (f ρ q.2).bind fun p => match p.1 with
    | .im (.int i) => if small63 i = true then popS p.2 n i else none
    | _ => none
  else none
  | _ => none
def setS (s : S) (n : Nat) (i : Int) (x : L) : Option S := match s[n]? with
  | some (.dl l) => match x with
    | .im d => (ixN l.length i).bind fun k => some (s.set n (.dl (l.set k d)))
    | _ => none
  | some (.rl l) => if keepable x = true then (ixN l.length i).bind fun k => some (s.set n (.rl (l.set k x))) else none
  | _ => none
def fSetS (o g f : FE) : FS := fun ρ s => (f ρ s).bind fun p => (o ρ p.2).bind fun q => match q.1 with
  | .rf n => (g ρ q.2).bind fun r => match r.1 with
    | .im (.int i) => (setS r.2 n i p.1).bind fun s3 => some (.nx, ρ, s3)
    | _ => none
  | _ => none
section
variable {K : PySem.W.Frag} {mg : Str → Option Value} {w w' : Wd} {s s' : S}
theorem kv_put {A : Addr} {ob : HO} {v : V} {x : L} (r : Kv K w v x) : Kv K ⟨w.m, w.B, upd w.H A ob⟩ v x := by
  cases x with
  | im d => exact r
  | rf n => exact r
  | ow l => exact r.elim
  | sc l => exact r
theorem isLst_at (k : Wok K mg w s) {n : Nat} {A : Addr} (hA : w.m[n]? = some A) (h : isLst s n = true) : ∃ vs, w.H A = some (.lst vs) := by
  unfold isLst at h
  split at h
  · rename_i l q
    obtain ⟨vs, h1, _⟩ := k.ok n A _ hA q
    exact ⟨vs, h1⟩
  · rename_i l q
    obtain ⟨vs, h1, _⟩ := k.ok n A _ hA q
    exact ⟨vs, h1⟩
  · cases h
theorem pushS_at (k : Wok K mg w s) {n : Nat} {A : Addr} {v : V} {x : L} (hA : w.m[n]? = some A) (r : Lv K w v x) (e : pushS s n x = some s') : ∃ vs, w.H A = some (.lst vs) ∧ vs.length < sizeLine ∧ Stp w ⟨w.m, w.B, upd w.H A (.lst (vs ++ [v]))⟩ ∧ Wok K mg ⟨w.m, w.B, upd w.H A (.lst (vs ++ [v]))⟩ s' := by
  unfold pushS at e
  split at e
  · rename_i l q
    obtain ⟨vs, h1, h2⟩ := k.ok n A _ hA q
    split at e
    · split at e
      · rename_i hl
        cases e
        obtain ⟨st, k'⟩ := k.put (o := .lst (vs ++ [v])) (mo := .dl _) hA ⟨_, upd_same, h2.append (.cons r .nil)⟩
        exact ⟨vs, h1, by rw [h2.length]; exact big_lt hl, st, k'⟩
      · cases e
    · cases e
  · rename_i l q
    obtain ⟨vs, h1, h2⟩ := k.ok n A _ hA q
    split at e
    · rename_i hl
      cases e
      obtain ⟨st, k'⟩ := k.put (o := .lst (vs ++ [v])) (mo := .rl _) hA ⟨_, upd_same, (h2.append (.cons (kv_of r hl.1) .nil)).mono fun _ _ => kv_put⟩
      exact ⟨vs, h1, by rw [h2.length]; exact big_lt hl.2, st, k'⟩
    · cases e
  · cases e
theorem popS_at (k : Wok K mg w s) {n : Nat} {A : Addr} {i : Int} {x : L} (hA : w.m[n]? = some A) (e : popS s n i = some (x, s')) : ∃ vs j v, w.H A = some (.lst vs) ∧ seqIndex? i vs.length = some j ∧ vs[j]? = some v ∧ Stp w ⟨w.m, w.B, upd w.H A (.lst (vs.eraseIdx j))⟩ ∧ Wok K mg ⟨w.m, w.B, upd w.H A (.lst (vs.eraseIdx j))⟩ s' ∧ Lv K ⟨w.m, w.B, upd w.H A (.lst (vs.eraseIdx j))⟩ v x := by
  unfold popS at e
  split at e
  · rename_i l q
    obtain ⟨vs, h1, h2⟩ := k.ok n A _ hA q
    obtain ⟨j, e1, e⟩ := Option.bind_eq_some_iff.mp e
    obtain ⟨d, e2, e⟩ := Option.bind_eq_some_iff.mp e
    cases e
    obtain ⟨v, h3, h4⟩ := h2.get e2
    obtain ⟨st, k'⟩ := k.put (o := .lst (vs.eraseIdx j)) (mo := .dl _) hA ⟨_, upd_same, h2.eraseIdx j⟩
    exact ⟨vs, j, v, h1, by rw [h2.length]; exact (ixN_seq e1).1, h3, st, k', h4⟩
  · rename_i l q
    obtain ⟨vs, h1, h2⟩ := k.ok n A _ hA q
    obtain ⟨j, e1, e⟩ := Option.bind_eq_some_iff.mp e
    obtain ⟨d, e2, e⟩ := Option.bind_eq_some_iff.mp e
    cases e
    obtain ⟨v, h3, h4⟩ := h2.get e2
    obtain ⟨st, k'⟩ := k.put (o := .lst (vs.eraseIdx j)) (mo := .rl _) hA ⟨_, upd_same, (h2.eraseIdx j).mono fun _ _ => kv_put⟩
    exact ⟨vs, j, v, h1, by rw [h2.length]; exact (ixN_seq e1).1, h3, st, k', lv_kv (kv_put h4)⟩
  · cases e
theorem setS_at (k : Wok K mg w s) {n : Nat} {A : Addr} {i : Int} {v : V} {x : L} (hA : w.m[n]? = some A) (r : Lv K w v x) (e : setS s n i x = some s') : ∃ vs j, w.H A = some (.lst vs) ∧ ixN vs.length i = some j ∧ Stp w ⟨w.m, w.B, upd w.H A (.lst (vs.set j v))⟩ ∧ Wok K mg ⟨w.m, w.B, upd w.H A (.lst (vs.set j v))⟩ s' := by
  unfold setS at e
  split at e
  · rename_i l q
    obtain ⟨vs, h1, h2⟩ := k.ok n A _ hA q
    split at e
    · obtain ⟨j, e1, e⟩ := Option.bind_eq_some_iff.mp e
      cases e
      obtain ⟨st, k'⟩ := k.put (o := .lst (vs.set j v)) (mo := .dl _) hA ⟨_, upd_same, h2.set (show Dq K w.B v _ from r) j⟩
      exact ⟨vs, j, h1, by rw [h2.length]; exact e1, st, k'⟩
    · cases e
  · rename_i l q
    obtain ⟨vs, h1, h2⟩ := k.ok n A _ hA q
    split at e
    · rename_i hk
      obtain ⟨j, e1, e⟩ := Option.bind_eq_some_iff.mp e
      cases e
      obtain ⟨st, k'⟩ := k.put (o := .lst (vs.set j v)) (mo := .rl _) hA ⟨_, upd_same, (h2.set (kv_of r hk) j).mono fun _ _ => kv_put⟩
      exact ⟨vs, j, h1, by rw [h2.length]; exact e1, st, k'⟩
    · cases e
  · cases e
end
section
variable {X : Cx} {e a o : Expr} {f g h : FE} {pos cpos apos p2 : Pos} {y : Str}
theorem se_app (ho : SE X o h) (he : SE X e f)
    (hbase : attributeBase o "append" X.env (eval o X.env) = eval o X.env := by rfl)
    (hfew : ((backTo cpos (starEach [e] X.env)).all (fun x => !x.1) && (backToKw cpos (keywordEach [] X.env)).all (fun x => x.1.isSome) && decide ([e].length + ([] : List Keyword).length + (if ([] : List Keyword).isEmpty then 0 else 1) < 30)) = true := by rfl)
    (hline : (apos.endLine == cpos.line) = true := by rfl) (hst : starEach [e] X.env = (false, eval e X.env) :: starEach [] X.env := by rfl) :
    SE X (.Call (.Attribute o "append" apos) [e] [] cpos) (fApp h f) := by
  obtain ⟨t, pt, et⟩ := he.ex
  obtain ⟨u, pu, eu⟩ := ho.ex
  refine ⟨_, pe_bm PySem.F.plainAttrs_list PySem.F.slot_list_append PySem.F.type_list_append mt_append pu (pa_cons pt pa_nil hst) hbase hfew hline hst, fun w0 w s s' ρ σ r Q F e q => ?_⟩
  obtain ⟨⟨x, s1⟩, e1, e⟩ := Option.bind_eq_some_iff.mp e
  dsimp only at e
  split at e
  · rename_i n
    split at e
    · rename_i hl
      obtain ⟨⟨z, s2⟩, e2, e⟩ := Option.bind_eq_some_iff.mp e
      obtain ⟨s3, e3, e⟩ := Option.bind_eq_some_iff.mp e
      cases e
      refine eu w0 w s _ ρ σ _ _ F e1 fun v w1 st1 F1 r1 => ?_
      obtain ⟨A, hA, rfl⟩ := r1
      obtain ⟨us, hu⟩ := isLst_at F1.wk hA hl
      refine ⟨.inl ⟨rfl, _, SqL.of hu⟩, ?_⟩
      refine et w0 w1 s1 _ ρ σ _ _ F1 e2 fun v2 w2 st2 F2 r2 => ?_
      obtain ⟨vs, h1, h2, st3, k3⟩ := pushS_at F2.wk (st2.get hA) r2 e3
      exact ⟨A, vs, v2, rfl, rfl, h1, h2, q .non ⟨w2.m, w2.B, upd w2.H A (.lst (vs ++ [v2]))⟩ ((st1.trans st2).trans st3) (F2.step st3 k3) .non⟩
    · cases e
  · cases e
theorem se_popAt (ho : SE X o h) (he : SE X e f)
    (hbase : attributeBase o "pop" X.env (eval o X.env) = eval o X.env := by rfl)
    (hfew : ((backTo cpos (starEach [e] X.env)).all (fun x => !x.1) && (backToKw cpos (keywordEach [] X.env)).all (fun x => x.1.isSome) && decide ([e].length + ([] : List Keyword).length + (if ([] : List Keyword).isEmpty then 0 else 1) < 30)) = true := by rfl)
    (hline : (apos.endLine == cpos.line) = true := by rfl) (hst : starEach [e] X.env = (false, eval e X.env) :: starEach [] X.env := by rfl) :
    SE X (.Call (.Attribute o "pop" apos) [e] [] cpos) (fPopAt h f) := by
  obtain ⟨t, pt, et⟩ := he.ex
  obtain ⟨u, pu, eu⟩ := ho.ex
  refine ⟨_, pe_bm PySem.F.plainAttrs_list PySem.F.slot_list_pop PySem.F.type_list_pop mt_popAt pu (pa_cons pt pa_nil hst) hbase hfew hline hst, fun w0 w s s' ρ σ r Q F e q => ?_⟩
  obtain ⟨⟨x, s1⟩, e1, e⟩ := Option.bind_eq_some_iff.mp e
  dsimp only at e
  split at e
  · rename_i n
    split at e
    · rename_i hl
      obtain ⟨⟨z, s2⟩, e2, e⟩ := Option.bind_eq_some_iff.mp e
      dsimp only at e
      split at e
      · rename_i i
        split at e
        · rename_i hi
          refine eu w0 w s _ ρ σ _ _ F e1 fun v w1 st1 F1 r1 => ?_
          obtain ⟨A, hA, rfl⟩ := r1
          obtain ⟨us, hu⟩ := isLst_at F1.wk hA hl
          refine ⟨.inl ⟨rfl, _, SqL.of hu⟩, ?_⟩
          refine et w0 w1 s1 _ ρ σ _ _ F1 e2 fun v2 w2 st2 F2 r2 => ?_
          obtain ⟨vs, j, v3, h1, h2, h3, st3, k3, r3⟩ := popS_at F2.wk (st2.get hA) e
          have hb := of_decide_eq_true hi
          exact ⟨A, vs, i, j, v3, rfl, by rw [lv_int r2], h1, hb.1, hb.2, h2, h3, q v3 ⟨w2.m, w2.B, upd w2.H A (.lst (vs.eraseIdx j))⟩ ((st1.trans st2).trans st3) (F2.step st3 k3) r3⟩
        · cases e
      · cases e
    · cases e
  · cases e
theorem ss_setS (ho : SE X o h) (ha : SE X a g) (he : SE X e f)
    (hp : ∀ v, assign (.Subscript o a apos) X.env v = (do let ov ← holding [v] (eval o X.env); let iv ← holding [v, ov] (eval a X.env); standAt apos; holding [v, ov, iv] (setItem ov iv v); release [v, ov, iv] []) := by intro _; rfl)
    (hs : swapsWithSole [.Subscript o a apos] e pos.line X.env = pure false := by rfl) (hw : swappedStores [.Subscript o a apos] e X.env = pure none := by rfl)
    (h1 : (assignEach [.Subscript o a apos] X.env).map (·.2) = [assign (.Subscript o a apos) X.env] := by rfl) :
    SS X (.Assign [.Subscript o a apos] e pos) (fSetS h g f) := by
  obtain ⟨t, pt, et⟩ := he.ex
  obtain ⟨u, pu, eu⟩ := ha.ex
  obtain ⟨z, pz, ez⟩ := ho.ex
  refine ⟨_, ps_asg pt (pg_sub pz pu set_list hp) hs hw h1, fun w0 w s s' ρ ρ' σ fl D F e p => ?_⟩
  obtain ⟨⟨x, s1⟩, e1, e⟩ := Option.bind_eq_some_iff.mp e
  obtain ⟨⟨y, s2⟩, e2, e⟩ := Option.bind_eq_some_iff.mp e
  dsimp only at e
  split at e
  · rename_i n
    obtain ⟨⟨z, s3⟩, e3, e⟩ := Option.bind_eq_some_iff.mp e
    dsimp only at e
    split at e
    · rename_i i
      obtain ⟨s4, e4, e⟩ := Option.bind_eq_some_iff.mp e
      cases e
      refine et w0 w s _ ρ σ _ _ F e1 fun v w1 st1 F1 r1 => ?_
      refine ez w0 w1 s1 _ ρ σ _ _ F1 e2 fun v2 w2 st2 F2 r2 => ?_
      obtain ⟨A, hA, rfl⟩ := r2
      refine eu w0 w2 s2 _ ρ σ _ _ F2 e3 fun v3 w3 st3 F3 r3 => ?_
      obtain ⟨vs, j, h1, h2, st4, k4⟩ := setS_at F3.wk (st3.get hA) ((st2.trans st3).lv' r1) e4
      exact ⟨A, vs, i, j, rfl, lv_int r3, h1, h2, p ⟨w3.m, w3.B, upd w3.H A (.lst (vs.set j v))⟩ σ (((st1.trans st2).trans st3).trans st4).bm (F3.step st4 k4)⟩
    · cases e
  · cases e
end
end Zz
set_option Elab.async false
set_option linter.all false
/-! ZI: stores into attributes; several targets; what is walked; for; comprehensions -/
namespace Zz
open PySem L2
/-! ### attributes -/
def fldS (s : S) (n : Nat) (c f : Str) (x : L) : Option S := match s[n]? with
  | some (.ins c' fs) => if c' = c ∧ fs.length < 1000 ∧ keepable x = true then some (s.set n (.ins c (putA f x fs))) else none
  | _ => none
def fSetF (c fn : Str) (o f : FE) : FS := fun ρ s => (f ρ s).bind fun p => (o ρ p.2).bind fun q => match q.1 with
  | .rf n => (fldS q.2 n c fn p.1).bind fun s3 => some (.nx, ρ, s3)
  | _ => none
/-- o.f += value, o.f -= value, of numbers -/
def fAugF (c fn : Str) (g : Int → Int → Int) (o f : FE) : FS := fun ρ s => (o ρ s).bind fun q => match q.1 with
  | .rf n => match q.2[n]? with
    | some (.ins c' fs) => if c' = c then match lkp fn fs with
      | some (.im (.int i)) => (f ρ q.2).bind fun p => match p.1 with
        | .im (.int j) => (fldS p.2 n c fn (.im (.int (g i j)))).bind fun s3 => some (.nx, ρ, s3)
        | _ => none
      | _ => none
    else none
    | _ => none
  | _ => none
section
variable {K : PySem.W.Frag} {mg : Str → Option Value} {w w' : Wd} {s s' : S}
theorem fldS_at (k : Wok K mg w s) {n : Nat} {A C : Addr} {c f : Str} {v : V} {x : L} (hC : mg c = some (.ref C)) (hA : w.m[n]? = some A) (r : Lv K w v x) (e : fldS s n c f x = some s') :
    ∃ dx hs, w.H A = some (.ins C dx hs) ∧ hs.length < 1000 ∧ Stp w ⟨w.m, w.B, upd w.H A (.ins C dx (putF f v hs))⟩ ∧ Wok K mg ⟨w.m, w.B, upd w.H A (.ins C dx (putF f v hs))⟩ s' := by
  unfold fldS at e
  split at e
  · rename_i c' fs q
    split at e
    · rename_i hc
      cases e
      obtain ⟨C', dx, hs, h1, h2, h3⟩ := k.ok n A _ hA q
      obtain ⟨rfl, hl, hk⟩ := hc
      have eC : C' = C := by
        have := h1.symm.trans hC
        cases this; rfl
      subst eC
      obtain ⟨st, k'⟩ := k.put (o := .ins C' dx (putF f v hs)) (mo := .ins c' (putA f x fs)) hA ⟨C', dx, _, hC, upd_same, (putA_at (kv_of r hk) h3).mono fun _ _ y => ⟨y.1, kv_put y.2⟩⟩
      exact ⟨dx, hs, h2, by rw [h3.length]; exact hl, st, k'⟩
    · cases e
  · cases e
end
def gFld (K : PySem.W.Frag) (to : TE) (f : Str) : TG := fun v σ H Q => to σ H fun x H1 => ∃ a C dx fs, x = .ref a ∧ H1 a = some (.ins C dx fs) ∧ Cls K C ∧ NoAttr K C f ∧ fs.length < 1000 ∧ Q σ (upd H1 a (.ins C dx (putF f v fs)))
section
variable {X : Cx} {e a o : Expr} {f g h : FE} {pos cpos apos p2 tpos : Pos} {cn fn : Str}
theorem pg_fld {to : TE} (ho : PE X o to) : PG X (.Attribute o fn pos) (gFld X.K to fn) := by
  refine ⟨fun pins s σ H v u Q I r h => PySem.W.kas_attr (thn (ho.run pins s σ H _ I h) fun ov s1 hh => ?_)⟩
  obtain ⟨x, H1, I1, rx, a, C, dx, fs, ex, ea, c, n, l, q⟩ := hh
  subst ex
  obtain rfl : ov = Value.ref a := rx
  exact setattr_ok I1 ea c n l r fun s3 I3 => ⟨σ, _, I3, q⟩
theorem ss_setF (hF : FldOk X.K X.mg cn fn) (ho : SE X o h) (he : SE X e f) (hs : swapsWith e (some (.Attribute o fn apos)) pos.line X.env = pure false := by rfl) : SS X (.Assign [.Attribute o fn apos] e pos) (fSetF cn fn h f) := by
  obtain ⟨t, pt, et⟩ := he.ex
  obtain ⟨u, pu, eu⟩ := ho.ex
  obtain ⟨C, hC, hcl, hna⟩ := hF.ex
  refine ⟨_, ps_fld pu pt hs, fun w0 w s s' ρ ρ' σ fl D F e p => ?_⟩
  obtain ⟨⟨x, s1⟩, e1, e⟩ := Option.bind_eq_some_iff.mp e
  obtain ⟨⟨y, s2⟩, e2, e⟩ := Option.bind_eq_some_iff.mp e
  dsimp only at e
  split at e
  · rename_i n
    obtain ⟨s3, e3, e⟩ := Option.bind_eq_some_iff.mp e
    cases e
    refine et w0 w s _ ρ σ _ _ F e1 fun v w1 st1 F1 r1 => ?_
    refine eu w0 w1 s1 _ ρ σ _ _ F1 e2 fun v2 w2 st2 F2 r2 => ?_
    obtain ⟨A, hA, rfl⟩ := r2
    obtain ⟨dx, hs, h1, h2, st3, k3⟩ := fldS_at F2.wk hC hA (st2.lv' r1) e3
    exact ⟨A, C, dx, hs, rfl, h1, hcl, hna, h2, p ⟨w2.m, w2.B, upd w2.H A (.ins C dx (putF fn v hs))⟩ σ ((st1.trans st2).trans st3).bm (F2.step st3 k3)⟩
  · cases e
theorem ss_augF {op : Operator} {gg : Int → Int → Int} (hop : InOp X op (fun x y H Q => ∃ i j, x = .int i ∧ y = .int j ∧ Q (.int (gg i j)) H)) (hF : FldOk X.K X.mg cn fn) (ho : SE X o h) (he : SE X e f) : SS X (.AugAssign (.Attribute o fn tpos) op e pos) (fAugF cn fn gg h f) := by
  obtain ⟨t, pt, et⟩ := he.ex
  obtain ⟨u, pu, eu⟩ := ho.ex
  obtain ⟨C, hC, hcl, hna⟩ := hF.ex
  refine ⟨_, ps_fldaug pu pt hop, fun w0 w s s' ρ ρ' σ fl D F e p => ?_⟩
  obtain ⟨⟨x, s1⟩, e1, e⟩ := Option.bind_eq_some_iff.mp e
  dsimp only at e
  split at e
  · rename_i n
    split at e
    · rename_i c' fs q
      split at e
      · rename_i hc
        split at e
        · rename_i i hl
          obtain ⟨⟨y, s2⟩, e2, e⟩ := Option.bind_eq_some_iff.mp e
          dsimp only at e
          split at e
          · rename_i j
            obtain ⟨s3, e3, e⟩ := Option.bind_eq_some_iff.mp e
            cases e
            refine eu w0 w s _ ρ σ _ _ F e1 fun v w1 st1 F1 r1 => ?_
            obtain ⟨A, hA, rfl⟩ := r1
            subst hc
            obtain ⟨C', dx, hs, h1, h2, h3⟩ := F1.wk.ok n A _ hA q
            have eC : C' = C := by
              have := h1.symm.trans hC
              cases this; rfl
            subst eC
            obtain ⟨v0, h4, h5⟩ := lkp_at h3 hl
            refine ⟨A, C', dx, hs, v0, rfl, h2, hcl, hna, h4, ?_⟩
            refine et w0 w1 s1 _ ρ σ _ _ F1 e2 fun v2 w2 st2 F2 r2 => ?_
            refine ⟨i, j, lv_int (K := X.K) (w := w1) h5, lv_int r2, ?_⟩
            obtain ⟨dx', hs', k1, k2, st3, k3⟩ := fldS_at F2.wk hC (st2.get hA) (v := .int (gg i j)) (show Lv X.K w2 (.int (gg i j)) (.im (.int (gg i j))) from Dq.int _) e3
            exact ⟨dx', hs', k1, k2, p ⟨w2.m, w2.B, upd w2.H A (.ins C' dx' (putF fn (.int (gg i j)) hs'))⟩ σ ((st1.trans st2).trans st3).bm (F2.step st3 k3)⟩
          · cases e
        · cases e
      · cases e
    · cases e
  · cases e
theorem ss_addF (hF : FldOk X.K X.mg cn fn) (ho : SE X o h) (he : SE X e f) : SS X (.AugAssign (.Attribute o fn tpos) .Add e pos) (fAugF cn fn (fun i j => i + j) h f) := ss_augF in_add hF ho he
theorem ss_subF (hF : FldOk X.K X.mg cn fn) (ho : SE X o h) (he : SE X e f) : SS X (.AugAssign (.Attribute o fn tpos) .Sub e pos) (fAugF cn fn (fun i j => i - j) h f) := ss_augF in_sub hF ho he
end
/-! ### targets that take data: a name, a row of targets -/
mutual
inductive Tg where
  | nm (i : Nat)
  | tp (l : Tgs)
inductive Tgs where
  | nil
  | cons (t : Tg) (r : Tgs)
end
mutual
def setT : Tg → D → Ro → Option Ro
  | .nm i, d, ρ => some (ρ.set i (.im d))
  | .tp l, .tuple ds, ρ => setTs l ds ρ
  | .tp _, _, _ => none
def setTs : Tgs → List D → Ro → Option Ro
  | .nil, [], ρ => some ρ
  | .cons t r, d :: ds, ρ => (setT t d ρ).bind fun ρ1 => setTs r ds ρ1
  | _, _, _ => none
end
mutual
def Tg.ins (vs : List Nat) : Tg → Bool
  | .nm i => vs.contains i
  | .tp l => Tgs.ins vs l
def Tgs.ins (vs : List Nat) : Tgs → Bool
  | .nil => true
  | .cons t r => t.ins vs && r.ins vs
end
def wipeR (ρ : Ro) : List Nat → Ro
  | [] => ρ
  | v :: vs => (wipeR ρ vs).set v .un
section
variable (K : PySem.W.Frag) (mg : Str → Option Value)
def GO (g : TG) (T : Tg) : Prop := ∀ (w0 w : Wd) (s : S) (ρ ρ' : Ro) (σ : L2.St) (v : V) (d : D) (Q : L2.St → Hp → Prop), FR K mg w0 w s ρ σ → Dq K w.B v d → setT T d ρ = some ρ' →
  (∀ σ', FR K mg w0 w s ρ' σ' → (∀ vs, T.ins vs = true → wipe σ' vs = wipe σ vs) → Q σ' w.H) → g v σ w.H Q
def GsO (g : TGs) (T : Tgs) : Prop := ∀ (w0 w : Wd) (s : S) (ρ ρ' : Ro) (σ : L2.St) (v : List V) (d : List D) (Q : L2.St → Hp → Prop), FR K mg w0 w s ρ σ → A2 (Dq K w.B) v d → setTs T d ρ = some ρ' →
  (∀ σ', FR K mg w0 w s ρ' σ' → (∀ vs, T.ins vs = true → wipe σ' vs = wipe σ vs) → Q σ' w.H) → g v σ w.H Q
end
structure SG (X : Cx) (t : Expr) (T : Tg) : Prop where
  ex : ∃ g, PG X t g ∧ GO X.K X.mg g T
structure SGs (X : Cx) (t : List Expr) (T : Tgs) : Prop where
  ex : ∃ g, PGs X t g ∧ GsO X.K X.mg g T
theorem wipe_set {σ : L2.St} {i : Nat} {v : Option V} : ∀ {vs : List Nat}, vs.contains i = true → wipe (σ.set i v) vs = wipe σ vs
  | [], h => by simp at h
  | j :: vs, h => by
    show (wipe (σ.set i v) vs).set j none = (wipe σ vs).set j none
    by_cases e : i = j
    · subst e
      have : ∀ vs : List Nat, (wipe (σ.set i v) vs).set i none = (wipe σ vs).set i none := by
        intro vs
        induction vs with
        | nil => show (σ.set i v).set i none = σ.set i none; rw [List.set_set]
        | cons k vs ih =>
          show ((wipe (σ.set i v) vs).set k none).set i none = ((wipe σ vs).set k none).set i none
          by_cases e : k = i
          · subst e; rw [List.set_set, List.set_set, ih]
          · rw [List.set_comm _ _ e, ih, List.set_comm _ _ e]
      exact this vs
    · have h2 : vs.contains i = true := by
        simp at h ⊢
        rcases h with h | h
        · exact absurd h e
        · exact h
      rw [wipe_set h2]
section
variable {X : Cx} {t : Expr} {ts : List Expr} {T : Tg} {Ts : Tgs} {pos : Pos} {y : Str}
theorem sg_nm (i : Nat) (hN : X.N.Nodup) (hi : X.N[i]? = some y := by rfl) (hx : Loc X.env.scope y := by first | exact Or.inl rfl | exact Or.inr rfl) (hf : X.fn y = true ∨ X.env.scope.names.lookup y = some .local := by first | exact .inl rfl | exact .inr rfl) : SG X (.Name y pos) (.nm i) := by
  refine ⟨_, pg_name hN hi hx hf, fun w0 w s ρ ρ' σ v d Q F r e q => ?_⟩
  cases e
  exact q _ (F.set (z := .im d) ⟨v, rfl, r⟩ fun l a z => by cases z) fun vs h => wipe_set h
theorem sgs_nil : SGs X [] .nil := ⟨_, pgs_nil, fun w0 w s ρ ρ' σ v d Q F r e q => by
  cases r with
  | nil => cases e; exact ⟨rfl, q σ F fun vs _ => rfl⟩
  | cons _ _ => cases e⟩
theorem sgs_cons (h1 : SG X t T) (h2 : SGs X ts Ts) (hs : (assignEach (t :: ts) X.env).map (·.2) = assign t X.env :: (assignEach ts X.env).map (·.2) := by rfl) : SGs X (t :: ts) (.cons T Ts) := by
  obtain ⟨g, pg, eg⟩ := h1.ex
  obtain ⟨k, pk, ek⟩ := h2.ex
  refine ⟨_, pgs_cons pg pk hs, fun w0 w s ρ ρ' σ v d Q F r e q => ?_⟩
  cases r with
  | nil => cases e
  | cons r rs =>
    obtain ⟨ρ1, e1, e⟩ := Option.bind_eq_some_iff.mp e
    refine ⟨_, _, rfl, eg w0 w s ρ ρ1 σ _ _ _ F r e1 fun σ1 F1 h1 => ?_⟩
    refine ek w0 w s ρ1 ρ' σ1 _ _ _ F1 rs e fun σ2 F2 h2 => q σ2 F2 fun vs hv => ?_
    simp only [Tgs.ins, Bool.and_eq_true] at hv
    rw [h2 vs hv.2, h1 vs hv.1]
theorem setTs_len : ∀ {Ts : Tgs} {ds : List D} {ρ ρ' : Ro}, setTs Ts ds ρ = some ρ' → ∀ {ts : List Expr} {X : Cx}, SGs X ts Ts → True := fun _ => fun _ => True.intro
theorem sg_tp {n kk : Nat} (hc : X.calm = true) (h : SGs X ts Ts) (hlen : ∀ (ds : List D) (ρ ρ' : Ro), setTs Ts ds ρ = some ρ' → ds.length = n) (hn : (assignEach ts X.env).length = n := by rfl) (hst : (assignEach ts X.env).findIdx? (·.1) = none := by rfl) : SG X (.Tuple ts kk pos) (.tp Ts) := by
  obtain ⟨g, pg, eg⟩ := h.ex
  refine ⟨_, pg_tup hc pg hn hst, fun w0 w s ρ ρ' σ v d Q F r e q => ?_⟩
  cases d with
  | tuple ds =>
    cases r with
    | tup h1 h2 =>
      have a2 := dpAll_iff.mp h2
      exact ⟨_, _, rfl, sqT_mono F.wk.ex h1, by rw [a2.length]; exact hlen ds ρ ρ' e, eg w0 w s ρ ρ' σ _ _ _ F a2 e q⟩
  | _ => cases e
end
theorem len_nil : ∀ (ds : List D) (ρ ρ' : Ro), setTs .nil ds ρ = some ρ' → ds.length = 0 := fun ds ρ ρ' e => by
  cases ds with
  | nil => rfl
  | cons d ds => cases e
theorem len_cons {t : Tg} {r : Tgs} {n : Nat} (h : ∀ (ds : List D) (ρ ρ' : Ro), setTs r ds ρ = some ρ' → ds.length = n) : ∀ (ds : List D) (ρ ρ' : Ro), setTs (.cons t r) ds ρ = some ρ' → ds.length = n + 1 := fun ds ρ ρ' e => by
  cases ds with
  | nil => cases e
  | cons d ds =>
    obtain ⟨ρ1, e1, e⟩ := Option.bind_eq_some_iff.mp e
    rw [List.length_cons, h ds ρ1 ρ' e]
/-! ### what is walked -/
abbrev FI := Ro → S → Option (List D × S)
section
variable (K : PySem.W.Frag) (mg : Str → Option Value)
/-- the walk gives these data, one by one, over whatever comes to be while what is immutable stands -/
def ItOk (w1 : Wd) (J : It) (ls : List D) : Prop := ∃ (G : Hp → Prop) (Y : Nat → Hp → V → Hp → Prop), Walk J ls.length G Y ∧ (∀ H, (∀ a o, w1.B a = some o → H a = some o) → G H) ∧
  ∀ (i : Nat) (w2 : Wd) (s2 : S) (x : V) (H' : Hp), i < ls.length → Wok K mg w2 s2 → Bm w1 w2 → Y i w2.H x H' → ∃ B', Stp w2 ⟨w2.m, B', H'⟩ ∧ Wok K mg ⟨w2.m, B', H'⟩ s2 ∧ ∃ d, ls[i]? = some d ∧ Dq K B' x d
def IO (wi : TI) (f : FI) : Prop := ∀ (w0 w : Wd) (s s' : S) (ρ : Ro) (σ : L2.St) (ls : List D) (R : It → Hp → Prop), FR K mg w0 w s ρ σ → f ρ s = some (ls, s') → (∀ J w', Stp w w' → FR K mg w0 w' s' ρ σ → ItOk K mg w' J ls → R J w'.H) → wi σ w.H R
end
structure SI (X : Cx) (tg e : Expr) (f : FI) : Prop where
  ex : ∃ wi, PI X tg e wi ∧ IO X.K X.mg wi f
def sqI : L → Option (List D)
  | .im (.list l) => some l
  | .im (.tuple l) => some l
  | .sc l => some l
  | _ => none
def fSeqI (f : FE) : FI := fun ρ s => (f ρ s).bind fun p => (sqI p.1).bind fun l => some (l, p.2)
def rngD (lo : Int) (n : Nat) : List D := (List.range n).map fun (i : Nat) => PyData.int (lo + (i : Int))
def okR (i : Int) : Bool := decide (-(2 ^ 62) ≤ i ∧ i < 2 ^ 62)
def fRng1 (f : FA) : FI := fun ρ s => (f ρ s).bind fun p => match p.1 with
  | [.im (.int j)] => if okR j = true then some (rngD 0 j.toNat, p.2) else none
  | _ => none
def fRng2 (f : FA) : FI := fun ρ s => (f ρ s).bind fun p => match p.1 with
  | [.im (.int i), .im (.int j)] => if okR i = true ∧ okR j = true then some (rngD i (j - i).toNat, p.2) else none
  | _ => none
section
variable {K : PySem.W.Frag} {mg : Str → Option Value} {w : Wd} {s : S}
theorem rngD_len {lo : Int} {n : Nat} : (rngD lo n).length = n := by simp [rngD]
theorem it_list {a : Addr} {vs : List V} {ls : List D} (h : SqL K w.B a vs) (h2 : A2 (Dq K w.B) vs ls) : ItOk K mg w (Itl K a) ls := by
  refine ⟨fun H => SqL K H a vs, YAt vs, by rw [← h2.length]; exact walk_list, fun H e => sqL_mono e h, fun i w2 s2 x H' hi k b y => ?_⟩
  obtain ⟨rfl, y⟩ := y
  obtain ⟨d, h3, h4⟩ := h2.getL y
  exact ⟨w2.B, Stp.refl w2, k, d, h3, dp_mono b _ _ h4⟩
theorem it_tup {a : Addr} {vs : List V} {ls : List D} (h : SqT K w.B a vs) (h2 : A2 (Dq K w.B) vs ls) : ItOk K mg w (Itt K a) ls := by
  refine ⟨fun H => SqT K H a vs, YAt vs, by rw [← h2.length]; exact walk_tup, fun H e => sqT_mono e h, fun i w2 s2 x H' hi k b y => ?_⟩
  obtain ⟨rfl, y⟩ := y
  obtain ⟨d, h3, h4⟩ := h2.getL y
  exact ⟨w2.B, Stp.refl w2, k, d, h3, dp_mono b _ _ h4⟩
theorem it_rng {lo : Int} {n : Nat} : ItOk K mg w (Itr lo n) (rngD lo n) := by
  refine ⟨fun _ => True, _, by rw [rngD_len]; exact walk_range, fun H e => True.intro, fun i w2 s2 x H' hi k b y => ?_⟩
  obtain ⟨rfl, rfl⟩ := y
  rw [rngD_len] at hi
  exact ⟨w2.B, Stp.refl w2, k, .int (lo + (i : Int)), by simp [rngD, hi], .int _⟩
end
section
variable {X : Cx} {tg e a b : Expr} {f : FE} {g : FA} {pos p : Pos}
theorem pi_or {wi wi' : TI} (h : PI X tg e wi) (h' : PI X tg e wi') : PI X tg e fun σ H R => wi σ H R ∨ wi' σ H R :=
  ⟨fun pins s σ H R I q => q.elim (h.run pins s σ H R I) (h'.run pins s σ H R I)⟩
theorem si_seq (he : SE X e f) : SI X tg e (fSeqI f) := by
  obtain ⟨t, pt, et⟩ := he.ex
  refine ⟨_, pi_or (pi_list pt) (pi_tup pt), fun w0 w s s' ρ σ ls R F e q => ?_⟩
  obtain ⟨⟨x, s1⟩, e1, e⟩ := Option.bind_eq_some_iff.mp e
  obtain ⟨l, e2, e⟩ := Option.bind_eq_some_iff.mp e
  cases e
  have asL : (∀ v w1, Stp w w1 → FR X.K X.mg w0 w1 s1 ρ σ → Lv X.K w1 v x → ∃ a vs, v = .ref a ∧ SqL X.K w1.B a vs ∧ A2 (Dq X.K w1.B) vs ls) → iList X.K t σ w.H R := fun h =>
    et w0 w s _ ρ σ x _ F e1 fun v w1 st1 F1 r1 => by
      obtain ⟨a, vs, rfl, h1, h2⟩ := h v w1 st1 F1 r1
      exact ⟨a, rfl, ⟨vs, sqL_mono F1.wk.ex h1⟩, q _ w1 st1 F1 (it_list h1 h2)⟩
  cases x with
  | im d =>
    cases d with
    | list ds =>
      cases e2
      refine .inl (asL fun v w1 st1 F1 r1 => ?_)
      cases r1 with
      | lst h1 h2 => exact ⟨_, _, rfl, SqL.of h1, dpAll_iff.mp h2⟩
    | tuple ds =>
      cases e2
      refine .inr (et w0 w s _ ρ σ _ _ F e1 fun v w1 st1 F1 r1 => ?_)
      obtain ⟨a, vs, rfl, h1, h2⟩ := tpV_at r1 rfl
      exact ⟨a, rfl, ⟨vs, sqT_mono F1.wk.ex h1⟩, q _ w1 st1 F1 (it_tup h1 h2)⟩
    | _ => cases e2
  | sc l =>
    cases e2
    exact .inl (asL fun v w1 st1 F1 r1 => r1)
  | _ => cases e2
theorem si_rng1 (hg : Gl X "range") (hm : X.mg "range" = none) (ha : SA X [a] g) (hs : starEach [a] X.env = [(false, eval a X.env)] := by rfl) : SI X tg (.Call (.Name "range" p) [a] [] pos) (fRng1 g) := by
  obtain ⟨t, pt, et⟩ := ha.ex
  refine ⟨_, pi_range1 hg hm pt hs, fun w0 w s s' ρ σ ls R F e q => ?_⟩
  obtain ⟨⟨x, s1⟩, e1, e⟩ := Option.bind_eq_some_iff.mp e
  refine et w0 w s _ ρ σ x _ F e1 fun v w1 st1 F1 r1 => ?_
  dsimp only at e
  split at e
  · rename_i j
    split at e
    · rename_i h
      cases e
      have h := of_decide_eq_true h
      obtain ⟨v, rfl, k1⟩ := a2_one r1
      obtain rfl := lv_int k1
      exact ⟨j, rfl, h.1, h.2, q _ w1 st1 F1 it_rng⟩
    · cases e
  · cases e
theorem si_rng2 (hg : Gl X "range") (hm : X.mg "range" = none) (ha : SA X [a, b] g) (hs : starEach [a, b] X.env = [(false, eval a X.env), (false, eval b X.env)] := by rfl) (hs2 : starEach [b] X.env = [(false, eval b X.env)] := by rfl) : SI X tg (.Call (.Name "range" p) [a, b] [] pos) (fRng2 g) := by
  obtain ⟨t, pt, et⟩ := ha.ex
  refine ⟨_, pi_range2 hg hm pt hs hs2, fun w0 w s s' ρ σ ls R F e q => ?_⟩
  obtain ⟨⟨x, s1⟩, e1, e⟩ := Option.bind_eq_some_iff.mp e
  refine et w0 w s _ ρ σ x _ F e1 fun v w1 st1 F1 r1 => ?_
  dsimp only at e
  split at e
  · rename_i i j
    split at e
    · rename_i h
      cases e
      have h1 := of_decide_eq_true h.1
      have h2 := of_decide_eq_true h.2
      obtain ⟨v, u, rfl, k1, k2⟩ := a2_two r1
      obtain rfl := lv_int k1
      obtain rfl := lv_int k2
      exact ⟨i, j, rfl, ⟨h1.1, h1.2, h2.1, h2.2⟩, q _ w1 st1 F1 it_rng⟩
    · cases e
  · cases e
end
/-! ### for -/
def forL (T : Tg) (b : FS) : List D → FS
  | [] => fun ρ s => some (.nx, ρ, s)
  | d :: ds => fun ρ s => (setT T d ρ).bind fun ρ1 => (b ρ1 s).bind fun r => match r.1 with
    | .nx => forL T b ds r.2.1 r.2.2
    | .ct => forL T b ds r.2.1 r.2.2
    | .bk => some (.nx, r.2.1, r.2.2)
    | .rt l => some (.rt l, r.2.1, r.2.2)
def fFor (T : Tg) (fi : FI) (b : FS) : FS := fun ρ s => (fi ρ s).bind fun p => forL T b p.1 ρ p.2
section
variable {X : Cx} {tg iter : Expr} {body : List Stmt} {T : Tg} {fi : FI} {b : FS} {pos : Pos}
theorem ss_for (hp : PassesOwn (model X.prog X.w) X.A X.env X.xe) (hc : X.calm = true) (hi : SI X tg iter fi) (hg : SG X tg T) (hb : SB X body b) (hs : ∀ x, foldedSetIterable iter X.env x = pure x := by intro _; rfl) : SS X (.For tg iter body [] pos) (fFor T fi b) := by
  obtain ⟨wi, pi, ei⟩ := hi.ex
  obtain ⟨g, pg, eg⟩ := hg.ex
  obtain ⟨t, pt, et⟩ := hb.ex
  refine ⟨_, ps_for hp hc pi pg pt hs, fun w0 w s s' ρ ρ' σ fl D F e p => ?_⟩
  obtain ⟨⟨ls, s1⟩, e1, e⟩ := Option.bind_eq_some_iff.mp e
  refine ei w0 w s s1 ρ σ ls _ F e1 fun J w1 st1 F1 it => ?_
  obtain ⟨G, Y, wk, hG, hY⟩ := it
  refine for_it wk (fun i σ H => (∃ w2 ρ2 s2, H = w2.H ∧ FR X.K X.mg w0 w2 s2 ρ2 σ ∧ Bm w1 w2 ∧ forL T b (ls.drop i) ρ2 s2 = some (fl, ρ', s'))) ⟨w1, ρ, s1, rfl, F1, Bm.refl w1, by simpa using e⟩ (fun i σ H hi ⟨w2, ρ2, s2, hH, F2, b2, _⟩ => ?_) ?_ ?_
  · rw [hH]; exact hG _ fun a o q => F2.wk.ex a o (b2 a o q)
  · rintro i x σ H H' hi ⟨w2, ρ2, s2, rfl, F2, b2, e⟩ hy
    obtain ⟨B', st3, k3, d, hd, r⟩ := hY i w2 s2 x H' hi F2.wk b2 hy
    have F3 := F2.step st3 k3
    have hdrop : ls.drop i = d :: ls.drop (i + 1) := by
      have h1 := List.drop_eq_getElem_cons hi
      rw [List.getElem?_eq_getElem hi] at hd
      rw [h1, Option.some.inj hd]
    rw [hdrop] at e
    obtain ⟨ρ3, e3, e⟩ := Option.bind_eq_some_iff.mp e
    obtain ⟨⟨a, ρ4, s4⟩, e4, e⟩ := Option.bind_eq_some_iff.mp e
    refine eg w0 ⟨w2.m, B', H'⟩ s2 ρ2 ρ3 σ x d _ F3 r e3 fun σ3 F4 _ => ?_
    have b3 : Bm w1 ⟨w2.m, B', H'⟩ := b2.trans st3.bm
    refine et w0 ⟨w2.m, B', H'⟩ s2 s4 ρ3 ρ4 σ3 a _ F4 e4 ?_
    cases a with
    | nx => exact fun w' σ' b' F' => ⟨w', ρ4, s4, rfl, F', b3.trans b', e⟩
    | ct => exact fun w' σ' b' F' => ⟨w', ρ4, s4, rfl, F', b3.trans b', e⟩
    | bk =>
      cases e
      exact fun w' σ' b' F' => p w' σ' ((st1.bm.trans b3).trans b') F'
    | rt l =>
      cases e
      exact p
  · rintro σ H ⟨w2, ρ2, s2, rfl, F2, b2, e⟩
    rw [List.drop_length] at e
    cases e
    exact p w2 σ (st1.bm.trans b2) F2
end
/-! ### comprehensions -/
def lcL (vs : List Nat) (T : Tg) (t : FT) (f : FE) (ρ : Ro) : List D → S → Option (List D × S)
  | [], s => some ([], s)
  | d :: ds, s => (setT T d (wipeR ρ vs)).bind fun ρ1 => (t ρ1 s).bind fun b => if b.1 = true then (f ρ1 b.2).bind fun r => match r.1 with
      | .im x => (lcL vs T t f ρ ds r.2).bind fun q => some (x :: q.1, q.2)
      | _ => none
    else lcL vs T t f ρ ds b.2
def fLC (vs : List Nat) (T : Tg) (fi : FI) (t : FT) (f : FE) : FF := fun ρ s => (fi ρ s).bind fun p => if p.1.length ≤ big then lcL vs T t f ρ p.1 p.2 else none
def fYes : FT := fun _ s => some (true, s)
structure STs (X : Cx) (e : List Expr) (f : FT) : Prop where
  ex : ∃ t, PTs X e t ∧ TO X.K X.mg t f
/-- what is wanted ahead, told by the function alone -/
def canE (K : PySem.W.Frag) (mg : Str → Option Value) (f : FE) : TE := fun σ H Q => ∃ w0 w s ρ r s', w.H = H ∧ FR K mg w0 w s ρ σ ∧ f ρ s = some (r, s') ∧ ∀ v w', Stp w w' → FR K mg w0 w' s' ρ σ → Lv K w' v r → Q v w'.H
def canT (K : PySem.W.Frag) (mg : Str → Option Value) (f : FT) : TT := fun σ H Q => ∃ w0 w s ρ r s', w.H = H ∧ FR K mg w0 w s ρ σ ∧ f ρ s = some (r, s') ∧ ∀ w', Stp w w' → FR K mg w0 w' s' ρ σ → Q r w'.H
def canG (K : PySem.W.Frag) (mg : Str → Option Value) (T : Tg) : TG := fun v σ H Q => ∃ w0 w s ρ ρ' d, w.H = H ∧ FR K mg w0 w s ρ σ ∧ Dq K w.B v d ∧ setT T d ρ = some ρ' ∧ ∀ σ', FR K mg w0 w s ρ' σ' → (∀ vs, T.ins vs = true → wipe σ' vs = wipe σ vs) → Q σ' w.H
section
variable {X : Cx} {tg iter elt : Expr} {ifs : List Expr} {T : Tg} {fi : FI} {f : FE} {t : FT} {pos : Pos}
theorem SE.can (h : SE X elt f) : PE X elt (canE X.K X.mg f) := by
  obtain ⟨t, pt, et⟩ := h.ex
  refine ⟨fun pins s σ H Q I hh => pt.run pins s σ H Q I ?_⟩
  obtain ⟨w0, w, s1, ρ, r, s', rfl, F, e, q⟩ := hh
  exact et w0 w s1 s' ρ σ r Q F e q
theorem STs.can (h : STs X ifs t) : PTs X ifs (canT X.K X.mg t) := by
  obtain ⟨t, pt, et⟩ := h.ex
  refine ⟨fun pins s σ H Q I hh => pt.run pins s σ H Q I ?_⟩
  obtain ⟨w0, w, s1, ρ, r, s', rfl, F, e, q⟩ := hh
  exact et w0 w s1 s' ρ σ r Q F e q
theorem SG.can (h : SG X tg T) : PG X tg (canG X.K X.mg T) := by
  obtain ⟨g, pg, eg⟩ := h.ex
  refine ⟨fun pins s σ H v u Q I r hh => pg.run pins s σ H v u Q I r ?_⟩
  obtain ⟨w0, w, s1, ρ, ρ', d, rfl, F, rd, e, q⟩ := hh
  exact eg w0 w s1 ρ ρ' σ v d Q F rd e q
theorem sts_nil : STs X [] fYes := ⟨_, pts_nil, fun w0 w s s' ρ σ r Q F e q => by cases e; exact q w (Stp.refl w) F⟩
theorem sts_one {c : Expr} (h : ST X c t) : STs X [c] t := by
  obtain ⟨u, pu, eu⟩ := h.ex
  exact ⟨_, pts_one pu, eu⟩
theorem fr_wipe {K : PySem.W.Frag} {mg : Str → Option Value} {w0 w : Wd} {s : S} {ρ : Ro} {σ : L2.St} (F : FR K mg w0 w s ρ σ) : ∀ vs : List Nat, FR K mg w0 w s (wipeR ρ vs) (wipe σ vs)
  | [] => F
  | i :: vs => by
    have F1 := fr_wipe F vs
    refine ⟨F1.st, F1.wk, ?_, fun j y u h1 h2 => ?_, fun a b l l' p hab h1 h2 h3 h4 => ?_⟩
    · show ((wipe σ vs).set i none).length = ((wipeR ρ vs).set i .un).length
      rw [List.length_set, List.length_set]; exact F1.len
    · have h1 : ((wipeR ρ vs).set i .un)[j]? = some y := h1
      have h2 : ((wipe σ vs).set i none)[j]? = some u := h2
      by_cases e : i = j
      · subst e
        rw [List.getElem?_set, if_pos rfl] at h1
        split at h1
        · cases h1; exact True.intro
        · cases h1
      · rw [List.getElem?_set_ne e] at h1 h2
        exact F1.sl j y u h1 h2
    · have h1 : ((wipeR ρ vs).set i .un)[a]? = some (.ol l) := h1
      have h2 : ((wipeR ρ vs).set i .un)[b]? = some (.ol l') := h2
      have h3 : ((wipe σ vs).set i none)[a]? = some (some (.ref p)) := h3
      have h4 : ((wipe σ vs).set i none)[b]? = some (some (.ref p)) := h4
      have na : i ≠ a := fun e => by
        subst e
        rw [List.getElem?_set, if_pos rfl] at h1
        split at h1 <;> cases h1
      have nb : i ≠ b := fun e => by
        subst e
        rw [List.getElem?_set, if_pos rfl] at h2
        split at h2 <;> cases h2
      rw [List.getElem?_set_ne na] at h1 h3
      rw [List.getElem?_set_ne nb] at h2 h4
      exact F1.di a b l l' p hab h1 h2 h3 h4
theorem fo_lc {vs : List Nat} {wi : TI} (hT : T.ins vs = true) (ei : IO X.K X.mg wi fi) : FO X.K X.mg (tLc wi (canG X.K X.mg T) (canT X.K X.mg t) (canE X.K X.mg f) vs) (fLC vs T fi t f) := by
  intro w0 w s s' ρ σ r Q F e q
  obtain ⟨⟨ls, s1⟩, e1, e⟩ := Option.bind_eq_some_iff.mp e
  split at e
  · rename_i hb
    have hb : ls.length ≤ big := hb
    refine ei w0 w s s1 ρ σ ls _ F e1 fun J w1 st1 F1 it => ?_
    obtain ⟨G, Y, wk, hG, hY⟩ := it
    intro D hD
    refine lc_it wk (fun i H => ∃ w2 s2 acc dacc, H = w2.H ∧ FR X.K X.mg w0 w2 s2 ρ σ ∧ Stp w1 w2 ∧ D ∉ w2.m ∧ w2.B D = none ∧ w2.H D = some (.lst acc) ∧ A2 (Dq X.K w2.B) acc dacc ∧ acc.length ≤ i ∧ ∃ r2, lcL vs T t f ρ (ls.drop i) s2 = some (r2, s') ∧ r = dacc ++ r2) ?_ ?_ ?_ ?_
    · obtain ⟨st2, k2, nB, nm⟩ := F1.wk.own (o := .lst []) hD
      exact ⟨_, s1, [], [], rfl, F1.step st2 k2, st2, nm, nB, upd_same, .nil, Nat.le_refl _, r, by simpa using e, rfl⟩
    · rintro i H hi ⟨w2, s2, acc, dacc, rfl, F2, st2, _⟩
      exact hG _ fun a o z => F2.wk.ex a o (st2.b a o z)
    · rintro i x H H' hi ⟨w2, s2, acc, dacc, rfl, F2, st2, nm, nB, hacc, da, hl, r2, e, er⟩ hy
      obtain ⟨B', st3, k3, d, hd, rd⟩ := hY i w2 s2 x H' hi F2.wk st2.bm hy
      have F3 := F2.step st3 k3
      have hdrop : ls.drop i = d :: ls.drop (i + 1) := by
        have h1 := List.drop_eq_getElem_cons hi
        rw [List.getElem?_eq_getElem hi] at hd
        rw [h1, Option.some.inj hd]
      rw [hdrop] at e
      obtain ⟨ρ3, e3, e⟩ := Option.bind_eq_some_iff.mp e
      obtain ⟨⟨bb, s4⟩, e4, e⟩ := Option.bind_eq_some_iff.mp e
      refine ⟨w0, ⟨w2.m, B', H'⟩, s2, wipeR ρ vs, ρ3, d, rfl, fr_wipe F3 vs, rd, e3, fun σ3 F4 hw => ⟨?_, ?_⟩⟩
      · rw [hw vs hT]
        have idem : ∀ us : List Nat, (∀ i ∈ us, i ∈ vs) → wipe (wipe σ vs) us = wipe σ vs := by
          intro us
          induction us with
          | nil => intro _; rfl
          | cons k us ih =>
            intro hk
            show (wipe (wipe σ vs) us).set k none = wipe σ vs
            rw [ih fun i hi => hk i (List.mem_cons_of_mem _ hi)]
            have hkv : k ∈ vs := hk k (by simp)
            have gen : ∀ vs : List Nat, k ∈ vs → (wipe σ vs).set k none = wipe σ vs := by
              intro vs
              induction vs with
              | nil => intro h; cases h
              | cons j vs ih =>
                intro h
                show ((wipe σ vs).set j none).set k none = (wipe σ vs).set j none
                by_cases e : j = k
                · subst e; rw [List.set_set]
                · rw [List.set_comm _ _ e]
                  rcases List.mem_cons.mp h with z | z
                  · exact absurd z.symm e
                  · rw [ih z]
            exact gen vs hkv
        exact idem vs fun i hi => hi
      · refine ⟨w0, ⟨w2.m, B', H'⟩, s2, ρ3, bb, s4, rfl, F4, e4, fun w5 st5 F5 => ?_⟩
        have hD2 : w2.H D ≠ none := by rw [hacc]; simp
        have st25 := st3.trans st5
        have D5 := st25.fr D _ nm hacc
        have back : FR X.K X.mg w0 w5 s4 ρ σ := ⟨F5.st, F5.wk, F.len, fun i z v h1 h2 => (F2.sl i z v h1 h2).mono st25, F.di⟩
        cases bb with
        | true =>
          obtain ⟨⟨y, s6⟩, e6, e⟩ := Option.bind_eq_some_iff.mp e
          refine iteT ⟨w0, w5, s4, ρ3, y, s6, rfl, F5, e6, fun v w6 st6 F6 r6 => ?_⟩
          dsimp only at e
          split at e
          · rename_i yd
            obtain ⟨⟨q2, s7⟩, e7, e⟩ := Option.bind_eq_some_iff.mp e
            cases e
            have st26 := st25.trans st6
            have nm6 := st26.nm nm hD2
            have nB6 := st26.keepB nB hD2
            have D6 := st26.fr D _ nm hacc
            have st1_6 := st2.trans st26
            refine ⟨acc, D6, big_lt (by omega), ?_⟩
            have new : w.H D = none := st1.lv D hD
            have w0D : w0.H D = none := F.st.lv D new
            have st7 : Stp w1 ⟨w6.m, w6.B, upd w6.H D (.lst (acc ++ [v]))⟩ := by
              refine ⟨st1_6.m, st1_6.b, st1_6.bn, fun a o n z => ?_, fun a z => ?_⟩
              · have ne : a ≠ D := fun y => by rw [y, hD] at z; cases z
                exact (upd_ne ne).trans (st1_6.fr a o n z)
              · by_cases y : a = D
                · rw [y]; exact hD
                · exact st1_6.lv a ((upd_ne (H := w6.H) (o := .lst (acc ++ [v])) y).symm.trans z)
            have k7 : Wok X.K X.mg ⟨w6.m, w6.B, upd w6.H D (.lst (acc ++ [v]))⟩ s6 := by
              refine ⟨fun a o z => ?_, F6.wk.len, F6.wk.nd, F6.wk.fresh, fun a z z' => ?_, fun n a o z z' => ?_⟩
              · have ne : a ≠ D := fun y => by
                  have z : w6.B a = some o := z
                  rw [y, nB6] at z; cases z
                exact (upd_ne ne).trans (F6.wk.ex a o z)
              · have ne : a ≠ D := fun y => nm6 (y ▸ z)
                exact F6.wk.live a z ((upd_ne (H := w6.H) (o := .lst (acc ++ [v])) ne).symm.trans z')
              · have ne : a ≠ D := fun y => nm6 (y ▸ List.mem_of_getElem? z)
                have hm := F6.wk.ok n a o z z'
                cases o with
                | dl l => obtain ⟨us, y1, y2⟩ := hm; exact ⟨us, (upd_ne ne).trans y1, y2⟩
                | rl l => obtain ⟨us, y1, y2⟩ := hm; exact ⟨us, (upd_ne ne).trans y1, y2⟩
                | ins c fs => obtain ⟨C, dx, hs, y1, y2, y3⟩ := hm; exact ⟨C, dx, hs, y1, (upd_ne ne).trans y2, y3⟩
                | gone => exact True.intro
            refine ⟨_, s6, acc ++ [v], dacc ++ [yd], rfl, F1.step st7 k7, st7, nm6, nB6, upd_same, (st26.dps da).append (.cons r6 .nil), by simp; omega, q2, e7, ?_⟩
            rw [er, List.append_assoc]; rfl
          · cases e
        | false =>
          refine iteF ⟨w5, s4, acc, dacc, rfl, back, st2.trans st25, st25.nm nm hD2, st25.keepB nB hD2, D5, st25.dps da, by omega, r2, e, er⟩
    · rintro H ⟨w2, s2, acc, dacc, rfl, F2, st2, nm, nB, hacc, da, hl, r2, e, er⟩
      rw [List.drop_length] at e
      cases e
      rw [List.append_nil] at er
      subst er
      exact q D acc w2 (st1.trans st2) F2 (st1.lv D hD) nm nB hacc da
  · cases e
theorem sf_lc {own : List (Str × Nat)} {scope : Scope} (hc : X.calm = true) (hN : X.N.Nodup) (hi : SI X tg iter fi) (ok : BlkOk X.N X.env.scope scope own)
    (hg : ∀ (s : Shared) (H : Hp) (C : Addr) (cl : List (Str × Addr)) (fp : List Addr), SG (X.blk s H scope (compEnvC scope cl C X.env) fp) tg T)
    (ht : ∀ (s : Shared) (H : Hp) (C : Addr) (cl : List (Str × Addr)) (fp : List Addr), STs (X.blk s H scope (compEnvC scope cl C X.env) fp) ifs t)
    (he : ∀ (s : Shared) (H : Hp) (C : Addr) (cl : List (Str × Addr)) (fp : List Addr), SE (X.blk s H scope (compEnvC scope cl C X.env) fp) elt f)
    (hT : T.ins (own.map (·.2)) = true := by rfl) (hs : ∀ x, foldedSetIterable iter X.env x = pure x := by intro _; rfl) :
    SF X (.ListComp elt [⟨tg, iter, ifs, 0⟩] scope pos) (fLC (own.map (·.2)) T fi t f) := by
  obtain ⟨wi, pi, ei⟩ := hi.ex
  exact ⟨_, pe_lc hc hN pi ok (fun s H C cl fp => (hg s H C cl fp).can) (fun s H C cl fp => (ht s H C cl fp).can) (fun s H C cl fp => (he s H C cl fp).can) hs, fo_lc hT ei⟩
theorem svf_lc {i : Nat} {y : Str} {py spos : Pos} {own : List (Str × Nat)} {scope : Scope} (hc : X.calm = true) (hN : X.N.Nodup) (hi : SI X tg iter fi) (ok : BlkOk X.N X.env.scope scope own)
    (hg : ∀ (s : Shared) (H : Hp) (C : Addr) (cl : List (Str × Addr)) (fp : List Addr), SG (X.blk s H scope (compEnvC scope cl C X.env) fp) tg T)
    (ht : ∀ (s : Shared) (H : Hp) (C : Addr) (cl : List (Str × Addr)) (fp : List Addr), STs (X.blk s H scope (compEnvC scope cl C X.env) fp) ifs t)
    (he : ∀ (s : Shared) (H : Hp) (C : Addr) (cl : List (Str × Addr)) (fp : List Addr), SE (X.blk s H scope (compEnvC scope cl C X.env) fp) elt f)
    (hy : X.N[i]? = some y := by rfl) (hyl : X.env.scope.names.lookup y = some .local := by rfl)
    (hsw : swapsWith (.ListComp elt [⟨tg, iter, ifs, 0⟩] scope pos) (some (.Name y py)) spos.line X.env = pure true := by exact sw_true rfl rfl rfl (by decide +kernel))
    (hT : T.ins (own.map (·.2)) = true := by rfl) (hs : ∀ x, foldedSetIterable iter X.env x = pure x := by intro _; rfl) :
    SVF X i (.Assign [.Name y py] (.ListComp elt [⟨tg, iter, ifs, 0⟩] scope pos) spos) (fLC (own.map (·.2)) T fi t f) := by
  obtain ⟨wi, pi, ei⟩ := hi.ex
  exact ⟨_, ps_setLc hc hN hy hyl hsw pi ok (fun s H C cl fp => (hg s H C cl fp).can) (fun s H C cl fp => (ht s H C cl fp).can) (fun s H C cl fp => (he s H C cl fp).can) hs, fo_lc hT ei⟩
end
end Zz
set_option Elab.async false
set_option linter.all false
/-! ZJ: several names at once; defs by their bodies; the law's end -/
namespace Zz
open PySem PyProof.Rows L2
inductive Va where
  | l (x : L)
  | o (l : List D)
abbrev FVs := Ro → S → Option (List Va × S)
def fV0 : FVs := fun _ s => some ([], s)
def fVl (f : FE) (g : FVs) : FVs := fun ρ s => (f ρ s).bind fun p => (g ρ p.2).bind fun q => some (.l p.1 :: q.1, q.2)
def fVo (f : FF) (g : FVs) : FVs := fun ρ s => (f ρ s).bind fun p => (g ρ p.2).bind fun q => some (.o p.1 :: q.1, q.2)
def ownA : List V → List Va → List Addr
  | .ref a :: vs, .o _ :: zs => a :: ownA vs zs
  | _ :: vs, _ :: zs => ownA vs zs
  | _, _ => []
inductive VsR (K : PySem.W.Frag) (w w' : Wd) : List V → List Va → Prop where
  | nil : VsR K w w' [] []
  | l {v : V} {x : L} {vs : List V} {zs : List Va} : Lv K w' v x → VsR K w w' vs zs → VsR K w w' (v :: vs) (.l x :: zs)
  | o {a : Addr} {us : List V} {l : List D} {vs : List V} {zs : List Va} : w.H a = none → a ∉ w'.m → w'.B a = none → w'.H a = some (.lst us) → A2 (Dq K w'.B) us l → (∀ b ∈ ownA vs zs, b ≠ a) → VsR K w w' vs zs → VsR K w w' (.ref a :: vs) (.o l :: zs)
section
variable {K : PySem.W.Frag} {mg : Str → Option Value} {w w0 w1 w' w'' : Wd} {s s' : S} {ρ : Ro} {σ : L2.St}
theorem VsR.wide (h : Stp w1 w) : ∀ {vs : List V} {zs : List Va}, VsR K w w' vs zs → VsR K w1 w' vs zs
  | _, _, .nil => .nil
  | _, _, .l r t => .l r (VsR.wide h t)
  | _, _, .o h1 h2 h3 h4 h5 h6 t => .o (h.lv _ h1) h2 h3 h4 h5 h6 (VsR.wide h t)
theorem VsR.step (h : Stp w' w'') : ∀ {vs : List V} {zs : List Va}, VsR K w w' vs zs → VsR K w w'' vs zs
  | _, _, .nil => .nil
  | _, _, .l r t => .l (h.lv' r) (VsR.step h t)
  | _, _, .o h1 h2 h3 h4 h5 h6 t => by
    have hn := show w'.H _ ≠ none from by rw [h4]; simp
    exact .o h1 (h.nm h2 hn) (h.keepB h3 hn) (h.fr _ _ h2 h4) (h.dps h5) h6 (VsR.step h t)
theorem VsR.new : ∀ {vs : List V} {zs : List Va}, VsR K w w' vs zs → ∀ b ∈ ownA vs zs, w.H b = none
  | _, _, .nil, b, hb => by cases hb
  | v :: vs, _ :: zs, .l r t, b, hb => by
    have : b ∈ ownA vs zs := by
      cases v <;> exact hb
    exact VsR.new t b this
  | _, _, .o h1 h2 h3 h4 h5 h6 t, b, hb => by
    rcases List.mem_cons.mp hb with e | e
    · rw [e]; exact h1
    · exact VsR.new t b e
theorem VsR.length : ∀ {vs : List V} {zs : List Va}, VsR K w w' vs zs → vs.length = zs.length
  | _, _, .nil => rfl
  | _, _, .l r t => congrArg (· + 1) (VsR.length t)
  | _, _, .o _ _ _ _ _ _ t => congrArg (· + 1) (VsR.length t)
end
def VO (K : PySem.W.Frag) (mg : Str → Option Value) (t : TA) (f : FVs) : Prop := ∀ (w0 w : Wd) (s s' : S) (ρ : Ro) (σ : L2.St) (zs : List Va) (Q : List V → Hp → Prop), FR K mg w0 w s ρ σ → f ρ s = some (zs, s') →
  (∀ vs w', Stp w w' → FR K mg w0 w' s' ρ σ → VsR K w w' vs zs → Q vs w'.H) → t σ w.H Q
structure SVs (X : Cx) (es : List Expr) (f : FVs) : Prop where
  ex : ∃ t, PA X es t ∧ VO X.K X.mg t f
section
variable {X : Cx} {a : Expr} {es : List Expr} {f : FE} {g : FVs} {h : FF}
theorem svs_nil : SVs X [] fV0 := ⟨tNil, pa_nil, fun w0 w s s' ρ σ zs Q F e q => by cases e; exact q [] w (Stp.refl w) F .nil⟩
theorem svs_l (ha : SE X a f) (hb : SVs X es g) (hs : starEach (a :: es) X.env = (false, eval a X.env) :: starEach es X.env := by rfl) : SVs X (a :: es) (fVl f g) := by
  obtain ⟨ta, pa, ea⟩ := ha.ex
  obtain ⟨tb, pb, eb⟩ := hb.ex
  refine ⟨_, pa_cons pa pb hs, fun w0 w s s' ρ σ zs Q F e q => ?_⟩
  obtain ⟨⟨x, s1⟩, e1, e⟩ := Option.bind_eq_some_iff.mp e
  obtain ⟨⟨y, s2⟩, e2, e⟩ := Option.bind_eq_some_iff.mp e
  cases e
  refine ea w0 w s s1 ρ σ x _ F e1 fun v w1 st1 F1 r1 => ?_
  refine eb w0 w1 s1 _ ρ σ y _ F1 e2 fun vs w2 st2 F2 r2 => ?_
  exact q _ w2 (st1.trans st2) F2 (.l (st2.lv' r1) (r2.wide st1))
theorem svs_o (ha : SF X a h) (hb : SVs X es g) (hs : starEach (a :: es) X.env = (false, eval a X.env) :: starEach es X.env := by rfl) : SVs X (a :: es) (fVo h g) := by
  obtain ⟨ta, pa, ea⟩ := ha.ex
  obtain ⟨tb, pb, eb⟩ := hb.ex
  refine ⟨_, pa_cons pa pb hs, fun w0 w s s' ρ σ zs Q F e q => ?_⟩
  obtain ⟨⟨x, s1⟩, e1, e⟩ := Option.bind_eq_some_iff.mp e
  obtain ⟨⟨y, s2⟩, e2, e⟩ := Option.bind_eq_some_iff.mp e
  cases e
  refine ea w0 w s s1 ρ σ x _ F e1 fun A us w1 st1 F1 hA nm nB hH d => ?_
  refine eb w0 w1 s1 _ ρ σ y _ F1 e2 fun vs w2 st2 F2 r2 => ?_
  have hn : w1.H A ≠ none := by rw [hH]; simp
  exact q _ w2 (st1.trans st2) F2 (.o hA (st2.nm nm hn) (st2.keepB nB hn) (st2.fr _ _ nm hH) (st2.dps d) (fun b hb z => hn (by rw [← z]; exact r2.new b hb)) (r2.wide st1))
end
/-! places to be stored into -/
inductive Pl where
  | sl (i : Nat)
  | fd (c fn : Str) (o : FE)
def putV : Pl → Va → Ro → S → Option (Ro × S)
  | .sl i, .l x, ρ, s => (slotOf x).bind fun z => some (ρ.set i z, s)
  | .sl i, .o l, ρ, s => some (ρ.set i (.ol l), s)
  | .fd c fn o, .l x, ρ, s => (o ρ s).bind fun q => match q.1 with
    | .rf n => (fldS q.2 n c fn x).bind fun s3 => some (ρ, s3)
    | _ => none
  | _, _, _, _ => none
def putVs : List Pl → List Va → Ro → S → Option (Ro × S)
  | [], [], ρ, s => some (ρ, s)
  | p :: ps, z :: zs, ρ, s => (putV p z ρ s).bind fun r => putVs ps zs r.1 r.2
  | _, _, _, _ => none
def NotOwn (ρ : Ro) (σ : L2.St) (a : Addr) : Prop := ∀ (j : Nat) (l : List D), ρ[j]? = some (.ol l) → σ[j]? = some (some (.ref a)) → False
def V1 (K : PySem.W.Frag) (w0 w : Wd) (ρ : Ro) (σ : L2.St) (v : V) : Va → Prop
  | .l x => Lv K w v x
  | .o l => ∃ a us, v = .ref a ∧ w0.H a = none ∧ a ∉ w.m ∧ w.B a = none ∧ w.H a = some (.lst us) ∧ A2 (Dq K w.B) us l ∧ NotOwn ρ σ a
def adr (v : V) : Va → Addr → Prop
  | .o _, b => v = .ref b
  | _, _ => False
section
variable (K : PySem.W.Frag) (mg : Str → Option Value)
def P1 (g : TG) (pl : Pl) : Prop := ∀ (w0 w : Wd) (s s' : S) (ρ ρ' : Ro) (σ : L2.St) (v : V) (z : Va) (Q : L2.St → Hp → Prop), FR K mg w0 w s ρ σ → V1 K w0 w ρ σ v z → putV pl z ρ s = some (ρ', s') →
  (∀ w' σ', Stp w w' → FR K mg w0 w' s' ρ' σ' → (∀ b, NotOwn ρ σ b → ¬ adr v z b → NotOwn ρ' σ' b) → Q σ' w'.H) → g v σ w.H Q
def Pn (g : TGs) (ps : List Pl) : Prop := ∀ (w0 w ws : Wd) (s s' : S) (ρ ρ' : Ro) (σ : L2.St) (vs : List V) (zs : List Va) (Q : L2.St → Hp → Prop), FR K mg w0 w s ρ σ → VsR K ws w vs zs → (∀ b ∈ ownA vs zs, w0.H b = none ∧ NotOwn ρ σ b) → putVs ps zs ρ s = some (ρ', s') →
  (∀ w' σ', Bm w w' → FR K mg w0 w' s' ρ' σ' → Q σ' w'.H) → g vs σ w.H Q
end
structure SP1 (X : Cx) (t : Expr) (p : Pl) : Prop where
  ex : ∃ g, PG X t g ∧ P1 X.K X.mg g p
structure SPn (X : Cx) (t : List Expr) (p : List Pl) : Prop where
  ex : ∃ g, PGs X t g ∧ Pn X.K X.mg g p
section
variable {K : PySem.W.Frag} {mg : Str → Option Value} {X : Cx} {t o : Expr} {ts : List Expr} {p : Pl} {ps : List Pl} {f : FE} {pos : Pos} {y cn fn : Str}
theorem p1_nm (i : Nat) : P1 K mg (gName i) (.sl i) := by
  intro w0 w s s' ρ ρ' σ v z Q F r e q
  have keep : ∀ (zz : Slot) (b : Addr), NotOwn ρ σ b → (∀ l, zz = .ol l → v ≠ .ref b) → NotOwn (ρ.set i zz) (σ.set i (some v)) b := fun zz b nb hz j l h1 h2 => by
    by_cases e : i = j
    · subst e
      rw [List.getElem?_set, if_pos rfl] at h1 h2
      split at h1
      · split at h2
        · cases h1; cases h2; exact hz l rfl rfl
        · cases h2
      · cases h1
    · rw [List.getElem?_set_ne e] at h1 h2
      exact nb j l h1 h2
  cases z with
  | l x =>
    obtain ⟨zz, e1, e⟩ := Option.bind_eq_some_iff.mp e
    cases e
    obtain ⟨k, nl⟩ := slotOf_at (w0 := w0) r e1
    exact q w _ (Stp.refl w) (F.set k fun l a z => absurd z (nl l)) fun b nb _ => keep zz b nb fun l z => absurd z (nl l)
  | o l =>
    cases e
    obtain ⟨a, us, rfl, h0, h1, h2, h3, h4, h5⟩ := r
    refine q w _ (Stp.refl w) (F.set (z := .ol l) ⟨a, us, rfl, h1, h0, h2, h3, h4⟩ fun l' b _ z j l2 hj k1 k2 => ?_) fun b nb nd => keep _ b nb fun _ _ z => nd z
    cases z
    exact h5 j l2 k1 k2
theorem p1_fd {C : Addr} {to : TE} (hC : mg cn = some (.ref C)) (hcl : Cls K C) (hna : NoAttr K C fn) (eo : EO K mg to f) : P1 K mg (gFld K to fn) (.fd cn fn f) := by
  intro w0 w s s' ρ ρ' σ v z Q F r e q
  cases z with
  | o l => cases e
  | l x =>
    obtain ⟨⟨y, s1⟩, e1, e⟩ := Option.bind_eq_some_iff.mp e
    dsimp only at e
    split at e
    · rename_i n
      obtain ⟨s3, e3, e⟩ := Option.bind_eq_some_iff.mp e
      cases e
      refine eo w0 w s _ ρ σ _ _ F e1 fun v2 w1 st1 F1 r1 => ?_
      obtain ⟨A, hA, rfl⟩ := r1
      obtain ⟨dx, hs, h1, h2, st3, k3⟩ := fldS_at F1.wk hC hA (st1.lv' r) e3
      exact ⟨A, C, dx, hs, rfl, h1, hcl, hna, h2, q ⟨w1.m, w1.B, upd w1.H A (.ins C dx (putF fn v hs))⟩ σ (st1.trans st3) (F1.step st3 k3) fun b nb _ => nb⟩
    · cases e
theorem pn_nil : Pn K mg gNil [] := by
  intro w0 w ws s s' ρ ρ' σ vs zs Q F r n e q
  cases r with
  | nil => cases e; exact ⟨rfl, q w σ (Bm.refl w) F⟩
  | l _ _ => cases e
  | o _ _ _ _ _ _ _ => cases e
theorem pn_cons {g : TG} {k : TGs} (h1 : P1 K mg g p) (h2 : Pn K mg k ps) : Pn K mg (gCons g k) (p :: ps) := by
  intro w0 w ws s s' ρ ρ' σ vs zs Q F r n e q
  cases r with
  | nil => cases e
  | @l v x vs zs r t =>
    obtain ⟨⟨ρ1, s1⟩, e1, e⟩ := Option.bind_eq_some_iff.mp e
    refine ⟨v, vs, rfl, h1 w0 w s s1 ρ ρ1 σ v (.l x) _ F r e1 fun w1 σ1 st1 F1 hn => ?_⟩
    refine h2 w0 w1 ws s1 s' ρ1 ρ' σ1 vs zs Q F1 (t.step st1) (fun b hb => ?_) e fun w2 σ2 b2 F2 => q w2 σ2 (st1.bm.trans b2) F2
    have hb2 : b ∈ ownA (v :: vs) (.l x :: zs) := by cases v <;> exact hb
    exact ⟨(n b hb2).1, hn b (n b hb2).2 (fun z => z)⟩
  | @o a us l vs zs i1 i2 i3 i4 i5 i6 t =>
    obtain ⟨⟨ρ1, s1⟩, e1, e⟩ := Option.bind_eq_some_iff.mp e
    have na := n a (by show a ∈ a :: ownA vs zs; simp)
    refine ⟨_, vs, rfl, h1 w0 w s s1 ρ ρ1 σ (.ref a) (.o l) _ F ⟨a, us, rfl, na.1, i2, i3, i4, i5, na.2⟩ e1 fun w1 σ1 st1 F1 hn => ?_⟩
    refine h2 w0 w1 ws s1 s' ρ1 ρ' σ1 vs zs Q F1 (t.step st1) (fun b hb => ?_) e fun w2 σ2 b2 F2 => q w2 σ2 (st1.bm.trans b2) F2
    have hb2 : b ∈ ownA (.ref a :: vs) (.o l :: zs) := by show b ∈ a :: ownA vs zs; exact List.mem_cons_of_mem _ hb
    exact ⟨(n b hb2).1, hn b (n b hb2).2 fun z => i6 b hb (by cases z; rfl)⟩
theorem sp_nm (i : Nat) (hN : X.N.Nodup) (hi : X.N[i]? = some y := by rfl) (hx : Loc X.env.scope y := by first | exact Or.inl rfl | exact Or.inr rfl) (hf : X.fn y = true ∨ X.env.scope.names.lookup y = some .local := by first | exact .inl rfl | exact .inr rfl) : SP1 X (.Name y pos) (.sl i) := ⟨_, pg_name hN hi hx hf, p1_nm i⟩
theorem sp_fd (hF : FldOk X.K X.mg cn fn) (ho : SE X o f) : SP1 X (.Attribute o fn pos) (.fd cn fn f) := by
  obtain ⟨t, pt, et⟩ := ho.ex
  obtain ⟨C, hC, hcl, hna⟩ := hF.ex
  exact ⟨_, pg_fld pt, p1_fd hC hcl hna et⟩
theorem spn_nil : SPn X [] [] := ⟨_, pgs_nil, pn_nil⟩
theorem spn_cons (h1 : SP1 X t p) (h2 : SPn X ts ps) (hs : (assignEach (t :: ts) X.env).map (·.2) = assign t X.env :: (assignEach ts X.env).map (·.2) := by rfl) : SPn X (t :: ts) (p :: ps) := by
  obtain ⟨g, pg, eg⟩ := h1.ex
  obtain ⟨k, pk, ek⟩ := h2.ex
  exact ⟨_, pgs_cons pg pk hs, pn_cons eg ek⟩
end
def fPar (ps : List Pl) (g : FVs) : FS := fun ρ s => (g ρ s).bind fun p => if p.1.length = ps.length ∧ ps.length ≤ 1000 then (putVs ps p.1 ρ p.2).bind fun r => some (.nx, r.1, r.2) else none
section
variable {X : Cx} {es ts : List Expr} {g : FVs} {ps : List Pl} {pos pt pt2 : Pos} {k1 k2 : Nat}
theorem fr_new {K : PySem.W.Frag} {mg : Str → Option Value} {w0 w : Wd} {s : S} {ρ : Ro} {σ : L2.St} (F : FR K mg w0 w s ρ σ) {b : Addr} (h : w.H b = none) : NotOwn ρ σ b := fun j l h1 h2 => by
  obtain ⟨v, h3, h4⟩ := fr_slot F h1
  rw [h2] at h3; cases h3
  obtain ⟨c, us, z1, z2, z0, z3, z4, z5⟩ := h4
  cases z1
  rw [h] at z4; cases z4
theorem ss_par (hc : X.calm = true) (hv : SVs X es g) (hp : SPn X ts ps) (hn : (assignEach ts X.env).length = ps.length := by rfl) (hst : (assignEach ts X.env).findIdx? (·.1) = none := by rfl)
    (hs : swapsWithSole [.Tuple ts k1 pt] (.Tuple es k2 pt2) pos.line X.env = pure false := by rfl) (hw : swappedStores [.Tuple ts k1 pt] (.Tuple es k2 pt2) X.env = pure none := by rfl)
    (h1 : (assignEach [.Tuple ts k1 pt] X.env).map (·.2) = [assign (.Tuple ts k1 pt) X.env] := by rfl) : SS X (.Assign [.Tuple ts k1 pt] (.Tuple es k2 pt2) pos) (fPar ps g) := by
  obtain ⟨ta, pa, ea⟩ := hv.ex
  obtain ⟨k, pk, ek⟩ := hp.ex
  refine ⟨_, ps_asg (pe_tup pa) (pg_tup hc pk hn hst) hs hw h1, fun w0 w s s' ρ ρ' σ fl D F e p => ?_⟩
  obtain ⟨⟨zs, s1⟩, e1, e⟩ := Option.bind_eq_some_iff.mp e
  split at e
  · rename_i hl
    obtain ⟨⟨ρ1, s2⟩, e2, e⟩ := Option.bind_eq_some_iff.mp e
    cases e
    refine ea w0 w s s1 ρ σ zs _ F e1 fun vs w1 st1 F1 r1 => ?_
    have hl2 : vs.length = ps.length := r1.length.trans hl.1
    refine ⟨by rw [hl2]; exact Nat.le_trans hl.2 (by decide), fun q hq => ?_⟩
    obtain ⟨st2, k2, nB, nm⟩ := F1.wk.own (o := .tup vs) hq
    refine ⟨q, vs, rfl, SqT.of upd_same, hl2, ?_⟩
    refine ek w0 ⟨w1.m, w1.B, upd w1.H q (.tup vs)⟩ w s1 _ ρ _ σ vs zs _ (F1.step st2 k2) (r1.step st2) (fun b hb => ?_) e2 fun w' σ' b' F' => p w' σ' ((st1.trans st2).bm.trans b') F'
    have hb2 := r1.new b hb
    exact ⟨F.st.lv b hb2, fr_new F hb2⟩
  · cases e
theorem ss_par2 (i j : Nat) {x y : Str} {a b : Expr} {px py : Pos} (hc : X.calm = true) (hN : X.N.Nodup) (hij : i ≠ j) (hv : SVs X [a, b] g) (hi : X.N[i]? = some x := by rfl) (hj : X.N[j]? = some y := by rfl)
    (hx : X.env.scope.names.lookup x = some .local := by rfl) (hy : X.env.scope.names.lookup y = some .local := by rfl)
    (hw : swappedStores [.Tuple [.Name x px, .Name y py] k1 pt] (.Tuple [a, b] k2 pt2) X.env = pure (some [x, y]) := by rfl)
    (hs : swapsWithSole [.Tuple [.Name x px, .Name y py] k1 pt] (.Tuple [a, b] k2 pt2) pos.line X.env = pure false := by rfl) :
    SS X (.Assign [.Tuple [.Name x px, .Name y py] k1 pt] (.Tuple [a, b] k2 pt2) pos) (fPar [.sl i, .sl j] g) := by
  obtain ⟨ta, pa, ea⟩ := hv.ex
  refine ⟨_, ps_par hc hN hi hj hij hx hy pa hw hs, fun w0 w s s' ρ ρ' σ fl D F e p => ?_⟩
  obtain ⟨⟨zs, s1⟩, e1, e⟩ := Option.bind_eq_some_iff.mp e
  split at e
  · rename_i hl
    obtain ⟨⟨ρ1, s2⟩, e2, e⟩ := Option.bind_eq_some_iff.mp e
    cases e
    refine ea w0 w s s1 ρ σ zs _ F e1 fun vs w1 st1 F1 r1 => ?_
    obtain ⟨v, r, h1, u, r', h2, h3, h4⟩ := pn_cons (p1_nm i) (pn_cons (p1_nm j) pn_nil) w0 w1 w s1 _ ρ _ σ vs zs D.nx F1 r1 (fun b hb => ⟨F.st.lv b (r1.new b hb), fr_new F (r1.new b hb)⟩) e2 fun w' σ' b' F' => p w' σ' (st1.bm.trans b') F'
    subst h1 h2 h3
    exact ⟨v, u, rfl, h4⟩
  · cases e
theorem ss_par3 (i j l : Nat) {x y z : Str} {a b c : Expr} {px py pz : Pos} (hc : X.calm = true) (hN : X.N.Nodup) (hij : i ≠ j) (hil : i ≠ l) (hjl : j ≠ l) (hv : SVs X [a, b, c] g) (hi : X.N[i]? = some x := by rfl) (hj : X.N[j]? = some y := by rfl) (hl : X.N[l]? = some z := by rfl)
    (hx : X.env.scope.names.lookup x = some .local := by rfl) (hy : X.env.scope.names.lookup y = some .local := by rfl) (hz : X.env.scope.names.lookup z = some .local := by rfl)
    (hw : swappedStores [.Tuple [.Name x px, .Name y py, .Name z pz] k1 pt] (.Tuple [a, b, c] k2 pt2) X.env = pure (some [x, y, z]) := by rfl)
    (hs : swapsWithSole [.Tuple [.Name x px, .Name y py, .Name z pz] k1 pt] (.Tuple [a, b, c] k2 pt2) pos.line X.env = pure false := by rfl) :
    SS X (.Assign [.Tuple [.Name x px, .Name y py, .Name z pz] k1 pt] (.Tuple [a, b, c] k2 pt2) pos) (fPar [.sl i, .sl j, .sl l] g) := by
  obtain ⟨ta, pa, ea⟩ := hv.ex
  refine ⟨_, L2.ps_par3 hc hN hi hj hl hij hil hjl hx hy hz pa hw hs, fun w0 w s s' ρ ρ' σ fl D F e p => ?_⟩
  obtain ⟨⟨zs, s1⟩, e1, e⟩ := Option.bind_eq_some_iff.mp e
  split at e
  · rename_i hl
    obtain ⟨⟨ρ1, s2⟩, e2, e⟩ := Option.bind_eq_some_iff.mp e
    cases e
    refine ea w0 w s s1 ρ σ zs _ F e1 fun vs w1 st1 F1 r1 => ?_
    obtain ⟨v, r, h1, u, r', h2, t, r'', h3, h4, h5⟩ := pn_cons (p1_nm i) (pn_cons (p1_nm j) (pn_cons (p1_nm l) pn_nil)) w0 w1 w s1 _ ρ _ σ vs zs D.nx F1 r1 (fun b hb => ⟨F.st.lv b (r1.new b hb), fr_new F (r1.new b hb)⟩) e2 fun w' σ' b' F' => p w' σ' (st1.bm.trans b') F'
    subst h1 h2 h3 h4
    exact ⟨v, u, t, rfl, h5⟩
  · cases e
/-- (a, b, ..) = e, e a row of data -/
def fUnp (T : Tg) (f : FE) : FS := fun ρ s => (f ρ s).bind fun p => match p.1 with
  | .im d => (setT T d ρ).bind fun ρ1 => some (.nx, ρ1, p.2)
  | _ => none
theorem ss_unp {tg e : Expr} {T : Tg} {f : FE} (he : SE X e f) (hg : SG X tg T) (hs : swapsWithSole [tg] e pos.line X.env = pure false := by rfl) (hw : swappedStores [tg] e X.env = pure none := by rfl)
    (h1 : (assignEach [tg] X.env).map (·.2) = [assign tg X.env] := by rfl) : SS X (.Assign [tg] e pos) (fUnp T f) := by
  obtain ⟨t, pt, et⟩ := he.ex
  obtain ⟨k, pk, ek⟩ := hg.ex
  refine ⟨_, ps_asg pt pk hs hw h1, fun w0 w s s' ρ ρ' σ fl D F e p => ?_⟩
  obtain ⟨⟨x, s1⟩, e1, e⟩ := Option.bind_eq_some_iff.mp e
  dsimp only at e
  split at e
  · obtain ⟨ρ1, e2, e⟩ := Option.bind_eq_some_iff.mp e
    cases e
    refine et w0 w s _ ρ σ _ _ F e1 fun v w1 st1 F1 r1 => ?_
    exact ek w0 w1 _ ρ _ σ v _ _ F1 r1 e2 fun σ' F' _ => p w1 σ' st1.bm F'
  · cases e
end
/-! ### defs by their bodies -/
def sl1 : L → Slot
  | .im d => .im d
  | .rf n => .rf n
  | .sc l => .sc l
  | .ow _ => .un
def initR (n : Nat) (ls : List L) : Ro := ls.map sl1 ++ List.replicate (n - ls.length) .un
def outG : Option (Fl × Ro × S) → Option (L × S)
  | some (.rt l, _, s) => some (l, s)
  | some (.nx, _, s) => some (.im .none, s)
  | _ => none
def runG (n : Nat) (b : FS) : List L → S → Option (L × S) := fun ls s => outG (b (initR n ls) s)
def outP : Option (Fl × Ro × S) → Option D
  | some (.rt (.im d), _, _) => some d
  | some (.nx, _, _) => some .none
  | _ => none
def runP (n : Nat) (b : FS) : List D → Option D := fun ds => outP (b (initR n (ds.map L.im)) [])
section
variable {K : PySem.W.Frag} {mg : Str → Option Value} {w : Wd} {s : S}
theorem fr_init {N : List Str} {vs : List V} {ls : List L} (k : Wok K mg w s) (h : A2 (Kv K w) vs ls) : FR K mg w w s (initR N.length ls) (L2.start N vs) := by
  have hl := h.length
  have noOl : ∀ (i : Nat) (l : List D), (initR N.length ls)[i]? = some (.ol l) → False := fun i l q => by
    unfold initR at q
    by_cases z : i < ls.length
    · rw [List.getElem?_append_left (by simpa using z), List.getElem?_map] at q
      cases e : ls[i]? with
      | none => rw [e] at q; cases q
      | some x => rw [e] at q; cases x <;> cases q
    · rw [List.getElem?_append_right (by simpa using z), List.getElem?_replicate] at q
      split at q <;> cases q
  refine ⟨Stp.refl w, k, ?_, fun i z v q1 q2 => ?_, fun i j l l' a _ q1 _ _ _ => (noOl i l q1).elim⟩
  · unfold L2.start initR
    simp [hl]
  · unfold initR at q1
    unfold L2.start at q2
    by_cases c : i < ls.length
    · rw [List.getElem?_append_left (by simpa using c), List.getElem?_map] at q1
      rw [List.getElem?_append_left (by simpa [hl] using c), List.getElem?_map] at q2
      cases e : ls[i]? with
      | none => rw [e] at q1; cases q1
      | some x =>
        obtain ⟨u, h1, h2⟩ := h.get e
        rw [e] at q1
        rw [h1] at q2
        cases q1
        cases q2
        cases x with
        | im d => exact ⟨u, rfl, h2⟩
        | rf n => obtain ⟨a, h3, rfl⟩ := h2; exact ⟨a, rfl, h3⟩
        | ow l => exact h2.elim
        | sc l => obtain ⟨a, us, rfl, h3, h4⟩ := h2; exact ⟨a, us, rfl, h3, h4⟩
    · rw [List.getElem?_append_right (by simpa using c), List.getElem?_replicate] at q1
      split at q1
      · cases q1; exact True.intro
      · cases q1
end
section
variable {P : Program} {wl : World} {K : PySem.W.Frag} {mg : Str → Option Value} {base : Heap}
theorem fn_G {x qual : Str} {st : Stmt} {f : Addr} {fd : FuncData} {N ps : List Str} {k : Nat} {b : FS} (F : Fun K x qual st f fd) (Sc : FnScope N ps (defScope st))
    (hb : ∀ (cdv : Value) (A : Around) (outer : List Env) (s : Shared) (H : Hp) (E : XK), Room k (A.deeper (envOfC qual (defScope st) s.heap.objs.size f cdv)) → SB (cxOf L2.CX0 P wl K mg base N qual (defScope st) f cdv A outer s H E).nox (defBody st) b) :
    FnOk P wl K mg base L2.CX0 (k + 1) f fd ps (spG K mg ps.length (runG N.length b)) := by
  refine F.ok Sc (fun vs H Q E h => ?_) (fun cdv A outer s H vs Q E hr h => ?_)
  · obtain ⟨w, s, ls, r, s', _, _, h1, h2, _⟩ := h
    rw [h1.length, h2]
  · obtain ⟨w, s1, ls, r, s', rfl, k1, h1, h2, e, q⟩ := h
    obtain ⟨t, pt, et⟩ := (hb cdv A outer s w.H E hr).ex
    refine ⟨t, pt, ?_⟩
    unfold runG at e
    cases y : b (initR N.length ls) s1 with
    | none => rw [y] at e; cases e
    | some z =>
      obtain ⟨fl, ρ', s2⟩ := z
      rw [y] at e
      refine et w w s1 s2 _ ρ' _ fl _ (fr_init k1 h1) y ?_
      cases fl with
      | nx => cases e; exact fun w' σ' _ F' => q .non w' F'.st F'.wk .non
      | bk => cases e
      | ct => cases e
      | rt l => cases e; exact fun v w' st kk r => q v w' st kk r
theorem fn_P {x qual : Str} {st : Stmt} {f : Addr} {fd : FuncData} {N ps : List Str} {k : Nat} {b : FS} (F : Fun K x qual st f fd) (Sc : FnScope N ps (defScope st))
    (hb : ∀ (cdv : Value) (A : Around) (outer : List Env) (s : Shared) (H : Hp) (E : XK), Room k (A.deeper (envOfC qual (defScope st) s.heap.objs.size f cdv)) → SB (cxOf L2.CX0 P wl K mg base N qual (defScope st) f cdv A outer s H E).nox (defBody st) b) :
    FnOk P wl K mg base L2.CX0 (k + 1) f fd ps (spP K ps.length (runP N.length b)) := by
  refine F.ok Sc (fun vs H Q E h => ?_) (fun cdv A outer s H vs Q E hr h => ?_)
  · obtain ⟨B, ds, d, _, h1, h2, _⟩ := h
    rw [h1.length, h2]
  · obtain ⟨B, ds, d, hB, h1, h2, e, q⟩ := h
    obtain ⟨t, pt, et⟩ := (hb cdv A outer s H E hr).ex
    refine ⟨t, pt, ?_⟩
    unfold runP at e
    have k1 : Wok K mg ⟨[], B, H⟩ [] := ⟨hB, rfl, List.nodup_nil, fun a z => (by cases z), fun a z => (by cases z), fun n a o z => (by simp at z)⟩
    have h3 : A2 (Kv K ⟨[], B, H⟩) vs (ds.map L.im) := by
      clear e q h2
      induction h1 with
      | nil => exact .nil
      | cons r _ ih => exact .cons r ih
    have fin : ∀ v (w' : Wd) s', Stp ⟨[], B, H⟩ w' → Wok K mg w' s' → Dq K w'.B v d → Q v w'.H := fun v w' s' st kk r => q v w'.B w'.H st.b kk.ex st.bn (fun a o z => st.fr a o (by simp) z) r
    cases y : b (initR N.length (ds.map L.im)) [] with
    | none => rw [y] at e; cases e
    | some z =>
      obtain ⟨fl, ρ', s2⟩ := z
      rw [y] at e
      refine et ⟨[], B, H⟩ ⟨[], B, H⟩ [] s2 _ ρ' _ fl _ (fr_init k1 h3) y ?_
      cases fl with
      | nx => cases e; exact fun w' σ' _ F' => fin .non w' s2 F'.st F'.wk .non
      | bk => cases e
      | ct => cases e
      | rt l =>
        cases l with
        | im d' => cases e; exact fun v w' st kk r => fin v w' s2 st kk r
        | rf n => cases e
        | ow l => cases e
        | sc l => cases e
/-- the law's promise -/
def spLaw (K : PySem.W.Frag) : Sp := fun vs H Q _ => ∃ (a : Addr) (ns : List Int), vs = [.ref a] ∧ SqL K H a (ns.map V.int) ∧ ns.length ≤ 63 ∧ ∀ H', Q (.bl true) H'
theorem a2_intsD {is : List Int} {B : Hp} : A2 (Dq K B) (is.map V.int) (is.map PyData.int) := by
  induction is with
  | nil => exact .nil
  | cons i r ih => exact .cons (.int i) ih
theorem fn_law {f : Addr} {fd : FuncData} {ps : List Str} {k : Nat} {F : List L → S → Option (L × S)} (h : FnOk P wl K mg base L2.CX0 k f fd ps (spG K mg 1 F)) (hl : ps.length = 1)
    (law : ∀ ns : List Int, ns.length ≤ 63 → ∃ s', F [.sc (ns.map PyData.int)] [] = some (.im (.bool true), s')) : FnOk P wl K mg base L2.CX0 k f fd ps (spLaw K) := by
  refine h.imp (fun vs H Q E q => ?_)
  obtain ⟨a, ns, rfl, h1, h2, h3⟩ := q
  obtain ⟨s', e⟩ := law ns h2
  refine ⟨⟨[], H, H⟩, [], [.sc (ns.map PyData.int)], _, _, rfl, ⟨fun _ _ z => z, rfl, List.nodup_nil, fun a z => (by cases z), fun a z => (by cases z), fun n a o z => (by simp at z)⟩, .cons ⟨a, _, rfl, h1, a2_intsD⟩ .nil, rfl, e, fun v w' _ _ r => ?_⟩
  cases r
  exact h3 _
end
end Zz
set_option Elab.async false
set_option linter.all false
/-! ZK: further rules -/
namespace Zz
open PySem PyProof.Rows L2
def gNeg : S → L → Option L
  | _, .im (.int i) => some (.im (.int (-i)))
  | _, _ => none
section
variable {K : PySem.W.Frag} {mg : Str → Option Value}
theorem uo_neg : UO K mg (rU fun i => .int (-i)) gNeg := by
  intro w s x lx l Q k r e q
  unfold gNeg at e
  split at e
  · cases e
    exact ⟨_, lv_int r, q _ w (Stp.refl w) k (.int _)⟩
  · cases e
end
/-! chains of two comparisons of ints -/
def fChain (g h : S → L → L → Option L) (f1 f2 f3 : FE) : FE := fun ρ s => (f1 ρ s).bind fun p => (f2 ρ p.2).bind fun q => (g q.2 p.1 q.1).bind fun r => match r with
  | .im (.bool true) => (f3 ρ q.2).bind fun u => (h u.2 q.1 u.1).bind fun z => some (z, u.2)
  | .im (.bool false) => some (.im (.bool false), q.2)
  | _ => none
def fRepF (f g : FE) : FF := fun ρ s => (f ρ s).bind fun p => (g ρ p.2).bind fun q => match lsV q.2 p.1, q.1 with
  | some l, .im (.int k) => if -(2 ^ 63) ≤ k ∧ k < 2 ^ 63 ∧ l.length * k.toNat ≤ big then some ((List.replicate k.toNat l).flatten, q.2) else none
  | _, _ => none
def fCatF (f g : FE) : FF := fun ρ s => (f ρ s).bind fun p => (g ρ p.2).bind fun q => (lsV q.2 p.1).bind fun a => (lsV q.2 q.1).bind fun b => if a.length + b.length ≤ big then some (a ++ b, q.2) else none
section
variable {X : Cx} {a b c : Expr} {f g h : FE} {pos : Pos}
theorem se_neg (ha : SE X a f) : SE X (.UnaryOp .USub a pos) (fUn gNeg f) := se_un un_neg uo_neg ha
theorem eo_chain {K : PySem.W.Frag} {mg : Str → Option Value} {o o' : Int → Int → Bool} {ta tb tc : TE} (ha : EO K mg ta f) (hb : EO K mg tb g) (hc : EO K mg tc h) :
    EO K mg (tChain (rI0 fun i j => .bl (o i j)) (rI0 fun i j => .bl (o' i j)) ta tb tc) (fChain (gI fun i j => some (.bool (o i j))) (gI fun i j => some (.bool (o' i j))) f g h) := by
  intro w0 w s s' ρ σ l Q F e q
  obtain ⟨⟨x, s1⟩, e1, e⟩ := Option.bind_eq_some_iff.mp e
  obtain ⟨⟨y, s2⟩, e2, e⟩ := Option.bind_eq_some_iff.mp e
  obtain ⟨z, e3, e⟩ := Option.bind_eq_some_iff.mp e
  obtain ⟨i, j, d, hx, hy, e4, rfl⟩ := gI_some e3
  have hx : x = L.im (.int i) := hx
  have hy : y = L.im (.int j) := hy
  subst hx hy
  cases e4
  refine ha w0 w s s1 ρ σ _ _ F e1 fun v w1 st1 F1 r1 => ?_
  refine hb w0 w1 s1 s2 ρ σ _ _ F1 e2 fun u w2 st2 F2 r2 => ?_
  refine ⟨i, j, lv_int (st2.lv' r1), lv_int r2, o i j, rfl, ?_⟩
  cases hb : o i j with
  | true =>
    rw [hb] at e
    obtain ⟨⟨u3, s3⟩, e5, e⟩ := Option.bind_eq_some_iff.mp e
    obtain ⟨z, e6, e⟩ := Option.bind_eq_some_iff.mp e
    cases e
    obtain ⟨j', k, d, hj, hk, e7, rfl⟩ := gI_some e6
    have hk : u3 = L.im (.int k) := hk
    subst hk
    cases hj
    cases e7
    refine iteT (hc w0 w2 s2 _ ρ σ _ _ F2 e5 fun v3 w3 st3 F3 r3 => ?_)
    exact ⟨j, k, lv_int (st3.lv' r2), lv_int r3, q _ w3 ((st1.trans st2).trans st3) F3 (.bl _)⟩
  | false =>
    rw [hb] at e
    cases e
    exact iteF (q _ w2 (st1.trans st2) F2 (.bl _))
theorem se_chainLeLe (ha : SE X a f) (hb : SE X b g) (hc : SE X c h) (hm : lastMarks [.LtE, .LtE] [b, c] = false := by rfl) : SE X (.Compare a [.LtE, .LtE] [b, c] pos) (fChain gLe gLe f g h) := by
  obtain ⟨ta, pa, ea⟩ := ha.ex
  obtain ⟨tb, pb, eb⟩ := hb.ex
  obtain ⟨tc, pc, ec⟩ := hc.ex
  exact ⟨_, pe_chain op_le op_le pa pb pc hm, eo_chain (o := fun i j => decide (i ≤ j)) (o' := fun i j => decide (i ≤ j)) ea eb ec⟩
theorem se_chainLeLt (ha : SE X a f) (hb : SE X b g) (hc : SE X c h) (hm : lastMarks [.LtE, .Lt] [b, c] = false := by rfl) : SE X (.Compare a [.LtE, .Lt] [b, c] pos) (fChain gLe gLt f g h) := by
  obtain ⟨ta, pa, ea⟩ := ha.ex
  obtain ⟨tb, pb, eb⟩ := hb.ex
  obtain ⟨tc, pc, ec⟩ := hc.ex
  exact ⟨_, pe_chain op_le op_lt pa pb pc hm, eo_chain (o := fun i j => decide (i ≤ j)) (o' := fun i j => decide (i < j)) ea eb ec⟩
theorem se_chainLtLt (ha : SE X a f) (hb : SE X b g) (hc : SE X c h) (hm : lastMarks [.Lt, .Lt] [b, c] = false := by rfl) : SE X (.Compare a [.Lt, .Lt] [b, c] pos) (fChain gLt gLt f g h) := by
  obtain ⟨ta, pa, ea⟩ := ha.ex
  obtain ⟨tb, pb, eb⟩ := hb.ex
  obtain ⟨tc, pc, ec⟩ := hc.ex
  exact ⟨_, pe_chain op_lt op_lt pa pb pc hm, eo_chain (o := fun i j => decide (i < j)) (o' := fun i j => decide (i < j)) ea eb ec⟩
theorem se_chainLtLe (ha : SE X a f) (hb : SE X b g) (hc : SE X c h) (hm : lastMarks [.Lt, .LtE] [b, c] = false := by rfl) : SE X (.Compare a [.Lt, .LtE] [b, c] pos) (fChain gLt gLe f g h) := by
  obtain ⟨ta, pa, ea⟩ := ha.ex
  obtain ⟨tb, pb, eb⟩ := hb.ex
  obtain ⟨tc, pc, ec⟩ := hc.ex
  exact ⟨_, pe_chain op_lt op_le pa pb pc hm, eo_chain (o := fun i j => decide (i < j)) (o' := fun i j => decide (i ≤ j)) ea eb ec⟩
theorem sf_rep (ha : SE X a f) (hb : SE X b g) : SF X (.BinOp a .Mult b pos) (fRepF f g) := by
  obtain ⟨ta, pa, ea⟩ := ha.ex
  obtain ⟨tb, pb, eb⟩ := hb.ex
  refine ⟨_, pe_op op_rep pa pb, fun w0 w s s' ρ σ r Q F e q => ?_⟩
  obtain ⟨⟨x, s1⟩, e1, e⟩ := Option.bind_eq_some_iff.mp e
  obtain ⟨⟨y, s2⟩, e2, e⟩ := Option.bind_eq_some_iff.mp e
  refine ea w0 w s s1 ρ σ x _ F e1 fun v w1 st1 F1 r1 => ?_
  refine eb w0 w1 s1 s2 ρ σ y _ F1 e2 fun u w2 st2 F2 r2 => ?_
  dsimp only at e
  split at e
  · rename_i l k hl
    split at e
    · rename_i c
      cases e
      obtain ⟨A, vs, rfl, h1, h2⟩ := lsV_at F2.wk (st2.lv' r1) hl
      refine ⟨A, k, vs, rfl, lv_int r2, h1, c.1, c.2.1, by rw [h2.length]; exact big_line c.2.2, fun p hp => ?_⟩
      obtain ⟨st4, k4, nB, nm⟩ := F2.wk.own (o := .lst (List.replicate k.toNat vs).flatten) hp
      exact q p _ _ ((st1.trans st2).trans st4) (F2.step st4 k4) ((st1.trans st2).lv p hp) nm nB upd_same ((st4.dps h2).rep _)
    · cases e
  · cases e
theorem sf_cat (ha : SE X a f) (hb : SE X b g) : SF X (.BinOp a .Add b pos) (fCatF f g) := by
  obtain ⟨ta, pa, ea⟩ := ha.ex
  obtain ⟨tb, pb, eb⟩ := hb.ex
  refine ⟨_, pe_op op_cat pa pb, fun w0 w s s' ρ σ r Q F e q => ?_⟩
  obtain ⟨⟨x, s1⟩, e1, e⟩ := Option.bind_eq_some_iff.mp e
  obtain ⟨⟨y, s2⟩, e2, e⟩ := Option.bind_eq_some_iff.mp e
  obtain ⟨l1, e3, e⟩ := Option.bind_eq_some_iff.mp e
  obtain ⟨l2, e4, e⟩ := Option.bind_eq_some_iff.mp e
  split at e
  · rename_i c
    cases e
    refine ea w0 w s s1 ρ σ x _ F e1 fun v w1 st1 F1 r1 => ?_
    refine eb w0 w1 s1 _ ρ σ y _ F1 e2 fun u w2 st2 F2 r2 => ?_
    obtain ⟨A, vs, rfl, h1, h2⟩ := lsV_at F2.wk (st2.lv' r1) e3
    obtain ⟨B, us, rfl, h3, h4⟩ := lsV_at F2.wk r2 e4
    refine ⟨A, B, vs, us, rfl, rfl, h1, h3, by rw [h2.length, h4.length]; exact big_line c, fun p hp => ?_⟩
    obtain ⟨st4, k4, nB, nm⟩ := F2.wk.own (o := .lst (vs ++ us)) hp
    exact q p _ _ ((st1.trans st2).trans st4) (F2.step st4 k4) ((st1.trans st2).lv p hp) nm nB upd_same (st4.dps (h2.append h4))
  · cases e
end
section
variable {X : Cx} {a b c : Expr} {f g h : FE} {pos : Pos}
theorem to_test {K : PySem.W.Frag} {mg : Str → Option Value} {t : TE} (h : EO K mg t f) : Zz.TO K mg (tTest t) (fTest f) := by
  intro w0 w s s' ρ σ r Q F e q
  obtain ⟨⟨x, s1⟩, e1, e⟩ := Option.bind_eq_some_iff.mp e
  refine h w0 w s s1 ρ σ x _ F e1 fun v w1 st1 F1 r1 => ?_
  dsimp only at e
  split at e
  · cases e
    exact ⟨_, lv_bl r1, q w1 st1 F1⟩
  · cases e
theorem st_cmp {op : CmpOp} {r : R2} {o : S → L → L → Option L} (ho : OpR X (compareOp op) r) (hr : RO X.K X.mg r o) (ha : SE X a f) (hb : SE X b g) (hm : behindInMarks op b = false) : ST X (.Compare a [op] [b] pos) (fTest (fOp o f g)) := by
  obtain ⟨ta, pa, ea⟩ := ha.ex
  obtain ⟨tb, pb, eb⟩ := hb.ex
  exact ⟨_, pt_cmpR ho pa pb hm, to_test (eo_op ea eb hr)⟩
theorem st_lt (ha : SE X a f) (hb : SE X b g) : ST X (.Compare a [.Lt] [b] pos) (fTest (fOp gLt f g)) := st_cmp op_lt (ro_B0 (h := fun i j => decide (i < j))) ha hb (nomark _)
theorem st_le (ha : SE X a f) (hb : SE X b g) : ST X (.Compare a [.LtE] [b] pos) (fTest (fOp gLe f g)) := st_cmp op_le (ro_B0 (h := fun i j => decide (i ≤ j))) ha hb (nomark _)
theorem st_gt (ha : SE X a f) (hb : SE X b g) : ST X (.Compare a [.Gt] [b] pos) (fTest (fOp gGt f g)) := st_cmp op_gt (ro_B0 (h := fun i j => decide (j < i))) ha hb (nomark _)
theorem st_ge (ha : SE X a f) (hb : SE X b g) : ST X (.Compare a [.GtE] [b] pos) (fTest (fOp gGe f g)) := st_cmp op_ge (ro_B0 (h := fun i j => decide (j ≤ i))) ha hb (nomark _)
theorem st_eq {k : Nat} (hr : Room k X.A) (ha : SE X a f) (hb : SE X b g) : ST X (.Compare a [.Eq] [b] pos) (fTest (fOp gEq f g)) := st_cmp (op_eq.or (op_eqD hr.units)) (ro_eqS.or ro_eqD) ha hb (nomark _)
theorem st_ne {k : Nat} (hr : Room k X.A) (ha : SE X a f) (hb : SE X b g) : ST X (.Compare a [.NotEq] [b] pos) (fTest (fOp gNe f g)) := st_cmp (op_ne.or (op_neD hr.units)) (ro_neS.or ro_neD) ha hb (nomark _)
theorem st_is (ha : SE X a f) (hb : SE X b g) : ST X (.Compare a [.Is] [b] pos) (fTest (fOp gIs f g)) := st_cmp (op_isN.or op_isBl) (ro_isN.or ro_isB) ha hb (nomark _)
theorem st_isnot (ha : SE X a f) (hb : SE X b g) : ST X (.Compare a [.IsNot] [b] pos) (fTest (fOp gNotIs f g)) := st_cmp (op_notN.or op_notBl) (ro_notN.or ro_notB) ha hb (nomark _)
theorem st_in {k : Nat} (hr : Room k X.A) (ha : SE X a f) (hb : SE X b g) (hm : behindInMarks .In b = false := by rfl) : ST X (.Compare a [.In] [b] pos) (fTest (fOp (gIn false) f g)) := st_cmp (op_in_seq.or (op_inD (room65 hr))) ((ro_inF false).or ro_inD) ha hb hm
theorem st_notin {k : Nat} (hr : Room k X.A) (ha : SE X a f) (hb : SE X b g) (hm : behindInMarks .NotIn b = false := by rfl) : ST X (.Compare a [.NotIn] [b] pos) (fTest (fOp (gIn true) f g)) := st_cmp (op_notIn_seq.or (op_notInD (room65 hr))) ((ro_inF true).or ro_notInD) ha hb hm
theorem st_chain2 {op op' : CmpOp} {o o' : Int → Int → Bool} (ho : OpR X (compareOp op) (rI0 fun i j => .bl (o i j))) (ho' : OpR X (compareOp op') (rI0 fun i j => .bl (o' i j))) (ha : SE X a f) (hb : SE X b g) (hc : SE X c h) (hm : lastMarks [op, op'] [b, c] = false) :
    ST X (.Compare a [op, op'] [b, c] pos) (fTest (fChain (gI fun i j => some (.bool (o i j))) (gI fun i j => some (.bool (o' i j))) f g h)) := by
  obtain ⟨ta, pa, ea⟩ := ha.ex
  obtain ⟨tb, pb, eb⟩ := hb.ex
  obtain ⟨tc, pc, ec⟩ := hc.ex
  exact ⟨_, pt_chain ho ho' pa pb pc hm, to_test (eo_chain ea eb ec)⟩
theorem st_chainLeLe (ha : SE X a f) (hb : SE X b g) (hc : SE X c h) (hm : lastMarks [.LtE, .LtE] [b, c] = false := by rfl) : ST X (.Compare a [.LtE, .LtE] [b, c] pos) (fTest (fChain gLe gLe f g h)) := st_chain2 (o := fun i j => decide (i ≤ j)) (o' := fun i j => decide (i ≤ j)) op_le op_le ha hb hc hm
theorem st_chainLeLt (ha : SE X a f) (hb : SE X b g) (hc : SE X c h) (hm : lastMarks [.LtE, .Lt] [b, c] = false := by rfl) : ST X (.Compare a [.LtE, .Lt] [b, c] pos) (fTest (fChain gLe gLt f g h)) := st_chain2 (o := fun i j => decide (i ≤ j)) (o' := fun i j => decide (i < j)) op_le op_lt ha hb hc hm
theorem st_chainLtLe (ha : SE X a f) (hb : SE X b g) (hc : SE X c h) (hm : lastMarks [.Lt, .LtE] [b, c] = false := by rfl) : ST X (.Compare a [.Lt, .LtE] [b, c] pos) (fTest (fChain gLt gLe f g h)) := st_chain2 (o := fun i j => decide (i < j)) (o' := fun i j => decide (i ≤ j)) op_lt op_le ha hb hc hm
theorem st_chainLtLt (ha : SE X a f) (hb : SE X b g) (hc : SE X c h) (hm : lastMarks [.Lt, .Lt] [b, c] = false := by rfl) : ST X (.Compare a [.Lt, .Lt] [b, c] pos) (fTest (fChain gLt gLt f g h)) := st_chain2 (o := fun i j => decide (i < j)) (o' := fun i j => decide (i < j)) op_lt op_lt ha hb hc hm
end
end Zz
set_option Elab.async false
set_option linter.all false
/-! ZL: how the functions reckon: equations for simp, no continuation opened before it is reached -/
namespace Zz
open PySem PyProof.Rows L2
/-! values -/
def kVar (s : S) : Option Slot → Option (L × S)
  | some (.im d) => some (.im d, s)
  | some (.rf n) => some (.rf n, s)
  | some (.ol l) => some (.ow l, s)
  | some (.sc l) => some (.sc l, s)
  | _ => none
theorem e_var {i ρ s} : fVar i ρ s = kVar s ρ[i]? := by
  unfold fVar kVar
  cases ρ[i]? with
  | none => rfl
  | some z => cases z <;> rfl
theorem k_var_im {s d} : kVar s (some (.im d)) = some (.im d, s) := id rfl
theorem k_var_rf {s d} : kVar s (some (.rf d)) = some (.rf d, s) := id rfl
theorem k_var_ol {s d} : kVar s (some (.ol d)) = some (.ow d, s) := id rfl
theorem k_var_sc {s d} : kVar s (some (.sc d)) = some (.sc d, s) := id rfl
theorem e_c {d ρ s} : fC d ρ s = some (.im d, s) := id rfl
def kRes (s : S) : Option L → Option (L × S)
  | some r => some (r, s)
  | none => none
def kOp2 (o : S → L → L → Option L) (x : L) : Option (L × S) → Option (L × S)
  | some (y, s) => kRes s (o s x y)
  | none => none
def kOp1 (o : S → L → L → Option L) (g : FE) (ρ : Ro) : Option (L × S) → Option (L × S)
  | some (x, s) => kOp2 o x (g ρ s)
  | none => none
theorem k_res {s r} : kRes s (some r) = some (r, s) := id rfl
theorem e_op {o f g ρ s} : fOp o f g ρ s = kOp1 o g ρ (f ρ s) := by
  unfold fOp kOp1
  cases f ρ s with
  | none => rfl
  | some p =>
    obtain ⟨x, s1⟩ := p
    simp only [Option.bind_some, kOp2]
    cases g ρ s1 with
    | none => rfl
    | some q => obtain ⟨y, s2⟩ := q; simp only [Option.bind_some]; cases o s2 x y <;> rfl
theorem k_op1 {o g ρ x s} : kOp1 o g ρ (some (x, s)) = kOp2 o x (g ρ s) := id rfl
theorem k_op2 {o x y s} : kOp2 o x (some (y, s)) = kRes s (o s x y) := id rfl
def kUn (o : S → L → Option L) : Option (L × S) → Option (L × S)
  | some (x, s) => kRes s (o s x)
  | none => none
theorem e_un {o f ρ s} : fUn o f ρ s = kUn o (f ρ s) := by
  unfold fUn kUn
  cases f ρ s with
  | none => rfl
  | some p => obtain ⟨x, s1⟩ := p; simp only [Option.bind_some]; cases o s1 x <;> rfl
theorem k_un {o x s} : kUn o (some (x, s)) = kRes s (o s x) := id rfl
/-! tests -/
def kTest : Option (L × S) → Option (Bool × S)
  | some (.im (.bool b), s) => some (b, s)
  | _ => none
theorem e_test {f ρ s} : fTest f ρ s = kTest (f ρ s) := by
  unfold fTest kTest
  cases f ρ s with
  | none => rfl
  | some p =>
    obtain ⟨x, s1⟩ := p
    simp only [Option.bind_some]
    cases x with
    | im d => cases d <;> rfl
    | _ => rfl
theorem k_test {b s} : kTest (some (.im (.bool b), s)) = some (b, s) := id rfl
def kTru : Option (L × S) → Option (Bool × S)
  | some (x, s) => match trL s x with
    | some b => some (b, s)
    | none => none
  | none => none
theorem e_tru {f ρ s} : fTru f ρ s = kTru (f ρ s) := by
  unfold fTru kTru
  cases f ρ s with
  | none => rfl
  | some p => obtain ⟨x, s1⟩ := p; simp only [Option.bind_some]; cases trL s1 x <;> rfl
theorem k_tru_b {b s} : kTru (some (.im (.bool b), s)) = some (b, s) := id rfl
theorem k_tru {x s} : kTru (some (x, s)) = match trL s x with | some b => some (b, s) | none => none := id rfl
def kAnd (g : FT) (ρ : Ro) : Option (Bool × S) → Option (Bool × S)
  | some (b, s) => if b = true then g ρ s else some (false, s)
  | none => none
def kOr (g : FT) (ρ : Ro) : Option (Bool × S) → Option (Bool × S)
  | some (b, s) => if b = true then some (true, s) else g ρ s
  | none => none
def kNot : Option (Bool × S) → Option (Bool × S)
  | some (b, s) => some (!b, s)
  | none => none
theorem e_and {f g ρ s} : fAndT f g ρ s = kAnd g ρ (f ρ s) := by unfold fAndT kAnd; cases f ρ s <;> rfl
theorem e_or {f g ρ s} : fOrT f g ρ s = kOr g ρ (f ρ s) := by unfold fOrT kOr; cases f ρ s <;> rfl
theorem e_not {f ρ s} : fNotT f ρ s = kNot (f ρ s) := by unfold fNotT kNot; cases f ρ s <;> rfl
theorem k_and {g ρ b s} : kAnd g ρ (some (b, s)) = if b = true then g ρ s else some (false, s) := id rfl
theorem k_or {g ρ b s} : kOr g ρ (some (b, s)) = if b = true then some (true, s) else g ρ s := id rfl
theorem k_not {b s} : kNot (some (b, s)) = some (!b, s) := id rfl
def kBool : Option (Bool × S) → Option (L × S)
  | some (b, s) => some (.im (.bool b), s)
  | none => none
theorem e_bool {f ρ s} : fBool f ρ s = kBool (f ρ s) := by unfold fBool kBool; cases f ρ s <;> rfl
theorem k_bool {b s} : kBool (some (b, s)) = some (.im (.bool b), s) := id rfl
def kIf (f g : FE) (ρ : Ro) : Option (Bool × S) → Option (L × S)
  | some (b, s) => if b = true then f ρ s else g ρ s
  | none => none
theorem e_if {t f g ρ s} : fIf t f g ρ s = kIf f g ρ (t ρ s) := by unfold fIf kIf; cases t ρ s <;> rfl
theorem k_if {f g ρ b s} : kIf f g ρ (some (b, s)) = if b = true then f ρ s else g ρ s := id rfl
/-! arguments -/
def kCons2 (x : L) : Option (List L × S) → Option (List L × S)
  | some (y, s) => some (x :: y, s)
  | none => none
def kCons1 (g : FA) (ρ : Ro) : Option (L × S) → Option (List L × S)
  | some (x, s) => kCons2 x (g ρ s)
  | none => none
theorem e_nil {ρ s} : fNil ρ s = some ([], s) := id rfl
theorem e_cons {f g ρ s} : fCons f g ρ s = kCons1 g ρ (f ρ s) := by
  unfold fCons kCons1
  cases f ρ s with
  | none => rfl
  | some p => obtain ⟨x, s1⟩ := p; simp only [Option.bind_some, kCons2]; cases g ρ s1 <;> rfl
theorem k_cons1 {g ρ x s} : kCons1 g ρ (some (x, s)) = kCons2 x (g ρ s) := id rfl
theorem k_cons2 {x y s} : kCons2 x (some (y, s)) = some (x :: y, s) := id rfl
def kTup : Option (List L × S) → Option (L × S)
  | some (y, s) => match imAll y with
    | some l => if l.length ≤ big then some (.im (.tuple l), s) else none
    | none => none
  | none => none
def kLst : Option (List L × S) → Option (List D × S)
  | some (y, s) => match imAll y with
    | some l => if l.length ≤ big then some (l, s) else none
    | none => none
  | none => none
theorem e_tup {g ρ s} : fTup g ρ s = kTup (g ρ s) := by
  unfold fTup kTup
  cases g ρ s with
  | none => rfl
  | some p => obtain ⟨x, s1⟩ := p; simp only [Option.bind_some]; cases imAll x <;> rfl
theorem e_lst {g ρ s} : fLst g ρ s = kLst (g ρ s) := by
  unfold fLst kLst
  cases g ρ s with
  | none => rfl
  | some p => obtain ⟨x, s1⟩ := p; simp only [Option.bind_some]; cases imAll x <;> rfl
theorem k_tup {y s l} (h : imAll y = some l) (hl : l.length ≤ big) : kTup (some (y, s)) = some (.im (.tuple l), s) := by
  unfold kTup; simp only [h, hl, if_true]
theorem k_lst {y s l} (h : imAll y = some l) (hl : l.length ≤ big) : kLst (some (y, s)) = some (l, s) := by
  unfold kLst; simp only [h, hl, if_true]
theorem k_tup1 {a s} : kTup (some ([.im a], s)) = some (.im (.tuple [a]), s) := k_tup rfl (by show 1 ≤ 16777216; decide)
theorem k_tup2 {a b s} : kTup (some ([.im a, .im b], s)) = some (.im (.tuple [a, b]), s) := k_tup rfl (by show 2 ≤ 16777216; decide)
theorem k_tup3 {a b c s} : kTup (some ([.im a, .im b, .im c], s)) = some (.im (.tuple [a, b, c]), s) := k_tup rfl (by show 3 ≤ 16777216; decide)
theorem k_tup0 {s} : kTup (some ([], s)) = some (.im (.tuple []), s) := k_tup rfl (by decide)
theorem k_lst0 {s} : kLst (some ([], s)) = some ([], s) := k_lst rfl (by decide)
theorem k_lst1 {a s} : kLst (some ([.im a], s)) = some ([a], s) := k_lst rfl (by show 1 ≤ 16777216; decide)
theorem k_lst2 {a b s} : kLst (some ([.im a, .im b], s)) = some ([a, b], s) := k_lst rfl (by show 2 ≤ 16777216; decide)
theorem k_lst3 {a b c s} : kLst (some ([.im a, .im b, .im c], s)) = some ([a, b, c], s) := k_lst rfl (by show 3 ≤ 16777216; decide)
theorem k_lst4 {a b c d s} : kLst (some ([.im a, .im b, .im c, .im d], s)) = some ([a, b, c, d], s) := k_lst rfl (by show 4 ≤ 16777216; decide)
theorem k_lst5 {a b c d e s} : kLst (some ([.im a, .im b, .im c, .im d, .im e], s)) = some ([a, b, c, d, e], s) := k_lst rfl (by show 5 ≤ 16777216; decide)
theorem k_lst6 {a b c d e f s} : kLst (some ([.im a, .im b, .im c, .im d, .im e, .im f], s)) = some ([a, b, c, d, e, f], s) := k_lst rfl (by show 6 ≤ 16777216; decide)
def kFrz : Option (List D × S) → Option (L × S)
  | some (l, s) => some (.im (.list l), s)
  | none => none
theorem e_frz {f ρ s} : fFrz f ρ s = kFrz (f ρ s) := by unfold fFrz kFrz; cases f ρ s <;> rfl
theorem k_frz {l s} : kFrz (some (l, s)) = some (.im (.list l), s) := id rfl
def kNewD : Option (List D × S) → Option (L × S)
  | some (l, s) => some (.rf s.length, s ++ [.dl l])
  | none => none
theorem e_newD {f ρ s} : fNewD f ρ s = kNewD (f ρ s) := by unfold fNewD kNewD; cases f ρ s <;> rfl
theorem k_newD {l s} : kNewD (some (l, s)) = some (.rf s.length, s ++ [.dl l]) := id rfl
def kNewR : Option (List L × S) → Option (L × S)
  | some (l, s) => if l.all keepable = true ∧ l.length ≤ big then some (.rf s.length, s ++ [.rl l]) else none
  | none => none
theorem e_newR {f ρ s} : fNewR f ρ s = kNewR (f ρ s) := by unfold fNewR kNewR; cases f ρ s <;> rfl
theorem k_newR {l s} (h : l.all keepable = true) (h2 : l.length ≤ big) : kNewR (some (l, s)) = some (.rf s.length, s ++ [.rl l]) := if_pos ⟨h, h2⟩
/-! calls -/
def kCall (o : S → List L → Option L) : Option (List L × S) → Option (L × S)
  | some (x, s) => kRes s (o s x)
  | none => none
theorem e_call {o g ρ s} : fCall o g ρ s = kCall o (g ρ s) := by
  unfold fCall kCall
  cases g ρ s with
  | none => rfl
  | some p => obtain ⟨x, s1⟩ := p; simp only [Option.bind_some]; cases o s1 x <;> rfl
theorem k_call {o x s} : kCall o (some (x, s)) = kRes s (o s x) := id rfl
def kCallF (o : S → List L → Option (List D)) : Option (List L × S) → Option (List D × S)
  | some (x, s) => match o s x with
    | some r => some (r, s)
    | none => none
  | none => none
theorem e_callF {o g ρ s} : fCallF o g ρ s = kCallF o (g ρ s) := by
  unfold fCallF kCallF
  cases g ρ s with
  | none => rfl
  | some p => obtain ⟨x, s1⟩ := p; simp only [Option.bind_some]; cases o s1 x <;> rfl
theorem k_callF {o x s} : kCallF o (some (x, s)) = match o s x with | some r => some (r, s) | none => none := id rfl
def kKeep : Option (L × S) → Option (L × S)
  | some r => if keepable r.1 = true then some r else none
  | none => none
theorem k_keep_im {d s} : kKeep (some (.im d, s)) = some (.im d, s) := id rfl
theorem k_keep_rf {d s} : kKeep (some (.rf d, s)) = some (.rf d, s) := id rfl
def kCallG (n : Nat) (F : List L → S → Option (L × S)) : Option (List L × S) → Option (L × S)
  | some (x, s) => if x.all keepable = true ∧ x.length = n then kKeep (F x s) else none
  | none => none
theorem e_callG {n F g ρ s} : fCallG n F g ρ s = kCallG n F (g ρ s) := by
  unfold fCallG kCallG
  cases g ρ s with
  | none => rfl
  | some p => obtain ⟨x, s1⟩ := p; simp only [Option.bind_some]; cases F x s1 <;> rfl
theorem k_callG {n F x s} (h : x.all keepable = true) (h2 : x.length = n) : kCallG n F (some (x, s)) = kKeep (F x s) := if_pos ⟨h, h2⟩
theorem k_callG1 {F a s} : kCallG 1 F (some ([.rf a], s)) = kKeep (F [.rf a] s) := k_callG rfl rfl
theorem k_callG2 {F a d s} : kCallG 2 F (some ([.rf a, .im d], s)) = kKeep (F [.rf a, .im d] s) := k_callG rfl rfl
theorem k_callG3 {F a d e s} : kCallG 3 F (some ([.rf a, .im d, .im e], s)) = kKeep (F [.rf a, .im d, .im e] s) := k_callG rfl rfl
theorem k_callG4 {F a d e e' s} : kCallG 4 F (some ([.rf a, .im d, .im e, .im e'], s)) = kKeep (F [.rf a, .im d, .im e, .im e'] s) := k_callG rfl rfl
def kResD (s : S) : Option D → Option (L × S)
  | some d => some (.im d, s)
  | none => none
theorem k_resD {s d} : kResD s (some d) = some (.im d, s) := id rfl
def kCallP (n : Nat) (F : List D → Option D) : Option (List L × S) → Option (L × S)
  | some (x, s) => match imAll x with
    | some ds => if ds.length = n then kResD s (F ds) else none
    | none => match vwAll s x with
      | some ds => if ds.length = n then match F ds with
        | some d => if flatD d = true then some (.im d, s) else none
        | none => none
      else none
      | none => none
  | none => none
theorem e_callP {n F g ρ s} : fCallP n F g ρ s = kCallP n F (g ρ s) := by
  unfold fCallP kCallP
  cases g ρ s with
  | none => rfl
  | some p =>
    obtain ⟨x, s1⟩ := p
    simp only [Option.bind_some]
    cases imAll x with
    | some ds => simp only; split <;> rename_i h <;> first | (cases F ds <;> rfl) | rfl
    | none =>
      simp only
      cases vwAll s1 x with
      | none => rfl
      | some ds => simp only [Option.bind_some]; split <;> first | (cases F ds <;> rfl) | rfl
theorem k_callP {n F x s ds} (h : imAll x = some ds) (h2 : ds.length = n) : kCallP n F (some (x, s)) = kResD s (F ds) := by
  unfold kCallP; simp only [h, h2, if_true]
theorem k_callP1 {F a s} : kCallP 1 F (some ([.im a], s)) = kResD s (F [a]) := k_callP rfl rfl
theorem k_callP2 {F a b s} : kCallP 2 F (some ([.im a, .im b], s)) = kResD s (F [a, b]) := k_callP rfl rfl
theorem k_callP3 {F a b c s} : kCallP 3 F (some ([.im a, .im b, .im c], s)) = kResD s (F [a, b, c]) := k_callP rfl rfl
theorem k_callP4 {F a b c d s} : kCallP 4 F (some ([.im a, .im b, .im c, .im d], s)) = kResD s (F [a, b, c, d]) := k_callP rfl rfl
theorem k_callPv {n F x s ds d} (h0 : imAll x = none) (h : vwAll s x = some ds) (h2 : ds.length = n) (h3 : F ds = some d) (h4 : flatD d = true) : kCallP n F (some (x, s)) = some (.im d, s) := by
  unfold kCallP; simp only [h0, h, h2, h3, h4, if_true]
def kMeth2 (n : Nat) (F : List L → S → Option (L × S)) (i : Nat) : Option (List L × S) → Option (L × S)
  | some (x, s) => if x.all keepable = true ∧ x.length + 1 = n then kKeep (F (.rf i :: x) s) else none
  | none => none
def kMeth1 (c m : Str) (n : Nat) (F : List L → S → Option (L × S)) (g : FA) (ρ : Ro) : Option (L × S) → Option (L × S)
  | some (.rf i, s) => match s[i]? with
    | some (.ins c' fs) => if c' = c ∧ (lkp m fs).isNone = true then kMeth2 n F i (g ρ s) else none
    | _ => none
  | _ => none
theorem e_meth {c m n F h g ρ s} : fMethG c m n F h g ρ s = kMeth1 c m n F g ρ (h ρ s) := by
  unfold fMethG kMeth1
  cases h ρ s with
  | none => rfl
  | some p =>
    obtain ⟨x, s1⟩ := p
    simp only [Option.bind_some]
    cases x with
    | rf i =>
      simp only
      cases s1[i]? with
      | none => rfl
      | some o =>
        cases o with
        | ins c' fs =>
          simp only
          split
          · cases g ρ s1 with
            | none => rfl
            | some q => obtain ⟨y, s2⟩ := q; simp only [Option.bind_some, kMeth2]; cases F (.rf i :: y) s2 <;> rfl
          · rfl
        | _ => rfl
    | _ => rfl
theorem k_meth1 {c m n F g ρ i s fs} (h : s[i]? = some (.ins c fs)) (h2 : (lkp m fs).isNone = true) : kMeth1 c m n F g ρ (some (.rf i, s)) = kMeth2 n F i (g ρ s) := by
  unfold kMeth1; simp only [h, h2, and_self, if_true]
theorem k_meth2 {n F i x s} (h : x.all keepable = true) (h2 : x.length + 1 = n) : kMeth2 n F i (some (x, s)) = kKeep (F (.rf i :: x) s) := if_pos ⟨h, h2⟩
def kMade (n : Nat) : Option (L × S) → Option (L × S)
  | some (.im .none, s) => some (.rf n, s)
  | _ => none
def kMake (c : Str) (n : Nat) (F : List L → S → Option (L × S)) : Option (List L × S) → Option (L × S)
  | some (x, s) => if x.all keepable = true ∧ x.length + 1 = n then kMade s.length (F (.rf s.length :: x) (s ++ [.ins c []])) else none
  | none => none
theorem e_make {c n F g ρ s} : fMake c n F g ρ s = kMake c n F (g ρ s) := by
  unfold fMake kMake
  cases g ρ s with
  | none => rfl
  | some p =>
    obtain ⟨x, s1⟩ := p
    simp only [Option.bind_some]
    split
    · cases F (.rf s1.length :: x) (s1 ++ [.ins c []]) with
      | none => rfl
      | some q =>
        obtain ⟨y, s2⟩ := q
        cases y with
        | im d => cases d <;> rfl
        | _ => rfl
    · rfl
theorem k_make {c n F x s} (h : x.all keepable = true) (h2 : x.length + 1 = n) : kMake c n F (some (x, s)) = kMade s.length (F (.rf s.length :: x) (s ++ [.ins c []])) := if_pos ⟨h, h2⟩
theorem k_made {n s} : kMade n (some (.im .none, s)) = some (.rf n, s) := id rfl
theorem k_m0 {F i s} : kMeth2 1 F i (some ([], s)) = kKeep (F [.rf i] s) := k_meth2 rfl rfl
theorem k_m1 {F i s a} : kMeth2 2 F i (some ([.im a], s)) = kKeep (F [.rf i, .im a] s) := k_meth2 rfl rfl
theorem k_m2 {F i s a b} : kMeth2 3 F i (some ([.im a, .im b], s)) = kKeep (F [.rf i, .im a, .im b] s) := k_meth2 rfl rfl
theorem k_m3 {F i s a b c} : kMeth2 4 F i (some ([.im a, .im b, .im c], s)) = kKeep (F [.rf i, .im a, .im b, .im c] s) := k_meth2 rfl rfl
theorem k_mk1 {c F s a} : kMake c 2 F (some ([.im a], s)) = kMade s.length (F [.rf s.length, .im a] (s ++ [.ins c []])) := k_make rfl rfl
theorem k_mk2 {c F s a b} : kMake c 3 F (some ([.im a, .im b], s)) = kMade s.length (F [.rf s.length, .im a, .im b] (s ++ [.ins c []])) := k_make rfl rfl
theorem k_meth1n {c c' m n F g ρ i s fs} (h : s[i]? = some (.ins c' fs)) (h2 : ¬ c' = c) : kMeth1 c m n F g ρ (some (.rf i, s)) = none := by
  unfold kMeth1; simp only [h, h2, false_and, if_false]
def kOr2 (g : FE) (ρ : Ro) (s : S) : Option (L × S) → Option (L × S)
  | some r => some r
  | none => g ρ s
theorem e_or2 {f g ρ s} : fOr f g ρ s = kOr2 g ρ s (f ρ s) := by unfold fOr kOr2; cases f ρ s <;> rfl
theorem k_or2 {g ρ s r} : kOr2 g ρ s (some r) = some r := id rfl
theorem k_or2n {g ρ s} : kOr2 g ρ s none = g ρ s := id rfl
/-! attributes -/
def kFld (c f : Str) : Option (L × S) → Option (L × S)
  | some (.rf n, s) => match s[n]? with
    | some (.ins c' fs) => if c' = c then match lkp f fs with
      | some l => if keepable l = true then some (l, s) else none
      | none => none
    else none
    | _ => none
  | _ => none
theorem e_fld {c f h ρ s} : fFld c f h ρ s = kFld c f (h ρ s) := by
  unfold fFld kFld
  cases h ρ s with
  | none => rfl
  | some p =>
    obtain ⟨x, s1⟩ := p
    simp only [Option.bind_some]
    cases x with
    | rf i =>
      simp only
      cases s1[i]? with
      | none => rfl
      | some o =>
        cases o with
        | ins c' fs => simp only; split <;> first | (cases lkp f fs <;> rfl) | rfl
        | _ => rfl
    | _ => rfl
theorem k_fld {c f n s fs l} (h : s[n]? = some (.ins c fs)) (h2 : lkp f fs = some l) (h3 : keepable l = true) : kFld c f (some (.rf n, s)) = some (l, s) := by
  unfold kFld; simp only [h, h2, h3, if_true]
def kStS (ρ : Ro) : Option S → Option (Fl × Ro × S)
  | some s => some (.nx, ρ, s)
  | none => none
theorem k_stS {ρ s} : kStS ρ (some s) = some (.nx, ρ, s) := id rfl
def kSetF2 (c fn : Str) (x : L) (ρ : Ro) : Option (L × S) → Option (Fl × Ro × S)
  | some (.rf n, s) => kStS ρ (fldS s n c fn x)
  | _ => none
def kSetF1 (c fn : Str) (o : FE) (ρ : Ro) : Option (L × S) → Option (Fl × Ro × S)
  | some (x, s) => kSetF2 c fn x ρ (o ρ s)
  | none => none
theorem e_setF {c fn o f ρ s} : fSetF c fn o f ρ s = kSetF1 c fn o ρ (f ρ s) := by
  unfold fSetF kSetF1
  cases f ρ s with
  | none => rfl
  | some p =>
    obtain ⟨x, s1⟩ := p
    simp only [Option.bind_some]
    cases o ρ s1 with
    | none => rfl
    | some q =>
      obtain ⟨y, s2⟩ := q
      cases y with
      | rf n => simp only [Option.bind_some, kSetF2]; cases fldS s2 n c fn x <;> rfl
      | _ => rfl
theorem k_setF1 {c fn o ρ x s} : kSetF1 c fn o ρ (some (x, s)) = kSetF2 c fn x ρ (o ρ s) := id rfl
theorem k_setF2 {c fn x ρ n s} : kSetF2 c fn x ρ (some (.rf n, s)) = kStS ρ (fldS s n c fn x) := id rfl
theorem fldS_of {s n c f x fs} (h : s[n]? = some (.ins c fs)) (h2 : fs.length < 1000) (h3 : keepable x = true) : fldS s n c f x = some (s.set n (.ins c (putA f x fs))) := by
  unfold fldS; simp only [h, h2, h3, and_self, if_true]
/-! statements -/
def kSeq (g : FS) : Option (Fl × Ro × S) → Option (Fl × Ro × S)
  | some (.nx, ρ, s) => g ρ s
  | some r => some r
  | none => none
theorem e_seq {f g ρ s} : fSeq f g ρ s = kSeq g (f ρ s) := by
  unfold fSeq kSeq
  cases f ρ s with
  | none => rfl
  | some r => obtain ⟨a, b⟩ := r; cases a <;> rfl
theorem k_seq {g ρ s} : kSeq g (some (.nx, ρ, s)) = g ρ s := id rfl
theorem k_seq_rt {g ρ s l} : kSeq g (some (.rt l, ρ, s)) = some (.rt l, ρ, s) := id rfl
theorem k_seq_bk {g ρ s} : kSeq g (some (.bk, ρ, s)) = some (.bk, ρ, s) := id rfl
theorem k_seq_ct {g ρ s} : kSeq g (some (.ct, ρ, s)) = some (.ct, ρ, s) := id rfl
theorem e_next {ρ s} : fNext ρ s = some (.nx, ρ, s) := id rfl
def kAsg (i : Nat) (ρ : Ro) : Option (L × S) → Option (Fl × Ro × S)
  | some (.im d, s) => some (.nx, ρ.set i (.im d), s)
  | some (.rf d, s) => some (.nx, ρ.set i (.rf d), s)
  | some (.sc d, s) => some (.nx, ρ.set i (.sc d), s)
  | _ => none
theorem e_asg {i f ρ s} : fAsg i f ρ s = kAsg i ρ (f ρ s) := by
  unfold fAsg kAsg
  cases f ρ s with
  | none => rfl
  | some p => obtain ⟨x, s1⟩ := p; cases x <;> rfl
theorem k_asg_im {i ρ d s} : kAsg i ρ (some (.im d, s)) = some (.nx, ρ.set i (.im d), s) := id rfl
theorem k_asg_rf {i ρ d s} : kAsg i ρ (some (.rf d, s)) = some (.nx, ρ.set i (.rf d), s) := id rfl
def kOwn (i : Nat) (ρ : Ro) : Option (List D × S) → Option (Fl × Ro × S)
  | some (l, s) => some (.nx, ρ.set i (.ol l), s)
  | none => none
theorem e_own {i f ρ s} : fOwn i f ρ s = kOwn i ρ (f ρ s) := by unfold fOwn kOwn; cases f ρ s <;> rfl
theorem k_own {i ρ l s} : kOwn i ρ (some (l, s)) = some (.nx, ρ.set i (.ol l), s) := id rfl
def kDrop (ρ : Ro) : Option (L × S) → Option (Fl × Ro × S)
  | some (_, s) => some (.nx, ρ, s)
  | none => none
theorem e_drop {f ρ s} : fDrop f ρ s = kDrop ρ (f ρ s) := by unfold fDrop kDrop; cases f ρ s <;> rfl
theorem k_drop {ρ x s} : kDrop ρ (some (x, s)) = some (.nx, ρ, s) := id rfl
def kRet (ρ : Ro) : Option (L × S) → Option (Fl × Ro × S)
  | some (x, s) => if keepable x = true then some (.rt x, ρ, s) else none
  | none => none
theorem e_ret {f ρ s} : fRet f ρ s = kRet ρ (f ρ s) := by unfold fRet kRet; cases f ρ s <;> rfl
theorem k_ret_im {ρ d s} : kRet ρ (some (.im d, s)) = some (.rt (.im d), ρ, s) := id rfl
theorem k_ret_rf {ρ d s} : kRet ρ (some (.rf d, s)) = some (.rt (.rf d), ρ, s) := id rfl
def kRetV (ρ : Ro) (s : S) : Option Slot → Option (Fl × Ro × S)
  | some (.ol l) => some (.rt (.im (.list l)), ρ, s)
  | _ => none
theorem e_retV {i ρ s} : fRetV i ρ s = kRetV ρ s ρ[i]? := by
  unfold fRetV kRetV
  cases ρ[i]? with
  | none => rfl
  | some z => cases z <;> rfl
theorem k_retV {ρ s l} : kRetV ρ s (some (.ol l)) = some (.rt (.im (.list l)), ρ, s) := id rfl
def kIfS (f g : FS) (ρ : Ro) : Option (Bool × S) → Option (Fl × Ro × S)
  | some (b, s) => if b = true then f ρ s else g ρ s
  | none => none
theorem e_ifS {t f g ρ s} : fIfS t f g ρ s = kIfS f g ρ (t ρ s) := by unfold fIfS kIfS; cases t ρ s <;> rfl
theorem k_ifS {f g ρ b s} : kIfS f g ρ (some (b, s)) = if b = true then f ρ s else g ρ s := id rfl
def kAppO2 (i : Nat) (ρ : Ro) (s : S) (d : D) : Option Slot → Option (Fl × Ro × S)
  | some (.ol l) => if l.length < big then some (.nx, ρ.set i (.ol (l ++ [d])), s) else none
  | _ => none
def kAppO (i : Nat) (ρ : Ro) : Option (L × S) → Option (Fl × Ro × S)
  | some (.im d, s) => kAppO2 i ρ s d ρ[i]?
  | _ => none
theorem e_appO {i f ρ s} : fAppO i f ρ s = kAppO i ρ (f ρ s) := by
  unfold fAppO kAppO
  cases f ρ s with
  | none => rfl
  | some p =>
    obtain ⟨x, s1⟩ := p
    simp only [Option.bind_some]
    cases x with
    | im d =>
      simp only [kAppO2]
      cases ρ[i]? with
      | none => rfl
      | some z => cases z <;> rfl
    | _ =>
      cases ρ[i]? with
      | none => rfl
      | some z => cases z <;> rfl
theorem k_appO {i ρ d s} : kAppO i ρ (some (.im d, s)) = kAppO2 i ρ s d ρ[i]? := id rfl
theorem k_appO2 {i ρ d s l} (h : l.length < big) : kAppO2 i ρ s d (some (.ol l)) = some (.nx, ρ.set i (.ol (l ++ [d])), s) := if_pos h
/-! the store's lists -/
def kApp2 (n : Nat) : Option (L × S) → Option (L × S)
  | some (x, s) => match pushS s n x with
    | some s3 => some (.im .none, s3)
    | none => none
  | none => none
def kApp1 (f : FE) (ρ : Ro) : Option (L × S) → Option (L × S)
  | some (.rf n, s) => if isLst s n = true then kApp2 n (f ρ s) else none
  | _ => none
theorem e_app {o f ρ s} : fApp o f ρ s = kApp1 f ρ (o ρ s) := by
  unfold fApp kApp1
  cases o ρ s with
  | none => rfl
  | some p =>
    obtain ⟨x, s1⟩ := p
    simp only [Option.bind_some]
    cases x with
    | rf n =>
      simp only
      split
      · cases f ρ s1 with
        | none => rfl
        | some q => obtain ⟨y, s2⟩ := q; simp only [Option.bind_some, kApp2]; cases pushS s2 n y <;> rfl
      · rfl
    | _ => rfl
theorem k_app1 {f ρ n s} (h : isLst s n = true) : kApp1 f ρ (some (.rf n, s)) = kApp2 n (f ρ s) := if_pos h
theorem k_app2 {n x s s3} (h : pushS s n x = some s3) : kApp2 n (some (x, s)) = some (.im .none, s3) := by unfold kApp2; simp only [h]
def kPop2 (n : Nat) : Option (L × S) → Option (L × S)
  | some (.im (.int i), s) => if small63 i = true then popS s n i else none
  | _ => none
def kPop1 (f : FE) (ρ : Ro) : Option (L × S) → Option (L × S)
  | some (.rf n, s) => if isLst s n = true then kPop2 n (f ρ s) else none
  | _ => none
theorem e_popAt {o f ρ s} : fPopAt o f ρ s = kPop1 f ρ (o ρ s) := by
  unfold fPopAt kPop1
  cases o ρ s with
  | none => rfl
  | some p =>
    obtain ⟨x, s1⟩ := p
    simp only [Option.bind_some]
    cases x with
    | rf n =>
      simp only
      split
      · cases f ρ s1 with
        | none => rfl
        | some q =>
          obtain ⟨y, s2⟩ := q
          simp only [Option.bind_some, kPop2]
          cases y with
          | im d => cases d <;> rfl
          | _ => rfl
      · rfl
    | _ => rfl
theorem k_pop1 {f ρ n s} (h : isLst s n = true) : kPop1 f ρ (some (.rf n, s)) = kPop2 n (f ρ s) := if_pos h
theorem k_pop2 {n i s} (h : small63 i = true) : kPop2 n (some (.im (.int i), s)) = popS s n i := if_pos h
def kSetS3 (n : Nat) (x : L) (ρ : Ro) : Option (L × S) → Option (Fl × Ro × S)
  | some (.im (.int i), s) => kStS ρ (setS s n i x)
  | _ => none
def kSetS2 (g : FE) (x : L) (ρ : Ro) : Option (L × S) → Option (Fl × Ro × S)
  | some (.rf n, s) => kSetS3 n x ρ (g ρ s)
  | _ => none
def kSetS1 (o g : FE) (ρ : Ro) : Option (L × S) → Option (Fl × Ro × S)
  | some (x, s) => kSetS2 g x ρ (o ρ s)
  | none => none
theorem e_setS {o g f ρ s} : fSetS o g f ρ s = kSetS1 o g ρ (f ρ s) := by
  unfold fSetS kSetS1
  cases f ρ s with
  | none => rfl
  | some p =>
    obtain ⟨x, s1⟩ := p
    simp only [Option.bind_some, kSetS2]
    cases o ρ s1 with
    | none => rfl
    | some q =>
      obtain ⟨y, s2⟩ := q
      simp only [Option.bind_some]
      cases y with
      | rf n =>
        simp only [kSetS3]
        cases g ρ s2 with
        | none => rfl
        | some r =>
          obtain ⟨z, s3⟩ := r
          simp only [Option.bind_some]
          cases z with
          | im d =>
            cases d with
            | int i => simp only; cases setS s3 n i x <;> rfl
            | _ => rfl
          | _ => rfl
      | _ => rfl
theorem k_setS1 {o g ρ x s} : kSetS1 o g ρ (some (x, s)) = kSetS2 g x ρ (o ρ s) := id rfl
theorem k_setS2 {g x ρ n s} : kSetS2 g x ρ (some (.rf n, s)) = kSetS3 n x ρ (g ρ s) := id rfl
theorem k_setS3 {n x ρ i s} : kSetS3 n x ρ (some (.im (.int i), s)) = kStS ρ (setS s n i x) := id rfl
/-! several at once -/
def kVl2 (z : Va) : Option (List Va × S) → Option (List Va × S)
  | some (y, s) => some (z :: y, s)
  | none => none
def kVl1 (g : FVs) (ρ : Ro) : Option (L × S) → Option (List Va × S)
  | some (x, s) => kVl2 (.l x) (g ρ s)
  | none => none
def kVo1 (g : FVs) (ρ : Ro) : Option (List D × S) → Option (List Va × S)
  | some (x, s) => kVl2 (.o x) (g ρ s)
  | none => none
theorem e_v0 {ρ s} : fV0 ρ s = some ([], s) := id rfl
theorem e_vl {f g ρ s} : fVl f g ρ s = kVl1 g ρ (f ρ s) := by
  unfold fVl kVl1
  cases f ρ s with
  | none => rfl
  | some p => obtain ⟨x, s1⟩ := p; simp only [Option.bind_some, kVl2]; cases g ρ s1 <;> rfl
theorem e_vo {f g ρ s} : fVo f g ρ s = kVo1 g ρ (f ρ s) := by
  unfold fVo kVo1
  cases f ρ s with
  | none => rfl
  | some p => obtain ⟨x, s1⟩ := p; simp only [Option.bind_some, kVl2]; cases g ρ s1 <;> rfl
theorem k_vl1 {g ρ x s} : kVl1 g ρ (some (x, s)) = kVl2 (.l x) (g ρ s) := id rfl
theorem k_vo1 {g ρ x s} : kVo1 g ρ (some (x, s)) = kVl2 (.o x) (g ρ s) := id rfl
theorem k_vl2 {z y s} : kVl2 z (some (y, s)) = some (z :: y, s) := id rfl
def kPar2 : Option (Ro × S) → Option (Fl × Ro × S)
  | some (ρ, s) => some (.nx, ρ, s)
  | none => none
def kPar (ps : List Pl) (ρ : Ro) : Option (List Va × S) → Option (Fl × Ro × S)
  | some (zs, s) => if zs.length = ps.length ∧ ps.length ≤ 1000 then kPar2 (putVs ps zs ρ s) else none
  | none => none
theorem e_par {ps g ρ s} : fPar ps g ρ s = kPar ps ρ (g ρ s) := by
  unfold fPar kPar
  cases g ρ s with
  | none => rfl
  | some p =>
    obtain ⟨x, s1⟩ := p
    simp only [Option.bind_some]
    split
    · cases putVs ps x ρ s1 <;> rfl
    · rfl
theorem k_par {ps ρ zs s} (h : zs.length = ps.length) (h2 : ps.length ≤ 1000) : kPar ps ρ (some (zs, s)) = kPar2 (putVs ps zs ρ s) := if_pos ⟨h, h2⟩
theorem k_pr2 {p0 p1 : Pl} {v0 v1 : Va} {ρ s} : kPar [p0, p1] ρ (some ([v0, v1], s)) = kPar2 (putVs [p0, p1] [v0, v1] ρ s) := k_par rfl (by show 2 ≤ 1000; decide)
theorem k_pr3 {p0 p1 p2 : Pl} {v0 v1 v2 : Va} {ρ s} : kPar [p0, p1, p2] ρ (some ([v0, v1, v2], s)) = kPar2 (putVs [p0, p1, p2] [v0, v1, v2] ρ s) := k_par rfl (by show 3 ≤ 1000; decide)
theorem k_pr4 {p0 p1 p2 p3 : Pl} {v0 v1 v2 v3 : Va} {ρ s} : kPar [p0, p1, p2, p3] ρ (some ([v0, v1, v2, v3], s)) = kPar2 (putVs [p0, p1, p2, p3] [v0, v1, v2, v3] ρ s) := k_par rfl (by show 4 ≤ 1000; decide)
theorem k_pr5 {p0 p1 p2 p3 p4 : Pl} {v0 v1 v2 v3 v4 : Va} {ρ s} : kPar [p0, p1, p2, p3, p4] ρ (some ([v0, v1, v2, v3, v4], s)) = kPar2 (putVs [p0, p1, p2, p3, p4] [v0, v1, v2, v3, v4] ρ s) := k_par rfl (by show 5 ≤ 1000; decide)
theorem k_par2 {ρ s} : kPar2 (some (ρ, s)) = some (.nx, ρ, s) := id rfl
def kPut (ps : List Pl) (zs : List Va) : Option (Ro × S) → Option (Ro × S)
  | some (ρ, s) => putVs ps zs ρ s
  | none => none
theorem e_put0 {ρ s} : putVs [] [] ρ s = some (ρ, s) := id rfl
theorem e_put {p ps z zs ρ s} : putVs (p :: ps) (z :: zs) ρ s = kPut ps zs (putV p z ρ s) := by
  show (putV p z ρ s).bind _ = _
  cases putV p z ρ s <;> rfl
theorem k_put {ps zs ρ s} : kPut ps zs (some (ρ, s)) = putVs ps zs ρ s := id rfl
theorem e_putO {i l ρ s} : putV (.sl i) (.o l) ρ s = some (ρ.set i (.ol l), s) := id rfl
theorem e_putI {i l ρ s} : putV (.sl i) (.l (.im l)) ρ s = some (ρ.set i (.im l), s) := id rfl
theorem e_putR {i l ρ s} : putV (.sl i) (.l (.rf l)) ρ s = some (ρ.set i (.rf l), s) := id rfl
def kPutF (c fn : Str) (x : L) (ρ : Ro) : Option (L × S) → Option (Ro × S)
  | some (.rf n, s) => match fldS s n c fn x with
    | some s3 => some (ρ, s3)
    | none => none
  | _ => none
theorem e_putF {c fn o x ρ s} : putV (.fd c fn o) (.l x) ρ s = kPutF c fn x ρ (o ρ s) := by
  show (o ρ s).bind _ = _
  cases o ρ s with
  | none => rfl
  | some p =>
    obtain ⟨y, s1⟩ := p
    cases y with
    | rf n => simp only [Option.bind_some, kPutF]; cases fldS s1 n c fn x <;> rfl
    | _ => rfl
theorem k_putF {c fn x ρ n s s3} (h : fldS s n c fn x = some s3) : kPutF c fn x ρ (some (.rf n, s)) = some (ρ, s3) := by unfold kPutF; simp only [h]
def kUnp (T : Tg) (ρ : Ro) : Option (L × S) → Option (Fl × Ro × S)
  | some (.im d, s) => match setT T d ρ with
    | some ρ1 => some (.nx, ρ1, s)
    | none => none
  | _ => none
theorem e_unp {T f ρ s} : fUnp T f ρ s = kUnp T ρ (f ρ s) := by
  unfold fUnp kUnp
  cases f ρ s with
  | none => rfl
  | some p =>
    obtain ⟨x, s1⟩ := p
    simp only [Option.bind_some]
    cases x with
    | im d => simp only; cases setT T d ρ <;> rfl
    | _ => rfl
theorem k_unp {T ρ d s ρ1} (h : setT T d ρ = some ρ1) : kUnp T ρ (some (.im d, s)) = some (.nx, ρ1, s) := by unfold kUnp; simp only [h]
/-! walks -/
def kSeqI : Option (L × S) → Option (List D × S)
  | some (x, s) => match sqI x with
    | some l => some (l, s)
    | none => none
  | none => none
theorem e_seqI {f ρ s} : fSeqI f ρ s = kSeqI (f ρ s) := by
  unfold fSeqI kSeqI
  cases f ρ s with
  | none => rfl
  | some p => obtain ⟨x, s1⟩ := p; simp only [Option.bind_some]; cases sqI x <;> rfl
theorem k_seqI_l {l s} : kSeqI (some (.im (.list l), s)) = some (l, s) := id rfl
theorem k_seqI_t {l s} : kSeqI (some (.im (.tuple l), s)) = some (l, s) := id rfl
def kRng1 : Option (List L × S) → Option (List D × S)
  | some ([.im (.int j)], s) => if okR j = true then some (rngD 0 j.toNat, s) else none
  | _ => none
theorem e_rng1 {f ρ s} : fRng1 f ρ s = kRng1 (f ρ s) := by
  unfold fRng1 kRng1
  cases f ρ s with
  | none => rfl
  | some p =>
    obtain ⟨x, s1⟩ := p
    simp only [Option.bind_some]
    split
    · rfl
    · rename_i h
      split
      · rename_i h2; cases h2; exact (h _ rfl).elim
      · rfl
theorem k_rng1 {j s} (h : okR j = true) : kRng1 (some ([.im (.int j)], s)) = some (rngD 0 j.toNat, s) := if_pos h
def kRng2 : Option (List L × S) → Option (List D × S)
  | some ([.im (.int i), .im (.int j)], s) => if okR i = true ∧ okR j = true then some (rngD i (j - i).toNat, s) else none
  | _ => none
theorem e_rng2 {f ρ s} : fRng2 f ρ s = kRng2 (f ρ s) := by
  unfold fRng2 kRng2
  cases f ρ s with
  | none => rfl
  | some p =>
    obtain ⟨x, s1⟩ := p
    simp only [Option.bind_some]
    split
    · rfl
    · rename_i h
      split
      · rename_i h2; cases h2; exact (h _ _ rfl).elim
      · rfl
theorem k_rng2 {i j s} (h : okR i = true) (h2 : okR j = true) : kRng2 (some ([.im (.int i), .im (.int j)], s)) = some (rngD i (j - i).toNat, s) := if_pos ⟨h, h2⟩
def kFor (T : Tg) (b : FS) (ρ : Ro) : Option (List D × S) → Option (Fl × Ro × S)
  | some (ls, s) => forL T b ls ρ s
  | none => none
theorem e_for {T fi b ρ s} : fFor T fi b ρ s = kFor T b ρ (fi ρ s) := by unfold fFor kFor; cases fi ρ s <;> rfl
theorem k_for {T b ρ ls s} : kFor T b ρ (some (ls, s)) = forL T b ls ρ s := id rfl
def kTurn (T : Tg) (b : FS) (ds : List D) : Option (Fl × Ro × S) → Option (Fl × Ro × S)
  | some (.nx, ρ, s) => forL T b ds ρ s
  | some (.ct, ρ, s) => forL T b ds ρ s
  | some (.bk, ρ, s) => some (.nx, ρ, s)
  | some (.rt l, ρ, s) => some (.rt l, ρ, s)
  | none => none
theorem forL_nil {T b ρ s} : forL T b [] ρ s = some (.nx, ρ, s) := id rfl
theorem forL_cons {T b d ds ρ s ρ1} (h : setT T d ρ = some ρ1) : forL T b (d :: ds) ρ s = kTurn T b ds (b ρ1 s) := by
  unfold forL
  rw [h]
  simp only [Option.bind_some, kTurn]
  cases b ρ1 s with
  | none => rfl
  | some r => obtain ⟨a, c⟩ := r; cases a <;> rfl
theorem k_turn {T b ds ρ s} : kTurn T b ds (some (.nx, ρ, s)) = forL T b ds ρ s := id rfl
theorem k_turn_ct {T b ds ρ s} : kTurn T b ds (some (.ct, ρ, s)) = forL T b ds ρ s := id rfl
theorem k_turn_bk {T b ds ρ s} : kTurn T b ds (some (.bk, ρ, s)) = some (.nx, ρ, s) := id rfl
theorem k_turn_rt {T b ds ρ s l} : kTurn T b ds (some (.rt l, ρ, s)) = some (.rt l, ρ, s) := id rfl
def kLC (vs : List Nat) (T : Tg) (t : FT) (f : FE) (ρ : Ro) : Option (List D × S) → Option (List D × S)
  | some (ls, s) => if ls.length ≤ big then lcL vs T t f ρ ls s else none
  | none => none
theorem e_lc {vs T fi t f ρ s} : fLC vs T fi t f ρ s = kLC vs T t f ρ (fi ρ s) := by unfold fLC kLC; cases fi ρ s <;> rfl
theorem k_lc {vs T t f ρ ls s} (h : ls.length ≤ big) : kLC vs T t f ρ (some (ls, s)) = lcL vs T t f ρ ls s := if_pos h
theorem lcL_map {α : Type} {vs : List Nat} {T : Tg} {t : FT} {f : FE} {ρ : Ro} {s : S} {enc : α → D} {p : α → Bool} {g : α → D} {ρx : α → Ro} : ∀ {xs : List α},
    (∀ x ∈ xs, setT T (enc x) (wipeR ρ vs) = some (ρx x)) → (∀ x ∈ xs, t (ρx x) s = some (p x, s)) → (∀ x ∈ xs, p x = true → f (ρx x) s = some (.im (g x), s)) → lcL vs T t f ρ (xs.map enc) s = some ((xs.filter p).map g, s)
  | [], _, _, _ => rfl
  | x :: xs, h1, h2, h3 => by
    have ih := lcL_map (xs := xs) (fun y hy => h1 y (List.mem_cons_of_mem _ hy)) (fun y hy => h2 y (List.mem_cons_of_mem _ hy)) (fun y hy => h3 y (List.mem_cons_of_mem _ hy))
    rw [List.map_cons]
    unfold lcL
    rw [h1 x (by simp), Option.bind_some, h2 x (by simp), Option.bind_some]
    cases hp : p x with
    | true => simp only [if_true]; rw [h3 x (by simp) hp]; simp only [Option.bind_some, ih, List.filter_cons, hp, if_true, List.map_cons]
    | false => simp [ih, List.filter_cons, hp]
/-! defs -/
theorem e_runG {n b ls s} : runG n b ls s = outG (b (initR n ls) s) := id rfl
theorem e_runP {n b ds} : runP n b ds = outP (b (initR n (ds.map L.im)) []) := id rfl
theorem k_outG {l ρ s} : outG (some (.rt l, ρ, s)) = some (l, s) := id rfl
theorem k_outGn {ρ s} : outG (some (.nx, ρ, s)) = some (.im .none, s) := id rfl
theorem k_outP {l ρ s} : outP (some (.rt (.im l), ρ, s)) = some l := id rfl
theorem k_outPn {ρ s} : outP (some (.nx, ρ, s)) = some .none := id rfl
/-! slices -/
def kSl3 (x : L) (lo : Option Int) : Option (Option Int × S) → Option (L × S)
  | some (hi, s) => match tpV x with
    | some l => some (.im (.tuple (cutD l lo hi)), s)
    | none => match lstV s x with
      | some l => some (.im (.list (cutD l lo hi)), s)
      | none => none
  | none => none
def kSl2 (x : L) (h : FO1) (ρ : Ro) : Option (Option Int × S) → Option (L × S)
  | some (lo, s) => kSl3 x lo (h ρ s)
  | none => none
def kSl1 (g h : FO1) (ρ : Ro) : Option (L × S) → Option (L × S)
  | some (x, s) => kSl2 x h ρ (g ρ s)
  | none => none
theorem e_sl {f g h ρ s} : fSl f g h ρ s = kSl1 g h ρ (f ρ s) := by
  unfold fSl kSl1
  cases f ρ s with
  | none => rfl
  | some p =>
    obtain ⟨x, s1⟩ := p
    simp only [Option.bind_some, kSl2]
    cases g ρ s1 with
    | none => rfl
    | some q =>
      obtain ⟨y, s2⟩ := q
      simp only [Option.bind_some, kSl3]
      cases h ρ s2 with
      | none => rfl
      | some u =>
        obtain ⟨z, s3⟩ := u
        simp only [Option.bind_some]
        cases tpV x with
        | some l => rfl
        | none => simp only; cases lstV s3 x <;> rfl
theorem k_sl1 {g h ρ x s} : kSl1 g h ρ (some (x, s)) = kSl2 x h ρ (g ρ s) := id rfl
theorem k_sl2 {h ρ x lo s} : kSl2 x h ρ (some (lo, s)) = kSl3 x lo (h ρ s) := id rfl
theorem k_sl3t {l lo hi s} : kSl3 (.im (.tuple l)) lo (some (hi, s)) = some (.im (.tuple (cutD l lo hi)), s) := id rfl
theorem k_sl3l {l lo hi s} : kSl3 (.im (.list l)) lo (some (hi, s)) = some (.im (.list (cutD l lo hi)), s) := id rfl
theorem k_sl3s {l lo hi s} : kSl3 (.sc l) lo (some (hi, s)) = some (.im (.list (cutD l lo hi)), s) := id rfl
def kPart : Option (L × S) → Option (Option Int × S)
  | some (.im (.int i), s) => some (some i, s)
  | _ => none
theorem e_nop {ρ s} : fNoP ρ s = some (none, s) := id rfl
theorem e_part {f ρ s} : fPart f ρ s = kPart (f ρ s) := by
  unfold fPart kPart
  cases f ρ s with
  | none => rfl
  | some p =>
    obtain ⟨x, s1⟩ := p
    simp only [Option.bind_some]
    cases x with
    | im d => cases d <;> rfl
    | _ => rfl
theorem k_part {i s} : kPart (some (.im (.int i), s)) = some (some i, s) := id rfl
def kSlL3 (x : L) (lo : Option Int) : Option (Option Int × S) → Option (List D × S)
  | some (hi, s) => match lstV s x with
    | some l => some (cutD l lo hi, s)
    | none => none
  | none => none
def kSlL2 (x : L) (h : FO1) (ρ : Ro) : Option (Option Int × S) → Option (List D × S)
  | some (lo, s) => kSlL3 x lo (h ρ s)
  | none => none
def kSlL1 (g h : FO1) (ρ : Ro) : Option (L × S) → Option (List D × S)
  | some (x, s) => kSlL2 x h ρ (g ρ s)
  | none => none
theorem e_slL {f g h ρ s} : fSlL f g h ρ s = kSlL1 g h ρ (f ρ s) := by
  unfold fSlL kSlL1
  cases f ρ s with
  | none => rfl
  | some p =>
    obtain ⟨x, s1⟩ := p
    simp only [Option.bind_some, kSlL2]
    cases g ρ s1 with
    | none => rfl
    | some q =>
      obtain ⟨y, s2⟩ := q
      simp only [Option.bind_some, kSlL3]
      cases h ρ s2 with
      | none => rfl
      | some u =>
        obtain ⟨z, s3⟩ := u
        simp only [Option.bind_some]
        cases lstV s3 x <;> rfl
theorem k_slL1 {g h ρ x s} : kSlL1 g h ρ (some (x, s)) = kSlL2 x h ρ (g ρ s) := id rfl
theorem k_slL2 {h ρ x lo s} : kSlL2 x h ρ (some (lo, s)) = kSlL3 x lo (h ρ s) := id rfl
theorem k_slL3 {x lo hi s l} (h : lstV s x = some l) : kSlL3 x lo (some (hi, s)) = some (cutD l lo hi, s) := by unfold kSlL3; simp only [h]
/-! isinstance -/
def kIsi (n : String) : Option (L × S) → Option (L × S)
  | some (x, s) => match tyL s x with
    | some t => some (.im (.bool (isT n t)), s)
    | none => none
  | none => none
theorem e_isi {n f ρ s} : fIsi n f ρ s = kIsi n (f ρ s) := by
  unfold fIsi kIsi
  cases f ρ s with
  | none => rfl
  | some p => obtain ⟨x, s1⟩ := p; simp only [Option.bind_some]; cases tyL s1 x <;> rfl
theorem k_isi_n {n s} : kIsi n (some (.im .none, s)) = some (.im (.bool (isT n "NoneType")), s) := id rfl
theorem k_isi_b {n s b} : kIsi n (some (.im (.bool b), s)) = some (.im (.bool (isT n "bool")), s) := id rfl
theorem k_isi_i {n s b} : kIsi n (some (.im (.int b), s)) = some (.im (.bool (isT n "int")), s) := id rfl
theorem k_isi_s {n s b} : kIsi n (some (.im (.str b), s)) = some (.im (.bool (isT n "str")), s) := id rfl
theorem k_isi_l {n s b} : kIsi n (some (.im (.list b), s)) = some (.im (.bool (isT n "list")), s) := id rfl
theorem k_isi_t {n s b} : kIsi n (some (.im (.tuple b), s)) = some (.im (.bool (isT n "tuple")), s) := id rfl
theorem lcL_yes {vs T t f ρ d ds s ρ1 s1 x s2 l s3} (h1 : setT T d (wipeR ρ vs) = some ρ1) (h2 : t ρ1 s = some (true, s1)) (h3 : f ρ1 s1 = some (.im x, s2)) (h4 : lcL vs T t f ρ ds s2 = some (l, s3)) : lcL vs T t f ρ (d :: ds) s = some (x :: l, s3) := by
  unfold lcL
  simp only [h1, h2, h3, h4, Option.bind_some, if_true]
theorem lcL_no {vs T t f ρ d ds s ρ1 s1 r} (h1 : setT T d (wipeR ρ vs) = some ρ1) (h2 : t ρ1 s = some (false, s1)) (h4 : lcL vs T t f ρ ds s1 = r) : lcL vs T t f ρ (d :: ds) s = r := by
  rw [← h4]
  conv => lhs; unfold lcL
  simp only [h1, h2, Option.bind_some, Bool.false_eq_true, if_false]
theorem set_self {α : Type} {s : List α} {n : Nat} {o : α} (h : s[n]? = some o) : s.set n o = s := by
  apply List.ext_getElem?
  intro i
  by_cases e : n = i
  · subst e
    rw [List.getElem?_set, if_pos rfl, if_pos (List.getElem?_eq_some_iff.mp h).1, h]
  · rw [List.getElem?_set_ne e]
theorem okD_ints {l : List Int} : okD (.list (l.map PyData.int)) = true := by
  have h1 : ∀ l : List Int, PyData.canLayAll0 (l.map PyData.int) = true := by
    intro l
    induction l with
    | nil => rfl
    | cons a l ih => simpa [PyData.canLayAll0, PyData.canLay0] using ih
  have h2 : ∀ l : List Int, PyData.depthAll (l.map PyData.int) ≤ 1 := by
    intro l
    induction l with
    | nil => simp [PyData.depthAll]
    | cons a l ih => simp only [List.map_cons, PyData.depthAll, PyData.depth]; omega
  unfold okD SeqAt.shaped
  simp only [PyData.canLay0, h1, Bool.true_and, decide_eq_true_eq]
  have := h2 l
  simp only [PyData.depth]
  omega
theorem eqv_nil {l : List D} : PyData.eqv (.list l) (.list []) = l.isEmpty := by
  cases l <;> simp [PyData.eqv, PyData.eqvAll]
theorem g_eq_nil {l : List Int} {s : S} : gEq s (.ow (l.map PyData.int)) (.im (.list [])) = some (.im (.bool l.isEmpty)) := by
  unfold gEq gEqS gEqD
  have h0 : okD (.list []) = true := okD_ints (l := [])
  simp only [eqS, Option.bind_none, Option.none_or, vw, Option.bind_some, okD_ints, h0, and_self, if_true, eqv_nil]
  cases l <;> rfl
theorem g_in_ints {neg : Bool} {l : List Int} {t : Int} {s : S} : gIn neg s (.im (.int t)) (.im (.tuple (l.map PyData.int))) = some (.im (.bool (if neg then !decide (t ∈ l) else decide (t ∈ l)))) := by
  have hf : (l.map PyData.int).all flatD = true := by simp [flatD]
  have ha : ((l.map PyData.int).any fun z => PyData.eqv z (.int t)) = decide (t ∈ l) := by
    induction l with
    | nil => rfl
    | cons a l ih =>
      simp only [List.map_cons, List.any_cons, PyData.eqv]
      rw [ih (by simp [flatD])]
      by_cases h : a = t
      · simp [h]
      · have h2 : (a == t) = false := by simpa using h
        have h3 : ¬ t = a := fun e => h e.symm
        simp [h2, h3]
  unfold gIn gInF
  simp only [sqV, Option.bind_some, flatD, hf, and_self, if_true, ha, Option.some_or]
end Zz
set_option Elab.async false
set_option linter.all false
set_option maxRecDepth 100000
/-! ZM: the laws' own helpers, the same in each: the box of a script, draws, two values compared -/
namespace Zz
open PySem PyProof.Rows L2
abbrev N_law_box : List Str := ["script"]
abbrev P_law_box : List Str := ["script"]
def d_law_box : FS := (fRet (fNewR (fCons (fNewD (fCallF oList (fCons (fSl (fVar 0) fNoP (fPart (fC (.int 63)))) fNil))) (fCons (fC (.int 0)) (fCons (fOp gAdd (fC (.int 4711)) (fCall oLen (fCons (fVar 0) fNil))) fNil)))))
def r_law_box : List L → S → Option (L × S) := runG 1 d_law_box
abbrev N_law_load : List Str := ["box", "cells", "cell", "size", "first", "second"]
abbrev P_law_load : List Str := ["box"]
def d_law_load : FS := (fSeq (fAsg 1 (fOp gIx (fVar 0) (fC (.int 0)))) (fSeq (fIfS (fTest (fOp gGt (fCall oLen (fCons (fVar 1) fNil)) (fC (.int 0)))) (fSeq (fAsg 2 (fCall oInt (fCons (fPopAt (fVar 1) (fC (.int 0))) fNil))) (fSeq (fAsg 3 (fIf (fTest (fOp gGe (fVar 2) (fC (.int 0)))) (fOp gMul (fC (.int 2)) (fVar 2)) (fOp gSub (fOp gMul (fUn gNeg (fC (.int 2))) (fVar 2)) (fC (.int 1))))) (fSeq (fIfS (fTest (fOp gGe (fVar 3) (fC (.int 1000000000000000000)))) (fRet (fVar 3)) fNext) (fSetS (fVar 0) (fC (.int 2)) (fOp gMod (fCall oInt (fCons (fOp gAdd (fOp gAdd (fOp gMul (fOp gIx (fVar 0) (fC (.int 2))) (fC (.int 69621))) (fOp gMul (fVar 3) (fC (.int 48271)))) (fC (.int 11))) fNil)) (fC (.int 2147483647))))))) fNext) (fSeq (fAsg 4 (fOp gMod (fCall oInt (fCons (fOp gAdd (fOp gMul (fOp gIx (fVar 0) (fC (.int 2))) (fC (.int 48271))) (fC (.int 17))) fNil)) (fC (.int 2147483629)))) (fSeq (fAsg 5 (fOp gMod (fCall oInt (fCons (fOp gAdd (fOp gMul (fVar 4) (fC (.int 69621))) (fC (.int 5))) fNil)) (fC (.int 2147483587)))) (fSeq (fSetS (fVar 0) (fC (.int 2)) (fOp gMod (fCall oInt (fCons (fOp gAdd (fOp gMul (fVar 5) (fC (.int 40692))) (fC (.int 3))) fNil)) (fC (.int 2147483563)))) (fRet (fOp gAdd (fOp gAdd (fOp gMul (fVar 4) (fC (.int 4611686014132420609))) (fOp gMul (fVar 5) (fC (.int 2147483647)))) (fOp gIx (fVar 0) (fC (.int 2))))))))))
def r_law_load : List L → S → Option (L × S) := runG 6 d_law_load
abbrev N_law_draw : List Str := ["box", "many", "digit"]
abbrev P_law_draw : List Str := ["box", "many"]
def d_law_draw : FS := (fSeq (fIfS (fTest (fOp gLt (fOp gIx (fVar 0) (fC (.int 1))) (fVar 1))) (fSetS (fVar 0) (fC (.int 1)) (fCallG 1 r_law_load (fCons (fVar 0) fNil))) fNext) (fSeq (fAsg 2 (fOp gMod (fCall oInt (fCons (fOp gIx (fVar 0) (fC (.int 1))) fNil)) (fVar 1))) (fSeq (fSetS (fVar 0) (fC (.int 1)) (fOp gDiv (fOp gIx (fVar 0) (fC (.int 1))) (fVar 1))) (fRet (fVar 2)))))
def r_law_draw : List L → S → Option (L × S) := runG 3 d_law_draw
abbrev N_law_same : List Str := ["a", "b", "k"]
abbrev P_law_same : List Str := ["a", "b"]
def d_law_same (R : List D → Option D) : FS := (fSeq (fIfS (fOrT (fAndT (fTru (fIsi "tuple" (fVar 0))) (fTru (fIsi "tuple" (fVar 1)))) (fAndT (fTru (fIsi "list" (fVar 0))) (fTru (fIsi "list" (fVar 1))))) (fRet (fIf (fTest (fOp gEq (fCall oLen (fCons (fVar 0) fNil)) (fCall oLen (fCons (fVar 1) fNil)))) (fCall oAll (fCons (fFrz (fLC [2] (.nm 2) (fRng1 (fCons (fCall oLen (fCons (fVar 0) fNil)) fNil)) fYes (fCallP 2 R (fCons (fOp gIx (fVar 0) (fVar 2)) (fCons (fOp gIx (fVar 1) (fVar 2)) fNil))))) fNil)) (fC (.bool false)))) fNext) (fSeq (fIfS (fOrT (fTru (fIsi "bool" (fVar 0))) (fTru (fIsi "bool" (fVar 1)))) (fRet (fIf (fTest (fIsi "bool" (fVar 0))) (fIf (fTest (fIsi "bool" (fVar 1))) (fOp gEq (fVar 0) (fVar 1)) (fC (.bool false))) (fC (.bool false)))) fNext) (fSeq (fIfS (fOrT (fAndT (fTru (fIsi "int" (fVar 0))) (fTru (fIsi "int" (fVar 1)))) (fAndT (fTru (fIsi "str" (fVar 0))) (fTru (fIsi "str" (fVar 1))))) (fRet (fOp gEq (fVar 0) (fVar 1))) fNext) (fRet (fIf (fTest (fOp gIs (fVar 0) (fC .none))) (fOp gIs (fVar 1) (fC .none)) (fC (.bool false)))))))
def r_law_same : Nat → List D → Option D
  | 0 => fun _ => none
  | n + 1 => runP 3 (d_law_same (r_law_same n))
def Bx (c : List Int) (x y : Int) (rest : S) : S := .dl (c.map PyData.int) :: .rl [.rf 0, .im (.int x), .im (.int y)] :: rest
section
variable {c : List Int} {x y v : Int} {rest s : S}
theorem bx_0 : gIx (Bx c x y rest) (.rf 1) (.im (.int 0)) = some (.rf 0) := rfl
theorem bx_1 : gIx (Bx c x y rest) (.rf 1) (.im (.int 1)) = some (.im (.int x)) := rfl
theorem bx_2 : gIx (Bx c x y rest) (.rf 1) (.im (.int 2)) = some (.im (.int y)) := rfl
theorem bx_s1 : setS (Bx c x y rest) 1 1 (.im (.int v)) = some (Bx c v y rest) := rfl
theorem bx_s2 : setS (Bx c x y rest) 1 2 (.im (.int v)) = some (Bx c x v rest) := rfl
theorem bx_len : oLen (Bx c x y rest) [.rf 0] = some (.im (.int (c.length : Int))) := by
  show some (L.im (PyData.int ((c.map PyData.int).length : Nat))) = _
  rw [List.length_map]
theorem bx_pop {a : Int} : popS (Bx (a :: c) x y rest) 0 0 = some (.im (.int a), Bx c x y rest) := by
  have h : ixN ((a :: c).map PyData.int).length 0 = some 0 := by
    unfold ixN
    rw [if_pos (Int.le_refl 0), if_pos (by simp)]
    rfl
  unfold popS
  show (ixN ((a :: c).map PyData.int).length 0).bind _ = _
  rw [h]
  rfl
theorem bx_isL : isLst (Bx c x y rest) 0 = true := id rfl
theorem g_add {i j : Int} : gAdd s (.im (.int i)) (.im (.int j)) = some (.im (.int (i + j))) := rfl
theorem g_sub {i j : Int} : gSub s (.im (.int i)) (.im (.int j)) = some (.im (.int (i - j))) := rfl
theorem g_neg {i : Int} : gNeg s (.im (.int i)) = some (.im (.int (-i))) := rfl
theorem g_lt {i j : Int} : gLt s (.im (.int i)) (.im (.int j)) = some (.im (.bool (decide (i < j)))) := rfl
theorem g_le {i j : Int} : gLe s (.im (.int i)) (.im (.int j)) = some (.im (.bool (decide (i ≤ j)))) := rfl
theorem g_gt {i j : Int} : gGt s (.im (.int i)) (.im (.int j)) = some (.im (.bool (decide (j < i)))) := rfl
theorem g_ge {i j : Int} : gGe s (.im (.int i)) (.im (.int j)) = some (.im (.bool (decide (j ≤ i)))) := rfl
theorem g_mul {i j : Int} (h : CMul i j) : gMul s (.im (.int i)) (.im (.int j)) = some (.im (.int (i * j))) := by
  unfold gMul gMulI gI
  simp only [h, if_true, Option.bind_some, Option.some_or]
theorem g_mulr {i j : Int} (h : -18446744073709551616 < j ∧ j < 18446744073709551616) : gMul s (.im (.int i)) (.im (.int j)) = some (.im (.int (i * j))) := g_mul (.inr h)
theorem g_mull {i j : Int} (h : -18446744073709551616 < i ∧ i < 18446744073709551616) : gMul s (.im (.int i)) (.im (.int j)) = some (.im (.int (i * j))) := g_mul (.inl h)
theorem g_mod {i j : Int} (h : 0 < j) : gMod s (.im (.int i)) (.im (.int j)) = some (.im (.int (i % j))) := by
  unfold gMod gI
  simp only [h, if_true, Option.bind_some]
theorem g_div {i j : Int} (h : 0 < j ∧ j < 1073741824) : gDiv s (.im (.int i)) (.im (.int j)) = some (.im (.int (i / j))) := by
  unfold gDiv gI
  have h2 : CDiv i j := h
  simp only [h2, if_true, Option.bind_some]
theorem o_int {i : Int} : oInt s [.im (.int i)] = some (.im (.int i)) := rfl
theorem g_eqI {i j : Int} : gEq s (.im (.int i)) (.im (.int j)) = some (.im (.bool (decide (i = j)))) := rfl
theorem g_neI {i j : Int} : gNe s (.im (.int i)) (.im (.int j)) = some (.im (.bool (!decide (i = j)))) := rfl
theorem g_eqB {i j : Bool} : gEq s (.im (.bool i)) (.im (.bool j)) = some (.im (.bool (decide (i = j)))) := rfl
theorem g_neB {i j : Bool} : gNe s (.im (.bool i)) (.im (.bool j)) = some (.im (.bool (!decide (i = j)))) := rfl
theorem g_isN {l : L} : gIs s l (.im .none) = some (.im (.bool (isNone l))) := rfl
theorem g_notN {l : L} : gNotIs s l (.im .none) = some (.im (.bool (!isNone l))) := rfl
theorem it_tuple_NoneType : isT "tuple" "NoneType" = false := rfl
theorem it_tuple_bool : isT "tuple" "bool" = false := rfl
theorem it_tuple_int : isT "tuple" "int" = false := rfl
theorem it_tuple_str : isT "tuple" "str" = false := rfl
theorem it_tuple_list : isT "tuple" "list" = false := rfl
theorem it_tuple_tuple : isT "tuple" "tuple" = true := rfl
theorem it_list_NoneType : isT "list" "NoneType" = false := rfl
theorem it_list_bool : isT "list" "bool" = false := rfl
theorem it_list_int : isT "list" "int" = false := rfl
theorem it_list_str : isT "list" "str" = false := rfl
theorem it_list_list : isT "list" "list" = true := rfl
theorem it_list_tuple : isT "list" "tuple" = false := rfl
theorem it_bool_NoneType : isT "bool" "NoneType" = false := rfl
theorem it_bool_bool : isT "bool" "bool" = true := rfl
theorem it_bool_int : isT "bool" "int" = false := rfl
theorem it_bool_str : isT "bool" "str" = false := rfl
theorem it_bool_list : isT "bool" "list" = false := rfl
theorem it_bool_tuple : isT "bool" "tuple" = false := rfl
theorem it_int_NoneType : isT "int" "NoneType" = false := rfl
theorem it_int_bool : isT "int" "bool" = true := rfl
theorem it_int_int : isT "int" "int" = true := rfl
theorem it_int_str : isT "int" "str" = false := rfl
theorem it_int_list : isT "int" "list" = false := rfl
theorem it_int_tuple : isT "int" "tuple" = false := rfl
theorem it_str_NoneType : isT "str" "NoneType" = false := rfl
theorem it_str_bool : isT "str" "bool" = false := rfl
theorem it_str_int : isT "str" "int" = false := rfl
theorem it_str_str : isT "str" "str" = true := rfl
theorem it_str_list : isT "str" "list" = false := rfl
theorem it_str_tuple : isT "str" "tuple" = false := rfl
theorem len_0 : ((0 : Int) < ((0 : Nat) : Int)) = False := by simp
theorem len_S {n : Nat} : ((0 : Int) < ((n + 1 : Nat) : Int)) = True := by simp
theorem g_eqS {a : Str} {s : S} : gEq s (.im (.str a)) (.im (.str a)) = some (.im (.bool true)) := by
  unfold gEq gEqS eqS
  simp
theorem o_lenL {l : List D} {s : S} : oLen s [.im (.list l)] = some (.im (.int (l.length : Int))) := rfl
theorem o_lenT {l : List D} {s : S} : oLen s [.im (.tuple l)] = some (.im (.int (l.length : Int))) := rfl
theorem sm0 : small63 0 = true := id (by decide)
local macro_rules | `(tactic| walk_at "Z") => `(tactic| simp only [e_var, k_var_im, k_var_rf, k_var_ol, k_var_sc, e_c, e_op, k_op1, k_op2, k_res, e_un, k_un, e_test, k_test, e_tru, k_tru_b, e_and, e_or, e_not, k_and, k_or, k_not, e_bool, k_bool, e_if, k_if,
  e_nil, e_cons, k_cons1, k_cons2, e_tup, e_lst, k_tup0, k_tup1, k_tup2, k_tup3, k_lst0, k_lst1, k_lst2, k_lst3, k_lst4, k_lst5, k_lst6, e_frz, k_frz, e_newD, k_newD, e_newR, e_call, k_call, e_callF, k_callF, e_callG, k_callG1, k_callG2, k_callG3, k_callG4, k_keep_im, k_keep_rf, e_callP, k_callP1, k_callP2, k_callP3, k_callP4, k_resD,
  e_meth, k_m0, k_m1, k_m2, k_m3, e_make, k_mk1, k_mk2, k_made, e_or2, k_or2, k_or2n, e_fld, k_stS, e_setF, k_setF1, k_setF2, e_seq, k_seq, k_seq_rt, k_seq_bk, k_seq_ct, e_next, e_asg, k_asg_im, k_asg_rf, e_own, k_own, e_drop, k_drop, e_ret, k_ret_im, k_ret_rf, e_retV, k_retV, e_ifS, k_ifS, e_appO, k_appO, e_app, e_popAt, e_setS, k_setS1, k_setS2, k_setS3,
  e_v0, e_vl, e_vo, k_vl1, k_vo1, k_vl2, e_par, k_pr2, k_pr3, k_pr4, k_pr5, k_par2, e_put0, e_put, k_put, e_putO, e_putI, e_putR, e_putF, e_unp, e_seqI, k_seqI_l, k_seqI_t, e_rng1, e_rng2, e_for, k_for, forL_nil, k_turn, k_turn_ct, k_turn_bk, k_turn_rt, e_lc, e_runG, e_runP, k_outG, k_outGn, k_outP, k_outPn,
  e_sl, k_sl1, k_sl2, k_sl3t, k_sl3l, k_sl3s, e_nop, e_part, k_part, e_slL, k_slL1, k_slL2, e_isi, k_isi_n, k_isi_b, k_isi_i, k_isi_s, k_isi_l, k_isi_t,
  initR, sl1, List.map_cons, List.map_nil, List.length_cons, List.length_nil, Nat.reduceAdd, Nat.reduceSub, List.replicate_succ, List.replicate_zero, List.cons_append, List.nil_append, List.getElem?_cons_zero, List.getElem?_cons_succ, List.set_cons_zero, List.set_cons_succ, if_true, if_false, Bool.false_eq_true,
  bx_0, bx_1, bx_2, bx_s1, bx_s2, bx_len, bx_pop, bx_isL, g_add, g_sub, g_neg, g_lt, g_le, g_gt, g_ge, g_mulr, g_mull, g_mod, g_div, o_int, g_eqI, g_neI, g_eqB, g_neB, g_isN, g_notN, sm0, len_0, len_S, g_eqS, o_lenL, o_lenT, eq_self, decide_true, decide_false, k_pop1, k_pop2, it_tuple_NoneType, it_tuple_bool, it_tuple_int, it_tuple_str, it_tuple_list, it_tuple_tuple, it_list_NoneType, it_list_bool, it_list_int, it_list_str, it_list_list, it_list_tuple, it_bool_NoneType, it_bool_bool, it_bool_int, it_bool_str, it_bool_list, it_bool_tuple, it_int_NoneType, it_int_bool, it_int_int, it_int_str, it_int_list, it_int_tuple, it_str_NoneType, it_str_bool, it_str_int, it_str_str, it_str_list, it_str_tuple, decide_eq_true_eq, Int.reduceLT, Int.reduceNeg, and_self])
theorem load_ok : ∃ (v y' : Int) (c' : List Int), r_law_load [.rf 1] (Bx c x y rest) = some (.im (.int v), Bx c' x y' rest) := by
  unfold r_law_load d_law_load
  cases c with
  | nil =>
    walk_at "Z"
    exact ⟨_, _, _, rfl⟩
  | cons a c =>
    walk_at "Z"
    by_cases h1 : 0 ≤ a
    · simp only [h1, if_true]
      walk_at "Z"
      by_cases h2 : 1000000000000000000 ≤ 2 * a
      · simp only [h2, if_true]
        walk_at "Z"
        exact ⟨_, _, _, rfl⟩
      · simp only [h2, if_false]
        walk_at "Z"
        exact ⟨_, _, _, rfl⟩
    · simp only [h1, if_false]
      walk_at "Z"
      by_cases h2 : 1000000000000000000 ≤ -2 * a - 1
      · simp only [h2, if_true]
        walk_at "Z"
        exact ⟨_, _, _, rfl⟩
      · simp only [h2, if_false]
        walk_at "Z"
        exact ⟨_, _, _, rfl⟩
/-- a draw -/
theorem draw_ok {many : Int} (h0 : 0 < many) (h1 : many < 1073741824) : ∃ (d x' y' : Int) (c' : List Int), r_law_draw [.rf 1, .im (.int many)] (Bx c x y rest) = some (.im (.int d), Bx c' x' y' rest) ∧ 0 ≤ d ∧ d < many := by
  unfold r_law_draw d_law_draw
  walk_at "Z"
  by_cases h : x < many
  · simp only [h, if_true]
    obtain ⟨v, y', c', e⟩ := load_ok (c := c) (x := x) (y := y) (rest := rest)
    try walk_at "Z"
    rw [e]
    walk_at "Z"
    simp only [h0, h1, g_mod, g_div, and_self, true_and]
    walk_at "Z"
    simp only [h0, h1, g_mod, g_div, and_self, true_and]
    walk_at "Z"
    exact ⟨_, _, _, _, rfl, Int.emod_nonneg _ (by omega), Int.emod_lt_of_pos _ h0⟩
  · simp only [h, if_false]
    walk_at "Z"
    simp only [h0, h1, g_mod, g_div, and_self, true_and]
    walk_at "Z"
    simp only [h0, h1, g_mod, g_div, and_self, true_and]
    walk_at "Z"
    exact ⟨_, _, _, _, rfl, Int.emod_nonneg _ (by omega), Int.emod_lt_of_pos _ h0⟩
theorem cut_all {l : List D} (h : l.length ≤ 63) : cutD l none (some 63) = l := by
  unfold cutD
  rw [HT.sIx_none, show (63 : Int) = ((63 : Nat) : Int) from rfl, HT.sIx_nat]
  rw [List.drop_zero, Nat.sub_zero, Nat.min_eq_right h, List.take_length]
theorem box_ok {ns : List Int} (h : ns.length ≤ 63) : r_law_box [.sc (ns.map PyData.int)] [] = some (.rf 1, Bx ns 0 (4711 + (ns.length : Int)) []) := by
  unfold r_law_box d_law_box
  have hc : cutD (ns.map PyData.int) none (some 63) = ns.map PyData.int := cut_all (by simpa using h)
  have ol : ∀ s, oLen s [.sc (ns.map PyData.int)] = some (.im (.int (ns.length : Int))) := fun s => by
    show some (L.im (PyData.int (((ns.map PyData.int).length : Nat) : Int))) = _
    rw [List.length_map]
  walk_at "Z"
  simp only [hc]
  rw [show oList [] [L.im (PyData.list (ns.map PyData.int))] = some (ns.map PyData.int) from rfl]
  walk_at "Z"
  rw [ol]
  walk_at "Z"
  rw [k_newR rfl (by show 3 ≤ 16777216; decide)]
  rfl
/-! data without dicts, rows not too long -/
mutual
def fine : Nat → D → Bool
  | _, .none => true
  | _, .bool _ => true
  | _, .int _ => true
  | _, .str _ => true
  | 0, _ => false
  | n + 1, .list l => decide (l.length ≤ big) && fines n l
  | n + 1, .tuple l => decide (l.length ≤ big) && fines n l
  | _, _ => false
def fines : Nat → List D → Bool
  | _, [] => true
  | n, d :: ds => fine n d && fines n ds
end
theorem fines_all {n : Nat} : ∀ {l : List D}, fines n l = true → ∀ d ∈ l, fine n d = true
  | [], _, d, h => by cases h
  | e :: l, h, d, hd => by
    simp only [fines, Bool.and_eq_true] at h
    rcases List.mem_cons.mp hd with z | z
    · rw [z]; exact h.1
    · exact fines_all h.2 d z
theorem fines_of {n : Nat} : ∀ {l : List D}, (∀ d ∈ l, fine n d = true) → fines n l = true
  | [], _ => rfl
  | e :: l, h => by
    simp only [fines, Bool.and_eq_true]
    exact ⟨h e (by simp), fines_of fun d hd => h d (List.mem_cons_of_mem _ hd)⟩
theorem same_rows {R : List D → Option D} {l : List D} {s : S} {x : D} (hx : x = .list l ∨ x = .tuple l) (hl : l.length ≤ big) (h : ∀ d ∈ l, R [d, d] = some (.bool true)) :
    lcL [2] (.nm 2) fYes (fCallP 2 R (fCons (fOp gIx (fVar 0) (fVar 2)) (fCons (fOp gIx (fVar 1) (fVar 2)) fNil))) [.im x, .im x, .un] (rngD 0 l.length) s = some ((List.range l.length).map fun _ => .bool true, s) := by
  have hix : ∀ (i : Nat) (d : D), l[i]? = some d → ∀ s, gIx s (.im x) (.im (.int (0 + (i : Int)))) = some (.im d) := fun i d e s => by
    have e2 : atD l (0 + (i : Int)) = some d := by rw [Int.zero_add]; exact atI_nat e
    rcases hx with z | z <;> rw [z]
    · show (atD l (0 + (i : Int))).bind _ = _
      rw [e2]; rfl
    · show (atD l (0 + (i : Int))).bind _ = _
      rw [e2]; rfl
  have := lcL_map (vs := [2]) (T := .nm 2) (t := fYes) (f := fCallP 2 R (fCons (fOp gIx (fVar 0) (fVar 2)) (fCons (fOp gIx (fVar 1) (fVar 2)) fNil))) (ρ := [.im x, .im x, .un]) (s := s) (enc := fun (i : Nat) => PyData.int (0 + (i : Int)))
    (p := fun _ => true) (g := fun _ => .bool true) (ρx := fun i => [.im x, .im x, .im (.int (0 + (i : Int)))]) (xs := List.range l.length) (fun i _ => rfl) (fun i _ => rfl) (fun i hi _ => by
      have hi : i < l.length := List.mem_range.mp hi
      have e := hix i l[i] (by simp [hi]) s
      walk_at "Z"
      rw [e]
      walk_at "Z"
      rw [e]
      walk_at "Z"
      rw [h l[i] (by simp)]
      rfl)
  rw [List.filter_eq_self.mpr (fun _ _ => rfl)] at this
  exact this
theorem bools_true (n : Nat) : boolsOf ((List.range n).map fun _ => PyData.bool true) = some ((List.range n).map fun _ => true) := by
  induction List.range n with
  | nil => rfl
  | cons a l ih => show (boolsOf (l.map fun _ => PyData.bool true)).bind _ = _; rw [ih]; rfl
theorem all_true (n : Nat) : ((List.range n).map fun _ => true).all id = true := by
  induction List.range n with
  | nil => rfl
  | cons a l ih => simpa using ih
theorem okR_big {n : Nat} (h : n ≤ big) : okR (n : Int) = true := by
  have : (n : Int) ≤ 16777216 := by unfold big at h; omega
  exact decide_eq_true (by omega)
theorem o_all {l : List D} {s : S} {bs : List Bool} (h : boolsOf l = some bs) : oAll s [.im (.list l)] = some (.im (.bool (bs.all id))) := by
  show (boolsOf l).bind _ = _
  rw [h]; rfl
theorem same_refl : ∀ (n : Nat) (d : D), fine n d = true → r_law_same (n + 1) [d, d] = some (.bool true) := by
  intro n
  induction n with
  | zero =>
    intro d h
    unfold r_law_same d_law_same
    cases d with
    | none => rfl
    | bool b => cases b <;> rfl
    | int i => walk_at "Z"
    | str z => walk_at "Z"
    | list l => cases h
    | tuple l => cases h
    | dict l => cases h
  | succ n ih =>
    intro d h
    unfold r_law_same d_law_same
    cases d with
    | none => rfl
    | bool b => cases b <;> rfl
    | int i => walk_at "Z"
    | str z => walk_at "Z"
    | list l =>
      simp only [fine, Bool.and_eq_true, decide_eq_true_eq] at h
      have hh := fun d hd => ih d (fines_all h.2 d hd)
      walk_at "Z"
      rw [k_rng1 (okR_big h.1), k_lc (by rw [rngD_len]; exact h.1), Int.toNat_natCast, same_rows (.inl rfl) h.1 hh]
      walk_at "Z"
      rw [o_all (bools_true _), all_true]
      rfl
    | tuple l =>
      simp only [fine, Bool.and_eq_true, decide_eq_true_eq] at h
      have hh := fun d hd => ih d (fines_all h.2 d hd)
      walk_at "Z"
      rw [k_rng1 (okR_big h.1), k_lc (by rw [rngD_len]; exact h.1), Int.toNat_natCast, same_rows (.inr rfl) h.1 hh]
      walk_at "Z"
      rw [o_all (bools_true _), all_true]
      rfl
    | dict l => cases h
end
end Zz
set_option Elab.async false
set_option linter.all false
set_option maxRecDepth 100000
set_option maxHeartbeats 8000000
namespace K39
open PySem PyProof.Rows L2 Zz
def top (i : Nat) : Stmt := PySem.Challenge.pw_keystotext_k39_whole_givers_and_askers.main.body.getD i (.Pass ⟨0, 0, 0, 0⟩)
abbrev s_Giver_init : Stmt := L2.inClass (top 1) 0
abbrev N_Giver_init : List Str := ["self", "modulo"]
abbrev P_Giver_init : List Str := ["self", "modulo"]
def d_Giver_init : FS := (fSeq (fSetF "Giver" "_modulo" (fVar 0) (fVar 1)) (fSeq (fSetF "Giver" "_waiting" (fVar 0) (fNewD (fLst fNil))) (fSetF "Giver" "_first" (fVar 0) (fC (.int 0)))))
def r_Giver_init : List L → S → Option (L × S) := runG 2 d_Giver_init
abbrev s_Giver_waiting : Stmt := L2.inClass (top 1) 1
abbrev N_Giver_waiting : List Str := ["self"]
abbrev P_Giver_waiting : List Str := ["self"]
def d_Giver_waiting : FS := (fRet (fCall oLen (fCons (fFld "Giver" "_waiting" (fVar 0)) fNil)))
def r_Giver_waiting : List L → S → Option (L × S) := runG 1 d_Giver_waiting
abbrev s_Giver_put : Stmt := L2.inClass (top 1) 2
abbrev N_Giver_put : List Str := ["self", "report"]
abbrev P_Giver_put : List Str := ["self", "report"]
def d_Giver_put : FS := (fDrop (fApp (fFld "Giver" "_waiting" (fVar 0)) (fVar 1)))
def r_Giver_put : List L → S → Option (L × S) := runG 2 d_Giver_put
abbrev s_Giver_poll : Stmt := L2.inClass (top 1) 3
abbrev N_Giver_poll : List Str := ["self", "told"]
abbrev P_Giver_poll : List Str := ["self", "told"]
def d_Giver_poll : FS := (fSeq (fIfS (fAndT (fTru (fFld "Giver" "_waiting" (fVar 0))) (fTest (fOp gEq (fVar 1) (fOp gMod (fOp gAdd (fFld "Giver" "_first" (fVar 0)) (fC (.int 1))) (fFld "Giver" "_modulo" (fVar 0)))))) (fSeq (fSetF "Giver" "_waiting" (fVar 0) (fNewD (fSlL (fFld "Giver" "_waiting" (fVar 0)) (fPart (fC (.int 1))) fNoP))) (fAugF "Giver" "_first" (fun i j => i + j) (fVar 0) (fC (.int 1)))) fNext) (fSeq (fIfS (fNotT (fTru (fFld "Giver" "_waiting" (fVar 0)))) (fRet (fC .none)) fNext) (fRet (fTup (fCons (fOp gMod (fFld "Giver" "_first" (fVar 0)) (fFld "Giver" "_modulo" (fVar 0))) (fCons (fOp gIx (fFld "Giver" "_waiting" (fVar 0)) (fC (.int 0))) fNil))))))
def r_Giver_poll : List L → S → Option (L × S) := runG 2 d_Giver_poll
abbrev s_Asker_init : Stmt := L2.inClass (top 2) 0
abbrev N_Asker_init : List Str := ["self", "modulo"]
abbrev P_Asker_init : List Str := ["self", "modulo"]
def d_Asker_init : FS := (fSeq (fSetF "Asker" "_modulo" (fVar 0) (fVar 1)) (fSetF "Asker" "_taken" (fVar 0) (fNewD (fLst fNil))))
def r_Asker_init : List L → S → Option (L × S) := runG 2 d_Asker_init
abbrev s_Asker_asks : Stmt := L2.inClass (top 2) 1
abbrev N_Asker_asks : List Str := ["self"]
abbrev P_Asker_asks : List Str := ["self"]
def d_Asker_asks : FS := (fRet (fOp gMod (fCall oLen (fCons (fFld "Asker" "_taken" (fVar 0)) fNil)) (fFld "Asker" "_modulo" (fVar 0))))
def r_Asker_asks : List L → S → Option (L × S) := runG 1 d_Asker_asks
abbrev s_Asker_hear : Stmt := L2.inClass (top 2) 2
abbrev N_Asker_hear : List Str := ["self", "answer", "number", "report"]
abbrev P_Asker_hear : List Str := ["self", "answer"]
def d_Asker_hear : FS := (fSeq (fUnp (.tp (.cons (.nm 2) (.cons (.nm 3) .nil))) (fVar 1)) (fSeq (fIfS (fTest (fOp gNe (fVar 2) (fMethG "Asker" "asks" 1 r_Asker_asks (fVar 0) fNil))) (fRet (fC .none)) fNext) (fSeq (fDrop (fApp (fFld "Asker" "_taken" (fVar 0)) (fVar 3))) (fRet (fVar 3)))))
def r_Asker_hear : List L → S → Option (L × S) := runG 4 d_Asker_hear
abbrev s_Asker_taken : Stmt := L2.inClass (top 2) 3
abbrev N_Asker_taken : List Str := ["self"]
abbrev P_Asker_taken : List Str := ["self"]
def d_Asker_taken : FS := (fRet (fCall oTuple (fCons (fFld "Asker" "_taken" (fVar 0)) fNil)))
def r_Asker_taken : List L → S → Option (L × S) := runG 1 d_Asker_taken
abbrev s_law_box : Stmt := top 4
abbrev s_law_load : Stmt := top 5
abbrev s_law_draw : Stmt := top 6
abbrev s_law_same : Stmt := top 7
abbrev s_law_report : Stmt := top 8
abbrev N_law_report : List Str := ["box"]
abbrev P_law_report : List Str := ["box"]
def d_law_report : FS := (fRet (fOp gIx (fFrz (fLst (fCons (fTup (fCons (fTup fNil) (fCons (fTup (fCons (fC (.int 4)) fNil)) fNil))) (fCons (fTup (fCons (fTup fNil) (fCons (fTup fNil) fNil))) (fCons (fTup (fCons (fTup (fCons (fC (.str "alt")) fNil)) (fCons (fTup (fCons (fC (.int 4)) fNil)) fNil))) (fCons (fTup (fCons (fTup (fCons (fC (.str "ctrl")) (fCons (fC (.str "shift")) fNil))) (fCons (fC .none) fNil))) (fCons (fTup (fCons (fTup fNil) (fCons (fTup (fCons (fOp gAdd (fC (.int 1)) (fCallG 2 r_law_draw (fCons (fVar 0) (fCons (fC (.int 127)) fNil)))) fNil)) fNil))) fNil))))))) (fCallG 2 r_law_draw (fCons (fVar 0) (fCons (fC (.int 5)) fNil)))))
def r_law_report : List L → S → Option (L × S) := runG 1 d_law_report
abbrev s_law_answer : Stmt := top 9
abbrev N_law_answer : List Str := ["box", "link", "told", "modulo", "puts", "due", "answer"]
abbrev P_law_answer : List Str := ["box", "link", "told"]
def d_law_answer : FS := (fSeq (fPar [.sl 3, .sl 4] (fVl (fOp gIx (fVar 1) (fC (.int 0))) (fVl (fOp gIx (fVar 1) (fC (.int 3))) fV0))) (fSeq (fIfS (fAndT (fTest (fOp gLt (fOp gIx (fVar 1) (fC (.int 4))) (fCall oLen (fCons (fVar 4) fNil)))) (fTest (fOp gEq (fVar 2) (fOp gMod (fCall oInt (fCons (fOp gAdd (fOp gIx (fVar 1) (fC (.int 4))) (fC (.int 1))) fNil)) (fVar 3))))) (fSetS (fVar 1) (fC (.int 4)) (fOp gAdd (fOp gIx (fVar 1) (fC (.int 4))) (fC (.int 1)))) fNext) (fSeq (fAsg 5 (fIf (fTest (fOp gLt (fOp gIx (fVar 1) (fC (.int 4))) (fCall oLen (fCons (fVar 4) fNil)))) (fTup (fCons (fOp gMod (fCall oInt (fCons (fOp gIx (fVar 1) (fC (.int 4))) fNil)) (fVar 3)) (fCons (fOp gIx (fVar 4) (fOp gIx (fVar 1) (fC (.int 4)))) fNil))) (fC .none))) (fSeq (fAsg 6 (fMethG "Giver" "poll" 2 r_Giver_poll (fOp gIx (fVar 1) (fC (.int 1))) (fCons (fVar 2) fNil))) (fSeq (fIfS (fTest (fOp gNotIs (fVar 6) (fC .none))) (fDrop (fApp (fOp gIx (fVar 1) (fC (.int 6))) (fVar 5))) fNext) (fRet (fIf (fTest (fCallP 2 (r_law_same 6) (fCons (fVar 6) (fCons (fVar 5) fNil)))) (fCallP 2 (r_law_same 6) (fCons (fMethG "Giver" "waiting" 1 r_Giver_waiting (fOp gIx (fVar 1) (fC (.int 1))) fNil) (fCons (fOp gSub (fCall oLen (fCons (fVar 4) fNil)) (fOp gIx (fVar 1) (fC (.int 4)))) fNil))) (fC (.bool false)))))))))
def r_law_answer : List L → S → Option (L × S) := runG 7 d_law_answer
abbrev s_law_heard : Stmt := top 10
abbrev N_law_heard : List Str := ["link", "answer", "is_due", "told"]
abbrev P_law_heard : List Str := ["link", "answer"]
def d_law_heard : FS := (fSeq (fAsg 2 (fOp gEq (fOp gIx (fVar 1) (fC (.int 0))) (fOp gMod (fCall oInt (fCons (fCall oLen (fCons (fOp gIx (fVar 0) (fC (.int 5))) fNil)) fNil)) (fOp gIx (fVar 0) (fC (.int 0)))))) (fSeq (fAsg 3 (fMethG "Asker" "hear" 2 r_Asker_hear (fOp gIx (fVar 0) (fC (.int 2))) (fCons (fVar 1) fNil))) (fSeq (fIfS (fTru (fVar 2)) (fDrop (fApp (fOp gIx (fVar 0) (fC (.int 5))) (fOp gIx (fVar 1) (fC (.int 1))))) fNext) (fSeq (fIfS (fNotT (fTru (fCallP 2 (r_law_same 6) (fCons (fVar 3) (fCons (fIf (fTru (fVar 2)) (fOp gIx (fVar 1) (fC (.int 1))) (fC .none)) fNil))))) (fRet (fC (.bool false))) fNext) (fRet (fIf (fTest (fCallP 2 (r_law_same 6) (fCons (fMethG "Asker" "taken" 1 r_Asker_taken (fOp gIx (fVar 0) (fC (.int 2))) fNil) (fCons (fCall oTuple (fCons (fOp gIx (fVar 0) (fC (.int 5))) fNil)) fNil)))) (fCallP 2 (r_law_same 6) (fCons (fMethG "Asker" "asks" 1 r_Asker_asks (fOp gIx (fVar 0) (fC (.int 2))) fNil) (fCons (fOp gMod (fCall oInt (fCons (fCall oLen (fCons (fOp gIx (fVar 0) (fC (.int 5))) fNil)) fNil)) (fOp gIx (fVar 0) (fC (.int 0)))) fNil))) (fC (.bool false))))))))
def r_law_heard : List L → S → Option (L × S) := runG 4 d_law_heard
abbrev s_law_link : Stmt := top 11
abbrev N_law_link : List Str := ["modulo"]
abbrev P_law_link : List Str := ["modulo"]
def d_law_link : FS := (fRet (fNewR (fCons (fVar 0) (fCons (fMake "Giver" 2 r_Giver_init (fCons (fVar 0) fNil)) (fCons (fMake "Asker" 2 r_Asker_init (fCons (fVar 0) fNil)) (fCons (fNewD (fLst fNil)) (fCons (fC (.int 0)) (fCons (fNewD (fLst fNil)) (fCons (fNewD (fLst fNil)) fNil)))))))))
def r_law_link : List L → S → Option (L × S) := runG 1 d_law_link
abbrev s_law_loose : Stmt := top 12
abbrev N_law_loose : List Str := ["box", "links", "turn", "link", "pick", "report", "told", "place"]
abbrev P_law_loose : List Str := ["box"]
def l_law_loose_1 : FS := (fSeq (fPar [.sl 3, .sl 4] (fVl (fOp gIx (fVar 1) (fCallG 2 r_law_draw (fCons (fVar 0) (fCons (fC (.int 2)) fNil)))) (fVl (fCallG 2 r_law_draw (fCons (fVar 0) (fCons (fC (.int 6)) fNil))) fV0))) (fIfS (fTest (fOp gLt (fVar 4) (fC (.int 2)))) (fSeq (fAsg 5 (fCallG 1 r_law_report (fCons (fVar 0) fNil))) (fSeq (fDrop (fMethG "Giver" "put" 2 r_Giver_put (fOp gIx (fVar 3) (fC (.int 1))) (fCons (fVar 5) fNil))) (fDrop (fApp (fOp gIx (fVar 3) (fC (.int 3))) (fVar 5))))) (fIfS (fTest (fOp gLt (fVar 4) (fC (.int 4)))) (fSeq (fAsg 6 (fIf (fTest (fOp gGt (fCallG 2 r_law_draw (fCons (fVar 0) (fCons (fC (.int 4)) fNil))) (fC (.int 0)))) (fOp gMod (fCall oInt (fCons (fCall oLen (fCons (fOp gIx (fVar 3) (fC (.int 5))) fNil)) fNil)) (fOp gIx (fVar 3) (fC (.int 0)))) (fCallG 2 r_law_draw (fCons (fVar 0) (fCons (fOp gIx (fVar 3) (fC (.int 0))) fNil))))) (fIfS (fNotT (fTru (fCallG 3 r_law_answer (fCons (fVar 0) (fCons (fVar 3) (fCons (fVar 6) fNil)))))) (fRet (fC (.bool false))) fNext)) (fIfS (fTest (fOp gNe (fOp gIx (fVar 3) (fC (.int 6))) (fFrz (fLst fNil)))) (fSeq (fAsg 7 (fOp gSub (fOp gSub (fCall oLen (fCons (fOp gIx (fVar 3) (fC (.int 6))) fNil)) (fC (.int 1))) (fCall oMin2 (fCons (fOp gSub (fCall oLen (fCons (fOp gIx (fVar 3) (fC (.int 6))) fNil)) (fC (.int 1))) (fCons (fOp gMul (fCallG 2 r_law_draw (fCons (fVar 0) (fCons (fC (.int 5)) fNil))) (fCallG 2 r_law_draw (fCons (fVar 0) (fCons (fC (.int 2)) fNil)))) fNil))))) (fIfS (fNotT (fTru (fCallG 2 r_law_heard (fCons (fVar 3) (fCons (fOp gIx (fOp gIx (fVar 3) (fC (.int 6))) (fVar 7)) fNil))))) (fRet (fC (.bool false))) fNext)) fNext))))
def d_law_loose : FS := (fSeq (fAsg 1 (fNewR (fCons (fCallG 1 r_law_link (fCons (fOp gAdd (fC (.int 2)) (fCallG 2 r_law_draw (fCons (fVar 0) (fCons (fC (.int 15)) fNil)))) fNil)) (fCons (fCallG 1 r_law_link (fCons (fOp gAdd (fC (.int 2)) (fCallG 2 r_law_draw (fCons (fVar 0) (fCons (fC (.int 3)) fNil)))) fNil)) fNil)))) (fSeq (fFor (.nm 2) (fRng1 (fCons (fC (.int 60)) fNil)) l_law_loose_1) (fRet (fC (.bool true)))))
def r_law_loose : List L → S → Option (L × S) := runG 8 d_law_loose
abbrev s_law_run : Stmt := top 13
abbrev N_law_run : List Str := ["box", "latest", "link", "way", "many", "poll", "is_late", "answered", "copies", "when", "answer", "copy", "delay"]
abbrev P_law_run : List Str := ["box"]
def l_law_run_1 : FS := (fIfS (fAndT (fTest (fOp gEq (fVar 9) (fVar 5))) (fNotT (fTru (fCallG 2 r_law_heard (fCons (fVar 2) (fCons (fVar 10) fNil)))))) (fRet (fC (.bool false))) fNext)
def l_law_run_2 : FS := (fSeq (fIfS (fAndT (fTest (fOp gLt (fCall oLen (fCons (fOp gIx (fVar 2) (fC (.int 3))) fNil)) (fVar 4))) (fOrT (fTest (fOp gEq (fCallG 2 r_law_draw (fCons (fVar 0) (fCons (fC (.int 2)) fNil))) (fC (.int 0)))) (fTest (fOp gGe (fVar 5) (fC (.int 20)))))) (fSeq (fDrop (fApp (fOp gIx (fVar 2) (fC (.int 3))) (fCallG 1 r_law_report (fCons (fVar 0) fNil)))) (fDrop (fMethG "Giver" "put" 2 r_Giver_put (fOp gIx (fVar 2) (fC (.int 1))) (fCons (fOp gIx (fOp gIx (fVar 2) (fC (.int 3))) (fUn gNeg (fC (.int 1)))) fNil)))) fNext) (fSeq (fAsg 6 (fOp gLt (fVar 5) (fC (.int 29)))) (fSeq (fIfS (fOrT (fNotT (fTru (fVar 6))) (fTest (fOp gGt (fCallG 2 r_law_draw (fCons (fVar 0) (fCons (fC (.int 3)) fNil))) (fC (.int 0))))) (fSeq (fAsg 7 (fCall oLen (fCons (fOp gIx (fVar 2) (fC (.int 6))) fNil))) (fSeq (fIfS (fNotT (fTru (fCallG 3 r_law_answer (fCons (fVar 0) (fCons (fVar 2) (fCons (fOp gMod (fCall oInt (fCons (fCall oLen (fCons (fOp gIx (fVar 2) (fC (.int 5))) fNil)) fNil)) (fOp gIx (fVar 2) (fC (.int 0)))) fNil)))))) (fRet (fC (.bool false))) fNext) (fSeq (fAsg 8 (fIf (fTru (fVar 6)) (fFrz (fLC [11] (.nm 11) (fRng1 (fCons (fCallG 2 r_law_draw (fCons (fVar 0) (fCons (fC (.int 4)) fNil))) fNil)) fYes (fCallG 2 r_law_draw (fCons (fVar 0) (fCons (fOp gAdd (fVar 1) (fC (.int 1))) fNil))))) (fFrz (fLst (fCons (fC (.int 0)) fNil))))) (fAsg 3 (fOp gAdd (fVar 3) (fIf (fTest (fOp gGt (fCall oLen (fCons (fOp gIx (fVar 2) (fC (.int 6))) fNil)) (fVar 7))) (fFrz (fLC [12] (.nm 12) (fSeqI (fFrz (fCallF oSorted (fCons (fVar 8) fNil)))) fYes (fTup (fCons (fOp gAdd (fVar 5) (fVar 12)) (fCons (fOp gIx (fOp gIx (fVar 2) (fC (.int 6))) (fUn gNeg (fC (.int 1)))) fNil))))) (fFrz (fLst fNil)))))))) fNext) (fSeq (fFor (.tp (.cons (.nm 9) (.cons (.nm 10) .nil))) (fSeqI (fVar 3)) l_law_run_1) (fIfS (fNotT (fTru (fCallP 2 (r_law_same 6) (fCons (fOp gIx (fVar 2) (fC (.int 5))) (fCons (fSl (fOp gIx (fVar 2) (fC (.int 3))) fNoP (fPart (fCall oLen (fCons (fOp gIx (fVar 2) (fC (.int 5))) fNil)))) fNil))))) (fRet (fC (.bool false))) fNext)))))
def d_law_run : FS := (fSeq (fAsg 1 (fCallG 2 r_law_draw (fCons (fVar 0) (fCons (fC (.int 13)) fNil)))) (fSeq (fPar [.sl 2, .sl 3, .sl 4] (fVl (fCallG 1 r_law_link (fCons (fIf (fTest (fOp gGt (fVar 1) (fC (.int 0)))) (fOp gAdd (fOp gAdd (fVar 1) (fC (.int 1))) (fCallG 2 r_law_draw (fCons (fVar 0) (fCons (fOp gSub (fC (.int 16)) (fVar 1)) fNil)))) (fC (.int 2))) fNil)) (fVl (fFrz (fLst fNil)) (fVl (fOp gAdd (fC (.int 1)) (fCallG 2 r_law_draw (fCons (fVar 0) (fCons (fC (.int 12)) fNil)))) fV0)))) (fSeq (fFor (.nm 5) (fRng1 (fCons (fOp gAdd (fC (.int 30)) (fVar 4)) fNil)) l_law_run_2) (fRet (fIf (fTest (fOp gEq (fCall oLen (fCons (fOp gIx (fVar 2) (fC (.int 3))) fNil)) (fVar 4))) (fOp gEq (fCall oLen (fCons (fOp gIx (fVar 2) (fC (.int 5))) fNil)) (fVar 4)) (fC (.bool false)))))))
def r_law_run : List L → S → Option (L × S) := runG 13 d_law_run
abbrev s_law : Stmt := top 14
abbrev N_law : List Str := ["script", "box"]
abbrev P_law : List Str := ["script"]
def d_law : FS := (fSeq (fAsg 1 (fCallG 1 r_law_box (fCons (fVar 0) fNil))) (fRet (fIf (fTest (fCallG 1 r_law_loose (fCons (fVar 1) fNil))) (fIf (fTest (fCallG 1 r_law_run (fCons (fVar 1) fNil))) (fCallG 1 r_law_run (fCons (fVar 1) fNil)) (fC (.bool false))) (fC (.bool false)))))
def r_law : List L → S → Option (L × S) := runG 2 d_law
structure Txt (K : PySem.W.Frag) (mg : Str → Option Value) : Prop where
  b_len : mg "len" = none
  b_tuple : mg "tuple" = none
  b_list : mg "list" = none
  b_int : mg "int" = none
  b_isinstance : mg "isinstance" = none
  b_range : mg "range" = none
  b_all : mg "all" = none
  b_bool : mg "bool" = none
  b_str : mg "str" = none
  b_min : mg "min" = none
  b_sorted : mg "sorted" = none
  f_Giver_modulo : FldOk K mg "Giver" "_modulo"
  f_Giver_waiting : FldOk K mg "Giver" "_waiting"
  f_Giver_first : FldOk K mg "Giver" "_first"
  f_Asker_modulo : FldOk K mg "Asker" "_modulo"
  f_Asker_taken : FldOk K mg "Asker" "_taken"
section
variable {P : Program} {wl : World} {K : PySem.W.Frag} {mg : Str → Option Value} {base : Heap}
theorem sc_Giver_init : FnScope N_Giver_init P_Giver_init (defScope s_Giver_init) := ⟨rfl, rfl, rfl, by decide +kernel, rfl, by decide +kernel, by decide +kernel⟩
theorem ok_Giver_init {f : Addr} {fd : FuncData} (T : Txt K mg) (F : Fun K "__init__" "Giver.__init__" s_Giver_init f fd)  : FnOk P wl K mg base L2.CX0 1 f fd P_Giver_init (spG K mg 2 r_Giver_init) := by
  refine fn_G (N := N_Giver_init) F sc_Giver_init (k := 0) (b := d_Giver_init) fun cdv A outer s H E hr => ?_
  exact (sb_cons (ss_setF T.f_Giver_modulo (se_pv 0) (se_pv 1)) (sb_cons (ss_setF T.f_Giver_waiting (se_pv 0) (se_newD (sf_lst sa_nil))) (sb_one (ss_setF T.f_Giver_first (se_pv 0) se_int))))
theorem sc_Giver_waiting : FnScope N_Giver_waiting P_Giver_waiting (defScope s_Giver_waiting) := ⟨rfl, rfl, rfl, by decide +kernel, rfl, by decide +kernel, by decide +kernel⟩
theorem ok_Giver_waiting {f : Addr} {fd : FuncData} (T : Txt K mg) (F : Fun K "waiting" "Giver.waiting" s_Giver_waiting f fd)  : FnOk P wl K mg base L2.CX0 1 f fd P_Giver_waiting (spG K mg 1 r_Giver_waiting) := by
  refine fn_G (N := N_Giver_waiting) F sc_Giver_waiting (k := 0) (b := d_Giver_waiting) fun cdv A outer s H E hr => ?_
  exact (sb_one (ss_ret (se_len rfl T.b_len (sa_cons (se_fld T.f_Giver_waiting (se_pv 0)) sa_nil))))
theorem sc_Giver_put : FnScope N_Giver_put P_Giver_put (defScope s_Giver_put) := ⟨rfl, rfl, rfl, by decide +kernel, rfl, by decide +kernel, by decide +kernel⟩
theorem ok_Giver_put {f : Addr} {fd : FuncData} (T : Txt K mg) (F : Fun K "put" "Giver.put" s_Giver_put f fd)  : FnOk P wl K mg base L2.CX0 1 f fd P_Giver_put (spG K mg 2 r_Giver_put) := by
  refine fn_G (N := N_Giver_put) F sc_Giver_put (k := 0) (b := d_Giver_put) fun cdv A outer s H E hr => ?_
  exact (sb_one (ss_expr (se_app (se_fld T.f_Giver_waiting (se_pv 0)) (se_pv 1))))
theorem sc_Giver_poll : FnScope N_Giver_poll P_Giver_poll (defScope s_Giver_poll) := ⟨rfl, rfl, rfl, by decide +kernel, rfl, by decide +kernel, by decide +kernel⟩
theorem ok_Giver_poll {f : Addr} {fd : FuncData} (T : Txt K mg) (F : Fun K "poll" "Giver.poll" s_Giver_poll f fd)  : FnOk P wl K mg base L2.CX0 1 f fd P_Giver_poll (spG K mg 2 r_Giver_poll) := by
  refine fn_G (N := N_Giver_poll) F sc_Giver_poll (k := 0) (b := d_Giver_poll) fun cdv A outer s H E hr => ?_
  exact (sb_cons (ss_if (sw_st (sw_and (st_tru (se_fld T.f_Giver_waiting (se_pv 0))) (sw_and1 (st_eq hr (se_pv 1) (se_mod (se_add (se_fld T.f_Giver_first (se_pv 0)) se_int) (se_fld T.f_Giver_modulo (se_pv 0))))))) (sb_cons (ss_setF T.f_Giver_waiting (se_pv 0) (se_newD (sf_slL (se_fld T.f_Giver_waiting (se_pv 0)) (so_some se_int) so_none))) (sb_one (ss_addF T.f_Giver_first (se_pv 0) se_int))) sb_nil) (sb_cons (ss_if (st_not (st_tru (se_fld T.f_Giver_waiting (se_pv 0)))) (sb_one (ss_ret se_non)) sb_nil) (sb_one (ss_ret (se_tup (sa_cons (se_mod (se_fld T.f_Giver_first (se_pv 0)) (se_fld T.f_Giver_modulo (se_pv 0))) (sa_cons (se_at (se_fld T.f_Giver_waiting (se_pv 0)) se_int) sa_nil)))))))
theorem sc_Asker_init : FnScope N_Asker_init P_Asker_init (defScope s_Asker_init) := ⟨rfl, rfl, rfl, by decide +kernel, rfl, by decide +kernel, by decide +kernel⟩
theorem ok_Asker_init {f : Addr} {fd : FuncData} (T : Txt K mg) (F : Fun K "__init__" "Asker.__init__" s_Asker_init f fd)  : FnOk P wl K mg base L2.CX0 1 f fd P_Asker_init (spG K mg 2 r_Asker_init) := by
  refine fn_G (N := N_Asker_init) F sc_Asker_init (k := 0) (b := d_Asker_init) fun cdv A outer s H E hr => ?_
  exact (sb_cons (ss_setF T.f_Asker_modulo (se_pv 0) (se_pv 1)) (sb_one (ss_setF T.f_Asker_taken (se_pv 0) (se_newD (sf_lst sa_nil)))))
theorem sc_Asker_asks : FnScope N_Asker_asks P_Asker_asks (defScope s_Asker_asks) := ⟨rfl, rfl, rfl, by decide +kernel, rfl, by decide +kernel, by decide +kernel⟩
theorem ok_Asker_asks {f : Addr} {fd : FuncData} (T : Txt K mg) (F : Fun K "asks" "Asker.asks" s_Asker_asks f fd)  : FnOk P wl K mg base L2.CX0 1 f fd P_Asker_asks (spG K mg 1 r_Asker_asks) := by
  refine fn_G (N := N_Asker_asks) F sc_Asker_asks (k := 0) (b := d_Asker_asks) fun cdv A outer s H E hr => ?_
  exact (sb_one (ss_ret (se_mod (se_len rfl T.b_len (sa_cons (se_fld T.f_Asker_taken (se_pv 0)) sa_nil)) (se_fld T.f_Asker_modulo (se_pv 0)))))
theorem sc_Asker_hear : FnScope N_Asker_hear P_Asker_hear (defScope s_Asker_hear) := ⟨rfl, rfl, rfl, by decide +kernel, rfl, by decide +kernel, by decide +kernel⟩
theorem ok_Asker_hear {f : Addr} {fd : FuncData} (T : Txt K mg) (F : Fun K "hear" "Asker.hear" s_Asker_hear f fd) (h_Asker_asks : Mt P wl K mg base 1 "Asker" "asks" (spG K mg 1 r_Asker_asks)) : FnOk P wl K mg base L2.CX0 2 f fd P_Asker_hear (spG K mg 2 r_Asker_hear) := by
  refine fn_G (N := N_Asker_hear) F sc_Asker_hear (k := 1) (b := d_Asker_hear) fun cdv A outer s H E hr => ?_
  exact (sb_cons (ss_unp (se_pv 1) (sg_tp rfl (sgs_cons (sg_nm 2 sc_Asker_hear.nd) (sgs_cons (sg_nm 3 sc_Asker_hear.nd) sgs_nil)) (len_cons (len_cons len_nil)))) (sb_cons (ss_if (st_ne hr (se_pv 2) (se_meth0 h_Asker_asks hr (by decide) (se_pv 0))) (sb_one (ss_ret se_non)) sb_nil) (sb_cons (ss_expr (se_app (se_fld T.f_Asker_taken (se_pv 0)) (se_pv 3))) (sb_one (ss_ret (se_pv 3))))))
theorem sc_Asker_taken : FnScope N_Asker_taken P_Asker_taken (defScope s_Asker_taken) := ⟨rfl, rfl, rfl, by decide +kernel, rfl, by decide +kernel, by decide +kernel⟩
theorem ok_Asker_taken {f : Addr} {fd : FuncData} (T : Txt K mg) (F : Fun K "taken" "Asker.taken" s_Asker_taken f fd)  : FnOk P wl K mg base L2.CX0 1 f fd P_Asker_taken (spG K mg 1 r_Asker_taken) := by
  refine fn_G (N := N_Asker_taken) F sc_Asker_taken (k := 0) (b := d_Asker_taken) fun cdv A outer s H E hr => ?_
  exact (sb_one (ss_ret (se_tuple rfl T.b_tuple (sa_cons (se_fld T.f_Asker_taken (se_pv 0)) sa_nil))))
theorem sc_law_box : FnScope N_law_box P_law_box (defScope s_law_box) := ⟨rfl, rfl, rfl, by decide +kernel, rfl, by decide +kernel, by decide +kernel⟩
theorem ok_law_box {f : Addr} {fd : FuncData} (T : Txt K mg) (F : Fun K "_law_box" "_law_box" s_law_box f fd)  : FnOk P wl K mg base L2.CX0 1 f fd P_law_box (spG K mg 1 r_law_box) := by
  refine fn_G (N := N_law_box) F sc_law_box (k := 0) (b := d_law_box) fun cdv A outer s H E hr => ?_
  exact (sb_one (ss_ret (se_newR (sa_cons (se_newD (sf_list rfl T.b_list (sa_cons (se_sl (se_pv 0) so_none (so_some se_int)) sa_nil))) (sa_cons se_int (sa_cons (se_add se_int (se_len rfl T.b_len (sa_cons (se_pv 0) sa_nil))) sa_nil))))))
theorem sc_law_load : FnScope N_law_load P_law_load (defScope s_law_load) := ⟨rfl, rfl, rfl, by decide +kernel, rfl, by decide +kernel, by decide +kernel⟩
theorem ok_law_load {f : Addr} {fd : FuncData} (T : Txt K mg) (F : Fun K "_law_load" "_law_load" s_law_load f fd)  : FnOk P wl K mg base L2.CX0 1 f fd P_law_load (spG K mg 1 r_law_load) := by
  refine fn_G (N := N_law_load) F sc_law_load (k := 0) (b := d_law_load) fun cdv A outer s H E hr => ?_
  exact (sb_cons (ss_asg (sv_set 1 (se_at (se_pv 0) se_int) sc_law_load.nd)) (sb_cons (ss_if (st_gt (se_len rfl T.b_len (sa_cons (se_pv 1) sa_nil)) se_int) (sb_cons (ss_asg (sv_set 2 (se_intc rfl T.b_int (sa_cons (se_popAt (se_pv 1) se_int) sa_nil)) sc_law_load.nd)) (sb_cons (ss_asg (sv_set 3 (se_if (st_ge (se_pv 2) se_int) (se_mul se_int (se_pv 2)) (se_sub (se_mul (se_neg se_int) (se_pv 2)) se_int)) sc_law_load.nd)) (sb_cons (ss_if (st_ge (se_pv 3) se_int) (sb_one (ss_ret (se_pv 3))) sb_nil) (sb_one (ss_setS (se_pv 0) se_int (se_mod (se_intc rfl T.b_int (sa_cons (se_add (se_add (se_mul (se_at (se_pv 0) se_int) se_int) (se_mul (se_pv 3) se_int)) se_int) sa_nil)) se_int)))))) sb_nil) (sb_cons (ss_asg (sv_set 4 (se_mod (se_intc rfl T.b_int (sa_cons (se_add (se_mul (se_at (se_pv 0) se_int) se_int) se_int) sa_nil)) se_int) sc_law_load.nd)) (sb_cons (ss_asg (sv_set 5 (se_mod (se_intc rfl T.b_int (sa_cons (se_add (se_mul (se_pv 4) se_int) se_int) sa_nil)) se_int) sc_law_load.nd)) (sb_cons (ss_setS (se_pv 0) se_int (se_mod (se_intc rfl T.b_int (sa_cons (se_add (se_mul (se_pv 5) se_int) se_int) sa_nil)) se_int)) (sb_one (ss_ret (se_add (se_add (se_mul (se_pv 4) se_int) (se_mul (se_pv 5) se_int)) (se_at (se_pv 0) se_int)))))))))
theorem sc_law_draw : FnScope N_law_draw P_law_draw (defScope s_law_draw) := ⟨rfl, rfl, rfl, by decide +kernel, rfl, by decide +kernel, by decide +kernel⟩
theorem ok_law_draw {f : Addr} {fd : FuncData} (T : Txt K mg) (F : Fun K "_law_draw" "_law_draw" s_law_draw f fd) (h_law_load : Cl P wl K mg base 1 "_law_load" (spG K mg 1 r_law_load)) : FnOk P wl K mg base L2.CX0 2 f fd P_law_draw (spG K mg 2 r_law_draw) := by
  refine fn_G (N := N_law_draw) F sc_law_draw (k := 1) (b := d_law_draw) fun cdv A outer s H E hr => ?_
  exact (sb_cons (ss_if (st_lt (se_at (se_pv 0) se_int) (se_pv 1)) (sb_one (ss_setS (se_pv 0) se_int (se_callG h_law_load hr (by decide) rfl (sa_cons (se_pv 0) sa_nil)))) sb_nil) (sb_cons (ss_asg (sv_set 2 (se_mod (se_intc rfl T.b_int (sa_cons (se_at (se_pv 0) se_int) sa_nil)) (se_pv 1)) sc_law_draw.nd)) (sb_cons (ss_setS (se_pv 0) se_int (se_div (se_at (se_pv 0) se_int) (se_pv 1))) (sb_one (ss_ret (se_pv 2))))))
theorem sc_law_same : FnScope N_law_same P_law_same (defScope s_law_same) := ⟨rfl, rfl, rfl, by decide +kernel, rfl, by decide +kernel, by decide +kernel⟩
theorem ok_law_same {f : Addr} {fd : FuncData} (T : Txt K mg) (F : Fun K "_law_same" "_law_same" s_law_same f fd) (B : Binds K fd P_law_same []) (hm : mg "_law_same" = some (.ref f))  : ∀ n : Nat, Cl P wl K mg base (0 + n) "_law_same" (spP K 2 (r_law_same n))
  | 0 => ⟨f, fd, P_law_same, ⟨fun vs H Q E h => (by obtain ⟨_, _, _, _, _, _, h, _⟩ := h; cases h), fun A outer s H args us vs Q E hr he hb hv h => (by obtain ⟨_, _, _, _, _, _, h, _⟩ := h; cases h)⟩, hm, F.kp, B⟩
  | n + 1 => by
    have IH := ok_law_same T F B hm  n
    refine ⟨f, fd, P_law_same, fn_P (N := N_law_same) F sc_law_same (k := 0 + n) (b := d_law_same (r_law_same n)) fun cdv A outer s H E hr => ?_, hm, F.kp, B⟩
    exact (sb_cons (ss_if (sw_st (sw_or (sw_st (sw_and (st_tru (se_isi rfl T.b_isinstance rfl T.b_tuple (by decide +kernel) (se_pv 0) kit_tuple)) (sw_and1 (st_tru (se_isi rfl T.b_isinstance rfl T.b_tuple (by decide +kernel) (se_pv 1) kit_tuple))))) (sw_or1 (sw_st (sw_and (st_tru (se_isi rfl T.b_isinstance rfl T.b_list (by decide +kernel) (se_pv 0) kit_list)) (sw_and1 (st_tru (se_isi rfl T.b_isinstance rfl T.b_list (by decide +kernel) (se_pv 1) kit_list)))))))) (sb_one (ss_ret (se_and (se_eq hr (se_len rfl T.b_len (sa_cons (se_pv 0) sa_nil)) (se_len rfl T.b_len (sa_cons (se_pv 1) sa_nil))) (se_one (se_all rfl rfl T.b_all (sa_cons (se_frz (sf_lc (own := [("k", 2)]) rfl sc_law_same.nd (si_rng1 rfl T.b_range (sa_cons (se_len rfl T.b_len (sa_cons (se_pv 0) sa_nil)) sa_nil)) (blkOk_by (own := [("k", 2)]) (N := N_law_same) (sc := defScope s_law_same) (by decide +kernel)) (fun _ _ _ _ _ => (sg_nm 2 sc_law_same.nd)) (fun _ _ _ _ _ => sts_nil) (fun _ _ _ _ _ => (se_callP IH hr (Nat.le_refl _) rfl (sa_cons (se_at (se_pv 0) (se_pv 2)) (sa_cons (se_at (se_pv 1) (se_pv 2)) sa_nil)))))) sa_nil)))))) sb_nil) (sb_cons (ss_if (sw_st (sw_or (st_tru (se_isi rfl T.b_isinstance rfl T.b_bool (by decide +kernel) (se_pv 0) kit_bool)) (sw_or1 (st_tru (se_isi rfl T.b_isinstance rfl T.b_bool (by decide +kernel) (se_pv 1) kit_bool))))) (sb_one (ss_ret (se_and (se_isi rfl T.b_isinstance rfl T.b_bool (by decide +kernel) (se_pv 0) kit_bool) (se_and (se_isi rfl T.b_isinstance rfl T.b_bool (by decide +kernel) (se_pv 1) kit_bool) (se_one (se_eq hr (se_pv 0) (se_pv 1))))))) sb_nil) (sb_cons (ss_if (sw_st (sw_or (sw_st (sw_and (st_tru (se_isi rfl T.b_isinstance rfl T.b_int (by decide +kernel) (se_pv 0) kit_int)) (sw_and1 (st_tru (se_isi rfl T.b_isinstance rfl T.b_int (by decide +kernel) (se_pv 1) kit_int))))) (sw_or1 (sw_st (sw_and (st_tru (se_isi rfl T.b_isinstance rfl T.b_str (by decide +kernel) (se_pv 0) kit_str)) (sw_and1 (st_tru (se_isi rfl T.b_isinstance rfl T.b_str (by decide +kernel) (se_pv 1) kit_str)))))))) (sb_one (ss_ret (se_eq hr (se_pv 0) (se_pv 1)))) sb_nil) (sb_one (ss_ret (se_and (se_is (se_pv 0) se_non) (se_one (se_is (se_pv 1) se_non))))))))
theorem sc_law_report : FnScope N_law_report P_law_report (defScope s_law_report) := ⟨rfl, rfl, rfl, by decide +kernel, rfl, by decide +kernel, by decide +kernel⟩
theorem ok_law_report {f : Addr} {fd : FuncData} (T : Txt K mg) (F : Fun K "_law_report" "_law_report" s_law_report f fd) (h_law_draw : Cl P wl K mg base 2 "_law_draw" (spG K mg 2 r_law_draw)) : FnOk P wl K mg base L2.CX0 3 f fd P_law_report (spG K mg 1 r_law_report) := by
  refine fn_G (N := N_law_report) F sc_law_report (k := 2) (b := d_law_report) fun cdv A outer s H E hr => ?_
  exact (sb_one (ss_ret (se_at (se_frz (sf_lst (sa_cons (se_tup (sa_cons (se_tup sa_nil) (sa_cons (se_tup (sa_cons se_int sa_nil)) sa_nil))) (sa_cons (se_tup (sa_cons (se_tup sa_nil) (sa_cons (se_tup sa_nil) sa_nil))) (sa_cons (se_tup (sa_cons (se_tup (sa_cons se_str sa_nil)) (sa_cons (se_tup (sa_cons se_int sa_nil)) sa_nil))) (sa_cons (se_tup (sa_cons (se_tup (sa_cons se_str (sa_cons se_str sa_nil))) (sa_cons se_non sa_nil))) (sa_cons (se_tup (sa_cons (se_tup sa_nil) (sa_cons (se_tup (sa_cons (se_add se_int (se_callG h_law_draw hr (by decide) rfl (sa_cons (se_pv 0) (sa_cons se_int sa_nil)))) sa_nil)) sa_nil))) sa_nil))))))) (se_callG h_law_draw hr (by decide) rfl (sa_cons (se_pv 0) (sa_cons se_int sa_nil))))))
theorem sc_law_answer : FnScope N_law_answer P_law_answer (defScope s_law_answer) := ⟨rfl, rfl, rfl, by decide +kernel, rfl, by decide +kernel, by decide +kernel⟩
theorem ok_law_answer {f : Addr} {fd : FuncData} (T : Txt K mg) (F : Fun K "_law_answer" "_law_answer" s_law_answer f fd) (h_Giver_poll : Mt P wl K mg base 1 "Giver" "poll" (spG K mg 2 r_Giver_poll)) (h_law_same : Cl P wl K mg base 6 "_law_same" (spP K 2 (r_law_same 6))) (h_Giver_waiting : Mt P wl K mg base 1 "Giver" "waiting" (spG K mg 1 r_Giver_waiting)) : FnOk P wl K mg base L2.CX0 7 f fd P_law_answer (spG K mg 3 r_law_answer) := by
  refine fn_G (N := N_law_answer) F sc_law_answer (k := 6) (b := d_law_answer) fun cdv A outer s H E hr => ?_
  exact (sb_cons (ss_par2 3 4 rfl sc_law_answer.nd (by decide) (svs_l (se_at (se_pv 1) se_int) (svs_l (se_at (se_pv 1) se_int) svs_nil))) (sb_cons (ss_if (sw_st (sw_and (st_lt (se_at (se_pv 1) se_int) (se_len rfl T.b_len (sa_cons (se_pv 4) sa_nil))) (sw_and1 (st_eq hr (se_pv 2) (se_mod (se_intc rfl T.b_int (sa_cons (se_add (se_at (se_pv 1) se_int) se_int) sa_nil)) (se_pv 3)))))) (sb_one (ss_setS (se_pv 1) se_int (se_add (se_at (se_pv 1) se_int) se_int))) sb_nil) (sb_cons (ss_asg (sv_set 5 (se_if (st_lt (se_at (se_pv 1) se_int) (se_len rfl T.b_len (sa_cons (se_pv 4) sa_nil))) (se_tup (sa_cons (se_mod (se_intc rfl T.b_int (sa_cons (se_at (se_pv 1) se_int) sa_nil)) (se_pv 3)) (sa_cons (se_at (se_pv 4) (se_at (se_pv 1) se_int)) sa_nil))) se_non) sc_law_answer.nd)) (sb_cons (ss_asg (sv_set 6 (se_meth h_Giver_poll hr (by decide) (se_at (se_pv 1) se_int) (sa_cons (se_pv 2) sa_nil)) sc_law_answer.nd)) (sb_cons (ss_if (st_isnot (se_pv 6) se_non) (sb_one (ss_expr (se_app (se_at (se_pv 1) se_int) (se_pv 5)))) sb_nil) (sb_one (ss_ret (se_and (se_callP h_law_same hr (by decide) rfl (sa_cons (se_pv 6) (sa_cons (se_pv 5) sa_nil))) (se_one (se_callP h_law_same hr (by decide) rfl (sa_cons (se_meth0 h_Giver_waiting hr (by decide) (se_at (se_pv 1) se_int)) (sa_cons (se_sub (se_len rfl T.b_len (sa_cons (se_pv 4) sa_nil)) (se_at (se_pv 1) se_int)) sa_nil))))))))))))
theorem sc_law_heard : FnScope N_law_heard P_law_heard (defScope s_law_heard) := ⟨rfl, rfl, rfl, by decide +kernel, rfl, by decide +kernel, by decide +kernel⟩
theorem ok_law_heard {f : Addr} {fd : FuncData} (T : Txt K mg) (F : Fun K "_law_heard" "_law_heard" s_law_heard f fd) (h_Asker_hear : Mt P wl K mg base 2 "Asker" "hear" (spG K mg 2 r_Asker_hear)) (h_law_same : Cl P wl K mg base 6 "_law_same" (spP K 2 (r_law_same 6))) (h_Asker_asks : Mt P wl K mg base 1 "Asker" "asks" (spG K mg 1 r_Asker_asks)) (h_Asker_taken : Mt P wl K mg base 1 "Asker" "taken" (spG K mg 1 r_Asker_taken)) : FnOk P wl K mg base L2.CX0 7 f fd P_law_heard (spG K mg 2 r_law_heard) := by
  refine fn_G (N := N_law_heard) F sc_law_heard (k := 6) (b := d_law_heard) fun cdv A outer s H E hr => ?_
  exact (sb_cons (ss_asg (sv_set 2 (se_eq hr (se_at (se_pv 1) se_int) (se_mod (se_intc rfl T.b_int (sa_cons (se_len rfl T.b_len (sa_cons (se_at (se_pv 0) se_int) sa_nil)) sa_nil)) (se_at (se_pv 0) se_int))) sc_law_heard.nd)) (sb_cons (ss_asg (sv_set 3 (se_meth h_Asker_hear hr (by decide) (se_at (se_pv 0) se_int) (sa_cons (se_pv 1) sa_nil)) sc_law_heard.nd)) (sb_cons (ss_if (st_tru (se_pv 2)) (sb_one (ss_expr (se_app (se_at (se_pv 0) se_int) (se_at (se_pv 1) se_int)))) sb_nil) (sb_cons (ss_if (st_not (st_tru (se_callP h_law_same hr (by decide) rfl (sa_cons (se_pv 3) (sa_cons (se_if (st_tru (se_pv 2)) (se_at (se_pv 1) se_int) se_non) sa_nil))))) (sb_one (ss_ret se_bl)) sb_nil) (sb_one (ss_ret (se_and (se_callP h_law_same hr (by decide) rfl (sa_cons (se_meth0 h_Asker_taken hr (by decide) (se_at (se_pv 0) se_int)) (sa_cons (se_tuple rfl T.b_tuple (sa_cons (se_at (se_pv 0) se_int) sa_nil)) sa_nil))) (se_one (se_callP h_law_same hr (by decide) rfl (sa_cons (se_meth0 h_Asker_asks hr (by decide) (se_at (se_pv 0) se_int)) (sa_cons (se_mod (se_intc rfl T.b_int (sa_cons (se_len rfl T.b_len (sa_cons (se_at (se_pv 0) se_int) sa_nil)) sa_nil)) (se_at (se_pv 0) se_int)) sa_nil)))))))))))
theorem sc_law_link : FnScope N_law_link P_law_link (defScope s_law_link) := ⟨rfl, rfl, rfl, by decide +kernel, rfl, by decide +kernel, by decide +kernel⟩
theorem ok_law_link {f : Addr} {fd : FuncData} (T : Txt K mg) (F : Fun K "_law_link" "_law_link" s_law_link f fd) (h_Giver_init : Mq P wl K mg base 1 "Giver" (spG K mg 2 r_Giver_init)) (h_Asker_init : Mq P wl K mg base 1 "Asker" (spG K mg 2 r_Asker_init)) : FnOk P wl K mg base L2.CX0 3 f fd P_law_link (spG K mg 1 r_law_link) := by
  refine fn_G (N := N_law_link) F sc_law_link (k := 2) (b := d_law_link) fun cdv A outer s H E hr => ?_
  exact (sb_one (ss_ret (se_newR (sa_cons (se_pv 0) (sa_cons (se_make h_Giver_init hr (by decide) rfl (sa_cons (se_pv 0) sa_nil)) (sa_cons (se_make h_Asker_init hr (by decide) rfl (sa_cons (se_pv 0) sa_nil)) (sa_cons (se_newD (sf_lst sa_nil)) (sa_cons se_int (sa_cons (se_newD (sf_lst sa_nil)) (sa_cons (se_newD (sf_lst sa_nil)) sa_nil))))))))))
theorem sc_law_loose : FnScope N_law_loose P_law_loose (defScope s_law_loose) := ⟨rfl, rfl, rfl, by decide +kernel, rfl, by decide +kernel, by decide +kernel⟩
theorem ok_law_loose {f : Addr} {fd : FuncData} (T : Txt K mg) (F : Fun K "_law_loose" "_law_loose" s_law_loose f fd) (h_law_link : Cl P wl K mg base 3 "_law_link" (spG K mg 1 r_law_link)) (h_law_draw : Cl P wl K mg base 2 "_law_draw" (spG K mg 2 r_law_draw)) (h_law_report : Cl P wl K mg base 3 "_law_report" (spG K mg 1 r_law_report)) (h_Giver_put : Mt P wl K mg base 1 "Giver" "put" (spG K mg 2 r_Giver_put)) (h_law_answer : Cl P wl K mg base 7 "_law_answer" (spG K mg 3 r_law_answer)) (h_law_heard : Cl P wl K mg base 7 "_law_heard" (spG K mg 2 r_law_heard)) : FnOk P wl K mg base L2.CX0 8 f fd P_law_loose (spG K mg 1 r_law_loose) := by
  refine fn_G (N := N_law_loose) F sc_law_loose (k := 7) (b := d_law_loose) fun cdv A outer s H E hr => ?_
  exact (sb_cons (ss_asg (sv_set 1 (se_newR (sa_cons (se_callG h_law_link hr (by decide) rfl (sa_cons (se_add se_int (se_callG h_law_draw hr (by decide) rfl (sa_cons (se_pv 0) (sa_cons se_int sa_nil)))) sa_nil)) (sa_cons (se_callG h_law_link hr (by decide) rfl (sa_cons (se_add se_int (se_callG h_law_draw hr (by decide) rfl (sa_cons (se_pv 0) (sa_cons se_int sa_nil)))) sa_nil)) sa_nil))) sc_law_loose.nd)) (sb_cons (ss_for PassesOwn.never rfl (si_rng1 rfl T.b_range (sa_cons se_int sa_nil)) (sg_nm 2 sc_law_loose.nd) (sb_cons (ss_par2 3 4 rfl sc_law_loose.nd (by decide) (svs_l (se_at (se_pv 1) (se_callG h_law_draw hr (by decide) rfl (sa_cons (se_pv 0) (sa_cons se_int sa_nil)))) (svs_l (se_callG h_law_draw hr (by decide) rfl (sa_cons (se_pv 0) (sa_cons se_int sa_nil))) svs_nil))) (sb_one (ss_if (st_lt (se_pv 4) se_int) (sb_cons (ss_asg (sv_set 5 (se_callG h_law_report hr (by decide) rfl (sa_cons (se_pv 0) sa_nil)) sc_law_loose.nd)) (sb_cons (ss_expr (se_meth h_Giver_put hr (by decide) (se_at (se_pv 3) se_int) (sa_cons (se_pv 5) sa_nil))) (sb_one (ss_expr (se_app (se_at (se_pv 3) se_int) (se_pv 5)))))) (sb_one (ss_if (st_lt (se_pv 4) se_int) (sb_cons (ss_asg (sv_set 6 (se_if (st_gt (se_callG h_law_draw hr (by decide) rfl (sa_cons (se_pv 0) (sa_cons se_int sa_nil))) se_int) (se_mod (se_intc rfl T.b_int (sa_cons (se_len rfl T.b_len (sa_cons (se_at (se_pv 3) se_int) sa_nil)) sa_nil)) (se_at (se_pv 3) se_int)) (se_callG h_law_draw hr (by decide) rfl (sa_cons (se_pv 0) (sa_cons (se_at (se_pv 3) se_int) sa_nil)))) sc_law_loose.nd)) (sb_one (ss_if (st_not (st_tru (se_callG h_law_answer hr (by decide) rfl (sa_cons (se_pv 0) (sa_cons (se_pv 3) (sa_cons (se_pv 6) sa_nil)))))) (sb_one (ss_ret se_bl)) sb_nil))) (sb_one (ss_if (st_ne hr (se_at (se_pv 3) se_int) (se_frz (sf_lst sa_nil))) (sb_cons (ss_asg (sv_set 7 (se_sub (se_sub (se_len rfl T.b_len (sa_cons (se_at (se_pv 3) se_int) sa_nil)) se_int) (se_min2 rfl rfl T.b_min (sa_cons (se_sub (se_len rfl T.b_len (sa_cons (se_at (se_pv 3) se_int) sa_nil)) se_int) (sa_cons (se_mul (se_callG h_law_draw hr (by decide) rfl (sa_cons (se_pv 0) (sa_cons se_int sa_nil))) (se_callG h_law_draw hr (by decide) rfl (sa_cons (se_pv 0) (sa_cons se_int sa_nil)))) sa_nil)))) sc_law_loose.nd)) (sb_one (ss_if (st_not (st_tru (se_callG h_law_heard hr (by decide) rfl (sa_cons (se_pv 3) (sa_cons (se_at (se_at (se_pv 3) se_int) (se_pv 7)) sa_nil))))) (sb_one (ss_ret se_bl)) sb_nil))) sb_nil)))))))) (sb_one (ss_ret se_bl))))
theorem sc_law_run : FnScope N_law_run P_law_run (defScope s_law_run) := ⟨rfl, rfl, rfl, by decide +kernel, rfl, by decide +kernel, by decide +kernel⟩
theorem ok_law_run {f : Addr} {fd : FuncData} (T : Txt K mg) (F : Fun K "_law_run" "_law_run" s_law_run f fd) (h_law_draw : Cl P wl K mg base 2 "_law_draw" (spG K mg 2 r_law_draw)) (h_law_link : Cl P wl K mg base 3 "_law_link" (spG K mg 1 r_law_link)) (h_law_report : Cl P wl K mg base 3 "_law_report" (spG K mg 1 r_law_report)) (h_Giver_put : Mt P wl K mg base 1 "Giver" "put" (spG K mg 2 r_Giver_put)) (h_law_answer : Cl P wl K mg base 7 "_law_answer" (spG K mg 3 r_law_answer)) (h_law_heard : Cl P wl K mg base 7 "_law_heard" (spG K mg 2 r_law_heard)) (h_law_same : Cl P wl K mg base 6 "_law_same" (spP K 2 (r_law_same 6))) : FnOk P wl K mg base L2.CX0 8 f fd P_law_run (spG K mg 1 r_law_run) := by
  refine fn_G (N := N_law_run) F sc_law_run (k := 7) (b := d_law_run) fun cdv A outer s H E hr => ?_
  exact (sb_cons (ss_asg (sv_set 1 (se_callG h_law_draw hr (by decide) rfl (sa_cons (se_pv 0) (sa_cons se_int sa_nil))) sc_law_run.nd)) (sb_cons (ss_par rfl (svs_l (se_callG h_law_link hr (by decide) rfl (sa_cons (se_if (st_gt (se_pv 1) se_int) (se_add (se_add (se_pv 1) se_int) (se_callG h_law_draw hr (by decide) rfl (sa_cons (se_pv 0) (sa_cons (se_sub se_int (se_pv 1)) sa_nil)))) se_int) sa_nil)) (svs_l (se_frz (sf_lst sa_nil)) (svs_l (se_add se_int (se_callG h_law_draw hr (by decide) rfl (sa_cons (se_pv 0) (sa_cons se_int sa_nil)))) svs_nil))) (spn_cons (sp_nm 2 sc_law_run.nd) (spn_cons (sp_nm 3 sc_law_run.nd) (spn_cons (sp_nm 4 sc_law_run.nd) spn_nil)))) (sb_cons (ss_for PassesOwn.never rfl (si_rng1 rfl T.b_range (sa_cons (se_add se_int (se_pv 4)) sa_nil)) (sg_nm 5 sc_law_run.nd) (sb_cons (ss_if (sw_st (sw_and (st_lt (se_len rfl T.b_len (sa_cons (se_at (se_pv 2) se_int) sa_nil)) (se_pv 4)) (sw_and1 (sw_st (sw_or (st_eq hr (se_callG h_law_draw hr (by decide) rfl (sa_cons (se_pv 0) (sa_cons se_int sa_nil))) se_int) (sw_or1 (st_ge (se_pv 5) se_int))))))) (sb_cons (ss_expr (se_app (se_at (se_pv 2) se_int) (se_callG h_law_report hr (by decide) rfl (sa_cons (se_pv 0) sa_nil)))) (sb_one (ss_expr (se_meth h_Giver_put hr (by decide) (se_at (se_pv 2) se_int) (sa_cons (se_at (se_at (se_pv 2) se_int) (se_neg se_int)) sa_nil))))) sb_nil) (sb_cons (ss_asg (sv_set 6 (se_lt (se_pv 5) se_int) sc_law_run.nd)) (sb_cons (ss_if (sw_st (sw_or (st_not (st_tru (se_pv 6))) (sw_or1 (st_gt (se_callG h_law_draw hr (by decide) rfl (sa_cons (se_pv 0) (sa_cons se_int sa_nil))) se_int)))) (sb_cons (ss_asg (sv_set 7 (se_len rfl T.b_len (sa_cons (se_at (se_pv 2) se_int) sa_nil)) sc_law_run.nd)) (sb_cons (ss_if (st_not (st_tru (se_callG h_law_answer hr (by decide) rfl (sa_cons (se_pv 0) (sa_cons (se_pv 2) (sa_cons (se_mod (se_intc rfl T.b_int (sa_cons (se_len rfl T.b_len (sa_cons (se_at (se_pv 2) se_int) sa_nil)) sa_nil)) (se_at (se_pv 2) se_int)) sa_nil)))))) (sb_one (ss_ret se_bl)) sb_nil) (sb_cons (ss_asg (sv_set 8 (se_if (st_tru (se_pv 6)) (se_frz (sf_lc (own := [("copy", 11)]) rfl sc_law_run.nd (si_rng1 rfl T.b_range (sa_cons (se_callG h_law_draw hr (by decide) rfl (sa_cons (se_pv 0) (sa_cons se_int sa_nil))) sa_nil)) (blkOk_by (own := [("copy", 11)]) (N := N_law_run) (sc := defScope s_law_run) (by decide +kernel)) (fun _ _ _ _ _ => (sg_nm 11 sc_law_run.nd)) (fun _ _ _ _ _ => sts_nil) (fun _ _ _ _ _ => (se_callG h_law_draw hr (by decide) rfl (sa_cons (se_pv 0) (sa_cons (se_add (se_pv 1) se_int) sa_nil)))))) (se_frz (sf_lst (sa_cons se_int sa_nil)))) sc_law_run.nd)) (sb_one (ss_asg (sv_set 3 (se_add (se_pv 3) (se_if (st_gt (se_len rfl T.b_len (sa_cons (se_at (se_pv 2) se_int) sa_nil)) (se_pv 7)) (se_frz (sf_lc (own := [("delay", 12)]) rfl sc_law_run.nd (si_seq (se_frz (sf_sorted rfl T.b_sorted (sa_cons (se_pv 8) sa_nil)))) (blkOk_by (own := [("delay", 12)]) (N := N_law_run) (sc := defScope s_law_run) (by decide +kernel)) (fun _ _ _ _ _ => (sg_nm 12 sc_law_run.nd)) (fun _ _ _ _ _ => sts_nil) (fun _ _ _ _ _ => (se_tup (sa_cons (se_add (se_pv 5) (se_pv 12)) (sa_cons (se_at (se_at (se_pv 2) se_int) (se_neg se_int)) sa_nil)))))) (se_frz (sf_lst sa_nil)))) sc_law_run.nd)))))) sb_nil) (sb_cons (ss_for PassesOwn.never rfl (si_seq (se_pv 3)) (sg_tp rfl (sgs_cons (sg_nm 9 sc_law_run.nd) (sgs_cons (sg_nm 10 sc_law_run.nd) sgs_nil)) (len_cons (len_cons len_nil))) (sb_one (ss_if (sw_st (sw_and (st_eq hr (se_pv 9) (se_pv 5)) (sw_and1 (st_not (st_tru (se_callG h_law_heard hr (by decide) rfl (sa_cons (se_pv 2) (sa_cons (se_pv 10) sa_nil)))))))) (sb_one (ss_ret se_bl)) sb_nil))) (sb_one (ss_if (st_not (st_tru (se_callP h_law_same hr (by decide) rfl (sa_cons (se_at (se_pv 2) se_int) (sa_cons (se_sl (se_at (se_pv 2) se_int) so_none (so_some (se_len rfl T.b_len (sa_cons (se_at (se_pv 2) se_int) sa_nil)))) sa_nil))))) (sb_one (ss_ret se_bl)) sb_nil))))))) (sb_one (ss_ret (se_and (se_eq hr (se_len rfl T.b_len (sa_cons (se_at (se_pv 2) se_int) sa_nil)) (se_pv 4)) (se_one (se_eq hr (se_len rfl T.b_len (sa_cons (se_at (se_pv 2) se_int) sa_nil)) (se_pv 4)))))))))
theorem sc_law : FnScope N_law P_law (defScope s_law) := ⟨rfl, rfl, rfl, by decide +kernel, rfl, by decide +kernel, by decide +kernel⟩
theorem ok_law {f : Addr} {fd : FuncData} (T : Txt K mg) (F : Fun K "law" "law" s_law f fd) (h_law_box : Cl P wl K mg base 1 "_law_box" (spG K mg 1 r_law_box)) (h_law_run : Cl P wl K mg base 8 "_law_run" (spG K mg 1 r_law_run)) (h_law_loose : Cl P wl K mg base 8 "_law_loose" (spG K mg 1 r_law_loose)) : FnOk P wl K mg base L2.CX0 9 f fd P_law (spG K mg 1 r_law) := by
  refine fn_G (N := N_law) F sc_law (k := 8) (b := d_law) fun cdv A outer s H E hr => ?_
  exact (sb_cons (ss_asg (sv_set 1 (se_callG h_law_box hr (by decide) rfl (sa_cons (se_pv 0) sa_nil)) sc_law.nd)) (sb_one (ss_ret (se_and (se_callG h_law_loose hr (by decide) rfl (sa_cons (se_pv 1) sa_nil)) (se_and (se_callG h_law_run hr (by decide) rfl (sa_cons (se_pv 1) sa_nil)) (se_one (se_callG h_law_run hr (by decide) rfl (sa_cons (se_pv 1) sa_nil))))))))
end
end K39
set_option Elab.async false
set_option linter.all false
set_option maxRecDepth 100000
namespace K39
open PySem PyProof.Rows L2 Zz
def cd_law_answer_1 : FS := (fPar [.sl 3, .sl 4] (fVl (fOp gIx (fVar 1) (fC (.int 0))) (fVl (fOp gIx (fVar 1) (fC (.int 3))) fV0)))
def cd_law_answer_2 : FS := (fIfS (fAndT (fTest (fOp gLt (fOp gIx (fVar 1) (fC (.int 4))) (fCall oLen (fCons (fVar 4) fNil)))) (fTest (fOp gEq (fVar 2) (fOp gMod (fCall oInt (fCons (fOp gAdd (fOp gIx (fVar 1) (fC (.int 4))) (fC (.int 1))) fNil)) (fVar 3))))) (fSetS (fVar 1) (fC (.int 4)) (fOp gAdd (fOp gIx (fVar 1) (fC (.int 4))) (fC (.int 1)))) fNext)
def cd_law_answer_3 : FS := (fAsg 5 (fIf (fTest (fOp gLt (fOp gIx (fVar 1) (fC (.int 4))) (fCall oLen (fCons (fVar 4) fNil)))) (fTup (fCons (fOp gMod (fCall oInt (fCons (fOp gIx (fVar 1) (fC (.int 4))) fNil)) (fVar 3)) (fCons (fOp gIx (fVar 4) (fOp gIx (fVar 1) (fC (.int 4)))) fNil))) (fC .none)))
def cd_law_answer_4 : FS := (fAsg 6 (fMethG "Giver" "poll" 2 r_Giver_poll (fOp gIx (fVar 1) (fC (.int 1))) (fCons (fVar 2) fNil)))
def cd_law_answer_5 : FS := (fIfS (fTest (fOp gNotIs (fVar 6) (fC .none))) (fDrop (fApp (fOp gIx (fVar 1) (fC (.int 6))) (fVar 5))) fNext)
def cd_law_answer_6 : FS := (fRet (fIf (fTest (fCallP 2 (r_law_same 6) (fCons (fVar 6) (fCons (fVar 5) fNil)))) (fCallP 2 (r_law_same 6) (fCons (fMethG "Giver" "waiting" 1 r_Giver_waiting (fOp gIx (fVar 1) (fC (.int 1))) fNil) (fCons (fOp gSub (fCall oLen (fCons (fVar 4) fNil)) (fOp gIx (fVar 1) (fC (.int 4)))) fNil))) (fC (.bool false))))
theorem cd_law_answer_eq : d_law_answer = (fSeq cd_law_answer_1 (fSeq cd_law_answer_2 (fSeq cd_law_answer_3 (fSeq cd_law_answer_4 (fSeq cd_law_answer_5 cd_law_answer_6))))) := rfl
def cd_law_heard_1 : FS := (fAsg 2 (fOp gEq (fOp gIx (fVar 1) (fC (.int 0))) (fOp gMod (fCall oInt (fCons (fCall oLen (fCons (fOp gIx (fVar 0) (fC (.int 5))) fNil)) fNil)) (fOp gIx (fVar 0) (fC (.int 0))))))
def cd_law_heard_2 : FS := (fAsg 3 (fMethG "Asker" "hear" 2 r_Asker_hear (fOp gIx (fVar 0) (fC (.int 2))) (fCons (fVar 1) fNil)))
def cd_law_heard_3 : FS := (fIfS (fTru (fVar 2)) (fDrop (fApp (fOp gIx (fVar 0) (fC (.int 5))) (fOp gIx (fVar 1) (fC (.int 1))))) fNext)
def cd_law_heard_4 : FS := (fIfS (fNotT (fTru (fCallP 2 (r_law_same 6) (fCons (fVar 3) (fCons (fIf (fTru (fVar 2)) (fOp gIx (fVar 1) (fC (.int 1))) (fC .none)) fNil))))) (fRet (fC (.bool false))) fNext)
def cd_law_heard_5 : FS := (fRet (fIf (fTest (fCallP 2 (r_law_same 6) (fCons (fMethG "Asker" "taken" 1 r_Asker_taken (fOp gIx (fVar 0) (fC (.int 2))) fNil) (fCons (fCall oTuple (fCons (fOp gIx (fVar 0) (fC (.int 5))) fNil)) fNil)))) (fCallP 2 (r_law_same 6) (fCons (fMethG "Asker" "asks" 1 r_Asker_asks (fOp gIx (fVar 0) (fC (.int 2))) fNil) (fCons (fOp gMod (fCall oInt (fCons (fCall oLen (fCons (fOp gIx (fVar 0) (fC (.int 5))) fNil)) fNil)) (fOp gIx (fVar 0) (fC (.int 0)))) fNil))) (fC (.bool false))))
theorem cd_law_heard_eq : d_law_heard = (fSeq cd_law_heard_1 (fSeq cd_law_heard_2 (fSeq cd_law_heard_3 (fSeq cd_law_heard_4 cd_law_heard_5)))) := rfl
def cl_law_loose_1_1 : FS := (fPar [.sl 3, .sl 4] (fVl (fOp gIx (fVar 1) (fCallG 2 r_law_draw (fCons (fVar 0) (fCons (fC (.int 2)) fNil)))) (fVl (fCallG 2 r_law_draw (fCons (fVar 0) (fCons (fC (.int 6)) fNil))) fV0)))
def cl_law_loose_1_2 : FS := (fIfS (fTest (fOp gLt (fVar 4) (fC (.int 2)))) (fSeq (fAsg 5 (fCallG 1 r_law_report (fCons (fVar 0) fNil))) (fSeq (fDrop (fMethG "Giver" "put" 2 r_Giver_put (fOp gIx (fVar 3) (fC (.int 1))) (fCons (fVar 5) fNil))) (fDrop (fApp (fOp gIx (fVar 3) (fC (.int 3))) (fVar 5))))) (fIfS (fTest (fOp gLt (fVar 4) (fC (.int 4)))) (fSeq (fAsg 6 (fIf (fTest (fOp gGt (fCallG 2 r_law_draw (fCons (fVar 0) (fCons (fC (.int 4)) fNil))) (fC (.int 0)))) (fOp gMod (fCall oInt (fCons (fCall oLen (fCons (fOp gIx (fVar 3) (fC (.int 5))) fNil)) fNil)) (fOp gIx (fVar 3) (fC (.int 0)))) (fCallG 2 r_law_draw (fCons (fVar 0) (fCons (fOp gIx (fVar 3) (fC (.int 0))) fNil))))) (fIfS (fNotT (fTru (fCallG 3 r_law_answer (fCons (fVar 0) (fCons (fVar 3) (fCons (fVar 6) fNil)))))) (fRet (fC (.bool false))) fNext)) (fIfS (fTest (fOp gNe (fOp gIx (fVar 3) (fC (.int 6))) (fFrz (fLst fNil)))) (fSeq (fAsg 7 (fOp gSub (fOp gSub (fCall oLen (fCons (fOp gIx (fVar 3) (fC (.int 6))) fNil)) (fC (.int 1))) (fCall oMin2 (fCons (fOp gSub (fCall oLen (fCons (fOp gIx (fVar 3) (fC (.int 6))) fNil)) (fC (.int 1))) (fCons (fOp gMul (fCallG 2 r_law_draw (fCons (fVar 0) (fCons (fC (.int 5)) fNil))) (fCallG 2 r_law_draw (fCons (fVar 0) (fCons (fC (.int 2)) fNil)))) fNil))))) (fIfS (fNotT (fTru (fCallG 2 r_law_heard (fCons (fVar 3) (fCons (fOp gIx (fOp gIx (fVar 3) (fC (.int 6))) (fVar 7)) fNil))))) (fRet (fC (.bool false))) fNext)) fNext)))
theorem cl_law_loose_1_eq : l_law_loose_1 = (fSeq cl_law_loose_1_1 cl_law_loose_1_2) := rfl
def cd_law_loose_1 : FS := (fAsg 1 (fNewR (fCons (fCallG 1 r_law_link (fCons (fOp gAdd (fC (.int 2)) (fCallG 2 r_law_draw (fCons (fVar 0) (fCons (fC (.int 15)) fNil)))) fNil)) (fCons (fCallG 1 r_law_link (fCons (fOp gAdd (fC (.int 2)) (fCallG 2 r_law_draw (fCons (fVar 0) (fCons (fC (.int 3)) fNil)))) fNil)) fNil))))
def cd_law_loose_2 : FS := (fFor (.nm 2) (fRng1 (fCons (fC (.int 60)) fNil)) l_law_loose_1)
def cd_law_loose_3 : FS := (fRet (fC (.bool true)))
theorem cd_law_loose_eq : d_law_loose = (fSeq cd_law_loose_1 (fSeq cd_law_loose_2 cd_law_loose_3)) := rfl
def cl_law_run_2_1 : FS := (fIfS (fAndT (fTest (fOp gLt (fCall oLen (fCons (fOp gIx (fVar 2) (fC (.int 3))) fNil)) (fVar 4))) (fOrT (fTest (fOp gEq (fCallG 2 r_law_draw (fCons (fVar 0) (fCons (fC (.int 2)) fNil))) (fC (.int 0)))) (fTest (fOp gGe (fVar 5) (fC (.int 20)))))) (fSeq (fDrop (fApp (fOp gIx (fVar 2) (fC (.int 3))) (fCallG 1 r_law_report (fCons (fVar 0) fNil)))) (fDrop (fMethG "Giver" "put" 2 r_Giver_put (fOp gIx (fVar 2) (fC (.int 1))) (fCons (fOp gIx (fOp gIx (fVar 2) (fC (.int 3))) (fUn gNeg (fC (.int 1)))) fNil)))) fNext)
def cl_law_run_2_2 : FS := (fAsg 6 (fOp gLt (fVar 5) (fC (.int 29))))
def cl_law_run_2_3 : FS := (fIfS (fOrT (fNotT (fTru (fVar 6))) (fTest (fOp gGt (fCallG 2 r_law_draw (fCons (fVar 0) (fCons (fC (.int 3)) fNil))) (fC (.int 0))))) (fSeq (fAsg 7 (fCall oLen (fCons (fOp gIx (fVar 2) (fC (.int 6))) fNil))) (fSeq (fIfS (fNotT (fTru (fCallG 3 r_law_answer (fCons (fVar 0) (fCons (fVar 2) (fCons (fOp gMod (fCall oInt (fCons (fCall oLen (fCons (fOp gIx (fVar 2) (fC (.int 5))) fNil)) fNil)) (fOp gIx (fVar 2) (fC (.int 0)))) fNil)))))) (fRet (fC (.bool false))) fNext) (fSeq (fAsg 8 (fIf (fTru (fVar 6)) (fFrz (fLC [11] (.nm 11) (fRng1 (fCons (fCallG 2 r_law_draw (fCons (fVar 0) (fCons (fC (.int 4)) fNil))) fNil)) fYes (fCallG 2 r_law_draw (fCons (fVar 0) (fCons (fOp gAdd (fVar 1) (fC (.int 1))) fNil))))) (fFrz (fLst (fCons (fC (.int 0)) fNil))))) (fAsg 3 (fOp gAdd (fVar 3) (fIf (fTest (fOp gGt (fCall oLen (fCons (fOp gIx (fVar 2) (fC (.int 6))) fNil)) (fVar 7))) (fFrz (fLC [12] (.nm 12) (fSeqI (fFrz (fCallF oSorted (fCons (fVar 8) fNil)))) fYes (fTup (fCons (fOp gAdd (fVar 5) (fVar 12)) (fCons (fOp gIx (fOp gIx (fVar 2) (fC (.int 6))) (fUn gNeg (fC (.int 1)))) fNil))))) (fFrz (fLst fNil)))))))) fNext)
def cl_law_run_2_4 : FS := (fFor (.tp (.cons (.nm 9) (.cons (.nm 10) .nil))) (fSeqI (fVar 3)) l_law_run_1)
def cl_law_run_2_5 : FS := (fIfS (fNotT (fTru (fCallP 2 (r_law_same 6) (fCons (fOp gIx (fVar 2) (fC (.int 5))) (fCons (fSl (fOp gIx (fVar 2) (fC (.int 3))) fNoP (fPart (fCall oLen (fCons (fOp gIx (fVar 2) (fC (.int 5))) fNil)))) fNil))))) (fRet (fC (.bool false))) fNext)
theorem cl_law_run_2_eq : l_law_run_2 = (fSeq cl_law_run_2_1 (fSeq cl_law_run_2_2 (fSeq cl_law_run_2_3 (fSeq cl_law_run_2_4 cl_law_run_2_5)))) := rfl
def cd_law_run_1 : FS := (fAsg 1 (fCallG 2 r_law_draw (fCons (fVar 0) (fCons (fC (.int 13)) fNil))))
def cd_law_run_2 : FS := (fPar [.sl 2, .sl 3, .sl 4] (fVl (fCallG 1 r_law_link (fCons (fIf (fTest (fOp gGt (fVar 1) (fC (.int 0)))) (fOp gAdd (fOp gAdd (fVar 1) (fC (.int 1))) (fCallG 2 r_law_draw (fCons (fVar 0) (fCons (fOp gSub (fC (.int 16)) (fVar 1)) fNil)))) (fC (.int 2))) fNil)) (fVl (fFrz (fLst fNil)) (fVl (fOp gAdd (fC (.int 1)) (fCallG 2 r_law_draw (fCons (fVar 0) (fCons (fC (.int 12)) fNil)))) fV0))))
def cd_law_run_3 : FS := (fFor (.nm 5) (fRng1 (fCons (fOp gAdd (fC (.int 30)) (fVar 4)) fNil)) l_law_run_2)
def cd_law_run_4 : FS := (fRet (fIf (fTest (fOp gEq (fCall oLen (fCons (fOp gIx (fVar 2) (fC (.int 3))) fNil)) (fVar 4))) (fOp gEq (fCall oLen (fCons (fOp gIx (fVar 2) (fC (.int 5))) fNil)) (fVar 4)) (fC (.bool false))))
theorem cd_law_run_eq : d_law_run = (fSeq cd_law_run_1 (fSeq cd_law_run_2 (fSeq cd_law_run_3 cd_law_run_4))) := rfl
end K39
set_option Elab.async false
set_option linter.all false
set_option maxRecDepth 100000
namespace K39
open PySem PyProof.Rows L2 Zz
local macro_rules | `(tactic| walk_at "Z") => `(tactic| simp only [e_var, k_var_im, k_var_rf, k_var_ol, k_var_sc, e_c, e_op, k_op1, k_op2, k_res, e_un, k_un, e_test, k_test, e_tru, k_tru_b, e_and, e_or, e_not, k_and, k_or, k_not, e_bool, k_bool, e_if, k_if,
  e_nil, e_cons, k_cons1, k_cons2, e_tup, e_lst, k_tup0, k_tup1, k_tup2, k_tup3, k_lst0, k_lst1, k_lst2, k_lst3, k_lst4, k_lst5, k_lst6, e_frz, k_frz, e_newD, k_newD, e_newR, e_call, k_call, e_callF, k_callF, e_callG, k_callG1, k_callG2, k_callG3, k_callG4, k_keep_im, k_keep_rf, e_callP, k_callP1, k_callP2, k_callP3, k_callP4, k_resD,
  e_meth, k_m0, k_m1, k_m2, k_m3, e_make, k_mk1, k_mk2, k_made, e_or2, k_or2, k_or2n, e_fld, k_stS, e_setF, k_setF1, k_setF2, e_seq, k_seq, k_seq_rt, k_seq_bk, k_seq_ct, e_next, e_asg, k_asg_im, k_asg_rf, e_own, k_own, e_drop, k_drop, e_ret, k_ret_im, k_ret_rf, e_retV, k_retV, e_ifS, k_ifS, e_appO, k_appO, e_app, e_popAt, e_setS, k_setS1, k_setS2, k_setS3,
  e_v0, e_vl, e_vo, k_vl1, k_vo1, k_vl2, e_par, k_pr2, k_pr3, k_pr4, k_pr5, k_par2, e_put0, e_put, k_put, e_putO, e_putI, e_putR, e_putF, e_unp, e_seqI, k_seqI_l, k_seqI_t, e_rng1, e_rng2, e_for, k_for, forL_nil, k_turn, k_turn_ct, k_turn_bk, k_turn_rt, e_lc, e_runG, e_runP, k_outG, k_outGn, k_outP, k_outPn,
  e_sl, k_sl1, k_sl2, k_sl3t, k_sl3l, k_sl3s, e_nop, e_part, k_part, e_slL, k_slL1, k_slL2, e_isi, k_isi_n, k_isi_b, k_isi_i, k_isi_s, k_isi_l, k_isi_t,
  initR, sl1, List.map_cons, List.map_nil, List.length_cons, List.length_nil, Nat.reduceAdd, Nat.reduceSub, List.replicate_succ, List.replicate_zero, List.cons_append, List.nil_append, List.getElem?_cons_zero, List.getElem?_cons_succ, List.set_cons_zero, List.set_cons_succ, if_true, if_false, Bool.false_eq_true,
  bx_0, bx_1, bx_2, bx_s1, bx_s2, bx_len, bx_pop, bx_isL, g_add, g_sub, g_neg, g_lt, g_le, g_gt, g_ge, g_mulr, g_mull, g_mod, g_div, o_int, g_eqI, g_neI, g_eqB, g_neB, g_isN, g_notN, sm0, len_0, len_S, g_eqS, o_lenL, o_lenT, eq_self, decide_true, decide_false, k_pop1, k_pop2, it_tuple_NoneType, it_tuple_bool, it_tuple_int, it_tuple_str, it_tuple_list, it_tuple_tuple, it_list_NoneType, it_list_bool, it_list_int, it_list_str, it_list_list, it_list_tuple, it_bool_NoneType, it_bool_bool, it_bool_int, it_bool_str, it_bool_list, it_bool_tuple, it_int_NoneType, it_int_bool, it_int_int, it_int_str, it_int_list, it_int_tuple, it_str_NoneType, it_str_bool, it_str_int, it_str_str, it_str_list, it_str_tuple, decide_eq_true_eq, Int.reduceLT, Int.reduceNeg, and_self])
local macro_rules | `(tactic| walk_at "Y") => `(tactic| try walk_at "Z")
/-! ### stores -/
section
variable {s : S} {n W A : Nat} {l : List D} {d : D} {m told num : Int} {fst : Nat} {o o' : MO}
theorem get_eq (h : s[n]? = some o) : (s.set n o')[n]? = some o' := List.getElem?_set_self (List.getElem?_eq_some_iff.mp h).1
theorem get_ne {i j : Nat} (h : i ≠ j) : (s.set i o)[j]? = s[j]? := List.getElem?_set_ne h
theorem get_ap {l : S} {j : Nat} (h : j < s.length) : (s ++ l)[j]? = s[j]? := List.getElem?_append_left h
theorem get_lt (h : s[n]? = some o) : n < s.length := (List.getElem?_eq_some_iff.mp h).1
theorem isLst_of (h : s[n]? = some (.dl l)) : isLst s n = true := by unfold isLst; rw [h]
theorem push_dl (h : s[n]? = some (.dl l)) (hl : l.length < big) : pushS s n (.im d) = some (s.set n (.dl (l ++ [d]))) := by
  unfold pushS; simp only [h, hl, if_true]
theorem tru_rf (h : s[n]? = some (.dl l)) : kTru (some (.rf n, s)) = some (!l.isEmpty, s) := by
  rw [k_tru]
  have : trL s (.rf n) = some (!l.isEmpty) := by
    unfold trL
    simp only [sqV, h, Option.bind_some]
  rw [this]
theorem len_rf (h : s[n]? = some (.dl l)) : oLen s [.rf n] = some (.im (.int (l.length : Int))) := by
  unfold oLen lenL
  simp only [h, Option.bind_some]
theorem ix_rf {i : Int} (h : s[n]? = some (.dl l)) (h2 : atD l i = some d) : gIx s (.rf n) (.im (.int i)) = some (.im d) := by
  unfold gIx
  simp only [sqV, h, h2, Option.bind_some]
theorem ix_rl {i : Int} {r : List L} {x : L} (h : s[n]? = some (.rl r)) (h2 : atD r i = some x) (h3 : keepable x = true) : gIx s (.rf n) (.im (.int i)) = some x := by
  unfold gIx
  simp only [sqV, h, h2, Option.bind_some, h3, if_true]
theorem ix_im {i : Int} (h2 : atD l i = some d) : gIx s (.im (.list l)) (.im (.int i)) = some (.im d) := by
  unfold gIx
  simp only [sqV, h2, Option.bind_some]
theorem ix_tu {i : Int} (h2 : atD l i = some d) : gIx s (.im (.tuple l)) (.im (.int i)) = some (.im d) := by
  unfold gIx
  simp only [sqV, h2, Option.bind_some]
theorem tup_rf (h : s[n]? = some (.dl l)) : oTuple s [.rf n] = some (.im (.tuple l)) := by
  unfold oTuple
  simp only [tpV, lstV, lsV, h, Option.bind_some]
theorem at_0 {a : D} : atD (a :: l) 0 = some a := atI_nat (j := 0) rfl
theorem cut_1 : Zz.cutD l (some 1) none = l.drop 1 := by
  unfold Zz.cutD
  rw [HT.sIx_none, show (1 : Int) = ((1 : Nat) : Int) from rfl, HT.sIx_nat]
  cases l with
  | nil => rfl
  | cons a l =>
    have : min 1 (a :: l).length = 1 := by simp
    rw [this]
    simp
theorem cut_to {k : Nat} (h : k ≤ l.length) : Zz.cutD l none (some (k : Int)) = l.take k := by
  unfold Zz.cutD
  rw [HT.sIx_none, HT.sIx_nat, Nat.min_eq_left h]
  simp
theorem augF_of {c fn : Str} {g : Int → Int → Int} {fo f : FE} {ρ : Ro} {s' : S} {n : Nat} {fs : List (Str × L)} {i j : Int} {s3 : S} (ho : fo ρ s = some (.rf n, s')) (h : s'[n]? = some (.ins c fs)) (h2 : lkp fn fs = some (.im (.int i))) (hf : f ρ s' = some (.im (.int j), s')) (h3 : fldS s' n c fn (.im (.int (g i j))) = some s3) : fAugF c fn g fo f ρ s = some (.nx, ρ, s3) := by
  unfold fAugF
  simp only [ho, Option.bind_some, h, h2, hf, h3, if_true]
end
/-! ### givers, askers -/
def giver (m : Int) (W fst : Nat) : MO := .ins "Giver" [("_modulo", .im (.int m)), ("_waiting", .rf W), ("_first", .im (.int (fst : Int)))]
def headA (m : Int) (fst : Nat) : List D → D
  | [] => .none
  | a :: _ => .tuple [.int ((fst : Int) % m), a]
def asker (m : Int) (A : Nat) : MO := .ins "Asker" [("_modulo", .im (.int m)), ("_taken", .rf A)]
section
variable {s : S} {n W A : Nat} {l : List D} {d : D} {m told num : Int} {fst : Nat} {o o' : MO}
theorem fG1 (h : s[n]? = some (giver m W fst)) : kFld "Giver" "_modulo" (some (.rf n, s)) = some (.im (.int m), s) := k_fld h rfl rfl
theorem fG2 (h : s[n]? = some (giver m W fst)) : kFld "Giver" "_waiting" (some (.rf n, s)) = some (.rf W, s) := k_fld h rfl rfl
theorem fG3 (h : s[n]? = some (giver m W fst)) : kFld "Giver" "_first" (some (.rf n, s)) = some (.im (.int (fst : Int)), s) := k_fld h rfl rfl
theorem fA1 (h : s[n]? = some (asker m A)) : kFld "Asker" "_modulo" (some (.rf n, s)) = some (.im (.int m), s) := k_fld h rfl rfl
theorem fA2 (h : s[n]? = some (asker m A)) : kFld "Asker" "_taken" (some (.rf n, s)) = some (.rf A, s) := k_fld h rfl rfl
theorem put_ok (h : s[n]? = some (giver m W fst)) (hw : s[W]? = some (.dl l)) (hl : l.length < big) : r_Giver_put [.rf n, .im d] s = some (.im .none, s.set W (.dl (l ++ [d]))) := by
  unfold r_Giver_put d_Giver_put
  walk_at "Y"
  rw [fG2 h, k_app1 (isLst_of hw)]
  walk_at "Y"
  rw [k_app2 (push_dl hw hl)]
  walk_at "Y"
theorem waiting_ok (h : s[n]? = some (giver m W fst)) (hw : s[W]? = some (.dl l)) : r_Giver_waiting [.rf n] s = some (.im (.int (l.length : Int)), s) := by
  unfold r_Giver_waiting d_Giver_waiting
  walk_at "Y"
  rw [fG2 h]
  walk_at "Y"
  rw [len_rf hw]
  walk_at "Y"
theorem poll_tail (hm : 0 < m) (h : s[n]? = some (giver m W fst)) (hw : s[W]? = some (.dl l)) : outG (kSeq (fSeq (fIfS (fNotT (fTru (fFld "Giver" "_waiting" (fVar 0)))) (fRet (fC .none)) fNext) (fRet (fTup (fCons (fOp gMod (fFld "Giver" "_first" (fVar 0)) (fFld "Giver" "_modulo" (fVar 0))) (fCons (fOp gIx (fFld "Giver" "_waiting" (fVar 0)) (fC (.int 0))) fNil)))))
    (some (.nx, [.rf n, .im (.int told)], s))) = some (.im (headA m fst l), s) := by
  walk_at "Y"
  rw [fG2 h, tru_rf hw]
  walk_at "Y"
  cases l with
  | nil =>
    simp only [List.isEmpty_nil, Bool.not_true, Bool.not_false, if_true]
    walk_at "Y"
    rfl
  | cons a l =>
    simp only [List.isEmpty_cons, Bool.not_true, Bool.not_false, if_true, Bool.false_eq_true, if_false]
    walk_at "Y"
    rw [fG3 h]
    walk_at "Y"
    rw [fG1 h]
    walk_at "Y"
    rw [g_mod hm]
    walk_at "Y"
    rw [fG2 h]
    walk_at "Y"
    rw [ix_rf hw at_0]
    walk_at "Y"
    rfl
theorem poll_no (hm : 0 < m) (h : s[n]? = some (giver m W fst)) (hw : s[W]? = some (.dl l)) (hn : l = [] ∨ ¬ told = ((fst : Int) + 1) % m) : r_Giver_poll [.rf n, .im (.int told)] s = some (.im (headA m fst l), s) := by
  have pt := poll_tail (told := told) hm h hw
  unfold r_Giver_poll d_Giver_poll
  rw [e_runG, e_seq]
  have e : fIfS (fAndT (fTru (fFld "Giver" "_waiting" (fVar 0))) (fTest (fOp gEq (fVar 1) (fOp gMod (fOp gAdd (fFld "Giver" "_first" (fVar 0)) (fC (.int 1))) (fFld "Giver" "_modulo" (fVar 0)))))) (fSeq (fSetF "Giver" "_waiting" (fVar 0) (fNewD (fSlL (fFld "Giver" "_waiting" (fVar 0)) (fPart (fC (.int 1))) fNoP))) (fAugF "Giver" "_first" (fun i j => i + j) (fVar 0) (fC (.int 1)))) fNext [.rf n, .im (.int told)] s = some (.nx, [.rf n, .im (.int told)], s) := by
    walk_at "Y"
    rw [fG2 h, tru_rf hw]
    walk_at "Y"
    cases l with
    | nil =>
      simp only [List.isEmpty_nil, Bool.not_true, Bool.false_eq_true, if_false]
      walk_at "Y"
    | cons a l =>
      simp only [List.isEmpty_cons, Bool.not_false, if_true]
      walk_at "Y"
      rw [fG3 h]
      walk_at "Y"
      rw [fG1 h]
      walk_at "Y"
      rw [g_mod hm]
      walk_at "Y"
      rcases hn with hn | hn
      · cases hn
      · simp only [hn, decide_false, Bool.false_eq_true, if_false]
        walk_at "Y"
  show outG (kSeq _ (fIfS _ _ fNext [.rf n, .im (.int told)] s)) = _
  rw [e]
  exact pt
theorem poll_yes {a : D} (hm : 0 < m) (h : s[n]? = some (giver m W fst)) (hw : s[W]? = some (.dl (a :: l))) (hn : told = ((fst : Int) + 1) % m) : r_Giver_poll [.rf n, .im (.int told)] s = some (.im (headA m (fst + 1) l), (s ++ [MO.dl l]).set n (giver m s.length (fst + 1))) := by
  have h0 := get_lt h
  have h1 : (s ++ [MO.dl l])[n]? = some (giver m W fst) := by rw [get_ap h0]; exact h
  have h2 := get_eq (o' := giver m s.length (fst + 1)) h1
  have h3 : ((s ++ [MO.dl l]).set n (giver m s.length (fst + 1)))[s.length]? = some (.dl l) := by
    rw [get_ne (by omega)]; simp
  have pt := poll_tail (told := told) hm h2 h3
  unfold r_Giver_poll d_Giver_poll
  rw [e_runG, e_seq]
  have e : fIfS (fAndT (fTru (fFld "Giver" "_waiting" (fVar 0))) (fTest (fOp gEq (fVar 1) (fOp gMod (fOp gAdd (fFld "Giver" "_first" (fVar 0)) (fC (.int 1))) (fFld "Giver" "_modulo" (fVar 0)))))) (fSeq (fSetF "Giver" "_waiting" (fVar 0) (fNewD (fSlL (fFld "Giver" "_waiting" (fVar 0)) (fPart (fC (.int 1))) fNoP))) (fAugF "Giver" "_first" (fun i j => i + j) (fVar 0) (fC (.int 1)))) fNext [.rf n, .im (.int told)] s = some (.nx, [.rf n, .im (.int told)], (s ++ [MO.dl l]).set n (giver m s.length (fst + 1))) := by
    walk_at "Y"
    rw [fG2 h, tru_rf hw]
    walk_at "Y"
    simp only [List.isEmpty_cons, Bool.not_false, if_true]
    walk_at "Y"
    rw [fG3 h]
    walk_at "Y"
    rw [fG1 h]
    walk_at "Y"
    rw [g_mod hm]
    walk_at "Y"
    simp only [hn, decide_true, if_true]
    walk_at "Y"
    rw [fG2 h]
    walk_at "Y"
    rw [k_slL3 (l := a :: l) (by unfold lstV lsV; simp only [hw]), cut_1]
    walk_at "Y"
    rw [show (a :: l).drop 1 = l from rfl, fldS_of h1 (by show 3 < 1000; decide) rfl]
    walk_at "Y"
    have h4 : ((s ++ [MO.dl l]).set n (giver m s.length fst))[n]? = some (giver m s.length fst) := get_eq h1
    have := augF_of (s := (s ++ [MO.dl l]).set n (giver m s.length fst)) (c := "Giver") (fn := "_first") (g := fun i j => i + j) (fo := fVar 0) (f := fC (.int 1)) (ρ := [.rf n, .im (.int told)]) (i := (fst : Int)) (j := 1) rfl h4 rfl rfl (fldS_of h4 (by show 3 < 1000; decide) rfl)
    rw [List.set_set] at this
    rw [hn] at this
    exact this
  show outG (kSeq _ (fIfS _ _ fNext [.rf n, .im (.int told)] s)) = _
  rw [e]
  exact pt
theorem asks_ok (hm : 0 < m) (h : s[n]? = some (asker m A)) (hw : s[A]? = some (.dl l)) : r_Asker_asks [.rf n] s = some (.im (.int ((l.length : Int) % m)), s) := by
  unfold r_Asker_asks d_Asker_asks
  walk_at "Y"
  rw [fA2 h]
  walk_at "Y"
  rw [len_rf hw]
  walk_at "Y"
  rw [fA1 h]
  walk_at "Y"
  rw [g_mod hm]
  walk_at "Y"
theorem taken_ok (h : s[n]? = some (asker m A)) (hw : s[A]? = some (.dl l)) : r_Asker_taken [.rf n] s = some (.im (.tuple l), s) := by
  unfold r_Asker_taken d_Asker_taken
  walk_at "Y"
  rw [fA2 h]
  walk_at "Y"
  rw [tup_rf hw]
  walk_at "Y"
theorem hear_ok (hm : 0 < m) (h : s[n]? = some (asker m A)) (hw : s[A]? = some (.dl l)) (hl : l.length < big) : r_Asker_hear [.rf n, .im (.tuple [.int num, d])] s = if num = (l.length : Int) % m then some (.im d, s.set A (.dl (l ++ [d]))) else some (.im .none, s) := by
  unfold r_Asker_hear d_Asker_hear
  walk_at "Y"
  rw [k_unp (ρ1 := [.rf n, .im (.tuple [.int num, d]), .im (.int num), .im d]) rfl]
  walk_at "Y"
  rw [k_meth1 h rfl]
  walk_at "Y"
  rw [asks_ok hm h hw]
  walk_at "Y"
  by_cases e : num = (l.length : Int) % m
  · simp only [e, decide_true, Bool.not_true, Bool.false_eq_true, if_false, if_true]
    walk_at "Y"
    rw [fA2 h, k_app1 (isLst_of hw)]
    walk_at "Y"
    rw [k_app2 (push_dl hw hl)]
    walk_at "Y"
  · simp only [e, decide_false, Bool.not_false, if_false, if_true]
    walk_at "Y"
theorem initG (h : s[n]? = some (.ins "Giver" [])) : r_Giver_init [.rf n, .im (.int m)] s = some (.im .none, (s ++ [MO.dl []]).set n (giver m s.length 0)) := by
  have h0 := get_lt h
  unfold r_Giver_init d_Giver_init
  walk_at "Y"
  rw [fldS_of h (by show 0 < 1000; decide) rfl]
  walk_at "Y"
  have h1 : (s.set n (.ins "Giver" (putA "_modulo" (.im (.int m)) [])) ++ [MO.dl []])[n]? = some (.ins "Giver" (putA "_modulo" (.im (.int m)) [])) := by
    rw [get_ap (by simpa using h0)]; exact get_eq h
  rw [fldS_of h1 (by show 1 < 1000; decide) rfl]
  walk_at "Y"
  rw [fldS_of (get_eq h1) (by show 2 < 1000; decide) rfl]
  walk_at "Y"
  rw [List.set_set, List.length_set, List.set_append_left _ _ (by simpa using h0), List.set_set, ← List.set_append_left _ _ h0]
  rfl
theorem initA (h : s[n]? = some (.ins "Asker" [])) : r_Asker_init [.rf n, .im (.int m)] s = some (.im .none, (s ++ [MO.dl []]).set n (asker m s.length)) := by
  have h0 := get_lt h
  unfold r_Asker_init d_Asker_init
  walk_at "Y"
  rw [fldS_of h (by show 0 < 1000; decide) rfl]
  walk_at "Y"
  have h1 : (s.set n (.ins "Asker" (putA "_modulo" (.im (.int m)) [])) ++ [MO.dl []])[n]? = some (.ins "Asker" (putA "_modulo" (.im (.int m)) [])) := by
    rw [get_ap (by simpa using h0)]; exact get_eq h
  rw [fldS_of h1 (by show 1 < 1000; decide) rfl]
  walk_at "Y"
  rw [List.length_set, List.set_append_left _ _ (by simpa using h0), List.set_set, ← List.set_append_left _ _ h0]
  rfl
end
end K39
set_option Elab.async false
set_option linter.all false
set_option maxRecDepth 100000
namespace K39
open PySem PyProof.Rows L2 Zz
local macro_rules | `(tactic| walk_at "Z") => `(tactic| simp only [e_var, k_var_im, k_var_rf, k_var_ol, k_var_sc, e_c, e_op, k_op1, k_op2, k_res, e_un, k_un, e_test, k_test, e_tru, k_tru_b, e_and, e_or, e_not, k_and, k_or, k_not, e_bool, k_bool, e_if, k_if,
  e_nil, e_cons, k_cons1, k_cons2, e_tup, e_lst, k_tup0, k_tup1, k_tup2, k_tup3, k_lst0, k_lst1, k_lst2, k_lst3, k_lst4, k_lst5, k_lst6, e_frz, k_frz, e_newD, k_newD, e_newR, e_call, k_call, e_callF, k_callF, e_callG, k_callG1, k_callG2, k_callG3, k_callG4, k_keep_im, k_keep_rf, e_callP, k_callP1, k_callP2, k_callP3, k_callP4, k_resD,
  e_meth, k_m0, k_m1, k_m2, k_m3, e_make, k_mk1, k_mk2, k_made, e_or2, k_or2, k_or2n, e_fld, k_stS, e_setF, k_setF1, k_setF2, e_seq, k_seq, k_seq_rt, k_seq_bk, k_seq_ct, e_next, e_asg, k_asg_im, k_asg_rf, e_own, k_own, e_drop, k_drop, e_ret, k_ret_im, k_ret_rf, e_retV, k_retV, e_ifS, k_ifS, e_appO, k_appO, e_app, e_popAt, e_setS, k_setS1, k_setS2, k_setS3,
  e_v0, e_vl, e_vo, k_vl1, k_vo1, k_vl2, e_par, k_pr2, k_pr3, k_pr4, k_pr5, k_par2, e_put0, e_put, k_put, e_putO, e_putI, e_putR, e_putF, e_unp, e_seqI, k_seqI_l, k_seqI_t, e_rng1, e_rng2, e_for, k_for, forL_nil, k_turn, k_turn_ct, k_turn_bk, k_turn_rt, e_lc, e_runG, e_runP, k_outG, k_outGn, k_outP, k_outPn,
  e_sl, k_sl1, k_sl2, k_sl3t, k_sl3l, k_sl3s, e_nop, e_part, k_part, e_slL, k_slL1, k_slL2, e_isi, k_isi_n, k_isi_b, k_isi_i, k_isi_s, k_isi_l, k_isi_t,
  initR, sl1, List.map_cons, List.map_nil, List.length_cons, List.length_nil, Nat.reduceAdd, Nat.reduceSub, List.replicate_succ, List.replicate_zero, List.cons_append, List.nil_append, List.getElem?_cons_zero, List.getElem?_cons_succ, List.set_cons_zero, List.set_cons_succ, if_true, if_false, Bool.false_eq_true,
  bx_0, bx_1, bx_2, bx_s1, bx_s2, bx_len, bx_pop, bx_isL, g_add, g_sub, g_neg, g_lt, g_le, g_gt, g_ge, g_mulr, g_mull, g_mod, g_div, o_int, g_eqI, g_neI, g_eqB, g_neB, g_isN, g_notN, sm0, len_0, len_S, g_eqS, o_lenL, o_lenT, eq_self, decide_true, decide_false, k_pop1, k_pop2, it_tuple_NoneType, it_tuple_bool, it_tuple_int, it_tuple_str, it_tuple_list, it_tuple_tuple, it_list_NoneType, it_list_bool, it_list_int, it_list_str, it_list_list, it_list_tuple, it_bool_NoneType, it_bool_bool, it_bool_int, it_bool_str, it_bool_list, it_bool_tuple, it_int_NoneType, it_int_bool, it_int_int, it_int_str, it_int_list, it_int_tuple, it_str_NoneType, it_str_bool, it_str_int, it_str_str, it_str_list, it_str_tuple, decide_eq_true_eq, Int.reduceLT, Int.reduceNeg, and_self])
local macro_rules | `(tactic| walk_at "Y") => `(tactic| try walk_at "Z")
/-! ### a link -/
structure Lk where
  m : Int
  puts : List D
  first : Nat
  taken : List D
  ans : List D
def rep (d : D) : Prop := fine 3 d = true ∧ d.canLay0 = true ∧ d.depth ≤ 10
def isAns (a : D) : Prop := ∃ i r, a = .tuple [.int i, r] ∧ rep r
structure Good (N : Nat) (k : Lk) : Prop where
  m0 : 2 ≤ k.m
  m1 : k.m ≤ 20
  fp : k.first ≤ k.puts.length
  rp : ∀ d ∈ k.puts, rep d
  rt : ∀ d ∈ k.taken, rep d
  ra : ∀ d ∈ k.ans, isAns d
  lp : k.puts.length ≤ N
  lt : k.taken.length ≤ N
  la : k.ans.length ≤ N
  nn : N ≤ 1000
structure LinkAt (s : S) (p W : Nat) (k : Lk) : Prop where
  g : s[p]? = some (giver k.m W k.first)
  w : s[W]? = some (.dl (k.puts.drop k.first))
  a : s[p + 2]? = some (asker k.m (p + 3))
  at' : s[p + 3]? = some (.dl k.taken)
  pu : s[p + 4]? = some (.dl k.puts)
  tk : s[p + 5]? = some (.dl k.taken)
  an : s[p + 6]? = some (.dl k.ans)
  l : s[p + 7]? = some (.rl [.im (.int k.m), .rf p, .rf (p + 2), .rf (p + 4), .im (.int (k.first : Int)), .rf (p + 5), .rf (p + 6)])
  wf : W = p + 1 ∨ p + 7 < W
def Own (p W j : Nat) : Prop := (p ≤ j ∧ j ≤ p + 7) ∨ j = W
structure Frame (s s' : S) (F : Nat → Prop) : Prop where
  le : s.length ≤ s'.length
  eq : ∀ j, j < s.length → ¬ F j → s'[j]? = s[j]?
section
variable {s s' s2 : S} {n W W' A N : Nat} {l : List D} {d r : D} {m told num : Int} {k : Lk} {p j : Nat} {o : MO} {F : Nat → Prop}
theorem Frame.refl : Frame s s F := ⟨Nat.le_refl _, fun _ _ _ => rfl⟩
theorem Frame.set (f : Frame s s' F) (h : F j) : Frame s (s'.set j o) F := ⟨by rw [List.length_set]; exact f.le, fun i hi hn => by
  have hne : j ≠ i := fun e => hn (by rw [← e]; exact h)
  rw [get_ne hne]; exact f.eq i hi hn⟩
theorem Frame.app (f : Frame s s' F) : Frame s (s' ++ [o]) F := ⟨by rw [List.length_append]; exact Nat.le_trans f.le (Nat.le_add_right _ _), fun i hi hn => by
  rw [get_ap (Nat.lt_of_lt_of_le hi f.le)]; exact f.eq i hi hn⟩
theorem Frame.tr (f : Frame s s' F) (g : Frame s' s2 F) : Frame s s2 F := ⟨Nat.le_trans f.le g.le, fun i hi hn => (g.eq i (Nat.lt_of_lt_of_le hi f.le) hn).trans (f.eq i hi hn)⟩
theorem Frame.mono {F' : Nat → Prop} (f : Frame s s' F) (h : ∀ j, j < s.length → F j → F' j) : Frame s s' F' := ⟨f.le, fun i hi hn => f.eq i hi fun q => hn (h i hi q)⟩
/-- out of the frame a link stays -/
theorem LinkAt.frame (L : LinkAt s p W k) (f : Frame s s' F) (h : ∀ j, Own p W j → ¬ F j) : LinkAt s' p W k := by
  have go : ∀ {j : Nat} {o : MO}, s[j]? = some o → Own p W j → s'[j]? = some o := fun e q => (f.eq _ (get_lt e) (h _ q)).trans e
  exact ⟨go L.g (.inl (by omega)), go L.w (.inr rfl), go L.a (.inl (by omega)), go L.at' (.inl (by omega)), go L.pu (.inl (by omega)), go L.tk (.inl (by omega)), go L.an (.inl (by omega)), go L.l (.inl (by omega)), L.wf⟩
theorem at0 {a0 a1 a2 a3 a4 a5 a6 : L} : atD [a0, a1, a2, a3, a4, a5, a6] 0 = some a0 := rfl
theorem at1 {a0 a1 a2 a3 a4 a5 a6 : L} : atD [a0, a1, a2, a3, a4, a5, a6] 1 = some a1 := rfl
theorem at2 {a0 a1 a2 a3 a4 a5 a6 : L} : atD [a0, a1, a2, a3, a4, a5, a6] 2 = some a2 := rfl
theorem at3 {a0 a1 a2 a3 a4 a5 a6 : L} : atD [a0, a1, a2, a3, a4, a5, a6] 3 = some a3 := rfl
theorem at4 {a0 a1 a2 a3 a4 a5 a6 : L} : atD [a0, a1, a2, a3, a4, a5, a6] 4 = some a4 := rfl
theorem at5 {a0 a1 a2 a3 a4 a5 a6 : L} : atD [a0, a1, a2, a3, a4, a5, a6] 5 = some a5 := rfl
theorem at6 {a0 a1 a2 a3 a4 a5 a6 : L} : atD [a0, a1, a2, a3, a4, a5, a6] 6 = some a6 := rfl
theorem LinkAt.x0 (L : LinkAt s p W k) : gIx s (.rf (p + 7)) (.im (.int 0)) = some (.im (.int k.m)) := ix_rl L.l at0 rfl
theorem LinkAt.x1 (L : LinkAt s p W k) : gIx s (.rf (p + 7)) (.im (.int 1)) = some (.rf p) := ix_rl L.l at1 rfl
theorem LinkAt.x2 (L : LinkAt s p W k) : gIx s (.rf (p + 7)) (.im (.int 2)) = some (.rf (p + 2)) := ix_rl L.l at2 rfl
theorem LinkAt.x3 (L : LinkAt s p W k) : gIx s (.rf (p + 7)) (.im (.int 3)) = some (.rf (p + 4)) := ix_rl L.l at3 rfl
theorem LinkAt.x4 (L : LinkAt s p W k) : gIx s (.rf (p + 7)) (.im (.int 4)) = some (.im (.int (k.first : Int))) := ix_rl L.l at4 rfl
theorem LinkAt.x5 (L : LinkAt s p W k) : gIx s (.rf (p + 7)) (.im (.int 5)) = some (.rf (p + 5)) := ix_rl L.l at5 rfl
theorem LinkAt.x6 (L : LinkAt s p W k) : gIx s (.rf (p + 7)) (.im (.int 6)) = some (.rf (p + 6)) := ix_rl L.l at6 rfl
theorem same6 {d : D} (h : fine 5 d = true) : r_law_same 6 [d, d] = some (.bool true) := same_refl 5 d h
theorem fine_up : ∀ {n : Nat} {d : D}, fine n d = true → fine (n + 1) d = true := by
  have both : ∀ n : Nat, (∀ d : D, fine n d = true → fine (n + 1) d = true) := by
    intro n
    induction n with
    | zero => intro d h; cases d <;> first | rfl | cases h
    | succ n ih =>
      intro d h
      cases d with
      | list l =>
        simp only [fine, Bool.and_eq_true] at h ⊢
        exact ⟨h.1, fines_of fun d hd => ih d (fines_all h.2 d hd)⟩
      | tuple l =>
        simp only [fine, Bool.and_eq_true] at h ⊢
        exact ⟨h.1, fines_of fun d hd => ih d (fines_all h.2 d hd)⟩
      | dict l => cases h
      | _ => rfl
  intro n d h
  exact both n d h
theorem fine_tup {n : Nat} {l : List D} (hl : l.length ≤ big) (h : ∀ d ∈ l, fine n d = true) : fine (n + 1) (.tuple l) = true := by
  simp only [fine, Bool.and_eq_true, decide_eq_true_eq]
  exact ⟨hl, fines_of h⟩
theorem fine_lst {n : Nat} {l : List D} (hl : l.length ≤ big) (h : ∀ d ∈ l, fine n d = true) : fine (n + 1) (.list l) = true := by
  simp only [fine, Bool.and_eq_true, decide_eq_true_eq]
  exact ⟨hl, fines_of h⟩
theorem fine_head {m : Int} {fst : Nat} {l : List D} (h : ∀ d ∈ l, rep d) : fine 5 (headA m fst l) = true := by
  cases l with
  | nil => rfl
  | cons a l =>
    refine fine_tup (by show 2 ≤ 16777216; decide) fun d hd => ?_
    rcases List.mem_cons.mp hd with e | hd
    · rw [e]; rfl
    · rcases List.mem_cons.mp hd with e | hd
      · rw [e]; exact fine_up (h a (by simp)).1
      · cases hd
/-- the first number of a link raised -/
theorem set_first {a0 a1 a2 a3 a4 a5 a6 : L} {v : Int} (h : s[n]? = some (.rl [a0, a1, a2, a3, a4, a5, a6])) : setS s n 4 (.im (.int v)) = some (s.set n (.rl [a0, a1, a2, a3, .im (.int v), a5, a6])) := by
  unfold setS
  rw [h]
  rfl
def fst' (k : Lk) (told : Int) : Nat := if k.first < k.puts.length ∧ told = ((k.first : Int) + 1) % k.m then k.first + 1 else k.first
def ans' (k : Lk) (f : Nat) : List D := match k.puts.drop f with
  | [] => k.ans
  | a :: _ => k.ans ++ [.tuple [.int ((f : Int) % k.m), a]]
def polled (k : Lk) (told : Int) : Lk := { k with first := fst' k told, ans := ans' k (fst' k told) }
theorem drop_at {f : Nat} {l : List D} (h : f < l.length) : ∃ a, l[f]? = some a ∧ l.drop f = a :: l.drop (f + 1) := ⟨l[f], by simp [h], by simp⟩
theorem drop_nil {f : Nat} {l : List D} (h : ¬ f < l.length) : l.drop f = [] := List.drop_eq_nil_of_le (by omega)
/-- the giver's poll: the giver goes on as the link's number, which stands already -/
theorem poll_ok (G : Good N k) (L : LinkAt s p W k) (f : Nat) (hf : f = fst' k told) (hs : s2 = s.set (p + 7) (.rl [.im (.int k.m), .rf p, .rf (p + 2), .rf (p + 4), .im (.int (f : Int)), .rf (p + 5), .rf (p + 6)])) :
    ∃ s' W', r_Giver_poll [.rf p, .im (.int told)] s2 = some (.im (headA k.m f (k.puts.drop f)), s') ∧ LinkAt s' p W' { k with first := f } ∧ Frame s s' (Own p W) ∧ (W' = W ∨ s.length ≤ W') := by
  have hw := L.wf
  have hm : 0 < k.m := by have := G.m0; omega
  have lt := get_lt L.l
  have ltw := get_lt L.w
  have fr : Frame s s2 (Own p W) := by rw [hs]; exact Frame.refl.set (.inl (by omega))
  have h2 : ∀ {j : Nat} {o : MO}, j ≠ p + 7 → s[j]? = some o → s2[j]? = some o := fun hj e => by rw [hs, get_ne (Ne.symm hj)]; exact e
  have h7 : s2[p + 7]? = some (.rl [.im (.int k.m), .rf p, .rf (p + 2), .rf (p + 4), .im (.int (f : Int)), .rf (p + 5), .rf (p + 6)]) := by rw [hs]; exact get_eq L.l
  have l2 : s2.length = s.length := by rw [hs, List.length_set]
  have g2 := h2 (by omega) L.g
  have w2 := h2 (by omega) L.w
  by_cases c : k.first < k.puts.length ∧ told = ((k.first : Int) + 1) % k.m
  · have ef : f = k.first + 1 := by rw [hf]; unfold fst'; rw [if_pos c]
    obtain ⟨a, ha, hd⟩ := drop_at c.1
    rw [hd] at w2
    have e := poll_yes hm g2 w2 c.2
    rw [← ef] at e
    refine ⟨_, s2.length, e, ?_, ?_, .inr (by omega)⟩
    · have go : ∀ {j : Nat} {o : MO}, j ≠ p → s2[j]? = some o → ((s2 ++ [MO.dl (k.puts.drop f)]).set p (giver k.m s2.length f))[j]? = some o := fun hj e => by
        rw [get_ne (Ne.symm hj), get_ap (get_lt e)]; exact e
      exact ⟨get_eq (by rw [get_ap (get_lt g2)]; exact g2), by rw [get_ne (by omega)]; simp, go (by omega) (h2 (by omega) L.a), go (by omega) (h2 (by omega) L.at'), go (by omega) (h2 (by omega) L.pu), go (by omega) (h2 (by omega) L.tk), go (by omega) (h2 (by omega) L.an), go (by omega) h7, .inr (by omega)⟩
    · exact fr.app.set (.inl (by omega))
  · have ef : f = k.first := by rw [hf]; unfold fst'; rw [if_neg c]
    have e := poll_no (told := told) hm g2 w2 (by
      by_cases c2 : k.first < k.puts.length
      · exact .inr fun q => c ⟨c2, q⟩
      · exact .inl (drop_nil c2))
    rw [← ef] at e
    refine ⟨_, W, e, ?_, fr, .inl rfl⟩
    exact ⟨by rw [ef]; exact g2, by rw [ef]; exact w2, h2 (by omega) L.a, h2 (by omega) L.at', h2 (by omega) L.pu, h2 (by omega) L.tk, h2 (by omega) L.an, h7, L.wf⟩
theorem an_1 {z5 z6 : Slot} (L : LinkAt s p W k) : cd_law_answer_1 [.rf 1, .rf (p + 7), .im (.int told), .un, .un, z5, z6] s = some (.nx, [.rf 1, .rf (p + 7), .im (.int told), .im (.int k.m), .rf (p + 4), z5, z6], s) := by
  unfold cd_law_answer_1
  walk_at "Y"
  rw [L.x0]
  walk_at "Y"
  rw [L.x3]
  walk_at "Y"
theorem an_2 {z5 z6 : Slot} (hm : 0 < k.m) (L : LinkAt s p W k) : cd_law_answer_2 [.rf 1, .rf (p + 7), .im (.int told), .im (.int k.m), .rf (p + 4), z5, z6] s = some (.nx, [.rf 1, .rf (p + 7), .im (.int told), .im (.int k.m), .rf (p + 4), z5, z6], s.set (p + 7) (.rl [.im (.int k.m), .rf p, .rf (p + 2), .rf (p + 4), .im (.int (fst' k told : Int)), .rf (p + 5), .rf (p + 6)])) := by
  unfold cd_law_answer_2
  walk_at "Y"
  rw [L.x4]
  walk_at "Y"
  rw [len_rf L.pu]
  walk_at "Y"
  by_cases c1 : k.first < k.puts.length
  · have c1' : (k.first : Int) < (k.puts.length : Int) := by omega
    simp only [c1', decide_true, if_true]
    walk_at "Y"
    rw [L.x4]
    walk_at "Y"
    rw [g_mod hm]
    walk_at "Y"
    by_cases c2 : told = ((k.first : Int) + 1) % k.m
    · have ef : fst' k told = k.first + 1 := by unfold fst'; rw [if_pos ⟨c1, c2⟩]
      rw [ef]
      simp only [c2, decide_true, if_true]
      walk_at "Y"
      rw [L.x4]
      walk_at "Y"
      rw [set_first L.l]
      rfl
    · have ef : fst' k told = k.first := by unfold fst'; rw [if_neg (fun q => c2 q.2)]
      rw [ef, set_self L.l]
      simp only [c2, decide_false, Bool.false_eq_true, if_false]
      walk_at "Y"
  · have c1' : ¬ (k.first : Int) < (k.puts.length : Int) := by omega
    have ef : fst' k told = k.first := by unfold fst'; rw [if_neg (fun q => c1 q.1)]
    rw [ef, set_self L.l]
    simp only [c1', decide_false, Bool.false_eq_true, if_false]
    walk_at "Y"
theorem an_3 {z5 z6 : Slot} {f : Nat} (hm : 0 < k.m) (hp : s[p + 4]? = some (.dl k.puts)) (h7 : s[p + 7]? = some (.rl [.im (.int k.m), .rf p, .rf (p + 2), .rf (p + 4), .im (.int (f : Int)), .rf (p + 5), .rf (p + 6)])) : cd_law_answer_3 [.rf 1, .rf (p + 7), .im (.int told), .im (.int k.m), .rf (p + 4), z5, z6] s = some (.nx, [.rf 1, .rf (p + 7), .im (.int told), .im (.int k.m), .rf (p + 4), .im (headA k.m f (k.puts.drop f)), z6], s) := by
  have x4 : gIx s (.rf (p + 7)) (.im (.int 4)) = some (.im (.int (f : Int))) := ix_rl h7 at4 rfl
  unfold cd_law_answer_3
  walk_at "Y"
  rw [x4]
  walk_at "Y"
  rw [len_rf hp]
  walk_at "Y"
  by_cases c : f < k.puts.length
  · have c' : (f : Int) < (k.puts.length : Int) := by omega
    obtain ⟨a, ha, hd⟩ := drop_at c
    rw [hd]
    simp only [c', decide_true, if_true]
    walk_at "Y"
    rw [x4]
    walk_at "Y"
    rw [g_mod hm]
    walk_at "Y"
    rw [x4]
    walk_at "Y"
    rw [ix_rf hp (atI_nat ha)]
    walk_at "Y"
    rfl
  · have c' : ¬ (f : Int) < (k.puts.length : Int) := by omega
    rw [drop_nil c]
    simp only [c', decide_false, Bool.false_eq_true, if_false]
    walk_at "Y"
    rfl
theorem isN_head {m : Int} {f : Nat} {l : List D} : isNone (.im (headA m f l)) = l.isEmpty := by cases l <;> rfl
theorem answer_ok (hN : N ≤ 1000) (G : Good N k) (L : LinkAt s p W k) : ∃ s' W', r_law_answer [.rf 1, .rf (p + 7), .im (.int told)] s = some (.im (.bool true), s') ∧ LinkAt s' p W' (polled k told) ∧ Frame s s' (Own p W) ∧ (W' = W ∨ s.length ≤ W') := by
  have hw := L.wf
  have hm : 0 < k.m := by have := G.m0; omega
  have a2 := an_2 (told := told) (z5 := .un) (z6 := .un) hm L
  generalize hf : fst' k told = f
  rw [hf] at a2
  generalize hs : s.set (p + 7) (.rl [.im (.int k.m), .rf p, .rf (p + 2), .rf (p + 4), .im (.int (f : Int)), .rf (p + 5), .rf (p + 6)]) = s2
  rw [hs] at a2
  obtain ⟨s', W', e1, L1, F1, w1⟩ := poll_ok (told := told) G L f hf.symm hs.symm
  have hw1 := L1.wf
  have h7 : s2[p + 7]? = some (.rl [.im (.int k.m), .rf p, .rf (p + 2), .rf (p + 4), .im (.int (f : Int)), .rf (p + 5), .rf (p + 6)]) := by rw [← hs]; exact get_eq L.l
  have hp : s2[p + 4]? = some (.dl k.puts) := by rw [← hs, get_ne (by omega)]; exact L.pu
  have hg : s2[p]? = some (giver k.m W k.first) := by rw [← hs, get_ne (by omega)]; exact L.g
  have hfl : f ≤ k.puts.length := by
    have := G.fp
    rw [← hf]
    unfold fst'
    split <;> omega
  have hfin : fine 5 (headA k.m f (k.puts.drop f)) = true := fine_head fun d hd => G.rp d (List.mem_of_mem_drop hd)
  unfold r_law_answer
  rw [cd_law_answer_eq]
  walk_at "Y"
  rw [an_1 L]
  walk_at "Y"
  rw [a2]
  walk_at "Y"
  rw [an_3 hm hp h7]
  walk_at "Y"
  unfold cd_law_answer_4
  walk_at "Y"
  rw [ix_rl h7 at1 rfl]
  walk_at "Y"
  rw [k_meth1 hg rfl]
  walk_at "Y"
  rw [e1]
  walk_at "Y"
  -- the tail: whatever was put to the answers
  have tail : ∀ (s3 : S), LinkAt s3 p W' (polled k told) → outG (cd_law_answer_6 [.rf 1, .rf (p + 7), .im (.int told), .im (.int k.m), .rf (p + 4), .im (headA k.m f (k.puts.drop f)), .im (headA k.m f (k.puts.drop f))] s3) = some (.im (.bool true), s3) := by
    intro s3 L3
    have hpf : (polled k told).first = f := hf
    unfold cd_law_answer_6
    walk_at "Y"
    rw [same6 hfin]
    walk_at "Y"
    rw [L3.x1]
    walk_at "Y"
    rw [k_meth1 L3.g rfl]
    walk_at "Y"
    rw [waiting_ok L3.g L3.w]
    walk_at "Y"
    rw [len_rf L3.pu]
    walk_at "Y"
    rw [L3.x4]
    walk_at "Y"
    have el : ((List.drop (polled k told).first (polled k told).puts).length : Int) = ((polled k told).puts.length : Int) - ((polled k told).first : Int) := by
      have : (polled k told).first ≤ (polled k told).puts.length := by rw [hpf]; exact hfl
      rw [List.length_drop]
      omega
    rw [el, same6 rfl]
    walk_at "Y"
  unfold cd_law_answer_5
  walk_at "Y"
  rw [isN_head]
  cases hd : k.puts.drop f with
  | nil =>
    simp only [List.isEmpty_nil, Bool.not_true, Bool.false_eq_true, if_false]
    walk_at "Y"
    have ep : polled k told = { k with first := f } := by
      unfold polled ans'
      rw [hf, hd]
    rw [hd] at tail
    exact ⟨s', W', tail s' (by rw [ep]; exact L1), by rw [ep]; exact L1, F1, w1⟩
  | cons a l =>
    simp only [List.isEmpty_cons, Bool.not_false, if_true]
    walk_at "Y"
    rw [L1.x6]
    walk_at "Y"
    rw [k_app1 (isLst_of L1.an)]
    walk_at "Y"
    rw [k_app2 (push_dl L1.an (by show k.ans.length < 16777216; have := G.la; omega))]
    walk_at "Y"
    have ep : polled k told = { k with first := f, ans := k.ans ++ [headA k.m f (a :: l)] } := by
      unfold polled ans'
      rw [hf, hd]
      rfl
    have L4 : LinkAt (s'.set (p + 6) (.dl (k.ans ++ [headA k.m f (a :: l)]))) p W' (polled k told) := by
      have go : ∀ {j : Nat} {o : MO}, j ≠ p + 6 → s'[j]? = some o → (s'.set (p + 6) (.dl (k.ans ++ [headA k.m f (a :: l)])))[j]? = some o := fun hj e => by
        rw [get_ne (Ne.symm hj)]; exact e
      rw [ep]
      exact ⟨go (by omega) L1.g, go (by omega) L1.w, go (by omega) L1.a, go (by omega) L1.at', go (by omega) L1.pu, go (by omega) L1.tk, get_eq L1.an, go (by omega) L1.l, L1.wf⟩
    rw [hd] at tail
    exact ⟨_, W', tail _ L4, L4, F1.set (.inl (by omega)), w1⟩
end
end K39
set_option Elab.async false
set_option linter.all false
set_option maxRecDepth 100000
namespace K39
open PySem PyProof.Rows L2 Zz
local macro_rules | `(tactic| walk_at "Z") => `(tactic| simp only [e_var, k_var_im, k_var_rf, k_var_ol, k_var_sc, e_c, e_op, k_op1, k_op2, k_res, e_un, k_un, e_test, k_test, e_tru, k_tru_b, e_and, e_or, e_not, k_and, k_or, k_not, e_bool, k_bool, e_if, k_if,
  e_nil, e_cons, k_cons1, k_cons2, e_tup, e_lst, k_tup0, k_tup1, k_tup2, k_tup3, k_lst0, k_lst1, k_lst2, k_lst3, k_lst4, k_lst5, k_lst6, e_frz, k_frz, e_newD, k_newD, e_newR, e_call, k_call, e_callF, k_callF, e_callG, k_callG1, k_callG2, k_callG3, k_callG4, k_keep_im, k_keep_rf, e_callP, k_callP1, k_callP2, k_callP3, k_callP4, k_resD,
  e_meth, k_m0, k_m1, k_m2, k_m3, e_make, k_mk1, k_mk2, k_made, e_or2, k_or2, k_or2n, e_fld, k_stS, e_setF, k_setF1, k_setF2, e_seq, k_seq, k_seq_rt, k_seq_bk, k_seq_ct, e_next, e_asg, k_asg_im, k_asg_rf, e_own, k_own, e_drop, k_drop, e_ret, k_ret_im, k_ret_rf, e_retV, k_retV, e_ifS, k_ifS, e_appO, k_appO, e_app, e_popAt, e_setS, k_setS1, k_setS2, k_setS3,
  e_v0, e_vl, e_vo, k_vl1, k_vo1, k_vl2, e_par, k_pr2, k_pr3, k_pr4, k_pr5, k_par2, e_put0, e_put, k_put, e_putO, e_putI, e_putR, e_putF, e_unp, e_seqI, k_seqI_l, k_seqI_t, e_rng1, e_rng2, e_for, k_for, forL_nil, k_turn, k_turn_ct, k_turn_bk, k_turn_rt, e_lc, e_runG, e_runP, k_outG, k_outGn, k_outP, k_outPn,
  e_sl, k_sl1, k_sl2, k_sl3t, k_sl3l, k_sl3s, e_nop, e_part, k_part, e_slL, k_slL1, k_slL2, e_isi, k_isi_n, k_isi_b, k_isi_i, k_isi_s, k_isi_l, k_isi_t,
  initR, sl1, List.map_cons, List.map_nil, List.length_cons, List.length_nil, Nat.reduceAdd, Nat.reduceSub, List.replicate_succ, List.replicate_zero, List.cons_append, List.nil_append, List.getElem?_cons_zero, List.getElem?_cons_succ, List.set_cons_zero, List.set_cons_succ, if_true, if_false, Bool.false_eq_true,
  bx_0, bx_1, bx_2, bx_s1, bx_s2, bx_len, bx_pop, bx_isL, g_add, g_sub, g_neg, g_lt, g_le, g_gt, g_ge, g_mulr, g_mull, g_mod, g_div, o_int, g_eqI, g_neI, g_eqB, g_neB, g_isN, g_notN, sm0, len_0, len_S, g_eqS, o_lenL, o_lenT, eq_self, decide_true, decide_false, k_pop1, k_pop2, it_tuple_NoneType, it_tuple_bool, it_tuple_int, it_tuple_str, it_tuple_list, it_tuple_tuple, it_list_NoneType, it_list_bool, it_list_int, it_list_str, it_list_list, it_list_tuple, it_bool_NoneType, it_bool_bool, it_bool_int, it_bool_str, it_bool_list, it_bool_tuple, it_int_NoneType, it_int_bool, it_int_int, it_int_str, it_int_list, it_int_tuple, it_str_NoneType, it_str_bool, it_str_int, it_str_str, it_str_list, it_str_tuple, decide_eq_true_eq, Int.reduceLT, Int.reduceNeg, and_self])
local macro_rules | `(tactic| walk_at "Y") => `(tactic| try walk_at "Z")
def heardK (k : Lk) (num : Int) (d : D) : Lk := if num = (k.taken.length : Int) % k.m then { k with taken := k.taken ++ [d] } else k
def putK (k : Lk) (d : D) : Lk := { k with puts := k.puts ++ [d] }
section
variable {s s' s2 : S} {n W W' A N : Nat} {l : List D} {d r : D} {m told num : Int} {k : Lk} {p j : Nat} {o : MO} {F : Nat → Prop}
theorem heard_tail {z1 z2 z3 : Slot} (hm : 0 < k.m) (ht : ∀ d ∈ k.taken, rep d) (hl : k.taken.length ≤ 1001) (L : LinkAt s p W k) : outG (cd_law_heard_5 [.rf (p + 7), z1, z2, z3] s) = some (.im (.bool true), s) := by
  have hf : fine 5 (.tuple k.taken) = true := fine_tup (by show k.taken.length ≤ 16777216; omega) fun d hd => fine_up (ht d hd).1
  unfold cd_law_heard_5
  walk_at "Y"
  rw [L.x2]
  walk_at "Y"
  rw [k_meth1 L.a rfl]
  walk_at "Y"
  rw [taken_ok L.a L.at']
  walk_at "Y"
  rw [L.x5]
  walk_at "Y"
  rw [tup_rf L.tk]
  walk_at "Y"
  rw [same6 hf]
  walk_at "Y"
  rw [L.x2]
  walk_at "Y"
  rw [k_meth1 L.a rfl]
  walk_at "Y"
  rw [asks_ok hm L.a L.at']
  walk_at "Y"
  rw [L.x5]
  walk_at "Y"
  rw [len_rf L.tk]
  walk_at "Y"
  rw [L.x0]
  walk_at "Y"
  rw [g_mod hm]
  walk_at "Y"
  rw [same6 rfl]
  walk_at "Y"
theorem tu_1 {a b : D} : gIx s (.im (.tuple [a, b])) (.im (.int 1)) = some (.im b) := rfl
theorem tu_0 {a b : D} : gIx s (.im (.tuple [a, b])) (.im (.int 0)) = some (.im a) := rfl
theorem heard_ok (G : Good N k) (L : LinkAt s p W k) (hd : rep d) : ∃ s', r_law_heard [.rf (p + 7), .im (.tuple [.int num, d])] s = some (.im (.bool true), s') ∧ LinkAt s' p W (heardK k num d) ∧ Frame s s' (Own p W) := by
  have hw := L.wf
  have hm : 0 < k.m := by have := G.m0; omega
  have hl : k.taken.length < big := by show k.taken.length < 16777216; have := G.lt; have := G.nn; omega
  have hlen : k.taken.length ≤ 1000 := by have := G.lt; have := G.nn; omega
  have e0 := hear_ok (num := num) (d := d) hm L.a L.at' hl
  unfold r_law_heard
  rw [cd_law_heard_eq]
  unfold cd_law_heard_1
  walk_at "Y"
  rw [tu_0]
  walk_at "Y"
  rw [L.x5]
  walk_at "Y"
  rw [len_rf L.tk]
  walk_at "Y"
  rw [L.x0]
  walk_at "Y"
  rw [g_mod hm]
  walk_at "Y"
  unfold cd_law_heard_2
  walk_at "Y"
  rw [L.x2]
  walk_at "Y"
  rw [k_meth1 L.a rfl]
  walk_at "Y"
  by_cases c : num = (k.taken.length : Int) % k.m
  · rw [if_pos c] at e0
    rw [e0]
    simp only [c, decide_true]
    walk_at "Y"
    unfold cd_law_heard_3
    walk_at "Y"
    have ek : heardK k ((k.taken.length : Int) % k.m) d = { k with taken := k.taken ++ [d] } := by unfold heardK; rw [if_pos rfl]
    have L1 : gIx (s.set (p + 3) (.dl (k.taken ++ [d]))) (.rf (p + 7)) (.im (.int 5)) = some (.rf (p + 5)) := ix_rl (by rw [get_ne (by omega)]; exact L.l) at5 rfl
    have h5 : (s.set (p + 3) (.dl (k.taken ++ [d])))[p + 5]? = some (.dl k.taken) := by rw [get_ne (by omega)]; exact L.tk
    rw [L1]
    walk_at "Y"
    rw [k_app1 (isLst_of h5)]
    walk_at "Y"
    rw [tu_1]
    walk_at "Y"
    rw [k_app2 (push_dl h5 hl)]
    walk_at "Y"
    unfold cd_law_heard_4
    walk_at "Y"
    rw [tu_1]
    walk_at "Y"
    rw [same6 (fine_up (fine_up hd.1))]
    walk_at "Y"
    simp only [Bool.not_true, Bool.false_eq_true, if_false]
    walk_at "Y"
    have L4 : LinkAt ((s.set (p + 3) (.dl (k.taken ++ [d]))).set (p + 5) (.dl (k.taken ++ [d]))) p W (heardK k ((k.taken.length : Int) % k.m) d) := by
      have go : ∀ {j : Nat} {o : MO}, j ≠ p + 3 → j ≠ p + 5 → s[j]? = some o → ((s.set (p + 3) (.dl (k.taken ++ [d]))).set (p + 5) (.dl (k.taken ++ [d])))[j]? = some o := fun h1 h2 e => by
        rw [get_ne (Ne.symm h2), get_ne (Ne.symm h1)]; exact e
      rw [ek]
      exact ⟨go (by omega) (by omega) L.g, go (by omega) (by omega) L.w, go (by omega) (by omega) L.a, by rw [get_ne (by omega)]; exact get_eq L.at', go (by omega) (by omega) L.pu, get_eq h5, go (by omega) (by omega) L.an, go (by omega) (by omega) L.l, L.wf⟩
    refine ⟨_, heard_tail (k := { k with taken := k.taken ++ [d] }) hm ?_ ?_ (by rw [← ek]; exact L4), L4, (Frame.refl.set (.inl (by omega))).set (.inl (by omega))⟩
    · intro e he
      rcases List.mem_append.mp he with q | q
      · exact G.rt e q
      · rw [List.mem_singleton.mp q]; exact hd
    · show (k.taken ++ [d]).length ≤ 1001
      rw [List.length_append, List.length_singleton]
      omega
  · rw [if_neg c] at e0
    rw [e0]
    simp only [c, decide_false]
    walk_at "Y"
    unfold cd_law_heard_3
    walk_at "Y"
    unfold cd_law_heard_4
    walk_at "Y"
    rw [same6 rfl]
    walk_at "Y"
    simp only [Bool.not_true, Bool.false_eq_true, if_false]
    walk_at "Y"
    have ek : heardK k num d = k := by unfold heardK; rw [if_neg c]
    rw [ek]
    exact ⟨_, heard_tail hm G.rt (by omega) L, L, Frame.refl⟩
theorem drop_put {f : Nat} {l : List D} (h : f ≤ l.length) : (l ++ [d]).drop f = l.drop f ++ [d] := by
  rw [List.drop_append, Nat.sub_eq_zero_of_le h]
  rfl
/-- put, then noted -/
theorem put_link (G : Good N k) (L : LinkAt s p W k) : r_Giver_put [.rf p, .im d] s = some (.im .none, s.set W (.dl (k.puts.drop k.first ++ [d]))) ∧ LinkAt ((s.set W (.dl (k.puts.drop k.first ++ [d]))).set (p + 4) (.dl (k.puts ++ [d]))) p W (putK k d) ∧ Frame s ((s.set W (.dl (k.puts.drop k.first ++ [d]))).set (p + 4) (.dl (k.puts ++ [d]))) (Own p W) := by
  have hw := L.wf
  have hl : (k.puts.drop k.first).length < big := by
    show (k.puts.drop k.first).length < 16777216
    have := G.lp; have := G.nn
    rw [List.length_drop]
    omega
  refine ⟨put_ok L.g L.w hl, ?_, (Frame.refl.set (.inr rfl)).set (.inl (by omega))⟩
  have go : ∀ {j : Nat} {o : MO}, j ≠ W → j ≠ p + 4 → s[j]? = some o → ((s.set W (.dl (k.puts.drop k.first ++ [d]))).set (p + 4) (.dl (k.puts ++ [d])))[j]? = some o := fun h1 h2 e => by
    rw [get_ne (Ne.symm h2), get_ne (Ne.symm h1)]; exact e
  refine ⟨go (by omega) (by omega) L.g, ?_, go (by omega) (by omega) L.a, go (by omega) (by omega) L.at', ?_, go (by omega) (by omega) L.tk, go (by omega) (by omega) L.an, go (by omega) (by omega) L.l, L.wf⟩
  · rw [get_ne (by omega), get_eq L.w]
    show some (MO.dl _) = some (MO.dl ((k.puts ++ [d]).drop k.first))
    rw [drop_put G.fp]
  · exact get_eq (o := .dl k.puts) (by rw [get_ne (by omega)]; exact L.pu)
theorem good_put (G : Good N k) (hd : rep d) (hN : N + 1 ≤ 1000) : Good (N + 1) (putK k d) := by
  refine ⟨G.m0, G.m1, ?_, ?_, G.rt, G.ra, ?_, Nat.le_succ_of_le G.lt, Nat.le_succ_of_le G.la, hN⟩
  · show k.first ≤ (k.puts ++ [d]).length
    have := G.fp
    rw [List.length_append]; omega
  · intro e he
    rcases List.mem_append.mp he with q | q
    · exact G.rp e q
    · rw [List.mem_singleton.mp q]; exact hd
  · show (k.puts ++ [d]).length ≤ _
    have := G.lp
    rw [List.length_append, List.length_singleton]; omega
theorem good_heard (G : Good N k) (hd : rep d) (hN : N + 1 ≤ 1000) : Good (N + 1) (heardK k num d) := by
  unfold heardK
  split
  · refine ⟨G.m0, G.m1, G.fp, G.rp, ?_, G.ra, Nat.le_succ_of_le G.lp, ?_, Nat.le_succ_of_le G.la, hN⟩
    · intro e he
      rcases List.mem_append.mp he with q | q
      · exact G.rt e q
      · rw [List.mem_singleton.mp q]; exact hd
    · show (k.taken ++ [d]).length ≤ _
      have := G.lt
      rw [List.length_append, List.length_singleton]; omega
  · exact ⟨G.m0, G.m1, G.fp, G.rp, G.rt, G.ra, Nat.le_succ_of_le G.lp, Nat.le_succ_of_le G.lt, Nat.le_succ_of_le G.la, hN⟩
theorem good_mono {M : Nat} (G : Good N k) (h : N ≤ M) (hM : M ≤ 1000) : Good M k := ⟨G.m0, G.m1, G.fp, G.rp, G.rt, G.ra, Nat.le_trans G.lp h, Nat.le_trans G.lt h, Nat.le_trans G.la h, hM⟩
theorem good_poll (G : Good N k) (hN : N + 1 ≤ 1000) : Good (N + 1) (polled k told) := by
  have hf : fst' k told ≤ k.puts.length := by
    have := G.fp
    unfold fst'
    split <;> omega
  refine ⟨G.m0, G.m1, hf, G.rp, G.rt, ?_, Nat.le_succ_of_le G.lp, Nat.le_succ_of_le G.lt, ?_, hN⟩
  · intro e he
    have he' : e ∈ ans' k (fst' k told) := he
    unfold ans' at he'
    split at he'
    · exact G.ra e he'
    · rename_i a l hd
      rcases List.mem_append.mp he' with q | q
      · exact G.ra e q
      · rw [List.mem_singleton.mp q]
        exact ⟨_, a, rfl, G.rp a (List.mem_of_mem_drop (by rw [hd]; simp))⟩
  · show (ans' k (fst' k told)).length ≤ _
    have := G.la
    unfold ans'
    split
    · omega
    · rw [List.length_append, List.length_singleton]; omega
end
end K39
set_option Elab.async false
set_option linter.all false
set_option maxRecDepth 100000
namespace K39
open PySem PyProof.Rows L2 Zz
local macro_rules | `(tactic| walk_at "Z") => `(tactic| simp only [e_var, k_var_im, k_var_rf, k_var_ol, k_var_sc, e_c, e_op, k_op1, k_op2, k_res, e_un, k_un, e_test, k_test, e_tru, k_tru_b, e_and, e_or, e_not, k_and, k_or, k_not, e_bool, k_bool, e_if, k_if,
  e_nil, e_cons, k_cons1, k_cons2, e_tup, e_lst, k_tup0, k_tup1, k_tup2, k_tup3, k_lst0, k_lst1, k_lst2, k_lst3, k_lst4, k_lst5, k_lst6, e_frz, k_frz, e_newD, k_newD, e_newR, e_call, k_call, e_callF, k_callF, e_callG, k_callG1, k_callG2, k_callG3, k_callG4, k_keep_im, k_keep_rf, e_callP, k_callP1, k_callP2, k_callP3, k_callP4, k_resD,
  e_meth, k_m0, k_m1, k_m2, k_m3, e_make, k_mk1, k_mk2, k_made, e_or2, k_or2, k_or2n, e_fld, k_stS, e_setF, k_setF1, k_setF2, e_seq, k_seq, k_seq_rt, k_seq_bk, k_seq_ct, e_next, e_asg, k_asg_im, k_asg_rf, e_own, k_own, e_drop, k_drop, e_ret, k_ret_im, k_ret_rf, e_retV, k_retV, e_ifS, k_ifS, e_appO, k_appO, e_app, e_popAt, e_setS, k_setS1, k_setS2, k_setS3,
  e_v0, e_vl, e_vo, k_vl1, k_vo1, k_vl2, e_par, k_pr2, k_pr3, k_pr4, k_pr5, k_par2, e_put0, e_put, k_put, e_putO, e_putI, e_putR, e_putF, e_unp, e_seqI, k_seqI_l, k_seqI_t, e_rng1, e_rng2, e_for, k_for, forL_nil, k_turn, k_turn_ct, k_turn_bk, k_turn_rt, e_lc, e_runG, e_runP, k_outG, k_outGn, k_outP, k_outPn,
  e_sl, k_sl1, k_sl2, k_sl3t, k_sl3l, k_sl3s, e_nop, e_part, k_part, e_slL, k_slL1, k_slL2, e_isi, k_isi_n, k_isi_b, k_isi_i, k_isi_s, k_isi_l, k_isi_t,
  initR, sl1, List.map_cons, List.map_nil, List.length_cons, List.length_nil, Nat.reduceAdd, Nat.reduceSub, List.replicate_succ, List.replicate_zero, List.cons_append, List.nil_append, List.getElem?_cons_zero, List.getElem?_cons_succ, List.set_cons_zero, List.set_cons_succ, if_true, if_false, Bool.false_eq_true,
  bx_0, bx_1, bx_2, bx_s1, bx_s2, bx_len, bx_pop, bx_isL, g_add, g_sub, g_neg, g_lt, g_le, g_gt, g_ge, g_mulr, g_mull, g_mod, g_div, o_int, g_eqI, g_neI, g_eqB, g_neB, g_isN, g_notN, sm0, len_0, len_S, g_eqS, o_lenL, o_lenT, eq_self, decide_true, decide_false, k_pop1, k_pop2, it_tuple_NoneType, it_tuple_bool, it_tuple_int, it_tuple_str, it_tuple_list, it_tuple_tuple, it_list_NoneType, it_list_bool, it_list_int, it_list_str, it_list_list, it_list_tuple, it_bool_NoneType, it_bool_bool, it_bool_int, it_bool_str, it_bool_list, it_bool_tuple, it_int_NoneType, it_int_bool, it_int_int, it_int_str, it_int_list, it_int_tuple, it_str_NoneType, it_str_bool, it_str_int, it_str_str, it_str_list, it_str_tuple, decide_eq_true_eq, Int.reduceLT, Int.reduceNeg, and_self])
local macro_rules | `(tactic| walk_at "Y") => `(tactic| try walk_at "Z")
section
variable {s s' s2 rest r : S} {n W W' A N : Nat} {l : List D} {d : D} {m told num x y : Int} {c : List Int} {k : Lk} {p j : Nat} {o : MO} {F : Nat → Prop}
theorem callG_i1 {F : List L → S → Option (L × S)} {d : D} : kCallG 1 F (some ([.im d], s)) = kKeep (F [.im d] s) := k_callG (x := [.im d]) rfl rfl
theorem callG_sc {F : List L → S → Option (L × S)} {l : List D} : kCallG 1 F (some ([.sc l], s)) = kKeep (F [.sc l] s) := k_callG (x := [.sc l]) rfl rfl
theorem callG_3 {F : List L → S → Option (L × S)} {a b : Nat} {d : D} : kCallG 3 F (some ([.rf a, .rf b, .im d], s)) = kKeep (F [.rf a, .rf b, .im d] s) := k_callG (x := [.rf a, .rf b, .im d]) rfl rfl
theorem newR7 {a0 : D} {a1 a2 a3 : Nat} {a4 : D} {a5 a6 : Nat} : kNewR (some ([.im a0, .rf a1, .rf a2, .rf a3, .im a4, .rf a5, .rf a6], s)) = some (.rf s.length, s ++ [.rl [.im a0, .rf a1, .rf a2, .rf a3, .im a4, .rf a5, .rf a6]]) := k_newR (l := [.im a0, .rf a1, .rf a2, .rf a3, .im a4, .rf a5, .rf a6]) rfl (by show 7 ≤ 16777216; decide)
theorem newR2 {a b : Nat} : kNewR (some ([.rf a, .rf b], s)) = some (.rf s.length, s ++ [.rl [.rf a, .rf b]]) := k_newR (l := [.rf a, .rf b]) rfl (by show 2 ≤ 16777216; decide)
theorem rep_1 : rep (.tuple [.tuple [], .tuple [.int 4]]) := ⟨by decide +kernel, by decide +kernel, by decide +kernel⟩
theorem rep_2 : rep (.tuple [.tuple [], .tuple []]) := ⟨by decide +kernel, by decide +kernel, by decide +kernel⟩
theorem rep_3 : rep (.tuple [.tuple [.str "alt"], .tuple [.int 4]]) := ⟨by decide +kernel, by decide +kernel, by decide +kernel⟩
theorem rep_4 : rep (.tuple [.tuple [.str "ctrl", .str "shift"], .none]) := ⟨by decide +kernel, by decide +kernel, by decide +kernel⟩
theorem rep_5 {i : Int} : rep (.tuple [.tuple [], .tuple [.int i]]) := ⟨by
  simp [fine, fines, big], by simp [PyData.canLay0, PyData.canLayAll0], by simp [PyData.depth, PyData.depthAll]⟩
theorem report_ok : ∃ (d : D) (x' y' : Int) (c' : List Int), r_law_report [.rf 1] (Bx c x y rest) = some (.im d, Bx c' x' y' rest) ∧ rep d := by
  obtain ⟨d1, x1, y1, c1, e1, _, _⟩ := draw_ok (c := c) (x := x) (y := y) (rest := rest) (by omega : (0 : Int) < 127) (by omega : (127 : Int) < 1073741824)
  obtain ⟨d2, x2, y2, c2, e2, h20, h21⟩ := draw_ok (c := c1) (x := x1) (y := y1) (rest := rest) (by omega : (0 : Int) < 5) (by omega : (5 : Int) < 1073741824)
  unfold r_law_report d_law_report
  walk_at "Y"
  rw [e1]
  walk_at "Y"
  rw [e2]
  walk_at "Y"
  have h : d2 = 0 ∨ d2 = 1 ∨ d2 = 2 ∨ d2 = 3 ∨ d2 = 4 := by omega
  rcases h with h | h | h | h | h <;> subst h
  · exact ⟨_, x2, y2, c2, rfl, rep_1⟩
  · exact ⟨_, x2, y2, c2, rfl, rep_2⟩
  · exact ⟨_, x2, y2, c2, rfl, rep_3⟩
  · exact ⟨_, x2, y2, c2, rfl, rep_4⟩
  · exact ⟨_, x2, y2, c2, rfl, rep_5⟩
theorem mkG : kMade s.length (r_Giver_init [.rf s.length, .im (.int m)] (s ++ [.ins "Giver" []])) = some (.rf s.length, s ++ [giver m (s.length + 1) 0, .dl []]) := by
  rw [initG (by simp), k_made]
  simp
theorem mkA : kMade s.length (r_Asker_init [.rf s.length, .im (.int m)] (s ++ [.ins "Asker" []])) = some (.rf s.length, s ++ [asker m (s.length + 1), .dl []]) := by
  rw [initA (by simp), k_made]
  simp
def newLink (s : S) (m : Int) : S := s ++ [giver m (s.length + 1) 0, .dl [], asker m (s.length + 3), .dl [], .dl [], .dl [], .dl [], .rl [.im (.int m), .rf s.length, .rf (s.length + 2), .rf (s.length + 4), .im (.int 0), .rf (s.length + 5), .rf (s.length + 6)]]
theorem link_ok : r_law_link [.im (.int m)] s = some (.rf (s.length + 7), newLink s m) := by
  unfold r_law_link d_law_link
  walk_at "Y"
  rw [mkG]
  walk_at "Y"
  rw [mkA]
  walk_at "Y"
  rw [newR7]
  unfold newLink
  walk_at "Y"
  simp
theorem getAp {s l : S} {i : Nat} : (s ++ l)[s.length + i]? = l[i]? := by
  rw [List.getElem?_append_right (by omega)]
  congr 1; omega
abbrev k0 (m : Int) : Lk := ⟨m, [], 0, [], []⟩
theorem new_at : LinkAt (newLink s m) s.length (s.length + 1) (k0 m) := by
  unfold newLink
  exact ⟨by rw [show s.length = s.length + 0 from rfl, getAp]; rfl, by rw [getAp]; rfl, by rw [getAp]; rfl, by rw [getAp]; rfl, by rw [getAp]; rfl, by rw [getAp]; rfl, by rw [getAp]; rfl, by rw [getAp]; rfl, .inl rfl⟩
theorem new_good (h : 2 ≤ m) (h2 : m ≤ 20) : Good 0 (k0 m) := ⟨h, h2, Nat.le_refl _, (by intro d hd; cases hd), (by intro d hd; cases hd), (by intro d hd; cases hd), Nat.le_refl _, Nat.le_refl _, Nat.le_refl _, by omega⟩
theorem new_frame : Frame s (newLink s m) F := ⟨by unfold newLink; simp, fun j hj _ => by unfold newLink; rw [get_ap hj]⟩
theorem new_len : (newLink s m).length = s.length + 8 := by unfold newLink; simp
theorem frame_draw {c' : List Int} {x' y' : Int} : Frame (Bx c x y r) (Bx c' x' y' r) (fun j => j < 2) := ⟨Nat.le_refl _, fun j hj hn => by
  rcases j with _ | _ | j
  · exact (hn (by omega)).elim
  · exact (hn (by omega)).elim
  · rfl⟩
theorem bx_of (f : Frame (Bx c x y r) s' F) (h0 : ¬ F 0) (h1 : ¬ F 1) : ∃ r', s' = Bx c x y r' := by
  have e0 := f.eq 0 (by show 0 < r.length + 1 + 1; omega) h0
  have e1 := f.eq 1 (by show 1 < r.length + 1 + 1; omega) h1
  match s', e0, e1 with
  | [], e0, _ => cases e0
  | [_], _, e1 => cases e1
  | a :: b :: r', e0, e1 =>
    refine ⟨r', ?_⟩
    have q0 : a = MO.dl (c.map PyData.int) := Option.some.inj e0
    have q1 : b = .rl [.rf 0, .im (.int x), .im (.int y)] := Option.some.inj e1
    rw [q0, q1]
    rfl
theorem bx_length : (Bx c x y r).length = r.length + 2 := rfl
theorem okD_of {l : List D} (h : ∀ d ∈ l, d.canLay0 = true ∧ d.depth ≤ 12) : okD (.list l) = true := by
  have h1 : ∀ l : List D, (∀ d ∈ l, d.canLay0 = true ∧ d.depth ≤ 12) → PyData.canLayAll0 l = true ∧ PyData.depthAll l ≤ 12 := by
    intro l
    induction l with
    | nil => intro _; exact ⟨rfl, by simp [PyData.depthAll]⟩
    | cons a l ih =>
      intro h
      obtain ⟨i1, i2⟩ := ih fun d hd => h d (List.mem_cons_of_mem _ hd)
      obtain ⟨a1, a2⟩ := h a (by simp)
      refine ⟨by simp [PyData.canLayAll0, a1, i1], ?_⟩
      simp only [PyData.depthAll]
      omega
  obtain ⟨i1, i2⟩ := h1 l h
  unfold okD SeqAt.shaped
  simp only [PyData.canLay0, i1, Bool.true_and, decide_eq_true_eq]
  simp only [PyData.depth]
  omega
theorem ans_lay {a : D} (h : isAns a) : a.canLay0 = true ∧ a.depth ≤ 12 := by
  obtain ⟨i, r, rfl, _, h2, h3⟩ := h
  refine ⟨by simp [PyData.canLay0, PyData.canLayAll0, h2], ?_⟩
  simp only [PyData.depth, PyData.depthAll]
  omega
theorem ne_nil (h : s[n]? = some (.dl l)) (hl : okD (.list l) = true) : gNe s (.rf n) (.im (.list [])) = some (.im (.bool (!l.isEmpty))) := by
  have h0 : okD (.list []) = true := okD_ints (l := [])
  unfold gNe gEqS gEqD
  simp only [eqS, vw, h, Option.bind_none, Option.none_or, Option.bind_some, hl, h0, and_self, if_true, eqv_nil]
end
end K39
set_option Elab.async false
set_option linter.all false
set_option maxRecDepth 100000
namespace K39
open PySem PyProof.Rows L2 Zz
local macro_rules | `(tactic| walk_at "Z") => `(tactic| simp only [e_var, k_var_im, k_var_rf, k_var_ol, k_var_sc, e_c, e_op, k_op1, k_op2, k_res, e_un, k_un, e_test, k_test, e_tru, k_tru_b, e_and, e_or, e_not, k_and, k_or, k_not, e_bool, k_bool, e_if, k_if,
  e_nil, e_cons, k_cons1, k_cons2, e_tup, e_lst, k_tup0, k_tup1, k_tup2, k_tup3, k_lst0, k_lst1, k_lst2, k_lst3, k_lst4, k_lst5, k_lst6, e_frz, k_frz, e_newD, k_newD, e_newR, e_call, k_call, e_callF, k_callF, e_callG, k_callG1, k_callG2, k_callG3, k_callG4, k_keep_im, k_keep_rf, e_callP, k_callP1, k_callP2, k_callP3, k_callP4, k_resD,
  e_meth, k_m0, k_m1, k_m2, k_m3, e_make, k_mk1, k_mk2, k_made, e_or2, k_or2, k_or2n, e_fld, k_stS, e_setF, k_setF1, k_setF2, e_seq, k_seq, k_seq_rt, k_seq_bk, k_seq_ct, e_next, e_asg, k_asg_im, k_asg_rf, e_own, k_own, e_drop, k_drop, e_ret, k_ret_im, k_ret_rf, e_retV, k_retV, e_ifS, k_ifS, e_appO, k_appO, e_app, e_popAt, e_setS, k_setS1, k_setS2, k_setS3,
  e_v0, e_vl, e_vo, k_vl1, k_vo1, k_vl2, e_par, k_pr2, k_pr3, k_pr4, k_pr5, k_par2, e_put0, e_put, k_put, e_putO, e_putI, e_putR, e_putF, e_unp, e_seqI, k_seqI_l, k_seqI_t, e_rng1, e_rng2, e_for, k_for, forL_nil, k_turn, k_turn_ct, k_turn_bk, k_turn_rt, e_lc, e_runG, e_runP, k_outG, k_outGn, k_outP, k_outPn,
  e_sl, k_sl1, k_sl2, k_sl3t, k_sl3l, k_sl3s, e_nop, e_part, k_part, e_slL, k_slL1, k_slL2, e_isi, k_isi_n, k_isi_b, k_isi_i, k_isi_s, k_isi_l, k_isi_t,
  initR, sl1, List.map_cons, List.map_nil, List.length_cons, List.length_nil, Nat.reduceAdd, Nat.reduceSub, List.replicate_succ, List.replicate_zero, List.cons_append, List.nil_append, List.getElem?_cons_zero, List.getElem?_cons_succ, List.set_cons_zero, List.set_cons_succ, if_true, if_false, Bool.false_eq_true,
  bx_0, bx_1, bx_2, bx_s1, bx_s2, bx_len, bx_pop, bx_isL, g_add, g_sub, g_neg, g_lt, g_le, g_gt, g_ge, g_mulr, g_mull, g_mod, g_div, o_int, g_eqI, g_neI, g_eqB, g_neB, g_isN, g_notN, sm0, len_0, len_S, g_eqS, o_lenL, o_lenT, eq_self, decide_true, decide_false, k_pop1, k_pop2, it_tuple_NoneType, it_tuple_bool, it_tuple_int, it_tuple_str, it_tuple_list, it_tuple_tuple, it_list_NoneType, it_list_bool, it_list_int, it_list_str, it_list_list, it_list_tuple, it_bool_NoneType, it_bool_bool, it_bool_int, it_bool_str, it_bool_list, it_bool_tuple, it_int_NoneType, it_int_bool, it_int_int, it_int_str, it_int_list, it_int_tuple, it_str_NoneType, it_str_bool, it_str_int, it_str_str, it_str_list, it_str_tuple, decide_eq_true_eq, Int.reduceLT, Int.reduceNeg, and_self])
local macro_rules | `(tactic| walk_at "Y") => `(tactic| try walk_at "Z")
section
variable {s s' s2 rest r : S} {n W W' A N : Nat} {l : List D} {d : D} {m told num x y pick : Int} {c : List Int} {k : Lk} {p j : Nat} {o : MO} {F : Nat → Prop} {z1 z2 z5 z6 z7 : Slot}
def Own2 (p W j : Nat) : Prop := j < 2 ∨ Own p W j
/-- what one deed at a link leaves -/
structure Did (s s' : S) (p W N : Nat) (k : Lk) (W' : Nat) (k' : Lk) : Prop where
  L : LinkAt s' p W' k'
  G : Good (N + 1) k'
  F : Frame s s' (Own2 p W)
  w : W' = W ∨ s.length ≤ W'
theorem LinkAt.draw {c' : List Int} {x' y' : Int} (L : LinkAt (Bx c x y r) p W k) (hp : 2 ≤ p) : LinkAt (Bx c' x' y' r) p W k :=
  L.frame (frame_draw (c := c) (x := x) (y := y) (c' := c') (x' := x') (y' := y')) fun j hj q => by
    have := L.wf
    rcases hj with ⟨h1, h2⟩ | h
    · omega
    · subst h; omega
theorem own_no (L : LinkAt s p W k) (hp : 2 ≤ p) : ¬ Own p W 0 ∧ ¬ Own p W 1 := by
  have := L.wf
  refine ⟨fun h => ?_, fun h => ?_⟩
  · rcases h with ⟨h1, h2⟩ | h <;> omega
  · rcases h with ⟨h1, h2⟩ | h <;> omega
theorem Frame.own2 (f : Frame s s' (Own p W)) : Frame s s' (Own2 p W) := f.mono fun _ _ h => .inr h
theorem frame_draw2 {c' : List Int} {x' y' : Int} : Frame (Bx c x y r) (Bx c' x' y' r) (Own2 p W) := frame_draw.mono fun _ _ h => .inl h
theorem o_min2 {i j : Int} : oMin2 s [.im (.int i), .im (.int j)] = some (.im (.int (imin i j))) := rfl
theorem imin_le {i j : Int} : imin i j ≤ i := by unfold imin; split <;> omega
theorem imin_ge {i j : Int} (h : 0 ≤ i) (h2 : 0 ≤ j) : 0 ≤ imin i j := by unfold imin; split <;> omega
theorem act_put (hp : 2 ≤ p) (hN : N + 1 ≤ 1000) (hpk : pick < 2) (G : Good N k) (L : LinkAt (Bx c x y r) p W k) : ∃ z5' c' x' y' r' W' k', cl_law_loose_1_2 [.rf 1, z1, z2, .rf (p + 7), .im (.int pick), z5, z6, z7] (Bx c x y r) = some (.nx, [.rf 1, z1, z2, .rf (p + 7), .im (.int pick), z5', z6, z7], Bx c' x' y' r') ∧ Did (Bx c x y r) (Bx c' x' y' r') p W N k W' k' := by
  unfold cl_law_loose_1_2
  walk_at "Y"
  simp only [hpk, decide_true, if_true]
  walk_at "Y"
  obtain ⟨d, x1, y1, c1, e1, hd⟩ := report_ok (c := c) (x := x) (y := y) (rest := r)
  rw [e1]
  walk_at "Y"
  have L1 := L.draw (c' := c1) (x' := x1) (y' := y1) hp
  obtain ⟨e2, L2, F2⟩ := put_link (d := d) G L1
  obtain ⟨r', er⟩ := bx_of F2 (own_no L1 hp).1 (own_no L1 hp).2
  have hw := L1.wf
  rw [L1.x1]
  walk_at "Y"
  rw [k_meth1 L1.g rfl]
  walk_at "Y"
  rw [e2]
  walk_at "Y"
  have x3 : gIx (List.set (Bx c1 x1 y1 r) W (.dl (k.puts.drop k.first ++ [d]))) (.rf (p + 7)) (.im (.int 3)) = some (.rf (p + 4)) := ix_rl (by rw [get_ne (by omega)]; exact L1.l) at3 rfl
  have h4 : (List.set (Bx c1 x1 y1 r) W (.dl (k.puts.drop k.first ++ [d])))[p + 4]? = some (.dl k.puts) := by rw [get_ne (by omega)]; exact L1.pu
  rw [x3]
  walk_at "Y"
  rw [k_app1 (isLst_of h4)]
  walk_at "Y"
  rw [k_app2 (push_dl h4 (by show k.puts.length < 16777216; have := G.lp; omega))]
  walk_at "Y"
  rw [er] at L2 F2 ⊢
  exact ⟨_, _, _, _, _, W, _, rfl, L2, good_put G hd hN, frame_draw2.tr F2.own2, .inl rfl⟩
theorem act_poll (hp : 2 ≤ p) (hN : N + 1 ≤ 1000) (hpk : ¬ pick < 2) (hpk2 : pick < 4) (G : Good N k) (L : LinkAt (Bx c x y r) p W k) : ∃ z6' c' x' y' r' W' k', cl_law_loose_1_2 [.rf 1, z1, z2, .rf (p + 7), .im (.int pick), z5, z6, z7] (Bx c x y r) = some (.nx, [.rf 1, z1, z2, .rf (p + 7), .im (.int pick), z5, z6', z7], Bx c' x' y' r') ∧ Did (Bx c x y r) (Bx c' x' y' r') p W N k W' k' := by
  have hm := G.m0
  have hm2 := G.m1
  unfold cl_law_loose_1_2
  walk_at "Y"
  simp only [hpk, decide_false, Bool.false_eq_true, if_false]
  walk_at "Y"
  simp only [hpk2, decide_true, if_true]
  walk_at "Y"
  obtain ⟨d1, x1, y1, c1, e1, _, _⟩ := draw_ok (c := c) (x := x) (y := y) (rest := r) (by omega : (0 : Int) < 4) (by omega : (4 : Int) < 1073741824)
  have L1 := L.draw (c' := c1) (x' := x1) (y' := y1) hp
  rw [e1]
  walk_at "Y"
  have fin : ∀ {c2 : List Int} {x2 y2 : Int} {told : Int}, ∃ z6' c' x' y' r' W' k', kIfS (fRet (fC (.bool false))) fNext [.rf 1, z1, z2, .rf (p + 7), .im (.int pick), z5, .im (.int told), z7] (kNot (kTru (kCallG 3 r_law_answer (some ([.rf 1, .rf (p + 7), .im (.int told)], Bx c2 x2 y2 r))))) = some (.nx, [.rf 1, z1, z2, .rf (p + 7), .im (.int pick), z5, z6', z7], Bx c' x' y' r') ∧ Did (Bx c x y r) (Bx c' x' y' r') p W N k W' k' := by
    intro c2 x2 y2 told
    have L2 := L.draw (c' := c2) (x' := x2) (y' := y2) hp
    obtain ⟨s', W', e3, L3, F3, w3⟩ := answer_ok (told := told) (by omega) G L2
    obtain ⟨r', er⟩ := bx_of F3 (own_no L2 hp).1 (own_no L2 hp).2
    subst er
    walk_at "Y"
    rw [callG_3, e3]
    walk_at "Y"
    simp only [Bool.not_true, Bool.false_eq_true, if_false]
    walk_at "Y"
    exact ⟨_, _, _, _, _, W', _, rfl, L3, good_poll G hN, frame_draw2.tr F3.own2, w3⟩
  by_cases h : 0 < d1
  · simp only [h, decide_true, if_true]
    walk_at "Y"
    rw [L1.x5]
    walk_at "Y"
    rw [len_rf L1.tk]
    walk_at "Y"
    rw [L1.x0]
    walk_at "Y"
    rw [g_mod (by omega)]
    walk_at "Y"
    exact fin
  · simp only [h, decide_false, Bool.false_eq_true, if_false]
    walk_at "Y"
    rw [L1.x0]
    walk_at "Y"
    obtain ⟨d2, x2, y2, c2, e2, _, _⟩ := draw_ok (c := c1) (x := x1) (y := y1) (rest := r) (by omega : 0 < k.m) (by omega : k.m < 1073741824)
    rw [e2]
    walk_at "Y"
    exact fin
theorem act_hear (hp : 2 ≤ p) (hN : N + 1 ≤ 1000) (hpk : ¬ pick < 2) (hpk2 : ¬ pick < 4) (G : Good N k) (L : LinkAt (Bx c x y r) p W k) : ∃ z7' c' x' y' r' W' k', cl_law_loose_1_2 [.rf 1, z1, z2, .rf (p + 7), .im (.int pick), z5, z6, z7] (Bx c x y r) = some (.nx, [.rf 1, z1, z2, .rf (p + 7), .im (.int pick), z5, z6, z7'], Bx c' x' y' r') ∧ Did (Bx c x y r) (Bx c' x' y' r') p W N k W' k' := by
  unfold cl_law_loose_1_2
  walk_at "Y"
  simp only [hpk, decide_false, Bool.false_eq_true, if_false]
  walk_at "Y"
  simp only [hpk2, decide_false, Bool.false_eq_true, if_false]
  walk_at "Y"
  rw [L.x6]
  walk_at "Y"
  rw [ne_nil L.an (okD_of fun d hd => ans_lay (G.ra d hd))]
  walk_at "Y"
  by_cases h : k.ans = []
  · simp only [h, List.isEmpty_nil, Bool.not_true, Bool.false_eq_true, if_false]
    walk_at "Y"
    exact ⟨_, _, _, _, _, W, k, rfl, L, good_mono G (by omega) hN, Frame.refl, .inl rfl⟩
  · have h' : k.ans.isEmpty = false := by simpa using h
    have hlen : 0 < k.ans.length := List.length_pos_iff.mpr h
    obtain ⟨d1, x1, y1, c1, e1, d10, d11⟩ := draw_ok (c := c) (x := x) (y := y) (rest := r) (by omega : (0 : Int) < 5) (by omega : (5 : Int) < 1073741824)
    obtain ⟨d2, x2, y2, c2, e2, d20, d21⟩ := draw_ok (c := c1) (x := x1) (y := y1) (rest := r) (by omega : (0 : Int) < 2) (by omega : (2 : Int) < 1073741824)
    have L2 := L.draw (c' := c2) (x' := x2) (y' := y2) hp
    simp only [h', Bool.not_false, if_true]
    walk_at "Y"
    rw [L.x6]
    walk_at "Y"
    rw [len_rf L.an]
    walk_at "Y"
    rw [L.x6]
    walk_at "Y"
    rw [len_rf L.an]
    walk_at "Y"
    rw [e1]
    walk_at "Y"
    rw [e2]
    walk_at "Y"
    rw [g_mulr (by omega)]
    walk_at "Y"
    rw [o_min2]
    walk_at "Y"
    rw [L2.x6]
    walk_at "Y"
    have m0 := Int.mul_nonneg d10 d20
    have q0 := imin_le (i := (k.ans.length : Int) - 1) (j := d1 * d2)
    have q1 := imin_ge (i := (k.ans.length : Int) - 1) (j := d1 * d2) (by omega) m0
    generalize imin ((k.ans.length : Int) - 1) (d1 * d2) = v at q0 q1
    obtain ⟨a, ha, hm⟩ : ∃ a, atD k.ans ((k.ans.length : Int) - 1 - v) = some a ∧ isAns a := by
      have hi : ((k.ans.length : Int) - 1 - v).toNat < k.ans.length := by omega
      refine ⟨k.ans[((k.ans.length : Int) - 1 - v).toNat], ?_, G.ra _ (List.getElem_mem hi)⟩
      have := atI_nat (xs := k.ans) (j := ((k.ans.length : Int) - 1 - v).toNat) (List.getElem?_eq_getElem hi)
      rw [Int.toNat_of_nonneg (by omega)] at this
      exact this
    rw [ix_rf L2.an ha]
    walk_at "Y"
    obtain ⟨i, rp, rfl, hr⟩ := hm
    obtain ⟨s', e3, L3, F3⟩ := heard_ok (num := i) G L2 hr
    obtain ⟨r', er⟩ := bx_of F3 (own_no L2 hp).1 (own_no L2 hp).2
    subst er
    rw [e3]
    walk_at "Y"
    simp only [Bool.not_true, Bool.false_eq_true, if_false]
    walk_at "Y"
    exact ⟨_, _, _, _, _, W, _, rfl, L3, good_heard G hr hN, frame_draw2.tr F3.own2, .inl rfl⟩
theorem act (hp : 2 ≤ p) (hN : N + 1 ≤ 1000) (G : Good N k) (L : LinkAt (Bx c x y r) p W k) : ∃ z5' z6' z7' c' x' y' r' W' k', cl_law_loose_1_2 [.rf 1, z1, z2, .rf (p + 7), .im (.int pick), z5, z6, z7] (Bx c x y r) = some (.nx, [.rf 1, z1, z2, .rf (p + 7), .im (.int pick), z5', z6', z7'], Bx c' x' y' r') ∧ Did (Bx c x y r) (Bx c' x' y' r') p W N k W' k' := by
  by_cases h1 : pick < 2
  · obtain ⟨a, h⟩ := act_put (z1 := z1) (z2 := z2) (z5 := z5) (z6 := z6) (z7 := z7) hp hN h1 G L
    exact ⟨a, z6, z7, h⟩
  · by_cases h2 : pick < 4
    · obtain ⟨a, h⟩ := act_poll (z1 := z1) (z2 := z2) (z5 := z5) (z6 := z6) (z7 := z7) hp hN h1 h2 G L
      exact ⟨z5, a, z7, h⟩
    · obtain ⟨a, h⟩ := act_hear (z1 := z1) (z2 := z2) (z5 := z5) (z6 := z6) (z7 := z7) hp hN h1 h2 G L
      exact ⟨z5, z6, a, h⟩
end
end K39
set_option Elab.async false
set_option linter.all false
set_option maxRecDepth 100000
namespace K39
open PySem PyProof.Rows L2 Zz
local macro_rules | `(tactic| walk_at "Z") => `(tactic| simp only [e_var, k_var_im, k_var_rf, k_var_ol, k_var_sc, e_c, e_op, k_op1, k_op2, k_res, e_un, k_un, e_test, k_test, e_tru, k_tru_b, e_and, e_or, e_not, k_and, k_or, k_not, e_bool, k_bool, e_if, k_if,
  e_nil, e_cons, k_cons1, k_cons2, e_tup, e_lst, k_tup0, k_tup1, k_tup2, k_tup3, k_lst0, k_lst1, k_lst2, k_lst3, k_lst4, k_lst5, k_lst6, e_frz, k_frz, e_newD, k_newD, e_newR, e_call, k_call, e_callF, k_callF, e_callG, k_callG1, k_callG2, k_callG3, k_callG4, k_keep_im, k_keep_rf, e_callP, k_callP1, k_callP2, k_callP3, k_callP4, k_resD,
  e_meth, k_m0, k_m1, k_m2, k_m3, e_make, k_mk1, k_mk2, k_made, e_or2, k_or2, k_or2n, e_fld, k_stS, e_setF, k_setF1, k_setF2, e_seq, k_seq, k_seq_rt, k_seq_bk, k_seq_ct, e_next, e_asg, k_asg_im, k_asg_rf, e_own, k_own, e_drop, k_drop, e_ret, k_ret_im, k_ret_rf, e_retV, k_retV, e_ifS, k_ifS, e_appO, k_appO, e_app, e_popAt, e_setS, k_setS1, k_setS2, k_setS3,
  e_v0, e_vl, e_vo, k_vl1, k_vo1, k_vl2, e_par, k_pr2, k_pr3, k_pr4, k_pr5, k_par2, e_put0, e_put, k_put, e_putO, e_putI, e_putR, e_putF, e_unp, e_seqI, k_seqI_l, k_seqI_t, e_rng1, e_rng2, e_for, k_for, forL_nil, k_turn, k_turn_ct, k_turn_bk, k_turn_rt, e_lc, e_runG, e_runP, k_outG, k_outGn, k_outP, k_outPn,
  e_sl, k_sl1, k_sl2, k_sl3t, k_sl3l, k_sl3s, e_nop, e_part, k_part, e_slL, k_slL1, k_slL2, e_isi, k_isi_n, k_isi_b, k_isi_i, k_isi_s, k_isi_l, k_isi_t,
  initR, sl1, List.map_cons, List.map_nil, List.length_cons, List.length_nil, Nat.reduceAdd, Nat.reduceSub, List.replicate_succ, List.replicate_zero, List.cons_append, List.nil_append, List.getElem?_cons_zero, List.getElem?_cons_succ, List.set_cons_zero, List.set_cons_succ, if_true, if_false, Bool.false_eq_true,
  bx_0, bx_1, bx_2, bx_s1, bx_s2, bx_len, bx_pop, bx_isL, g_add, g_sub, g_neg, g_lt, g_le, g_gt, g_ge, g_mulr, g_mull, g_mod, g_div, o_int, g_eqI, g_neI, g_eqB, g_neB, g_isN, g_notN, sm0, len_0, len_S, g_eqS, o_lenL, o_lenT, eq_self, decide_true, decide_false, k_pop1, k_pop2, it_tuple_NoneType, it_tuple_bool, it_tuple_int, it_tuple_str, it_tuple_list, it_tuple_tuple, it_list_NoneType, it_list_bool, it_list_int, it_list_str, it_list_list, it_list_tuple, it_bool_NoneType, it_bool_bool, it_bool_int, it_bool_str, it_bool_list, it_bool_tuple, it_int_NoneType, it_int_bool, it_int_int, it_int_str, it_int_list, it_int_tuple, it_str_NoneType, it_str_bool, it_str_int, it_str_str, it_str_list, it_str_tuple, decide_eq_true_eq, Int.reduceLT, Int.reduceNeg, and_self])
local macro_rules | `(tactic| walk_at "Y") => `(tactic| try walk_at "Z")
structure Two (s : S) (p1 p2 q N W1 W2 : Nat) (k1 k2 : Lk) : Prop where
  a : LinkAt s p1 W1 k1
  b : LinkAt s p2 W2 k2
  ga : Good N k1
  gb : Good N k2
  l : s[q]? = some (.rl [.rf (p1 + 7), .rf (p2 + 7)])
  o1 : 2 ≤ p1
  o2 : p1 + 7 < p2
  o3 : p2 + 7 < q
  w1 : W1 = p1 + 1 ∨ q < W1
  w2 : W2 = p2 + 1 ∨ q < W2
  w : W1 ≠ W2
section
variable {s s' s2 rest r : S} {x y : Int} {c : List Int} {p1 p2 q N W1 W2 W' : Nat} {k1 k2 k' : Lk} {z0 z1 z2 z3 z4 z5 z6 z7 : Slot}
theorem Two.draw {c' : List Int} {x' y' : Int} (T : Two (Bx c x y r) p1 p2 q N W1 W2 k1 k2) : Two (Bx c' x' y' r) p1 p2 q N W1 W2 k1 k2 := by
  have := T.o1; have := T.o2; have := T.o3
  refine ⟨T.a.draw (by omega), T.b.draw (by omega), T.ga, T.gb, ?_, T.o1, T.o2, T.o3, T.w1, T.w2, T.w⟩
  rw [(frame_draw (c := c) (x := x) (y := y) (c' := c') (x' := x') (y' := y')).eq q (get_lt T.l) (by omega)]
  exact T.l
theorem Two.one (T : Two s p1 p2 q N W1 W2 k1 k2) (hN : N + 1 ≤ 1000) (h : Did s s' p1 W1 N k1 W' k') : Two s' p1 p2 q (N + 1) W' W2 k' k2 := by
  have i1 := T.o1; have i2 := T.o2; have i3 := T.o3; have i4 := T.w1; have i5 := T.w2; have i6 := T.w; have i7 := h.w
  have l1 := get_lt T.l; have l2 := get_lt T.b.w
  refine ⟨h.L, T.b.frame h.F fun j hj hq => ?_, h.G, good_mono T.gb (by omega) hN, ?_, T.o1, T.o2, T.o3, by omega, T.w2, by omega⟩
  · rcases hj with ⟨h1, h2⟩ | h1 <;> rcases hq with h3 | ⟨h3, h4⟩ | h3 <;> omega
  · rw [h.F.eq q l1 (fun hq => by rcases hq with h3 | ⟨h3, h4⟩ | h3 <;> omega)]
    exact T.l
theorem Two.two (T : Two s p1 p2 q N W1 W2 k1 k2) (hN : N + 1 ≤ 1000) (h : Did s s' p2 W2 N k2 W' k') : Two s' p1 p2 q (N + 1) W1 W' k1 k' := by
  have i1 := T.o1; have i2 := T.o2; have i3 := T.o3; have i4 := T.w1; have i5 := T.w2; have i6 := T.w; have i7 := h.w
  have l1 := get_lt T.l; have l2 := get_lt T.a.w
  refine ⟨T.a.frame h.F fun j hj hq => ?_, h.L, good_mono T.ga (by omega) hN, h.G, ?_, T.o1, T.o2, T.o3, T.w1, by omega, by omega⟩
  · rcases hj with ⟨h1, h2⟩ | h1 <;> rcases hq with h3 | ⟨h3, h4⟩ | h3 <;> omega
  · rw [h.F.eq q l1 (fun hq => by rcases hq with h3 | ⟨h3, h4⟩ | h3 <;> omega)]
    exact T.l
theorem l2_0 {a b : L} : atD [a, b] 0 = some a := rfl
theorem l2_1 {a b : L} : atD [a, b] 1 = some b := rfl
theorem loose_turn (T : Two (Bx c x y r) p1 p2 q N W1 W2 k1 k2) (hN : N + 1 ≤ 1000) : ∃ z3' z4' z5' z6' z7' c' x' y' r' W1' W2' k1' k2', l_law_loose_1 [.rf 1, .rf q, z2, z3, z4, z5, z6, z7] (Bx c x y r) = some (.nx, [.rf 1, .rf q, z2, z3', z4', z5', z6', z7'], Bx c' x' y' r') ∧ Two (Bx c' x' y' r') p1 p2 q (N + 1) W1' W2' k1' k2' := by
  obtain ⟨d1, x1, y1, c1, e1, d10, d11⟩ := draw_ok (c := c) (x := x) (y := y) (rest := r) (by omega : (0 : Int) < 2) (by omega : (2 : Int) < 1073741824)
  obtain ⟨d2, x2, y2, c2, e2, d20, d21⟩ := draw_ok (c := c1) (x := x1) (y := y1) (rest := r) (by omega : (0 : Int) < 6) (by omega : (6 : Int) < 1073741824)
  have T1 := T.draw (c' := c1) (x' := x1) (y' := y1)
  have T2 := T.draw (c' := c2) (x' := x2) (y' := y2)
  have o1 := T.o1; have o2 := T.o2
  rw [cl_law_loose_1_eq, e_seq]
  have e3 : cl_law_loose_1_1 [.rf 1, .rf q, z2, z3, z4, z5, z6, z7] (Bx c x y r) = some (.nx, [.rf 1, .rf q, z2, .rf ((if d1 = 0 then p1 else p2) + 7), .im (.int d2), z5, z6, z7], Bx c2 x2 y2 r) := by
    unfold cl_law_loose_1_1
    walk_at "Y"
    rw [e1]
    walk_at "Y"
    by_cases h : d1 = 0
    · subst h
      rw [ix_rl T1.l l2_0 rfl]
      walk_at "Y"
      rw [e2]
      walk_at "Y"
    · have : d1 = 1 := by omega
      subst this
      rw [ix_rl T1.l l2_1 rfl]
      walk_at "Y"
      rw [e2]
      walk_at "Y"
      rfl
  rw [e3, k_seq]
  by_cases h : d1 = 0
  · simp only [h, if_true]
    obtain ⟨a5, a6, a7, c', x', y', r', W', k', e4, D4⟩ := act (z1 := .rf q) (z2 := z2) (z5 := z5) (z6 := z6) (z7 := z7) (pick := d2) o1 hN T2.ga T2.a
    exact ⟨_, _, _, _, _, _, _, _, _, _, _, _, _, e4, T2.one hN D4⟩
  · simp only [h, if_false]
    obtain ⟨a5, a6, a7, c', x', y', r', W', k', e4, D4⟩ := act (z1 := .rf q) (z2 := z2) (z5 := z5) (z6 := z6) (z7 := z7) (pick := d2) (by omega) hN T2.gb T2.b
    exact ⟨_, _, _, _, _, _, _, _, _, _, _, _, _, e4, T2.two hN D4⟩
theorem loose_loop : ∀ (ls : List D) {N : Nat} {c : List Int} {x y : Int} {r : S} {W1 W2 : Nat} {k1 k2 : Lk} {z2 z3 z4 z5 z6 z7 : Slot}, Two (Bx c x y r) p1 p2 q N W1 W2 k1 k2 → N + ls.length ≤ 1000 →
    ∃ z2' z3' z4' z5' z6' z7' c' x' y' r', forL (.nm 2) l_law_loose_1 ls [.rf 1, .rf q, z2, z3, z4, z5, z6, z7] (Bx c x y r) = some (.nx, [.rf 1, .rf q, z2', z3', z4', z5', z6', z7'], Bx c' x' y' r') := by
  intro ls
  induction ls with
  | nil => intro N c x y r W1 W2 k1 k2 z2 z3 z4 z5 z6 z7 T hN; exact ⟨_, _, _, _, _, _, _, _, _, _, rfl⟩
  | cons d ls ih =>
    intro N c x y r W1 W2 k1 k2 z2 z3 z4 z5 z6 z7 T hN
    rw [List.length_cons] at hN
    obtain ⟨a3, a4, a5, a6, a7, c', x', y', r', W1', W2', k1', k2', e, T'⟩ := loose_turn (z2 := .im d) (z3 := z3) (z4 := z4) (z5 := z5) (z6 := z6) (z7 := z7) T (by omega)
    rw [forL_cons (ρ1 := [.rf 1, .rf q, .im d, z3, z4, z5, z6, z7]) rfl, e, k_turn]
    exact ih T' (by omega)
theorem loose_ok : ∃ c' x' y' r', r_law_loose [.rf 1] (Bx c x y r) = some (.im (.bool true), Bx c' x' y' r') := by
  obtain ⟨d1, x1, y1, c1, e1, d10, d11⟩ := draw_ok (c := c) (x := x) (y := y) (rest := r) (by omega : (0 : Int) < 15) (by omega : (15 : Int) < 1073741824)
  generalize hs1 : newLink (Bx c1 x1 y1 r) (2 + d1) = s1
  have L1 : LinkAt s1 (r.length + 2) (r.length + 2 + 1) (k0 (2 + d1)) := by rw [← hs1]; exact new_at (s := Bx c1 x1 y1 r)
  have F1 : Frame (Bx c1 x1 y1 r) s1 (fun _ => False) := by rw [← hs1]; exact new_frame
  obtain ⟨r1, hr1⟩ := bx_of F1 (fun h => h) (fun h => h)
  have n1 : s1.length = r.length + 10 := by rw [← hs1, new_len, bx_length]
  subst hr1
  obtain ⟨d2, x2, y2, c2, e2, d20, d21⟩ := draw_ok (c := c1) (x := x1) (y := y1) (rest := r1) (by omega : (0 : Int) < 3) (by omega : (3 : Int) < 1073741824)
  have n2 : (Bx c2 x2 y2 r1).length = r.length + 10 := n1
  generalize hs2 : newLink (Bx c2 x2 y2 r1) (2 + d2) = s2
  have L2 : LinkAt s2 (r.length + 10) (r.length + 10 + 1) (k0 (2 + d2)) := by rw [← hs2, ← n2]; exact new_at
  have F2 : Frame (Bx c2 x2 y2 r1) s2 (fun _ => False) := by rw [← hs2]; exact new_frame
  obtain ⟨r2, hr2⟩ := bx_of F2 (fun h => h) (fun h => h)
  have n3 : s2.length = r.length + 18 := by rw [← hs2, new_len, n2]
  subst hr2
  have L1' : LinkAt (Bx c2 x2 y2 r2) (r.length + 2) (r.length + 2 + 1) (k0 (2 + d1)) := (L1.draw (by omega)).frame F2 fun _ _ h => h
  have T : Two (Bx c2 x2 y2 r2 ++ [MO.rl [.rf (r.length + 2 + 7), .rf (r.length + 10 + 7)]]) (r.length + 2) (r.length + 10) (r.length + 18) 0 (r.length + 2 + 1) (r.length + 10 + 1) (k0 (2 + d1)) (k0 (2 + d2)) := by
    have F3 : Frame (Bx c2 x2 y2 r2) (Bx c2 x2 y2 r2 ++ [MO.rl [.rf (r.length + 2 + 7), .rf (r.length + 10 + 7)]]) (fun _ => False) := Frame.refl.app
    refine ⟨L1'.frame F3 fun _ _ h => h, L2.frame F3 fun _ _ h => h, new_good (by omega) (by omega), new_good (by omega) (by omega), ?_, by omega, by omega, by omega, .inl rfl, .inl rfl, by omega⟩
    rw [← n3]
    simp
  have T' : Two (Bx c2 x2 y2 (r2 ++ [MO.rl [.rf (r.length + 2 + 7), .rf (r.length + 10 + 7)]])) (r.length + 2) (r.length + 10) (r.length + 18) 0 (r.length + 2 + 1) (r.length + 10 + 1) (k0 (2 + d1)) (k0 (2 + d2)) := T
  obtain ⟨b2, b3, b4, b5, b6, b7, c', x', y', r', e5⟩ := loose_loop (rngD 0 60) (z2 := .un) (z3 := .un) (z4 := .un) (z5 := .un) (z6 := .un) (z7 := .un) T' (by rw [rngD_len]; omega)
  refine ⟨c', x', y', r', ?_⟩
  have k1 : r_law_link [.im (.int (2 + d1))] (Bx c1 x1 y1 r) = some (.rf (r.length + 2 + 7), Bx c1 x1 y1 r1) := by rw [link_ok, hs1]; rfl
  have k2 : r_law_link [.im (.int (2 + d2))] (Bx c2 x2 y2 r1) = some (.rf (r.length + 10 + 7), Bx c2 x2 y2 r2) := by rw [link_ok, hs2, n2]
  unfold r_law_loose
  rw [cd_law_loose_eq]
  unfold cd_law_loose_1
  walk_at "Y"
  rw [e1]
  walk_at "Y"
  rw [callG_i1, k1]
  walk_at "Y"
  rw [e2]
  walk_at "Y"
  rw [callG_i1, k2]
  walk_at "Y"
  rw [newR2, n3]
  walk_at "Y"
  unfold cd_law_loose_2
  walk_at "Y"
  rw [k_rng1 (j := 60) (decide_eq_true (by omega))]
  walk_at "Y"
  rw [show Int.toNat 60 = 60 from rfl]
  have e5' : forL (.nm 2) l_law_loose_1 (rngD 0 60) [.rf 1, .rf (r.length + 18), .un, .un, .un, .un, .un, .un] (Bx c2 x2 y2 r2 ++ [MO.rl [.rf (r.length + 2 + 7), .rf (r.length + 10 + 7)]]) = some (.nx, [.rf 1, .rf (r.length + 18), b2, b3, b4, b5, b6, b7], Bx c' x' y' r') := e5
  rw [e5']
  walk_at "Y"
  unfold cd_law_loose_3
  walk_at "Y"
end
end K39
set_option Elab.async false
set_option linter.all false
set_option maxRecDepth 100000
namespace K39
open PySem PyProof.Rows L2 Zz
/-! ### a link whose copies are less late than modulo: the numbers -/
structure Msg where
  w : Int
  i : Nat
def ansAt (m : Int) (puts : List D) (i : Nat) : D := .tuple [.int ((i : Int) % m), puts.getD i .none]
def enc (m : Int) (puts : List D) (g : Msg) : D := .tuple [.int g.w, ansAt m puts g.i]
structure Core (k : Lk) (ms : List Msg) (la q many na nm : Nat) : Prop where
  G : Good 100 k
  lm : (la : Int) + 1 ≤ k.m
  tk : k.taken = k.puts.take k.taken.length
  tl : k.taken.length ≤ k.puts.length
  f1 : k.first ≤ k.taken.length
  f2 : k.taken.length ≤ k.first + 1
  pm : k.puts.length ≤ many
  m12 : many ≤ 12
  an : k.ans.length ≤ na
  mi : ∀ g ∈ ms, g.i ≤ k.first ∧ g.i < k.puts.length ∧ (k.taken.length : Int) + g.w ≤ g.i + q + la
  so : ms.Pairwise fun a b => a.i ≤ b.i
  ml : ms.length ≤ nm
section
variable {k : Lk} {ms : List Msg} {la q many na nm N : Nat} {d : D} {m : Int} {puts : List D}
theorem Core.leN (C : Core k ms la q many na nm) {na' nm' : Nat} (h : na ≤ na') (h2 : nm ≤ nm') : Core k ms la q many na' nm' := ⟨C.G, C.lm, C.tk, C.tl, C.f1, C.f2, C.pm, C.m12, Nat.le_trans C.an h, C.mi, C.so, Nat.le_trans C.ml h2⟩
theorem good_of (G : Good N k) (h1 : k.puts.length ≤ 100) (h2 : k.taken.length ≤ 100) (h3 : k.ans.length ≤ 100) : Good 100 k := ⟨G.m0, G.m1, G.fp, G.rp, G.rt, G.ra, h1, h2, h3, by omega⟩
theorem enc_put {g : Msg} (h : g.i < puts.length) : enc m (puts ++ [d]) g = enc m puts g := by
  unfold enc ansAt
  simp [List.getD_eq_getElem?_getD, List.getElem?_append_left h]
theorem core_put (C : Core k ms la q many na nm) (hd : rep d) (h : k.puts.length < many) : Core (putK k d) ms la q many na nm := by
  have h12 := C.m12
  have tl := C.tl
  refine ⟨good_of (good_put (N := 100) C.G hd (by omega)) ?_ ?_ ?_, C.lm, ?_, ?_, C.f1, C.f2, ?_, C.m12, C.an, ?_, C.so, C.ml⟩
  · show (k.puts ++ [d]).length ≤ 100
    rw [List.length_append, List.length_singleton]; omega
  · exact C.G.lt
  · exact C.G.la
  · show k.taken = (k.puts ++ [d]).take k.taken.length
    rw [List.take_append_of_le_length tl]
    exact C.tk
  · show k.taken.length ≤ (k.puts ++ [d]).length
    rw [List.length_append]; omega
  · show (k.puts ++ [d]).length ≤ many
    rw [List.length_append, List.length_singleton]; omega
  · intro g hg
    obtain ⟨a, b, e⟩ := C.mi g hg
    refine ⟨a, ?_, e⟩
    show g.i < (k.puts ++ [d]).length
    rw [List.length_append]; omega
theorem mod_succ {t m : Int} (hm : 2 ≤ m) : ¬ t % m = (t + 1) % m := by
  intro h
  have h1 : ((t + 1) - t) % m = 0 := Int.emod_eq_emod_iff_emod_sub_eq_zero.mp h.symm
  have h2 : (t + 1) - t = 1 := by omega
  rw [h2, Int.emod_eq_of_lt (by omega) (by omega)] at h1
  omega
theorem fst_poll (C : Core k ms la q many na nm) : fst' k ((k.taken.length : Int) % k.m) = k.taken.length := by
  have f1 := C.f1; have f2 := C.f2; have tl := C.tl; have hm := C.G.m0
  unfold fst'
  by_cases h : k.first = k.taken.length
  · rw [if_neg, h]
    intro ⟨_, q⟩
    rw [h] at q
    exact mod_succ hm q
  · have e : k.taken.length = k.first + 1 := by omega
    rw [if_pos, e]
    refine ⟨by omega, ?_⟩
    rw [e]
    push_cast
    rfl
theorem drop_getD {l : List D} {i : Nat} (h : i < l.length) : l.drop i = l.getD i .none :: l.drop (i + 1) := by
  rw [List.getD_eq_getElem?_getD, List.getElem?_eq_getElem h]
  simp
theorem ans_poll (C : Core k ms la q many na nm) : (polled k ((k.taken.length : Int) % k.m)).ans = if k.taken.length < k.puts.length then k.ans ++ [ansAt k.m k.puts k.taken.length] else k.ans := by
  show ans' k (fst' k ((k.taken.length : Int) % k.m)) = _
  rw [fst_poll C]
  unfold ans'
  by_cases h : k.taken.length < k.puts.length
  · rw [if_pos h, drop_getD h]
    rfl
  · rw [if_neg h, drop_nil h]
/-- a poll; what is sent, if anything, is the first that is not taken -/
theorem core_poll (C : Core k ms la q many na nm) (hq : na + 1 ≤ 100) (ds : List Int) (hds : ∀ d ∈ ds, 0 ≤ d ∧ d ≤ la) :
    Core (polled k ((k.taken.length : Int) % k.m)) (ms ++ if k.taken.length < k.puts.length then ds.map fun d => ⟨(q : Int) + d, k.taken.length⟩ else []) la q many (na + 1) (nm + ds.length) := by
  have f1 := C.f1; have f2 := C.f2; have tl := C.tl; have pm := C.pm; have m12 := C.m12; have an := C.an
  have ea := ans_poll C
  have ef : (polled k ((k.taken.length : Int) % k.m)).first = k.taken.length := fst_poll C
  have la2 : (polled k ((k.taken.length : Int) % k.m)).ans.length ≤ na + 1 := by
    rw [ea]
    split
    · rw [List.length_append, List.length_singleton]; omega
    · omega
  refine ⟨good_of (good_poll (N := 100) C.G (by omega)) (by show k.puts.length ≤ 100; omega) (by show k.taken.length ≤ 100; omega) (by omega), C.lm, C.tk, C.tl, by rw [ef]; exact Nat.le_refl _, by rw [ef]; exact Nat.le_succ _, C.pm, C.m12, la2, ?_, ?_, ?_⟩
  · intro g hg
    rw [ef]
    rcases List.mem_append.mp hg with h | h
    · obtain ⟨a, b, e⟩ := C.mi g h
      exact ⟨by omega, b, e⟩
    · split at h
      · rename_i hlt
        obtain ⟨d, hd, rfl⟩ := List.mem_map.mp h
        have := hds d hd
        refine ⟨Nat.le_refl _, hlt, ?_⟩
        show (k.taken.length : Int) + (q + d) ≤ (k.taken.length : Int) + q + la
        omega
      · cases h
  · rw [List.pairwise_append]
    refine ⟨C.so, ?_, ?_⟩
    · split
      · rw [List.pairwise_map]
        exact List.pairwise_of_forall fun _ _ => Nat.le_refl _
      · exact List.Pairwise.nil
    · intro a ha b hb
      have := (C.mi a ha).1
      split at hb
      · obtain ⟨d, hd, rfl⟩ := List.mem_map.mp hb
        show a.i ≤ k.taken.length
        omega
      · cases hb
  · rw [List.length_append]
    have := C.ml
    split
    · rw [List.length_map]; omega
    · simp only [List.length_nil]; omega
/-- what a copy that comes in time tells: it is taken just if it is the next -/
theorem take_succ {l : List D} {t : Nat} (h : t < l.length) : l.take t ++ [l.getD t .none] = l.take (t + 1) := by
  rw [List.take_succ, List.getD_eq_getElem?_getD, List.getElem?_eq_getElem h]
  rfl
/-- the loop over the copies: which number stands behind it -/
structure Mid (k : Lk) (rest : List Msg) (la q T0 T : Nat) : Prop where
  G : Good 100 k
  lm : (la : Int) + 1 ≤ k.m
  tk : k.taken = k.puts.take T
  tl : T ≤ k.puts.length
  tt : T = T0 ∨ (T = T0 + 1 ∧ T0 ≤ k.first ∧ ∀ g ∈ rest, T0 ≤ g.i)
  fT : k.first ≤ T0
  p12 : k.puts.length ≤ 12
  mi : ∀ g ∈ rest, g.i ≤ k.first ∧ g.i < k.puts.length ∧ (T0 : Int) + g.w ≤ g.i + q + la
  so : rest.Pairwise fun a b => a.i ≤ b.i
theorem Mid.len {T0 T : Nat} {rest : List Msg} (M : Mid k rest la q T0 T) : k.taken.length = T := by
  rw [M.tk, List.length_take]
  exact Nat.min_eq_left M.tl
theorem mid_skip {T0 T : Nat} {g : Msg} {rest : List Msg} (M : Mid k (g :: rest) la q T0 T) : Mid k rest la q T0 T :=
  ⟨M.G, M.lm, M.tk, M.tl, by
    rcases M.tt with h | ⟨h1, h2, h3⟩
    · exact .inl h
    · exact .inr ⟨h1, h2, fun e he => h3 e (List.mem_cons_of_mem _ he)⟩, M.fT, M.p12, fun e he => M.mi e (List.mem_cons_of_mem _ he), (List.pairwise_cons.mp M.so).2⟩
theorem mod_eq {a b m : Int} (h0 : b ≤ a) (h : a - b < m) (e : b % m = a % m) : a = b := by
  have h1 : (a - b) % m = 0 := Int.emod_eq_emod_iff_emod_sub_eq_zero.mp e.symm
  rw [Int.emod_eq_of_lt (by omega) h] at h1
  omega
/-- a copy in its tick -/
theorem mid_heard {T0 T : Nat} {g : Msg} {rest : List Msg} (M : Mid k (g :: rest) la q T0 T) (hw : g.w = q) : ∃ T', Mid (heardK k ((g.i : Int) % k.m) (k.puts.getD g.i .none)) rest la q T0 T' ∧ T ≤ T' ∧ (g.i = T0 → T' = T0 + 1) := by
  have hm := M.G.m0
  have hlen := M.len
  have fT := M.fT
  have tl := M.tl
  have p12 := M.p12
  obtain ⟨i1, i2, i3⟩ := M.mi g (by simp)
  have lm := M.lm
  have S := mid_skip M
  rcases M.tt with h | ⟨h1, h2, h3⟩
  · subst h
    by_cases e : g.i = T
    · have ek : heardK k ((g.i : Int) % k.m) (k.puts.getD g.i .none) = { k with taken := k.taken ++ [k.puts.getD g.i .none] } := by
        unfold heardK
        rw [if_pos (by rw [hlen, e])]
      rw [ek]
      have et : k.taken ++ [k.puts.getD g.i .none] = k.puts.take (T + 1) := by
        rw [M.tk, e]; exact take_succ (by omega)
      refine ⟨T + 1, ⟨?_, M.lm, et, by show T + 1 ≤ k.puts.length; omega, .inr ⟨rfl, by show T ≤ k.first; omega, fun g' hg' => ?_⟩, M.fT, M.p12, S.mi, S.so⟩, by omega, fun _ => rfl⟩
      · refine ⟨M.G.m0, M.G.m1, M.G.fp, M.G.rp, ?_, M.G.ra, M.G.lp, ?_, M.G.la, M.G.nn⟩
        · intro d hd
          have hd' : d ∈ k.taken ++ [k.puts.getD g.i .none] := hd
          rw [et] at hd'
          exact M.G.rp d (List.mem_of_mem_take hd')
        · show (k.taken ++ [k.puts.getD g.i .none]).length ≤ 100
          rw [List.length_append, List.length_singleton]; omega
      · have := (List.pairwise_cons.mp M.so).1 g' hg'
        omega
    · have ek : heardK k ((g.i : Int) % k.m) (k.puts.getD g.i .none) = k := by
        unfold heardK
        rw [if_neg]
        intro q
        rw [hlen] at q
        have := mod_eq (a := (T : Int)) (b := (g.i : Int)) (m := k.m) (by omega) (by omega) q
        omega
      rw [ek]
      exact ⟨T, S, Nat.le_refl _, fun q => (e q).elim⟩
  · have h4 := h3 g (by simp)
    have e : g.i = T0 := by omega
    have ek : heardK k ((g.i : Int) % k.m) (k.puts.getD g.i .none) = k := by
      unfold heardK
      rw [if_neg]
      rw [hlen, h1, e]
      push_cast
      exact mod_succ hm
    rw [ek]
    exact ⟨T, S, Nat.le_refl _, fun _ => h1⟩
end
end K39
set_option Elab.async false
set_option linter.all false
set_option maxRecDepth 100000
namespace K39
open PySem PyProof.Rows L2 Zz
local macro_rules | `(tactic| walk_at "Z") => `(tactic| simp only [e_var, k_var_im, k_var_rf, k_var_ol, k_var_sc, e_c, e_op, k_op1, k_op2, k_res, e_un, k_un, e_test, k_test, e_tru, k_tru_b, e_and, e_or, e_not, k_and, k_or, k_not, e_bool, k_bool, e_if, k_if,
  e_nil, e_cons, k_cons1, k_cons2, e_tup, e_lst, k_tup0, k_tup1, k_tup2, k_tup3, k_lst0, k_lst1, k_lst2, k_lst3, k_lst4, k_lst5, k_lst6, e_frz, k_frz, e_newD, k_newD, e_newR, e_call, k_call, e_callF, k_callF, e_callG, k_callG1, k_callG2, k_callG3, k_callG4, k_keep_im, k_keep_rf, e_callP, k_callP1, k_callP2, k_callP3, k_callP4, k_resD,
  e_meth, k_m0, k_m1, k_m2, k_m3, e_make, k_mk1, k_mk2, k_made, e_or2, k_or2, k_or2n, e_fld, k_stS, e_setF, k_setF1, k_setF2, e_seq, k_seq, k_seq_rt, k_seq_bk, k_seq_ct, e_next, e_asg, k_asg_im, k_asg_rf, e_own, k_own, e_drop, k_drop, e_ret, k_ret_im, k_ret_rf, e_retV, k_retV, e_ifS, k_ifS, e_appO, k_appO, e_app, e_popAt, e_setS, k_setS1, k_setS2, k_setS3,
  e_v0, e_vl, e_vo, k_vl1, k_vo1, k_vl2, e_par, k_pr2, k_pr3, k_pr4, k_pr5, k_par2, e_put0, e_put, k_put, e_putO, e_putI, e_putR, e_putF, e_unp, e_seqI, k_seqI_l, k_seqI_t, e_rng1, e_rng2, e_for, k_for, forL_nil, k_turn, k_turn_ct, k_turn_bk, k_turn_rt, e_lc, e_runG, e_runP, k_outG, k_outGn, k_outP, k_outPn,
  e_sl, k_sl1, k_sl2, k_sl3t, k_sl3l, k_sl3s, e_nop, e_part, k_part, e_slL, k_slL1, k_slL2, e_isi, k_isi_n, k_isi_b, k_isi_i, k_isi_s, k_isi_l, k_isi_t,
  initR, sl1, List.map_cons, List.map_nil, List.length_cons, List.length_nil, Nat.reduceAdd, Nat.reduceSub, List.replicate_succ, List.replicate_zero, List.cons_append, List.nil_append, List.getElem?_cons_zero, List.getElem?_cons_succ, List.set_cons_zero, List.set_cons_succ, if_true, if_false, Bool.false_eq_true,
  bx_0, bx_1, bx_2, bx_s1, bx_s2, bx_len, bx_pop, bx_isL, g_add, g_sub, g_neg, g_lt, g_le, g_gt, g_ge, g_mulr, g_mull, g_mod, g_div, o_int, g_eqI, g_neI, g_eqB, g_neB, g_isN, g_notN, sm0, len_0, len_S, g_eqS, o_lenL, o_lenT, eq_self, decide_true, decide_false, k_pop1, k_pop2, it_tuple_NoneType, it_tuple_bool, it_tuple_int, it_tuple_str, it_tuple_list, it_tuple_tuple, it_list_NoneType, it_list_bool, it_list_int, it_list_str, it_list_list, it_list_tuple, it_bool_NoneType, it_bool_bool, it_bool_int, it_bool_str, it_bool_list, it_bool_tuple, it_int_NoneType, it_int_bool, it_int_int, it_int_str, it_int_list, it_int_tuple, it_str_NoneType, it_str_bool, it_str_int, it_str_str, it_str_list, it_str_tuple, decide_eq_true_eq, Int.reduceLT, Int.reduceNeg, and_self])
local macro_rules | `(tactic| walk_at "Y") => `(tactic| try walk_at "Z")
section
variable {s s' r : S} {x y : Int} {c : List Int} {k : Lk} {ms : List Msg} {p W la q many na nm N : Nat} {d : D} {z0 z1 z2 z3 z4 z5 z6 z7 z8 z9 z10 z11 z12 : Slot}
theorem put_link2 (G : Good N k) (L : LinkAt s p W k) : r_Giver_put [.rf p, .im d] (s.set (p + 4) (.dl (k.puts ++ [d]))) = some (.im .none, (s.set W (.dl (k.puts.drop k.first ++ [d]))).set (p + 4) (.dl (k.puts ++ [d]))) := by
  have hw := L.wf
  have hl : (k.puts.drop k.first).length < big := by
    show (k.puts.drop k.first).length < 16777216
    have := G.lp; have := G.nn
    rw [List.length_drop]
    omega
  have hg : (s.set (p + 4) (.dl (k.puts ++ [d])))[p]? = some (giver k.m W k.first) := by rw [get_ne (by omega)]; exact L.g
  have hW : (s.set (p + 4) (.dl (k.puts ++ [d])))[W]? = some (.dl (k.puts.drop k.first)) := by rw [get_ne (by omega)]; exact L.w
  rw [put_ok hg hW hl, List.set_comm _ _ (by omega)]
theorem cat_lst {a b : List D} (h : a.length + b.length ≤ 1000) : gAdd s (.im (.list a)) (.im (.list b)) = some (.im (.list (a ++ b))) := by
  unfold gAdd gI gCatL
  have h' : a.length + b.length ≤ big := by show a.length + b.length ≤ 16777216; omega
  simp only [lsV, Option.bind_some, h', if_true, Option.none_or, Option.some_or]
theorem last_of {l : List D} {a : D} : atD (l ++ [a]) (-1) = some a := atI_last _ _
def cput : FS := fSeq (fDrop (fApp (fOp gIx (fVar 2) (fC (.int 3))) (fCallG 1 r_law_report (fCons (fVar 0) fNil)))) (fDrop (fMethG "Giver" "put" 2 r_Giver_put (fOp gIx (fVar 2) (fC (.int 1))) (fCons (fOp gIx (fOp gIx (fVar 2) (fC (.int 3))) (fUn gNeg (fC (.int 1)))) fNil)))
/-- the report put, or not -/
theorem run_put (hp : 2 ≤ p) (C : Core k ms la q many na nm) (L : LinkAt (Bx c x y r) p W k) (j1 : min many (q - 20) ≤ k.puts.length) : ∃ c' x' y' r' k', cl_law_run_2_1 [.rf 1, .im (.int (la : Int)), .rf (p + 7), z3, .im (.int (many : Int)), .im (.int (q : Int)), z6, z7, z8, z9, z10, z11, z12] (Bx c x y r) = some (.nx, [.rf 1, .im (.int (la : Int)), .rf (p + 7), z3, .im (.int (many : Int)), .im (.int (q : Int)), z6, z7, z8, z9, z10, z11, z12], Bx c' x' y' r') ∧ LinkAt (Bx c' x' y' r') p W k' ∧ Core k' ms la q many na nm ∧ min many (q + 1 - 20) ≤ k'.puts.length ∧ k'.m = k.m ∧ k'.taken = k.taken ∧ ms.map (enc k'.m k'.puts) = ms.map (enc k.m k.puts) := by
  have pm := C.pm; have m12 := C.m12
  unfold cl_law_run_2_1
  rw [show (fSeq (fDrop (fApp (fOp gIx (fVar 2) (fC (.int 3))) (fCallG 1 r_law_report (fCons (fVar 0) fNil)))) (fDrop (fMethG "Giver" "put" 2 r_Giver_put (fOp gIx (fVar 2) (fC (.int 1))) (fCons (fOp gIx (fOp gIx (fVar 2) (fC (.int 3))) (fUn gNeg (fC (.int 1)))) fNil)))) = cput from rfl]
  walk_at "Y"
  rw [L.x3]
  walk_at "Y"
  rw [len_rf L.pu]
  walk_at "Y"
  by_cases h1 : k.puts.length < many
  · have h1' : (k.puts.length : Int) < (many : Int) := by omega
    obtain ⟨d1, x1, y1, c1, e1, _, _⟩ := draw_ok (c := c) (x := x) (y := y) (rest := r) (by omega : (0 : Int) < 2) (by omega : (2 : Int) < 1073741824)
    have L1 := L.draw (c' := c1) (x' := x1) (y' := y1) hp
    simp only [h1', decide_true, if_true]
    walk_at "Y"
    rw [e1]
    walk_at "Y"
    have go : ∃ c' x' y' r' k', cput [.rf 1, .im (.int (la : Int)), .rf (p + 7), z3, .im (.int (many : Int)), .im (.int (q : Int)), z6, z7, z8, z9, z10, z11, z12] (Bx c1 x1 y1 r) = some (.nx, [.rf 1, .im (.int (la : Int)), .rf (p + 7), z3, .im (.int (many : Int)), .im (.int (q : Int)), z6, z7, z8, z9, z10, z11, z12], Bx c' x' y' r') ∧ LinkAt (Bx c' x' y' r') p W k' ∧ Core k' ms la q many na nm ∧ min many (q + 1 - 20) ≤ k'.puts.length ∧ k'.m = k.m ∧ k'.taken = k.taken ∧ ms.map (enc k'.m k'.puts) = ms.map (enc k.m k.puts) := by
      obtain ⟨d, x2, y2, c2, e2, hd⟩ := report_ok (c := c1) (x := x1) (y := y1) (rest := r)
      have L2 := L.draw (c' := c2) (x' := x2) (y' := y2) hp
      have hw := L2.wf
      obtain ⟨e3, L3, F3⟩ := put_link (d := d) C.G L2
      have e4 := put_link2 (d := d) C.G L2
      obtain ⟨r', er⟩ := bx_of F3 (own_no L2 hp).1 (own_no L2 hp).2
      rw [er] at L3 e4
      unfold cput
      walk_at "Y"
      rw [L1.x3]
      walk_at "Y"
      rw [k_app1 (isLst_of L1.pu)]
      walk_at "Y"
      rw [e2]
      walk_at "Y"
      rw [k_app2 (push_dl L2.pu (by show k.puts.length < 16777216; omega))]
      walk_at "Y"
      rw [ix_rl (by rw [get_ne (by omega)]; exact L2.l) at1 rfl]
      walk_at "Y"
      rw [k_meth1 (c := "Giver") (fs := [("_modulo", .im (.int k.m)), ("_waiting", .rf W), ("_first", .im (.int (k.first : Int)))]) (by rw [get_ne (by omega)]; exact L2.g) rfl]
      walk_at "Y"
      rw [ix_rl (by rw [get_ne (by omega)]; exact L2.l) at3 rfl]
      walk_at "Y"
      rw [ix_rf (get_eq L2.pu) last_of]
      walk_at "Y"
      rw [e4]
      walk_at "Y"
      refine ⟨_, _, _, _, _, rfl, L3, core_put C hd h1, ?_, rfl, rfl, ?_⟩
      · show _ ≤ (k.puts ++ [d]).length
        rw [List.length_append, List.length_singleton]
        omega
      · apply List.map_congr_left
        intro g hg
        exact enc_put (C.mi g hg).2.1
    by_cases h2 : d1 = 0
    · simp only [h2, decide_true, if_true]
      walk_at "Y"
      exact go
    · simp only [h2, decide_false, Bool.false_eq_true, if_false]
      walk_at "Y"
      by_cases h3 : (20 : Int) ≤ (q : Int)
      · simp only [h3, decide_true, if_true]
        exact go
      · simp only [h3, decide_false, Bool.false_eq_true, if_false]
        walk_at "Y"
        exact ⟨_, _, _, _, k, rfl, L1, C, by omega, rfl, rfl, rfl⟩
  · have h1' : ¬ (k.puts.length : Int) < (many : Int) := by omega
    simp only [h1', decide_false, Bool.false_eq_true, if_false]
    walk_at "Y"
    exact ⟨_, _, _, _, k, rfl, L, C, by omega, rfl, rfl, rfl⟩
end
end K39
set_option Elab.async false
set_option linter.all false
set_option maxRecDepth 100000
namespace K39
open PySem PyProof.Rows L2 Zz
local macro_rules | `(tactic| walk_at "Z") => `(tactic| simp only [e_var, k_var_im, k_var_rf, k_var_ol, k_var_sc, e_c, e_op, k_op1, k_op2, k_res, e_un, k_un, e_test, k_test, e_tru, k_tru_b, e_and, e_or, e_not, k_and, k_or, k_not, e_bool, k_bool, e_if, k_if,
  e_nil, e_cons, k_cons1, k_cons2, e_tup, e_lst, k_tup0, k_tup1, k_tup2, k_tup3, k_lst0, k_lst1, k_lst2, k_lst3, k_lst4, k_lst5, k_lst6, e_frz, k_frz, e_newD, k_newD, e_newR, e_call, k_call, e_callF, k_callF, e_callG, k_callG1, k_callG2, k_callG3, k_callG4, k_keep_im, k_keep_rf, e_callP, k_callP1, k_callP2, k_callP3, k_callP4, k_resD,
  e_meth, k_m0, k_m1, k_m2, k_m3, e_make, k_mk1, k_mk2, k_made, e_or2, k_or2, k_or2n, e_fld, k_stS, e_setF, k_setF1, k_setF2, e_seq, k_seq, k_seq_rt, k_seq_bk, k_seq_ct, e_next, e_asg, k_asg_im, k_asg_rf, e_own, k_own, e_drop, k_drop, e_ret, k_ret_im, k_ret_rf, e_retV, k_retV, e_ifS, k_ifS, e_appO, k_appO, e_app, e_popAt, e_setS, k_setS1, k_setS2, k_setS3,
  e_v0, e_vl, e_vo, k_vl1, k_vo1, k_vl2, e_par, k_pr2, k_pr3, k_pr4, k_pr5, k_par2, e_put0, e_put, k_put, e_putO, e_putI, e_putR, e_putF, e_unp, e_seqI, k_seqI_l, k_seqI_t, e_rng1, e_rng2, e_for, k_for, forL_nil, k_turn, k_turn_ct, k_turn_bk, k_turn_rt, e_lc, e_runG, e_runP, k_outG, k_outGn, k_outP, k_outPn,
  e_sl, k_sl1, k_sl2, k_sl3t, k_sl3l, k_sl3s, e_nop, e_part, k_part, e_slL, k_slL1, k_slL2, e_isi, k_isi_n, k_isi_b, k_isi_i, k_isi_s, k_isi_l, k_isi_t,
  initR, sl1, List.map_cons, List.map_nil, List.length_cons, List.length_nil, Nat.reduceAdd, Nat.reduceSub, List.replicate_succ, List.replicate_zero, List.cons_append, List.nil_append, List.getElem?_cons_zero, List.getElem?_cons_succ, List.set_cons_zero, List.set_cons_succ, if_true, if_false, Bool.false_eq_true,
  bx_0, bx_1, bx_2, bx_s1, bx_s2, bx_len, bx_pop, bx_isL, g_add, g_sub, g_neg, g_lt, g_le, g_gt, g_ge, g_mulr, g_mull, g_mod, g_div, o_int, g_eqI, g_neI, g_eqB, g_neB, g_isN, g_notN, sm0, len_0, len_S, g_eqS, o_lenL, o_lenT, eq_self, decide_true, decide_false, k_pop1, k_pop2, it_tuple_NoneType, it_tuple_bool, it_tuple_int, it_tuple_str, it_tuple_list, it_tuple_tuple, it_list_NoneType, it_list_bool, it_list_int, it_list_str, it_list_list, it_list_tuple, it_bool_NoneType, it_bool_bool, it_bool_int, it_bool_str, it_bool_list, it_bool_tuple, it_int_NoneType, it_int_bool, it_int_int, it_int_str, it_int_list, it_int_tuple, it_str_NoneType, it_str_bool, it_str_int, it_str_str, it_str_list, it_str_tuple, decide_eq_true_eq, Int.reduceLT, Int.reduceNeg, and_self])
local macro_rules | `(tactic| walk_at "Y") => `(tactic| try walk_at "Z")
def cway : FS := (fAsg 3 (fOp gAdd (fVar 3) (fIf (fTest (fOp gGt (fCall oLen (fCons (fOp gIx (fVar 2) (fC (.int 6))) fNil)) (fVar 7))) (fFrz (fLC [12] (.nm 12) (fSeqI (fFrz (fCallF oSorted (fCons (fVar 8) fNil)))) fYes (fTup (fCons (fOp gAdd (fVar 5) (fVar 12)) (fCons (fOp gIx (fOp gIx (fVar 2) (fC (.int 6))) (fUn gNeg (fC (.int 1)))) fNil))))) (fFrz (fLst fNil)))))
def cpoll : FS := (fSeq (fAsg 7 (fCall oLen (fCons (fOp gIx (fVar 2) (fC (.int 6))) fNil))) (fSeq (fIfS (fNotT (fTru (fCallG 3 r_law_answer (fCons (fVar 0) (fCons (fVar 2) (fCons (fOp gMod (fCall oInt (fCons (fCall oLen (fCons (fOp gIx (fVar 2) (fC (.int 5))) fNil)) fNil)) (fOp gIx (fVar 2) (fC (.int 0)))) fNil)))))) (fRet (fC (.bool false))) fNext) (fSeq (fAsg 8 (fIf (fTru (fVar 6)) (fFrz (fLC [11] (.nm 11) (fRng1 (fCons (fCallG 2 r_law_draw (fCons (fVar 0) (fCons (fC (.int 4)) fNil))) fNil)) fYes (fCallG 2 r_law_draw (fCons (fVar 0) (fCons (fOp gAdd (fVar 1) (fC (.int 1))) fNil))))) (fFrz (fLst (fCons (fC (.int 0)) fNil))))) (fAsg 3 (fOp gAdd (fVar 3) (fIf (fTest (fOp gGt (fCall oLen (fCons (fOp gIx (fVar 2) (fC (.int 6))) fNil)) (fVar 7))) (fFrz (fLC [12] (.nm 12) (fSeqI (fFrz (fCallF oSorted (fCons (fVar 8) fNil)))) fYes (fTup (fCons (fOp gAdd (fVar 5) (fVar 12)) (fCons (fOp gIx (fOp gIx (fVar 2) (fC (.int 6))) (fUn gNeg (fC (.int 1)))) fNil))))) (fFrz (fLst fNil))))))))
section
variable {s s' r : S} {x y : Int} {c : List Int} {k : Lk} {ms : List Msg} {p W la q many na nm N : Nat} {d : D} {z0 z1 z2 z3 z4 z5 z6 z7 z8 z9 z10 z11 z12 : Slot}
theorem ints_map : ∀ (ds : List Int), intsOf (ds.map PyData.int) = some ds
  | [] => rfl
  | d :: ds => by show (intsOf (ds.map PyData.int)).bind _ = _; rw [ints_map ds]; rfl
theorem o_sorted {ds : List Int} : oSorted s [.im (.list (ds.map PyData.int))] = some ((isort ds).map PyData.int) := by
  show (intsOf (ds.map PyData.int)).bind _ = _
  rw [ints_map]; rfl
theorem isort_mem {ds : List Int} {e : Int} : e ∈ isort ds ↔ e ∈ ds := (List.mergeSort_perm ds _).mem_iff
theorem isort_len {ds : List Int} : (isort ds).length = ds.length := (List.mergeSort_perm ds _).length_eq
theorem copies_ok : ∀ (ls : List D) {c : List Int} {x y : Int}, la ≤ 100 → ∃ (ds : List Int) (c' : List Int) (x' y' : Int), lcL [11] (.nm 11) fYes (fCallG 2 r_law_draw (fCons (fVar 0) (fCons (fOp gAdd (fVar 1) (fC (.int 1))) fNil))) [.rf 1, .im (.int (la : Int)), z2, z3, z4, z5, z6, z7, z8, z9, z10, z11, z12] ls (Bx c x y r) = some (ds.map PyData.int, Bx c' x' y' r) ∧ ds.length = ls.length ∧ ∀ d ∈ ds, 0 ≤ d ∧ d ≤ (la : Int)
  | [], c, x, y, _ => ⟨[], c, x, y, rfl, rfl, by intro d hd; cases hd⟩
  | l :: ls, c, x, y, hla => by
    obtain ⟨d1, x1, y1, c1, e1, d10, d11⟩ := draw_ok (c := c) (x := x) (y := y) (rest := r) (by omega : (0 : Int) < (la : Int) + 1) (by omega : (la : Int) + 1 < 1073741824)
    obtain ⟨ds, c2, x2, y2, e2, h1, h2⟩ := copies_ok ls (c := c1) (x := x1) (y := y1) hla
    refine ⟨d1 :: ds, c2, x2, y2, ?_, by rw [List.length_cons, List.length_cons, h1], ?_⟩
    · refine lcL_yes (ρ1 := [.rf 1, .im (.int (la : Int)), z2, z3, z4, z5, z6, z7, z8, z9, z10, .im l, z12]) rfl rfl ?_ e2
      walk_at "Y"
      rw [e1]
      rfl
    · intro d hd
      rcases List.mem_cons.mp hd with e | hd
      · rw [e]; omega
      · exact h2 d hd
theorem fin_way {b : Bool} (hms : ms.length ≤ 500) (C : Core k ms la q many na nm) (L3 : LinkAt (Bx c x y r) p W (polled k ((k.taken.length : Int) % k.m))) (ds : List Int) (hds : ds.length ≤ 400) : cway [.rf 1, .im (.int (la : Int)), .rf (p + 7), .im (.list (ms.map (enc k.m k.puts))), .im (.int (many : Int)), .im (.int (q : Int)), .im (.bool b), .im (.int (k.ans.length : Int)), .im (.list (ds.map PyData.int)), z9, z10, z11, z12] (Bx c x y r) = some (.nx, [.rf 1, .im (.int (la : Int)), .rf (p + 7), .im (.list ((ms ++ if k.taken.length < k.puts.length then (isort ds).map fun d => Msg.mk ((q : Int) + d) k.taken.length else []).map (enc k.m k.puts))), .im (.int (many : Int)), .im (.int (q : Int)), .im (.bool b), .im (.int (k.ans.length : Int)), .im (.list (ds.map PyData.int)), z9, z10, z11, z12], Bx c x y r) := by
  have ea := ans_poll C
  unfold cway
  walk_at "Y"
  rw [L3.x6]
  walk_at "Y"
  rw [len_rf L3.an]
  walk_at "Y"
  by_cases h : k.taken.length < k.puts.length
  · rw [if_pos h] at ea
    have hlt : (k.ans.length : Int) < ((polled k ((k.taken.length : Int) % k.m)).ans.length : Int) := by
      rw [ea, List.length_append, List.length_singleton]; omega
    simp only [hlt, decide_true, if_true, h]
    walk_at "Y"
    rw [o_sorted]
    walk_at "Y"
    rw [k_lc (by rw [List.length_map, isort_len]; show ds.length ≤ 16777216; omega)]
    have lm := lcL_map (vs := [12]) (T := .nm 12) (t := fYes) (f := fTup (fCons (fOp gAdd (fVar 5) (fVar 12)) (fCons (fOp gIx (fOp gIx (fVar 2) (fC (.int 6))) (fUn gNeg (fC (.int 1)))) fNil))) (ρ := [.rf 1, .im (.int (la : Int)), .rf (p + 7), .im (.list (ms.map (enc k.m k.puts))), .im (.int (many : Int)), .im (.int (q : Int)), .im (.bool b), .im (.int (k.ans.length : Int)), .im (.list (ds.map PyData.int)), z9, z10, z11, z12]) (s := Bx c x y r) (enc := PyData.int)
      (p := fun _ => true) (g := fun d => enc k.m k.puts (Msg.mk ((q : Int) + d) k.taken.length)) (ρx := fun d => [.rf 1, .im (.int (la : Int)), .rf (p + 7), .im (.list (ms.map (enc k.m k.puts))), .im (.int (many : Int)), .im (.int (q : Int)), .im (.bool b), .im (.int (k.ans.length : Int)), .im (.list (ds.map PyData.int)), z9, z10, z11, .im (.int d)]) (xs := isort ds) (fun _ _ => rfl) (fun _ _ => rfl) (fun d _ _ => by
        walk_at "Y"
        rw [L3.x6]
        walk_at "Y"
        have an := L3.an
        rw [ea] at an
        rw [ix_rf an last_of]
        walk_at "Y"
        rfl)
    rw [lm]
    walk_at "Y"
    rw [cat_lst (by
      simp only [List.length_map]
      have := List.length_filter_le (fun _ => true) (isort ds)
      rw [isort_len] at this
      omega)]
    walk_at "Y"
    rw [List.filter_eq_self.mpr (by simp), List.map_append, List.map_map]
    rfl
  · rw [if_neg h] at ea
    have hlt : ¬ (k.ans.length : Int) < ((polled k ((k.taken.length : Int) % k.m)).ans.length : Int) := by
      rw [ea]; omega
    simp only [hlt, decide_false, Bool.false_eq_true, if_false, h]
    walk_at "Y"
    rw [cat_lst (by simp; omega)]
    walk_at "Y"
    simp only [List.append_nil]
theorem poll_body (hp : 2 ≤ p) (hq : na + 1 ≤ 100) (hla : la ≤ 100) (hms : ms.length ≤ 500) (C : Core k ms la q many na nm) (L : LinkAt (Bx c x y r) p W k) : ∃ (z7' z8' : Slot) (c' : List Int) (x' y' : Int) (r' : S) (W' : Nat) (ds : List Int), cpoll [.rf 1, .im (.int (la : Int)), .rf (p + 7), .im (.list (ms.map (enc k.m k.puts))), .im (.int (many : Int)), .im (.int (q : Int)), .im (.bool (decide ((q : Int) < 29))), z7, z8, z9, z10, z11, z12] (Bx c x y r) = some (.nx, [.rf 1, .im (.int (la : Int)), .rf (p + 7), .im (.list ((ms ++ if k.taken.length < k.puts.length then ds.map fun d => Msg.mk ((q : Int) + d) k.taken.length else []).map (enc k.m k.puts))), .im (.int (many : Int)), .im (.int (q : Int)), .im (.bool (decide ((q : Int) < 29))), z7', z8', z9, z10, z11, z12], Bx c' x' y' r') ∧ LinkAt (Bx c' x' y' r') p W' (polled k ((k.taken.length : Int) % k.m)) ∧ (∀ d ∈ ds, 0 ≤ d ∧ d ≤ (la : Int)) ∧ ds.length ≤ 3 ∧ (¬ (q : Int) < 29 → ds = [0]) := by
  have hm := C.G.m0
  obtain ⟨s', W', e3, L3, F3, w3⟩ := answer_ok (told := (k.taken.length : Int) % k.m) (N := 100) (by omega) C.G L
  obtain ⟨r', er⟩ := bx_of F3 (own_no L hp).1 (own_no L hp).2
  subst er
  unfold cpoll
  rw [show (fAsg 3 (fOp gAdd (fVar 3) (fIf (fTest (fOp gGt (fCall oLen (fCons (fOp gIx (fVar 2) (fC (.int 6))) fNil)) (fVar 7))) (fFrz (fLC [12] (.nm 12) (fSeqI (fFrz (fCallF oSorted (fCons (fVar 8) fNil)))) fYes (fTup (fCons (fOp gAdd (fVar 5) (fVar 12)) (fCons (fOp gIx (fOp gIx (fVar 2) (fC (.int 6))) (fUn gNeg (fC (.int 1)))) fNil))))) (fFrz (fLst fNil))))) = cway from rfl]
  walk_at "Y"
  rw [L.x6]
  walk_at "Y"
  rw [len_rf L.an]
  walk_at "Y"
  rw [L.x5]
  walk_at "Y"
  rw [len_rf L.tk]
  walk_at "Y"
  rw [L.x0]
  walk_at "Y"
  rw [g_mod (by omega)]
  walk_at "Y"
  rw [callG_3, e3]
  walk_at "Y"
  simp only [Bool.not_true, Bool.false_eq_true, if_false]
  walk_at "Y"
  have hl3 : (polled k ((k.taken.length : Int) % k.m)).m = k.m := rfl
  by_cases h29 : (q : Int) < 29
  · simp only [h29, if_true]
    obtain ⟨d1, x1, y1, c1, e1, d10, d11⟩ := draw_ok (c := c) (x := x) (y := y) (rest := r') (by omega : (0 : Int) < 4) (by omega : (4 : Int) < 1073741824)
    obtain ⟨ds, c2, x2, y2, e2, h1, h2⟩ := copies_ok (r := r') (la := la) (z2 := .rf (p + 7)) (z3 := .im (.list (ms.map (enc k.m k.puts)))) (z4 := .im (.int (many : Int))) (z5 := .im (.int (q : Int))) (z6 := .im (.bool (decide ((q : Int) < 29)))) (z7 := .im (.int (k.ans.length : Int))) (z8 := z8) (z9 := z9) (z10 := z10) (z11 := z11) (z12 := z12) (rngD 0 d1.toNat) (c := c1) (x := x1) (y := y1) hla
    simp only [h29, decide_true] at e2
    rw [rngD_len] at h1
    rw [e1]
    walk_at "Y"
    rw [k_rng1 (decide_eq_true (by omega)), k_lc (by rw [rngD_len]; show d1.toNat ≤ 16777216; omega), e2]
    walk_at "Y"
    have fw := fin_way (z9 := z9) (z10 := z10) (z11 := z11) (z12 := z12) (b := true) hms C (L3.draw (c' := c2) (x' := x2) (y' := y2) hp) ds (by omega)
    exact ⟨_, _, _, _, _, _, W', isort ds, fw, L3.draw hp, fun d hd => h2 d (isort_mem.mp hd), by rw [isort_len]; omega, fun q => (q trivial).elim⟩
  · simp only [h29, if_false]
    walk_at "Y"
    have fw := fin_way (z9 := z9) (z10 := z10) (z11 := z11) (z12 := z12) (b := false) hms C L3 [0] (by simp)
    exact ⟨_, _, _, _, _, _, W', isort [0], fw, L3, fun d hd => by
      have := isort_mem.mp hd
      simp at this
      omega, by rw [isort_len]; simp, fun _ => by unfold isort; simp⟩
end
end K39
set_option Elab.async false
set_option linter.all false
set_option maxRecDepth 100000
namespace K39
open PySem PyProof.Rows L2 Zz
local macro_rules | `(tactic| walk_at "Z") => `(tactic| simp only [e_var, k_var_im, k_var_rf, k_var_ol, k_var_sc, e_c, e_op, k_op1, k_op2, k_res, e_un, k_un, e_test, k_test, e_tru, k_tru_b, e_and, e_or, e_not, k_and, k_or, k_not, e_bool, k_bool, e_if, k_if,
  e_nil, e_cons, k_cons1, k_cons2, e_tup, e_lst, k_tup0, k_tup1, k_tup2, k_tup3, k_lst0, k_lst1, k_lst2, k_lst3, k_lst4, k_lst5, k_lst6, e_frz, k_frz, e_newD, k_newD, e_newR, e_call, k_call, e_callF, k_callF, e_callG, k_callG1, k_callG2, k_callG3, k_callG4, k_keep_im, k_keep_rf, e_callP, k_callP1, k_callP2, k_callP3, k_callP4, k_resD,
  e_meth, k_m0, k_m1, k_m2, k_m3, e_make, k_mk1, k_mk2, k_made, e_or2, k_or2, k_or2n, e_fld, k_stS, e_setF, k_setF1, k_setF2, e_seq, k_seq, k_seq_rt, k_seq_bk, k_seq_ct, e_next, e_asg, k_asg_im, k_asg_rf, e_own, k_own, e_drop, k_drop, e_ret, k_ret_im, k_ret_rf, e_retV, k_retV, e_ifS, k_ifS, e_appO, k_appO, e_app, e_popAt, e_setS, k_setS1, k_setS2, k_setS3,
  e_v0, e_vl, e_vo, k_vl1, k_vo1, k_vl2, e_par, k_pr2, k_pr3, k_pr4, k_pr5, k_par2, e_put0, e_put, k_put, e_putO, e_putI, e_putR, e_putF, e_unp, e_seqI, k_seqI_l, k_seqI_t, e_rng1, e_rng2, e_for, k_for, forL_nil, k_turn, k_turn_ct, k_turn_bk, k_turn_rt, e_lc, e_runG, e_runP, k_outG, k_outGn, k_outP, k_outPn,
  e_sl, k_sl1, k_sl2, k_sl3t, k_sl3l, k_sl3s, e_nop, e_part, k_part, e_slL, k_slL1, k_slL2, e_isi, k_isi_n, k_isi_b, k_isi_i, k_isi_s, k_isi_l, k_isi_t,
  initR, sl1, List.map_cons, List.map_nil, List.length_cons, List.length_nil, Nat.reduceAdd, Nat.reduceSub, List.replicate_succ, List.replicate_zero, List.cons_append, List.nil_append, List.getElem?_cons_zero, List.getElem?_cons_succ, List.set_cons_zero, List.set_cons_succ, if_true, if_false, Bool.false_eq_true,
  bx_0, bx_1, bx_2, bx_s1, bx_s2, bx_len, bx_pop, bx_isL, g_add, g_sub, g_neg, g_lt, g_le, g_gt, g_ge, g_mulr, g_mull, g_mod, g_div, o_int, g_eqI, g_neI, g_eqB, g_neB, g_isN, g_notN, sm0, len_0, len_S, g_eqS, o_lenL, o_lenT, eq_self, decide_true, decide_false, k_pop1, k_pop2, it_tuple_NoneType, it_tuple_bool, it_tuple_int, it_tuple_str, it_tuple_list, it_tuple_tuple, it_list_NoneType, it_list_bool, it_list_int, it_list_str, it_list_list, it_list_tuple, it_bool_NoneType, it_bool_bool, it_bool_int, it_bool_str, it_bool_list, it_bool_tuple, it_int_NoneType, it_int_bool, it_int_int, it_int_str, it_int_list, it_int_tuple, it_str_NoneType, it_str_bool, it_str_int, it_str_str, it_str_list, it_str_tuple, decide_eq_true_eq, Int.reduceLT, Int.reduceNeg, and_self])
local macro_rules | `(tactic| walk_at "Y") => `(tactic| try walk_at "Z")
section
variable {s s' r : S} {x y : Int} {c : List Int} {k : Lk} {ms : List Msg} {p W la q many na nm N T0 T : Nat} {d : D} {z0 z1 z2 z3 z4 z5 z6 z7 z8 z9 z10 z11 z12 : Slot}
theorem heard_puts {num : Int} : (heardK k num d).puts = k.puts := by unfold heardK; split <;> rfl
theorem heard_m {num : Int} : (heardK k num d).m = k.m := by unfold heardK; split <;> rfl
theorem heard_first {num : Int} : (heardK k num d).first = k.first := by unfold heardK; split <;> rfl
theorem heard_ans {num : Int} : (heardK k num d).ans = k.ans := by unfold heardK; split <;> rfl
theorem rep_get (G : Good N k) {i : Nat} (h : i < k.puts.length) : rep (k.puts.getD i .none) := by
  rw [List.getD_eq_getElem?_getD, List.getElem?_eq_getElem h]
  exact G.rp _ (List.getElem_mem h)
theorem deliver (hp : 2 ≤ p) {m : Int} {puts : List D} : ∀ (rest : List Msg) {k : Lk} {T : Nat} {r : S} {z9 z10 : Slot}, k.m = m → k.puts = puts → Mid k rest la q T0 T → LinkAt (Bx c x y r) p W k → ∃ z9' z10' r' k' T', forL (.tp (.cons (.nm 9) (.cons (.nm 10) .nil))) l_law_run_1 (rest.map (enc m puts)) [.rf 1, z1, .rf (p + 7), z3, z4, .im (.int (q : Int)), z6, z7, z8, z9, z10, z11, z12] (Bx c x y r) = some (.nx, [.rf 1, z1, .rf (p + 7), z3, z4, .im (.int (q : Int)), z6, z7, z8, z9', z10', z11, z12], Bx c x y r') ∧ LinkAt (Bx c x y r') p W k' ∧ Mid k' [] la q T0 T' ∧ k'.m = m ∧ k'.puts = puts ∧ k'.first = k.first ∧ k'.ans = k.ans ∧ T ≤ T' ∧ ((∃ g ∈ rest, g.w = q ∧ g.i = T0) → T' = T0 + 1)
  | [], k, T, r, z9, z10, hm, hpu, M, L => ⟨z9, z10, r, k, T, rfl, L, M, hm, hpu, rfl, rfl, Nat.le_refl _, by rintro ⟨g, hg, _⟩; cases hg⟩
  | g :: rest, k, T, r, z9, z10, hm, hpu, M, L => by
    have hg := M.mi g (by simp)
    have hr := rep_get M.G hg.2.1
    have en : enc m puts g = .tuple [.int g.w, .tuple [.int ((g.i : Int) % k.m), k.puts.getD g.i .none]] := by unfold enc ansAt; rw [hm, hpu]
    rw [List.map_cons, forL_cons (ρ1 := [.rf 1, z1, .rf (p + 7), z3, z4, .im (.int (q : Int)), z6, z7, z8, .im (.int g.w), .im (ansAt m puts g.i), z11, z12]) rfl]
    by_cases hw : g.w = (q : Int)
    · obtain ⟨T1, M1, t1, t2⟩ := mid_heard M hw
      obtain ⟨s', e3, L3, F3⟩ := heard_ok (num := (g.i : Int) % k.m) M.G L hr
      obtain ⟨r', er⟩ := bx_of F3 (own_no L hp).1 (own_no L hp).2
      subst er
      have ea : ansAt m puts g.i = .tuple [.int ((g.i : Int) % k.m), k.puts.getD g.i .none] := by unfold ansAt; rw [hm, hpu]
      have eb : l_law_run_1 [.rf 1, z1, .rf (p + 7), z3, z4, .im (.int (q : Int)), z6, z7, z8, .im (.int g.w), .im (ansAt m puts g.i), z11, z12] (Bx c x y r) = some (.nx, [.rf 1, z1, .rf (p + 7), z3, z4, .im (.int (q : Int)), z6, z7, z8, .im (.int g.w), .im (ansAt m puts g.i), z11, z12], Bx c x y r') := by
        unfold l_law_run_1
        walk_at "Y"
        simp only [hw, decide_true, if_true]
        walk_at "Y"
        rw [ea, e3]
        walk_at "Y"
        simp only [Bool.not_true, Bool.false_eq_true, if_false]
        walk_at "Y"
      rw [eb, k_turn]
      obtain ⟨a9, a10, r2, k2, T2, e4, L4, M4, h1, h2, h3, h4, h5, h6⟩ := deliver hp rest (z9 := .im (.int g.w)) (z10 := .im (ansAt m puts g.i)) (heard_m.trans hm) (heard_puts.trans hpu) M1 L3
      refine ⟨a9, a10, r2, k2, T2, e4, L4, M4, h1, h2, h3.trans heard_first, h4.trans heard_ans, Nat.le_trans t1 h5, ?_⟩
      rintro ⟨g', hg', hw', hi'⟩
      rcases List.mem_cons.mp hg' with e | hg'
      · rw [e] at hi'
        have := t2 hi'
        rcases M4.tt with q | q
        · omega
        · exact q.1
      · exact h6 ⟨g', hg', hw', hi'⟩
    · have eb : l_law_run_1 [.rf 1, z1, .rf (p + 7), z3, z4, .im (.int (q : Int)), z6, z7, z8, .im (.int g.w), .im (ansAt m puts g.i), z11, z12] (Bx c x y r) = some (.nx, [.rf 1, z1, .rf (p + 7), z3, z4, .im (.int (q : Int)), z6, z7, z8, .im (.int g.w), .im (ansAt m puts g.i), z11, z12], Bx c x y r) := by
        unfold l_law_run_1
        walk_at "Y"
        simp only [hw, decide_false, Bool.false_eq_true, if_false]
        walk_at "Y"
      rw [eb, k_turn]
      obtain ⟨a9, a10, r2, k2, T2, e4, L4, M4, h1, h2, h3, h4, h5, h6⟩ := deliver hp rest (z9 := .im (.int g.w)) (z10 := .im (ansAt m puts g.i)) hm hpu (mid_skip M) L
      refine ⟨a9, a10, r2, k2, T2, e4, L4, M4, h1, h2, h3, h4, h5, ?_⟩
      rintro ⟨g', hg', hw', hi'⟩
      rcases List.mem_cons.mp hg' with e | hg'
      · rw [e] at hw'
        exact (hw hw').elim
      · exact h6 ⟨g', hg', hw', hi'⟩
theorem mid_of (C : Core k ms la q many na nm) : Mid k ms la q k.taken.length k.taken.length := ⟨C.G, C.lm, C.tk, C.tl, .inl rfl, C.f1, by have := C.pm; have := C.m12; omega, C.mi, C.so⟩
/-- behind the copies of a tick -/
theorem core_next {k' : Lk} {T' : Nat} (C : Core k ms la q many na nm) (M : Mid k' [] la q k.taken.length T') (hm : k'.m = k.m) (hpu : k'.puts = k.puts) (hf : k'.first = k.first) (ha : k'.ans = k.ans) : Core k' ms la (q + 1) many na nm := by
  have hlen := M.len
  have ht : k'.taken.length ≤ k.taken.length + 1 := by
    rcases M.tt with h | ⟨h, _, _⟩ <;> omega
  refine ⟨M.G, M.lm, ?_, by rw [hlen]; exact M.tl, ?_, ?_, by rw [hpu]; exact C.pm, C.m12, by rw [ha]; exact C.an, ?_, C.so, C.ml⟩
  · rw [hlen]; exact M.tk
  · have := C.f1
    rw [hf]
    rcases M.tt with h | ⟨h, _, _⟩ <;> omega
  · have h2 := C.f2
    rcases M.tt with h | ⟨h, h3, _⟩ <;> omega
  · intro g hg
    obtain ⟨a, b, e⟩ := C.mi g hg
    refine ⟨by rw [hf]; exact a, by rw [hpu]; exact b, ?_⟩
    push_cast
    omega
theorem run_test (G : Good N k) (htk : k.taken = k.puts.take k.taken.length) (htl : k.taken.length ≤ k.puts.length) (L : LinkAt s p W k) : cl_law_run_2_5 [z0, z1, .rf (p + 7), z3, z4, z5, z6, z7, z8, z9, z10, z11, z12] s = some (.nx, [z0, z1, .rf (p + 7), z3, z4, z5, z6, z7, z8, z9, z10, z11, z12], s) := by
  have hl : k.taken.length ≤ 1000 := Nat.le_trans G.lt G.nn
  have hf : fine 5 (.list k.taken) = true := fine_lst (by show k.taken.length ≤ 16777216; omega) fun d hd => fine_up (G.rt d hd).1
  have h3 : kSl3 (.rf (p + 4)) none (some (some (k.taken.length : Int), s)) = some (.im (.list k.taken), s) := by
    unfold kSl3
    have : lstV s (.rf (p + 4)) = some k.puts := by unfold lstV lsV; simp only [L.pu]
    simp only [tpV, this]
    rw [cut_to htl, ← htk]
  have h4 : kCallP 2 (r_law_same 6) (some ([.rf (p + 5), .im (.list k.taken)], s)) = some (.im (.bool true), s) := by
    refine k_callPv (ds := [.list k.taken, .list k.taken]) rfl ?_ rfl (same6 hf) rfl
    unfold vwAll
    simp [vwAll, lsV, L.tk]
  unfold cl_law_run_2_5
  walk_at "Y"
  rw [L.x5]
  walk_at "Y"
  rw [L.x3]
  walk_at "Y"
  rw [L.x5]
  walk_at "Y"
  rw [len_rf L.tk]
  walk_at "Y"
  rw [h3]
  walk_at "Y"
  rw [h4]
  walk_at "Y"
  simp only [Bool.not_true, Bool.false_eq_true, if_false]
  walk_at "Y"
end
end K39
set_option Elab.async false
set_option linter.all false
set_option maxRecDepth 100000
namespace K39
open PySem PyProof.Rows L2 Zz
local macro_rules | `(tactic| walk_at "Z") => `(tactic| simp only [e_var, k_var_im, k_var_rf, k_var_ol, k_var_sc, e_c, e_op, k_op1, k_op2, k_res, e_un, k_un, e_test, k_test, e_tru, k_tru_b, e_and, e_or, e_not, k_and, k_or, k_not, e_bool, k_bool, e_if, k_if,
  e_nil, e_cons, k_cons1, k_cons2, e_tup, e_lst, k_tup0, k_tup1, k_tup2, k_tup3, k_lst0, k_lst1, k_lst2, k_lst3, k_lst4, k_lst5, k_lst6, e_frz, k_frz, e_newD, k_newD, e_newR, e_call, k_call, e_callF, k_callF, e_callG, k_callG1, k_callG2, k_callG3, k_callG4, k_keep_im, k_keep_rf, e_callP, k_callP1, k_callP2, k_callP3, k_callP4, k_resD,
  e_meth, k_m0, k_m1, k_m2, k_m3, e_make, k_mk1, k_mk2, k_made, e_or2, k_or2, k_or2n, e_fld, k_stS, e_setF, k_setF1, k_setF2, e_seq, k_seq, k_seq_rt, k_seq_bk, k_seq_ct, e_next, e_asg, k_asg_im, k_asg_rf, e_own, k_own, e_drop, k_drop, e_ret, k_ret_im, k_ret_rf, e_retV, k_retV, e_ifS, k_ifS, e_appO, k_appO, e_app, e_popAt, e_setS, k_setS1, k_setS2, k_setS3,
  e_v0, e_vl, e_vo, k_vl1, k_vo1, k_vl2, e_par, k_pr2, k_pr3, k_pr4, k_pr5, k_par2, e_put0, e_put, k_put, e_putO, e_putI, e_putR, e_putF, e_unp, e_seqI, k_seqI_l, k_seqI_t, e_rng1, e_rng2, e_for, k_for, forL_nil, k_turn, k_turn_ct, k_turn_bk, k_turn_rt, e_lc, e_runG, e_runP, k_outG, k_outGn, k_outP, k_outPn,
  e_sl, k_sl1, k_sl2, k_sl3t, k_sl3l, k_sl3s, e_nop, e_part, k_part, e_slL, k_slL1, k_slL2, e_isi, k_isi_n, k_isi_b, k_isi_i, k_isi_s, k_isi_l, k_isi_t,
  initR, sl1, List.map_cons, List.map_nil, List.length_cons, List.length_nil, Nat.reduceAdd, Nat.reduceSub, List.replicate_succ, List.replicate_zero, List.cons_append, List.nil_append, List.getElem?_cons_zero, List.getElem?_cons_succ, List.set_cons_zero, List.set_cons_succ, if_true, if_false, Bool.false_eq_true,
  bx_0, bx_1, bx_2, bx_s1, bx_s2, bx_len, bx_pop, bx_isL, g_add, g_sub, g_neg, g_lt, g_le, g_gt, g_ge, g_mulr, g_mull, g_mod, g_div, o_int, g_eqI, g_neI, g_eqB, g_neB, g_isN, g_notN, sm0, len_0, len_S, g_eqS, o_lenL, o_lenT, eq_self, decide_true, decide_false, k_pop1, k_pop2, it_tuple_NoneType, it_tuple_bool, it_tuple_int, it_tuple_str, it_tuple_list, it_tuple_tuple, it_list_NoneType, it_list_bool, it_list_int, it_list_str, it_list_list, it_list_tuple, it_bool_NoneType, it_bool_bool, it_bool_int, it_bool_str, it_bool_list, it_bool_tuple, it_int_NoneType, it_int_bool, it_int_int, it_int_str, it_int_list, it_int_tuple, it_str_NoneType, it_str_bool, it_str_int, it_str_str, it_str_list, it_str_tuple, decide_eq_true_eq, Int.reduceLT, Int.reduceNeg, and_self])
local macro_rules | `(tactic| walk_at "Y") => `(tactic| try walk_at "Z")
section
variable {s s' r : S} {x y : Int} {c : List Int} {k : Lk} {ms : List Msg} {p W la q many na nm N T0 T : Nat} {d : D} {z0 z1 z2 z3 z4 z5 z6 z7 z8 z9 z10 z11 z12 : Slot}
theorem run_poll (hp : 2 ≤ p) (hq : na + 1 ≤ 100) (hla : la ≤ 100) (hms : ms.length ≤ 500) (C : Core k ms la q many na nm) (L : LinkAt (Bx c x y r) p W k) : ∃ (z7' z8' : Slot) (c' : List Int) (x' y' : Int) (r' : S) (W' : Nat) (k' : Lk) (ms' : List Msg), cl_law_run_2_3 [.rf 1, .im (.int (la : Int)), .rf (p + 7), .im (.list (ms.map (enc k.m k.puts))), .im (.int (many : Int)), .im (.int (q : Int)), .im (.bool (decide ((q : Int) < 29))), z7, z8, z9, z10, z11, z12] (Bx c x y r) = some (.nx, [.rf 1, .im (.int (la : Int)), .rf (p + 7), .im (.list (ms'.map (enc k'.m k'.puts))), .im (.int (many : Int)), .im (.int (q : Int)), .im (.bool (decide ((q : Int) < 29))), z7', z8', z9, z10, z11, z12], Bx c' x' y' r') ∧ LinkAt (Bx c' x' y' r') p W' k' ∧ Core k' ms' la q many (na + 1) (nm + 3) ∧ k'.puts = k.puts ∧ k'.taken = k.taken ∧ (29 ≤ q → k.taken.length < k.puts.length → ∃ g ∈ ms', g.w = q ∧ g.i = k.taken.length) := by
  have go : ∀ {c : List Int} {x y : Int}, LinkAt (Bx c x y r) p W k → ∃ (z7' z8' : Slot) (c' : List Int) (x' y' : Int) (r' : S) (W' : Nat) (k' : Lk) (ms' : List Msg), cpoll [.rf 1, .im (.int (la : Int)), .rf (p + 7), .im (.list (ms.map (enc k.m k.puts))), .im (.int (many : Int)), .im (.int (q : Int)), .im (.bool (decide ((q : Int) < 29))), z7, z8, z9, z10, z11, z12] (Bx c x y r) = some (.nx, [.rf 1, .im (.int (la : Int)), .rf (p + 7), .im (.list (ms'.map (enc k'.m k'.puts))), .im (.int (many : Int)), .im (.int (q : Int)), .im (.bool (decide ((q : Int) < 29))), z7', z8', z9, z10, z11, z12], Bx c' x' y' r') ∧ LinkAt (Bx c' x' y' r') p W' k' ∧ Core k' ms' la q many (na + 1) (nm + 3) ∧ k'.puts = k.puts ∧ k'.taken = k.taken ∧ (29 ≤ q → k.taken.length < k.puts.length → ∃ g ∈ ms', g.w = q ∧ g.i = k.taken.length) := by
    intro c x y L
    obtain ⟨z7', z8', c', x', y', r', W', ds, e, L1, h1, h2, h3⟩ := poll_body (z7 := z7) (z8 := z8) (z9 := z9) (z10 := z10) (z11 := z11) (z12 := z12) hp hq hla hms C L
    refine ⟨z7', z8', c', x', y', r', W', polled k ((k.taken.length : Int) % k.m), _, e, L1, (core_poll C hq ds h1).leN (na' := na + 1) (nm' := nm + 3) (Nat.le_refl _) (Nat.add_le_add_left h2 nm), rfl, rfl, fun h29 hlt => ?_⟩
    rw [h3 (by omega), if_pos hlt]
    exact ⟨⟨(q : Int) + 0, k.taken.length⟩, by simp, by simp, rfl⟩
  unfold cl_law_run_2_3
  rw [show (fSeq (fAsg 7 (fCall oLen (fCons (fOp gIx (fVar 2) (fC (.int 6))) fNil))) (fSeq (fIfS (fNotT (fTru (fCallG 3 r_law_answer (fCons (fVar 0) (fCons (fVar 2) (fCons (fOp gMod (fCall oInt (fCons (fCall oLen (fCons (fOp gIx (fVar 2) (fC (.int 5))) fNil)) fNil)) (fOp gIx (fVar 2) (fC (.int 0)))) fNil)))))) (fRet (fC (.bool false))) fNext) (fSeq (fAsg 8 (fIf (fTru (fVar 6)) (fFrz (fLC [11] (.nm 11) (fRng1 (fCons (fCallG 2 r_law_draw (fCons (fVar 0) (fCons (fC (.int 4)) fNil))) fNil)) fYes (fCallG 2 r_law_draw (fCons (fVar 0) (fCons (fOp gAdd (fVar 1) (fC (.int 1))) fNil))))) (fFrz (fLst (fCons (fC (.int 0)) fNil))))) (fAsg 3 (fOp gAdd (fVar 3) (fIf (fTest (fOp gGt (fCall oLen (fCons (fOp gIx (fVar 2) (fC (.int 6))) fNil)) (fVar 7))) (fFrz (fLC [12] (.nm 12) (fSeqI (fFrz (fCallF oSorted (fCons (fVar 8) fNil)))) fYes (fTup (fCons (fOp gAdd (fVar 5) (fVar 12)) (fCons (fOp gIx (fOp gIx (fVar 2) (fC (.int 6))) (fUn gNeg (fC (.int 1)))) fNil))))) (fFrz (fLst fNil)))))))) = cpoll from rfl]
  walk_at "Y"
  by_cases h29 : (q : Int) < 29
  · obtain ⟨d1, x1, y1, c1, e1, _, _⟩ := draw_ok (c := c) (x := x) (y := y) (rest := r) (by omega : (0 : Int) < 3) (by omega : (3 : Int) < 1073741824)
    have L1 := L.draw (c' := c1) (x' := x1) (y' := y1) hp
    have g1 := go L1
    simp only [h29, decide_true, Bool.not_true, Bool.false_eq_true, if_false] at g1 ⊢
    walk_at "Y"
    rw [e1]
    walk_at "Y"
    by_cases h : 0 < d1
    · simp only [h, decide_true, if_true]
      walk_at "Y"
      exact g1
    · simp only [h, decide_false, Bool.false_eq_true, if_false]
      walk_at "Y"
      exact ⟨_, _, _, _, _, _, W, k, ms, rfl, L1, C.leN (na' := na + 1) (nm' := nm + 3) (Nat.le_succ _) (Nat.le_add_right _ _), rfl, rfl, fun q => by omega⟩
  · have g1 := go L
    simp only [h29, decide_false, Bool.not_false, if_true] at g1 ⊢
    walk_at "Y"
    exact g1
theorem j_a {t T : Nat} (j2 : min many (q - 29) ≤ t) (h : T = t + 1) : min many (q + 1 - 29) ≤ T := by omega
theorem j_b {pu t T : Nat} (a1 : min many (q + 1 - 20) ≤ pu) (h : ¬ t < pu) (h2 : t ≤ T) : min many (q + 1 - 29) ≤ T := by omega
theorem j_c {T : Nat} (h : ¬ 29 ≤ q) : min many (q + 1 - 29) ≤ T := by omega
theorem run_turn (hp : 2 ≤ p) (hq : na + 1 ≤ 100) (hla : la ≤ 100) (hms : ms.length ≤ 500) (C : Core k ms la q many na nm) (L : LinkAt (Bx c x y r) p W k) (j1 : min many (q - 20) ≤ k.puts.length) (j2 : min many (q - 29) ≤ k.taken.length) :
    ∃ (z6' z7' z8' z9' z10' : Slot) (c' : List Int) (x' y' : Int) (r' : S) (W' : Nat) (k' : Lk) (ms' : List Msg), l_law_run_2 [.rf 1, .im (.int (la : Int)), .rf (p + 7), .im (.list (ms.map (enc k.m k.puts))), .im (.int (many : Int)), .im (.int (q : Int)), z6, z7, z8, z9, z10, z11, z12] (Bx c x y r) = some (.nx, [.rf 1, .im (.int (la : Int)), .rf (p + 7), .im (.list (ms'.map (enc k'.m k'.puts))), .im (.int (many : Int)), .im (.int (q : Int)), z6', z7', z8', z9', z10', z11, z12], Bx c' x' y' r') ∧ LinkAt (Bx c' x' y' r') p W' k' ∧ Core k' ms' la (q + 1) many (na + 1) (nm + 3) ∧ min many (q + 1 - 20) ≤ k'.puts.length ∧ min many (q + 1 - 29) ≤ k'.taken.length := by
  obtain ⟨c1, x1, y1, r1, k1, e1, L1, C1, a1, a2, a3, a4⟩ := run_put (z3 := .im (.list (ms.map (enc k.m k.puts)))) (z6 := z6) (z7 := z7) (z8 := z8) (z9 := z9) (z10 := z10) (z11 := z11) (z12 := z12) hp C L j1
  rw [← a4] at e1 ⊢
  obtain ⟨b7, b8, c2, x2, y2, r2, W2, k2, ms2, e2, L2, C2, b1, b2, b3⟩ := run_poll (z7 := z7) (z8 := z8) (z9 := z9) (z10 := z10) (z11 := z11) (z12 := z12) hp hq hla hms C1 L1
  obtain ⟨b9, b10, r3, k3, T3, e3, L3, M3, d1, d2, d3, d4, d5, d6⟩ := deliver (c := c2) (x := x2) (y := y2) (z1 := .im (.int (la : Int))) (z3 := .im (.list (ms2.map (enc k2.m k2.puts)))) (z4 := .im (.int (many : Int))) (z6 := .im (.bool (decide ((q : Int) < 29)))) (z7 := b7) (z8 := b8) (z11 := z11) (z12 := z12) hp ms2 (z9 := z9) (z10 := z10) rfl rfl (mid_of C2) L2
  have C3 := core_next C2 M3 d1 d2 d3 d4
  have hlen := M3.len
  have e5 := run_test (z0 := .rf 1) (z1 := .im (.int (la : Int))) (z3 := .im (.list (ms2.map (enc k2.m k2.puts)))) (z4 := .im (.int (many : Int))) (z5 := .im (.int (q : Int))) (z6 := .im (.bool (decide ((q : Int) < 29)))) (z7 := b7) (z8 := b8) (z9 := b9) (z10 := b10) (z11 := z11) (z12 := z12) C3.G C3.tk C3.tl L3
  refine ⟨.im (.bool (decide ((q : Int) < 29))), b7, b8, b9, b10, c2, x2, y2, r3, W2, k3, ms2, ?_, L3, C3, by rw [d2, b1]; exact a1, ?_⟩
  · rw [cl_law_run_2_eq]
    walk_at "Y"
    rw [e1]
    walk_at "Y"
    unfold cl_law_run_2_2
    walk_at "Y"
    rw [e2]
    walk_at "Y"
    unfold cl_law_run_2_4
    walk_at "Y"
    rw [e3]
    walk_at "Y"
    rw [e5, d1, d2]
  · have hb2 : k2.taken.length = k.taken.length := by rw [b2, a3]
    rw [hlen]
    by_cases h29 : 29 ≤ q
    · by_cases hlt : k1.taken.length < k1.puts.length
      · refine j_a (t := k.taken.length) j2 ?_
        rw [← hb2]
        refine d6 ?_
        obtain ⟨g, g1, g2, g3⟩ := b3 h29 hlt
        exact ⟨g, g1, g2, by rw [g3, b2]⟩
      · rw [b2] at d5
        exact j_b a1 hlt d5
    · exact j_c h29
theorem run_loop (hp : 2 ≤ p) (hla : la ≤ 100) : ∀ (n : Nat) {q : Nat} {k : Lk} {ms : List Msg} {W : Nat} {c : List Int} {x y : Int} {r : S} {z5 z6 z7 z8 z9 z10 : Slot}, q + n ≤ 60 → Core k ms la q many q (3 * q) → LinkAt (Bx c x y r) p W k → min many (q - 20) ≤ k.puts.length → min many (q - 29) ≤ k.taken.length →
    ∃ (z3' z5' z6' z7' z8' z9' z10' : Slot) (c' : List Int) (x' y' : Int) (r' : S) (W' : Nat) (k' : Lk) (ms' : List Msg), forL (.nm 5) l_law_run_2 (rngD (q : Int) n) [.rf 1, .im (.int (la : Int)), .rf (p + 7), .im (.list (ms.map (enc k.m k.puts))), .im (.int (many : Int)), z5, z6, z7, z8, z9, z10, z11, z12] (Bx c x y r) = some (.nx, [.rf 1, .im (.int (la : Int)), .rf (p + 7), z3', .im (.int (many : Int)), z5', z6', z7', z8', z9', z10', z11, z12], Bx c' x' y' r') ∧ LinkAt (Bx c' x' y' r') p W' k' ∧ Core k' ms' la (q + n) many (q + n) (3 * (q + n)) ∧ min many (q + n - 20) ≤ k'.puts.length ∧ min many (q + n - 29) ≤ k'.taken.length
  | 0, q, k, ms, W, c, x, y, r, z5, z6, z7, z8, z9, z10, hn, C, L, j1, j2 => ⟨_, _, _, _, _, _, _, _, _, _, _, W, k, ms, rfl, L, C, j1, j2⟩
  | n + 1, q, k, ms, W, c, x, y, r, z5, z6, z7, z8, z9, z10, hn, C, L, j1, j2 => by
    have ml := C.ml
    obtain ⟨a6, a7, a8, a9, a10, c', x', y', r', W', k', ms', e, L', C', j1', j2'⟩ := run_turn (z6 := z6) (z7 := z7) (z8 := z8) (z9 := z9) (z10 := z10) (z11 := z11) (z12 := z12) hp (by omega) hla (by omega) C L j1 j2
    obtain ⟨b3, b5, b6, b7, b8, b9, b10, c2, x2, y2, r2, W2, k2, ms2, e2, L2, C2, j12, j22⟩ := run_loop hp hla n (q := q + 1) (z5 := .im (.int (q : Int))) (z6 := a6) (z7 := a7) (z8 := a8) (z9 := a9) (z10 := a10) (by omega) (C'.leN (by omega) (by omega)) L' j1' j2'
    refine ⟨b3, b5, b6, b7, b8, b9, b10, c2, x2, y2, r2, W2, k2, ms2, ?_, L2, by rw [show q + (n + 1) = q + 1 + n by omega]; exact C2, by rw [show q + (n + 1) = q + 1 + n by omega]; exact j12, by rw [show q + (n + 1) = q + 1 + n by omega]; exact j22⟩
    have rs : rngD (q : Int) (n + 1) = .int (q : Int) :: rngD ((q + 1 : Nat) : Int) n := by
      unfold rngD
      rw [List.range_succ_eq_map]
      simp only [List.map_cons, List.map_map]
      refine congr (congrArg _ (by simp)) ?_
      apply List.map_congr_left
      intro i _
      simp only [Function.comp]
      congr 1
      push_cast
      omega
    rw [rs, forL_cons (ρ1 := [.rf 1, .im (.int (la : Int)), .rf (p + 7), .im (.list (ms.map (enc k.m k.puts))), .im (.int (many : Int)), .im (.int (q : Int)), z6, z7, z8, z9, z10, z11, z12]) rfl, e, k_turn]
    exact e2
theorem run_ok : ∃ c' x' y' r', r_law_run [.rf 1] (Bx c x y r) = some (.im (.bool true), Bx c' x' y' r') := by
  obtain ⟨d1, x1, y1, c1, e1, d10, d11⟩ := draw_ok (c := c) (x := x) (y := y) (rest := r) (by omega : (0 : Int) < 13) (by omega : (13 : Int) < 1073741824)
  obtain ⟨la, rfl⟩ : ∃ la : Nat, d1 = (la : Int) := ⟨d1.toNat, by omega⟩
  have hm : ∃ (m x2 y2 : Int) (c2 : List Int), (la : Int) + 1 ≤ m ∧ 2 ≤ m ∧ m ≤ 20 ∧ fIf (fTest (fOp gGt (fVar 1) (fC (.int 0)))) (fOp gAdd (fOp gAdd (fVar 1) (fC (.int 1))) (fCallG 2 r_law_draw (fCons (fVar 0) (fCons (fOp gSub (fC (.int 16)) (fVar 1)) fNil)))) (fC (.int 2)) [.rf 1, .im (.int (la : Int)), .un, .un, .un, .un, .un, .un, .un, .un, .un, .un, .un] (Bx c1 x1 y1 r) = some (.im (.int m), Bx c2 x2 y2 r) := by
    by_cases h : 0 < (la : Int)
    · obtain ⟨d2, x2, y2, c2, e2, d20, d21⟩ := draw_ok (c := c1) (x := x1) (y := y1) (rest := r) (by omega : (0 : Int) < 16 - (la : Int)) (by omega : 16 - (la : Int) < 1073741824)
      refine ⟨(la : Int) + 1 + d2, x2, y2, c2, by omega, by omega, by omega, ?_⟩
      walk_at "Y"
      simp only [h, decide_true, if_true]
      walk_at "Y"
      rw [e2]
      walk_at "Y"
    · refine ⟨2, x1, y1, c1, by omega, by omega, by omega, ?_⟩
      walk_at "Y"
      simp only [h, decide_false, Bool.false_eq_true, if_false]
  obtain ⟨m, x2, y2, c2, m0, m1, m2, em⟩ := hm
  generalize hs1 : newLink (Bx c2 x2 y2 r) m = s1
  have L1 : LinkAt s1 (r.length + 2) (r.length + 2 + 1) (k0 m) := by rw [← hs1]; exact new_at (s := Bx c2 x2 y2 r)
  have F1 : Frame (Bx c2 x2 y2 r) s1 (fun _ => False) := by rw [← hs1]; exact new_frame
  obtain ⟨r1, hr1⟩ := bx_of F1 (fun h => h) (fun h => h)
  subst hr1
  have k1 : r_law_link [.im (.int m)] (Bx c2 x2 y2 r) = some (.rf (r.length + 2 + 7), Bx c2 x2 y2 r1) := by rw [link_ok, hs1]; rfl
  obtain ⟨d3, x3, y3, c3, e3, d30, d31⟩ := draw_ok (c := c2) (x := x2) (y := y2) (rest := r1) (by omega : (0 : Int) < 12) (by omega : (12 : Int) < 1073741824)
  obtain ⟨dn, rfl⟩ : ∃ dn : Nat, d3 = (dn : Int) := ⟨d3.toNat, by omega⟩
  have L3 := L1.draw (c' := c3) (x' := x3) (y' := y3) (by omega)
  have C0 : Core (k0 m) [] la 0 (1 + dn) 0 (3 * 0) := ⟨good_mono (new_good m1 m2) (by omega) (by omega), m0, rfl, Nat.le_refl _, Nat.le_refl _, by show 0 ≤ 0 + 1; omega, by show 0 ≤ 1 + dn; omega, by omega, Nat.le_refl _, (by intro g hg; cases hg), List.Pairwise.nil, Nat.le_refl _⟩
  obtain ⟨b3, b5, b6, b7, b8, b9, b10, c4, x4, y4, r4, W4, k4, ms4, e4, L4, C4, j14, j24⟩ := run_loop (z11 := .un) (z12 := .un) (by omega) (by omega : la ≤ 100) (30 + (1 + dn)) (q := 0) (z5 := .un) (z6 := .un) (z7 := .un) (z8 := .un) (z9 := .un) (z10 := .un) (by omega) C0 L3 (by simp) (by simp)
  refine ⟨c4, x4, y4, r4, ?_⟩
  unfold r_law_run
  rw [cd_law_run_eq]
  unfold cd_law_run_1
  walk_at "Y"
  rw [e1]
  walk_at "Y"
  have e5 : cd_law_run_2 [.rf 1, .im (.int (la : Int)), .un, .un, .un, .un, .un, .un, .un, .un, .un, .un, .un] (Bx c1 x1 y1 r) = some (.nx, [.rf 1, .im (.int (la : Int)), .rf (r.length + 2 + 7), .im (.list []), .im (.int ((1 + dn : Nat) : Int)), .un, .un, .un, .un, .un, .un, .un, .un], Bx c3 x3 y3 r1) := by
    unfold cd_law_run_2
    rw [e_par, e_vl, e_callG, e_cons, em]
    walk_at "Y"
    rw [callG_i1, k1]
    walk_at "Y"
    rw [e3]
    walk_at "Y"
    push_cast
    rfl
  rw [e5]
  walk_at "Y"
  unfold cd_law_run_3
  walk_at "Y"
  rw [k_rng1 (decide_eq_true (by omega))]
  walk_at "Y"
  rw [show (30 + ((1 + dn : Nat) : Int)).toNat = 30 + (1 + dn) by omega]
  have e4' : forL (.nm 5) l_law_run_2 (rngD 0 (30 + (1 + dn))) [.rf 1, .im (.int (la : Int)), .rf (r.length + 2 + 7), .im (.list []), .im (.int ((1 + dn : Nat) : Int)), .un, .un, .un, .un, .un, .un, .un, .un] (Bx c3 x3 y3 r1) = _ := e4
  rw [e4']
  walk_at "Y"
  unfold cd_law_run_4
  have h1 : k4.puts.length = 1 + dn := by have := C4.pm; omega
  have h2 : k4.taken.length = 1 + dn := by have := C4.tl; omega
  walk_at "Y"
  rw [L4.x3]
  walk_at "Y"
  rw [len_rf L4.pu, h1]
  walk_at "Y"
  rw [L4.x5]
  walk_at "Y"
  rw [len_rf L4.tk, h2]
  walk_at "Y"
theorem law_true : ∀ ns : List Int, ns.length ≤ 63 → ∃ s', r_law [.sc (ns.map PyData.int)] [] = some (.im (.bool true), s') := by
  intro ns h
  obtain ⟨c1, x1, y1, r1, e1⟩ := loose_ok (c := ns) (x := 0) (y := 4711 + (ns.length : Int)) (r := [])
  obtain ⟨c2, x2, y2, r2, e2⟩ := run_ok (c := c1) (x := x1) (y := y1) (r := r1)
  obtain ⟨c3, x3, y3, r3, e3⟩ := run_ok (c := c2) (x := x2) (y := y2) (r := r2)
  unfold r_law d_law
  walk_at "Y"
  rw [callG_sc, box_ok h]
  walk_at "Y"
  rw [e1]
  walk_at "Y"
  rw [e2]
  walk_at "Y"
  rw [e3]
  walk_at "Y"
  exact ⟨_, rfl⟩
end
end K39
set_option maxRecDepth 100000
set_option maxHeartbeats 8000000
namespace K39
open PySem PyProof.Rows L2 Zz
section
theorem all_mk {l : PySem.W.OpenLaw} {w : World} {K : PySem.W.Frag} {h : Heap} {mg : Str → Option Value} {fa : Addr} (X : K.In h) (G : h.Ns mainGlobals mg) (hfa : mg "law" = some (.ref fa)) {C_Giver C_Asker f_Giver_init f_Giver_waiting f_Giver_put f_Giver_poll f_Asker_init f_Asker_asks f_Asker_hear f_Asker_taken f_law_box f_law_load f_law_draw f_law_same f_law_report f_law_answer f_law_heard f_law_link f_law_loose f_law_run f_law : Addr} {od_Giver_init an_Giver_init od_Giver_waiting an_Giver_waiting od_Giver_put an_Giver_put od_Giver_poll an_Giver_poll od_Asker_init an_Asker_init od_Asker_asks an_Asker_asks od_Asker_hear an_Asker_hear od_Asker_taken an_Asker_taken od_law_box an_law_box od_law_load an_law_load od_law_draw an_law_draw od_law_same an_law_same od_law_report an_law_report od_law_answer an_law_answer od_law_heard an_law_heard od_law_link an_law_link od_law_loose an_law_loose od_law_run an_law_run od_law an_law : Option Addr} {sl_Giver_init sl_Giver_waiting sl_Giver_put sl_Giver_poll sl_Asker_init sl_Asker_asks sl_Asker_hear sl_Asker_taken sl_law_box sl_law_load sl_law_draw sl_law_same sl_law_report sl_law_answer sl_law_heard sl_law_link sl_law_loose sl_law_run sl_law : Array (Option Value)} {oc_Giver_init kV_Giver_init dc_Giver_init pm_Giver_init cd_Giver_init ct_Giver_init oc_Giver_waiting kV_Giver_waiting dc_Giver_waiting pm_Giver_waiting cd_Giver_waiting ct_Giver_waiting oc_Giver_put kV_Giver_put dc_Giver_put pm_Giver_put cd_Giver_put ct_Giver_put oc_Giver_poll kV_Giver_poll dc_Giver_poll pm_Giver_poll cd_Giver_poll ct_Giver_poll oc_Asker_init kV_Asker_init dc_Asker_init pm_Asker_init cd_Asker_init ct_Asker_init oc_Asker_asks kV_Asker_asks dc_Asker_asks pm_Asker_asks cd_Asker_asks ct_Asker_asks oc_Asker_hear kV_Asker_hear dc_Asker_hear pm_Asker_hear cd_Asker_hear ct_Asker_hear oc_Asker_taken kV_Asker_taken dc_Asker_taken pm_Asker_taken cd_Asker_taken ct_Asker_taken oc_law_box kV_law_box dc_law_box pm_law_box cd_law_box ct_law_box oc_law_load kV_law_load dc_law_load pm_law_load cd_law_load ct_law_load oc_law_draw kV_law_draw dc_law_draw pm_law_draw cd_law_draw ct_law_draw oc_law_same kV_law_same dc_law_same pm_law_same cd_law_same ct_law_same oc_law_report kV_law_report dc_law_report pm_law_report cd_law_report ct_law_report oc_law_answer kV_law_answer dc_law_answer pm_law_answer cd_law_answer ct_law_answer oc_law_heard kV_law_heard dc_law_heard pm_law_heard cd_law_heard ct_law_heard oc_law_link kV_law_link dc_law_link pm_law_link cd_law_link ct_law_link oc_law_loose kV_law_loose dc_law_loose pm_law_loose cd_law_loose ct_law_loose oc_law_run kV_law_run dc_law_run pm_law_run cd_law_run ct_law_run oc_law kV_law dc_law pm_law cd_law ct_law : Value}
    (aC_Giver : PySem.W.nsIn K mainGlobals "Giver" = some (some (.ref C_Giver)))
    (aC_Asker : PySem.W.nsIn K mainGlobals "Asker" = some (some (.ref C_Asker)))
    (a_Giver_init : PySem.W.findIn K (.ref C_Giver) "__init__" = some (some (.ref f_Giver_init)))
    (i_Giver_init : PySem.W.isFn K (.ref f_Giver_init) = true)
    (l_Giver_init : K.lookup f_Giver_init = some ⟨oc_Giver_init, od_Giver_init, .func (PySem.W.fnOf "__init__" "Giver.__init__" (defArgs s_Giver_init) (defBody s_Giver_init) (defScope s_Giver_init) .none kV_Giver_init dc_Giver_init pm_Giver_init an_Giver_init cd_Giver_init ct_Giver_init), sl_Giver_init⟩)
    (c_Giver_init : PySem.W.codeIn K cd_Giver_init "Giver.__init__" = true)
    (k_Giver_init : PySem.W.keepIn K (.ref f_Giver_init) = true)
    (a_Giver_waiting : PySem.W.findIn K (.ref C_Giver) "waiting" = some (some (.ref f_Giver_waiting)))
    (i_Giver_waiting : PySem.W.isFn K (.ref f_Giver_waiting) = true)
    (l_Giver_waiting : K.lookup f_Giver_waiting = some ⟨oc_Giver_waiting, od_Giver_waiting, .func (PySem.W.fnOf "waiting" "Giver.waiting" (defArgs s_Giver_waiting) (defBody s_Giver_waiting) (defScope s_Giver_waiting) .none kV_Giver_waiting dc_Giver_waiting pm_Giver_waiting an_Giver_waiting cd_Giver_waiting ct_Giver_waiting), sl_Giver_waiting⟩)
    (c_Giver_waiting : PySem.W.codeIn K cd_Giver_waiting "Giver.waiting" = true)
    (k_Giver_waiting : PySem.W.keepIn K (.ref f_Giver_waiting) = true)
    (a_Giver_put : PySem.W.findIn K (.ref C_Giver) "put" = some (some (.ref f_Giver_put)))
    (i_Giver_put : PySem.W.isFn K (.ref f_Giver_put) = true)
    (l_Giver_put : K.lookup f_Giver_put = some ⟨oc_Giver_put, od_Giver_put, .func (PySem.W.fnOf "put" "Giver.put" (defArgs s_Giver_put) (defBody s_Giver_put) (defScope s_Giver_put) .none kV_Giver_put dc_Giver_put pm_Giver_put an_Giver_put cd_Giver_put ct_Giver_put), sl_Giver_put⟩)
    (c_Giver_put : PySem.W.codeIn K cd_Giver_put "Giver.put" = true)
    (k_Giver_put : PySem.W.keepIn K (.ref f_Giver_put) = true)
    (a_Giver_poll : PySem.W.findIn K (.ref C_Giver) "poll" = some (some (.ref f_Giver_poll)))
    (i_Giver_poll : PySem.W.isFn K (.ref f_Giver_poll) = true)
    (l_Giver_poll : K.lookup f_Giver_poll = some ⟨oc_Giver_poll, od_Giver_poll, .func (PySem.W.fnOf "poll" "Giver.poll" (defArgs s_Giver_poll) (defBody s_Giver_poll) (defScope s_Giver_poll) .none kV_Giver_poll dc_Giver_poll pm_Giver_poll an_Giver_poll cd_Giver_poll ct_Giver_poll), sl_Giver_poll⟩)
    (c_Giver_poll : PySem.W.codeIn K cd_Giver_poll "Giver.poll" = true)
    (k_Giver_poll : PySem.W.keepIn K (.ref f_Giver_poll) = true)
    (a_Asker_init : PySem.W.findIn K (.ref C_Asker) "__init__" = some (some (.ref f_Asker_init)))
    (i_Asker_init : PySem.W.isFn K (.ref f_Asker_init) = true)
    (l_Asker_init : K.lookup f_Asker_init = some ⟨oc_Asker_init, od_Asker_init, .func (PySem.W.fnOf "__init__" "Asker.__init__" (defArgs s_Asker_init) (defBody s_Asker_init) (defScope s_Asker_init) .none kV_Asker_init dc_Asker_init pm_Asker_init an_Asker_init cd_Asker_init ct_Asker_init), sl_Asker_init⟩)
    (c_Asker_init : PySem.W.codeIn K cd_Asker_init "Asker.__init__" = true)
    (k_Asker_init : PySem.W.keepIn K (.ref f_Asker_init) = true)
    (a_Asker_asks : PySem.W.findIn K (.ref C_Asker) "asks" = some (some (.ref f_Asker_asks)))
    (i_Asker_asks : PySem.W.isFn K (.ref f_Asker_asks) = true)
    (l_Asker_asks : K.lookup f_Asker_asks = some ⟨oc_Asker_asks, od_Asker_asks, .func (PySem.W.fnOf "asks" "Asker.asks" (defArgs s_Asker_asks) (defBody s_Asker_asks) (defScope s_Asker_asks) .none kV_Asker_asks dc_Asker_asks pm_Asker_asks an_Asker_asks cd_Asker_asks ct_Asker_asks), sl_Asker_asks⟩)
    (c_Asker_asks : PySem.W.codeIn K cd_Asker_asks "Asker.asks" = true)
    (k_Asker_asks : PySem.W.keepIn K (.ref f_Asker_asks) = true)
    (a_Asker_hear : PySem.W.findIn K (.ref C_Asker) "hear" = some (some (.ref f_Asker_hear)))
    (i_Asker_hear : PySem.W.isFn K (.ref f_Asker_hear) = true)
    (l_Asker_hear : K.lookup f_Asker_hear = some ⟨oc_Asker_hear, od_Asker_hear, .func (PySem.W.fnOf "hear" "Asker.hear" (defArgs s_Asker_hear) (defBody s_Asker_hear) (defScope s_Asker_hear) .none kV_Asker_hear dc_Asker_hear pm_Asker_hear an_Asker_hear cd_Asker_hear ct_Asker_hear), sl_Asker_hear⟩)
    (c_Asker_hear : PySem.W.codeIn K cd_Asker_hear "Asker.hear" = true)
    (k_Asker_hear : PySem.W.keepIn K (.ref f_Asker_hear) = true)
    (a_Asker_taken : PySem.W.findIn K (.ref C_Asker) "taken" = some (some (.ref f_Asker_taken)))
    (i_Asker_taken : PySem.W.isFn K (.ref f_Asker_taken) = true)
    (l_Asker_taken : K.lookup f_Asker_taken = some ⟨oc_Asker_taken, od_Asker_taken, .func (PySem.W.fnOf "taken" "Asker.taken" (defArgs s_Asker_taken) (defBody s_Asker_taken) (defScope s_Asker_taken) .none kV_Asker_taken dc_Asker_taken pm_Asker_taken an_Asker_taken cd_Asker_taken ct_Asker_taken), sl_Asker_taken⟩)
    (c_Asker_taken : PySem.W.codeIn K cd_Asker_taken "Asker.taken" = true)
    (k_Asker_taken : PySem.W.keepIn K (.ref f_Asker_taken) = true)
    (a_law_box : PySem.W.nsIn K mainGlobals "_law_box" = some (some (.ref f_law_box)))
    (l_law_box : K.lookup f_law_box = some ⟨oc_law_box, od_law_box, .func (PySem.W.fnOf "_law_box" "_law_box" (defArgs s_law_box) (defBody s_law_box) (defScope s_law_box) .none kV_law_box dc_law_box pm_law_box an_law_box cd_law_box ct_law_box), sl_law_box⟩)
    (c_law_box : PySem.W.codeIn K cd_law_box "_law_box" = true)
    (k_law_box : PySem.W.keepIn K (.ref f_law_box) = true)
    (a_law_load : PySem.W.nsIn K mainGlobals "_law_load" = some (some (.ref f_law_load)))
    (l_law_load : K.lookup f_law_load = some ⟨oc_law_load, od_law_load, .func (PySem.W.fnOf "_law_load" "_law_load" (defArgs s_law_load) (defBody s_law_load) (defScope s_law_load) .none kV_law_load dc_law_load pm_law_load an_law_load cd_law_load ct_law_load), sl_law_load⟩)
    (c_law_load : PySem.W.codeIn K cd_law_load "_law_load" = true)
    (k_law_load : PySem.W.keepIn K (.ref f_law_load) = true)
    (a_law_draw : PySem.W.nsIn K mainGlobals "_law_draw" = some (some (.ref f_law_draw)))
    (l_law_draw : K.lookup f_law_draw = some ⟨oc_law_draw, od_law_draw, .func (PySem.W.fnOf "_law_draw" "_law_draw" (defArgs s_law_draw) (defBody s_law_draw) (defScope s_law_draw) .none kV_law_draw dc_law_draw pm_law_draw an_law_draw cd_law_draw ct_law_draw), sl_law_draw⟩)
    (c_law_draw : PySem.W.codeIn K cd_law_draw "_law_draw" = true)
    (k_law_draw : PySem.W.keepIn K (.ref f_law_draw) = true)
    (a_law_same : PySem.W.nsIn K mainGlobals "_law_same" = some (some (.ref f_law_same)))
    (l_law_same : K.lookup f_law_same = some ⟨oc_law_same, od_law_same, .func (PySem.W.fnOf "_law_same" "_law_same" (defArgs s_law_same) (defBody s_law_same) (defScope s_law_same) .none kV_law_same dc_law_same pm_law_same an_law_same cd_law_same ct_law_same), sl_law_same⟩)
    (c_law_same : PySem.W.codeIn K cd_law_same "_law_same" = true)
    (k_law_same : PySem.W.keepIn K (.ref f_law_same) = true)
    (a_law_report : PySem.W.nsIn K mainGlobals "_law_report" = some (some (.ref f_law_report)))
    (l_law_report : K.lookup f_law_report = some ⟨oc_law_report, od_law_report, .func (PySem.W.fnOf "_law_report" "_law_report" (defArgs s_law_report) (defBody s_law_report) (defScope s_law_report) .none kV_law_report dc_law_report pm_law_report an_law_report cd_law_report ct_law_report), sl_law_report⟩)
    (c_law_report : PySem.W.codeIn K cd_law_report "_law_report" = true)
    (k_law_report : PySem.W.keepIn K (.ref f_law_report) = true)
    (a_law_answer : PySem.W.nsIn K mainGlobals "_law_answer" = some (some (.ref f_law_answer)))
    (l_law_answer : K.lookup f_law_answer = some ⟨oc_law_answer, od_law_answer, .func (PySem.W.fnOf "_law_answer" "_law_answer" (defArgs s_law_answer) (defBody s_law_answer) (defScope s_law_answer) .none kV_law_answer dc_law_answer pm_law_answer an_law_answer cd_law_answer ct_law_answer), sl_law_answer⟩)
    (c_law_answer : PySem.W.codeIn K cd_law_answer "_law_answer" = true)
    (k_law_answer : PySem.W.keepIn K (.ref f_law_answer) = true)
    (a_law_heard : PySem.W.nsIn K mainGlobals "_law_heard" = some (some (.ref f_law_heard)))
    (l_law_heard : K.lookup f_law_heard = some ⟨oc_law_heard, od_law_heard, .func (PySem.W.fnOf "_law_heard" "_law_heard" (defArgs s_law_heard) (defBody s_law_heard) (defScope s_law_heard) .none kV_law_heard dc_law_heard pm_law_heard an_law_heard cd_law_heard ct_law_heard), sl_law_heard⟩)
    (c_law_heard : PySem.W.codeIn K cd_law_heard "_law_heard" = true)
    (k_law_heard : PySem.W.keepIn K (.ref f_law_heard) = true)
    (a_law_link : PySem.W.nsIn K mainGlobals "_law_link" = some (some (.ref f_law_link)))
    (l_law_link : K.lookup f_law_link = some ⟨oc_law_link, od_law_link, .func (PySem.W.fnOf "_law_link" "_law_link" (defArgs s_law_link) (defBody s_law_link) (defScope s_law_link) .none kV_law_link dc_law_link pm_law_link an_law_link cd_law_link ct_law_link), sl_law_link⟩)
    (c_law_link : PySem.W.codeIn K cd_law_link "_law_link" = true)
    (k_law_link : PySem.W.keepIn K (.ref f_law_link) = true)
    (a_law_loose : PySem.W.nsIn K mainGlobals "_law_loose" = some (some (.ref f_law_loose)))
    (l_law_loose : K.lookup f_law_loose = some ⟨oc_law_loose, od_law_loose, .func (PySem.W.fnOf "_law_loose" "_law_loose" (defArgs s_law_loose) (defBody s_law_loose) (defScope s_law_loose) .none kV_law_loose dc_law_loose pm_law_loose an_law_loose cd_law_loose ct_law_loose), sl_law_loose⟩)
    (c_law_loose : PySem.W.codeIn K cd_law_loose "_law_loose" = true)
    (k_law_loose : PySem.W.keepIn K (.ref f_law_loose) = true)
    (a_law_run : PySem.W.nsIn K mainGlobals "_law_run" = some (some (.ref f_law_run)))
    (l_law_run : K.lookup f_law_run = some ⟨oc_law_run, od_law_run, .func (PySem.W.fnOf "_law_run" "_law_run" (defArgs s_law_run) (defBody s_law_run) (defScope s_law_run) .none kV_law_run dc_law_run pm_law_run an_law_run cd_law_run ct_law_run), sl_law_run⟩)
    (c_law_run : PySem.W.codeIn K cd_law_run "_law_run" = true)
    (k_law_run : PySem.W.keepIn K (.ref f_law_run) = true)
    (a_law : PySem.W.nsIn K mainGlobals "law" = some (some (.ref f_law)))
    (l_law : K.lookup f_law = some ⟨oc_law, od_law, .func (PySem.W.fnOf "law" "law" (defArgs s_law) (defBody s_law) (defScope s_law) .none kV_law dc_law pm_law an_law cd_law ct_law), sl_law⟩)
    (c_law : PySem.W.codeIn K cd_law "law" = true)
    (k_law : PySem.W.keepIn K (.ref f_law) = true)
    (pg_Giver : PySem.W.plainGet K C_Giver Str.empty = true)
    (hd_Giver : PySem.W.hasDictIn K C_Giver = true)
    (po_Giver : PySem.W.plainOver K C_Giver = true)
    (sa_Giver : PySem.W.findIn K (.ref C_Giver) "__setattr__" = some (some (.builtin "object.__setattr__")))
    (mk_Giver : PySem.W.makesIn K C_Giver = true)
    (kc_Giver : PySem.W.keepIn K (.ref C_Giver) = true)
    (pg_Asker : PySem.W.plainGet K C_Asker Str.empty = true)
    (hd_Asker : PySem.W.hasDictIn K C_Asker = true)
    (po_Asker : PySem.W.plainOver K C_Asker = true)
    (sa_Asker : PySem.W.findIn K (.ref C_Asker) "__setattr__" = some (some (.builtin "object.__setattr__")))
    (mk_Asker : PySem.W.makesIn K C_Asker = true)
    (kc_Asker : PySem.W.keepIn K (.ref C_Asker) = true)
    (nf_Giver_modulo : PySem.W.findIn K (.ref C_Giver) "_modulo" = some none)
    (nf_Giver_waiting : PySem.W.findIn K (.ref C_Giver) "_waiting" = some none)
    (nf_Giver_first : PySem.W.findIn K (.ref C_Giver) "_first" = some none)
    (nf_Asker_modulo : PySem.W.findIn K (.ref C_Asker) "_modulo" = some none)
    (nf_Asker_taken : PySem.W.findIn K (.ref C_Asker) "_taken" = some none)
    (z_len : PySem.W.nsIn K mainGlobals "len" = some none)
    (z_tuple : PySem.W.nsIn K mainGlobals "tuple" = some none)
    (z_list : PySem.W.nsIn K mainGlobals "list" = some none)
    (z_int : PySem.W.nsIn K mainGlobals "int" = some none)
    (z_isinstance : PySem.W.nsIn K mainGlobals "isinstance" = some none)
    (z_range : PySem.W.nsIn K mainGlobals "range" = some none)
    (z_all : PySem.W.nsIn K mainGlobals "all" = some none)
    (z_bool : PySem.W.nsIn K mainGlobals "bool" = some none)
    (z_str : PySem.W.nsIn K mainGlobals "str" = some none)
    (z_min : PySem.W.nsIn K mainGlobals "min" = some none)
    (z_sorted : PySem.W.nsIn K mainGlobals "sorted" = some none)
    (law : ∀ ns : List Int, ns.length ≤ 63 → ∃ s', r_law [.sc (ns.map PyData.int)] [] = some (.im (.bool true), s')) :
    ∃ fd : FuncData, (∀ (s : Shared) (v : Value), BindsTo s fd ⟨[v], []⟩ [("script", v)]) ∧ ∀ base : Heap, K.In base → base.Ns mainGlobals mg → FnOk l.prog w K mg base L2.CX0 9 fa fd ["script"] (spLaw K) := by
  have e := hfa.symm.trans (PySem.W.mg_of X G a_law)
  cases e
  have T : Txt K mg := ⟨PySem.W.mg_none_of X G z_len, PySem.W.mg_none_of X G z_tuple, PySem.W.mg_none_of X G z_list, PySem.W.mg_none_of X G z_int, PySem.W.mg_none_of X G z_isinstance, PySem.W.mg_none_of X G z_range, PySem.W.mg_none_of X G z_all, PySem.W.mg_none_of X G z_bool, PySem.W.mg_none_of X G z_str, PySem.W.mg_none_of X G z_min, PySem.W.mg_none_of X G z_sorted, ⟨⟨C_Giver, PySem.W.mg_of X G aC_Giver, ⟨pg_Giver, hd_Giver, po_Giver, sa_Giver⟩, nf_Giver_modulo⟩⟩, ⟨⟨C_Giver, PySem.W.mg_of X G aC_Giver, ⟨pg_Giver, hd_Giver, po_Giver, sa_Giver⟩, nf_Giver_waiting⟩⟩, ⟨⟨C_Giver, PySem.W.mg_of X G aC_Giver, ⟨pg_Giver, hd_Giver, po_Giver, sa_Giver⟩, nf_Giver_first⟩⟩, ⟨⟨C_Asker, PySem.W.mg_of X G aC_Asker, ⟨pg_Asker, hd_Asker, po_Asker, sa_Asker⟩, nf_Asker_modulo⟩⟩, ⟨⟨C_Asker, PySem.W.mg_of X G aC_Asker, ⟨pg_Asker, hd_Asker, po_Asker, sa_Asker⟩, nf_Asker_taken⟩⟩⟩
  refine ⟨PySem.W.fnOf "law" "law" (defArgs s_law) (defBody s_law) (defScope s_law) .none kV_law dc_law pm_law an_law cd_law ct_law, fun s v => .of_eq rfl, fun base _ _ => ?_⟩
  have F_Giver_init := fun_mk (st := s_Giver_init) l_Giver_init c_Giver_init k_Giver_init
  have B_Giver_init := F_Giver_init.binds (ps := P_Giver_init) fun _ _ _ _ _ _ us hl => match us, hl with | [_, _], _ => rfl
  have h_Giver_init : Mq l.prog w K mg base 1 "Giver" (spG K mg 2 r_Giver_init) := ⟨C_Giver, f_Giver_init, _, P_Giver_init, PySem.W.mg_of X G aC_Giver, ⟨mk_Giver, a_Giver_init, i_Giver_init, kc_Giver⟩, ok_Giver_init T F_Giver_init , B_Giver_init⟩
  have F_Giver_waiting := fun_mk (st := s_Giver_waiting) l_Giver_waiting c_Giver_waiting k_Giver_waiting
  have B_Giver_waiting := F_Giver_waiting.binds (ps := P_Giver_waiting) fun _ _ _ _ _ _ us hl => match us, hl with | [_], _ => rfl
  have h_Giver_waiting : Mt l.prog w K mg base 1 "Giver" "waiting" (spG K mg 1 r_Giver_waiting) := ⟨C_Giver, f_Giver_waiting, _, P_Giver_waiting, PySem.W.mg_of X G aC_Giver, ⟨pg_Giver, hd_Giver, po_Giver, sa_Giver⟩, ⟨a_Giver_waiting, i_Giver_waiting, k_Giver_waiting⟩, ok_Giver_waiting T F_Giver_waiting , B_Giver_waiting⟩
  have F_Giver_put := fun_mk (st := s_Giver_put) l_Giver_put c_Giver_put k_Giver_put
  have B_Giver_put := F_Giver_put.binds (ps := P_Giver_put) fun _ _ _ _ _ _ us hl => match us, hl with | [_, _], _ => rfl
  have h_Giver_put : Mt l.prog w K mg base 1 "Giver" "put" (spG K mg 2 r_Giver_put) := ⟨C_Giver, f_Giver_put, _, P_Giver_put, PySem.W.mg_of X G aC_Giver, ⟨pg_Giver, hd_Giver, po_Giver, sa_Giver⟩, ⟨a_Giver_put, i_Giver_put, k_Giver_put⟩, ok_Giver_put T F_Giver_put , B_Giver_put⟩
  have F_Giver_poll := fun_mk (st := s_Giver_poll) l_Giver_poll c_Giver_poll k_Giver_poll
  have B_Giver_poll := F_Giver_poll.binds (ps := P_Giver_poll) fun _ _ _ _ _ _ us hl => match us, hl with | [_, _], _ => rfl
  have h_Giver_poll : Mt l.prog w K mg base 1 "Giver" "poll" (spG K mg 2 r_Giver_poll) := ⟨C_Giver, f_Giver_poll, _, P_Giver_poll, PySem.W.mg_of X G aC_Giver, ⟨pg_Giver, hd_Giver, po_Giver, sa_Giver⟩, ⟨a_Giver_poll, i_Giver_poll, k_Giver_poll⟩, ok_Giver_poll T F_Giver_poll , B_Giver_poll⟩
  have F_Asker_init := fun_mk (st := s_Asker_init) l_Asker_init c_Asker_init k_Asker_init
  have B_Asker_init := F_Asker_init.binds (ps := P_Asker_init) fun _ _ _ _ _ _ us hl => match us, hl with | [_, _], _ => rfl
  have h_Asker_init : Mq l.prog w K mg base 1 "Asker" (spG K mg 2 r_Asker_init) := ⟨C_Asker, f_Asker_init, _, P_Asker_init, PySem.W.mg_of X G aC_Asker, ⟨mk_Asker, a_Asker_init, i_Asker_init, kc_Asker⟩, ok_Asker_init T F_Asker_init , B_Asker_init⟩
  have F_Asker_asks := fun_mk (st := s_Asker_asks) l_Asker_asks c_Asker_asks k_Asker_asks
  have B_Asker_asks := F_Asker_asks.binds (ps := P_Asker_asks) fun _ _ _ _ _ _ us hl => match us, hl with | [_], _ => rfl
  have h_Asker_asks : Mt l.prog w K mg base 1 "Asker" "asks" (spG K mg 1 r_Asker_asks) := ⟨C_Asker, f_Asker_asks, _, P_Asker_asks, PySem.W.mg_of X G aC_Asker, ⟨pg_Asker, hd_Asker, po_Asker, sa_Asker⟩, ⟨a_Asker_asks, i_Asker_asks, k_Asker_asks⟩, ok_Asker_asks T F_Asker_asks , B_Asker_asks⟩
  have F_Asker_hear := fun_mk (st := s_Asker_hear) l_Asker_hear c_Asker_hear k_Asker_hear
  have B_Asker_hear := F_Asker_hear.binds (ps := P_Asker_hear) fun _ _ _ _ _ _ us hl => match us, hl with | [_, _], _ => rfl
  have h_Asker_hear : Mt l.prog w K mg base 2 "Asker" "hear" (spG K mg 2 r_Asker_hear) := ⟨C_Asker, f_Asker_hear, _, P_Asker_hear, PySem.W.mg_of X G aC_Asker, ⟨pg_Asker, hd_Asker, po_Asker, sa_Asker⟩, ⟨a_Asker_hear, i_Asker_hear, k_Asker_hear⟩, ok_Asker_hear T F_Asker_hear h_Asker_asks, B_Asker_hear⟩
  have F_Asker_taken := fun_mk (st := s_Asker_taken) l_Asker_taken c_Asker_taken k_Asker_taken
  have B_Asker_taken := F_Asker_taken.binds (ps := P_Asker_taken) fun _ _ _ _ _ _ us hl => match us, hl with | [_], _ => rfl
  have h_Asker_taken : Mt l.prog w K mg base 1 "Asker" "taken" (spG K mg 1 r_Asker_taken) := ⟨C_Asker, f_Asker_taken, _, P_Asker_taken, PySem.W.mg_of X G aC_Asker, ⟨pg_Asker, hd_Asker, po_Asker, sa_Asker⟩, ⟨a_Asker_taken, i_Asker_taken, k_Asker_taken⟩, ok_Asker_taken T F_Asker_taken , B_Asker_taken⟩
  have F_law_box := fun_mk (st := s_law_box) l_law_box c_law_box k_law_box
  have B_law_box := F_law_box.binds (ps := P_law_box) fun _ _ _ _ _ _ us hl => match us, hl with | [_], _ => rfl
  have h_law_box : Cl l.prog w K mg base 1 "_law_box" (spG K mg 1 r_law_box) := ⟨f_law_box, _, P_law_box, ok_law_box T F_law_box , PySem.W.mg_of X G a_law_box, k_law_box, B_law_box⟩
  have F_law_load := fun_mk (st := s_law_load) l_law_load c_law_load k_law_load
  have B_law_load := F_law_load.binds (ps := P_law_load) fun _ _ _ _ _ _ us hl => match us, hl with | [_], _ => rfl
  have h_law_load : Cl l.prog w K mg base 1 "_law_load" (spG K mg 1 r_law_load) := ⟨f_law_load, _, P_law_load, ok_law_load T F_law_load , PySem.W.mg_of X G a_law_load, k_law_load, B_law_load⟩
  have F_law_draw := fun_mk (st := s_law_draw) l_law_draw c_law_draw k_law_draw
  have B_law_draw := F_law_draw.binds (ps := P_law_draw) fun _ _ _ _ _ _ us hl => match us, hl with | [_, _], _ => rfl
  have h_law_draw : Cl l.prog w K mg base 2 "_law_draw" (spG K mg 2 r_law_draw) := ⟨f_law_draw, _, P_law_draw, ok_law_draw T F_law_draw h_law_load, PySem.W.mg_of X G a_law_draw, k_law_draw, B_law_draw⟩
  have F_law_same := fun_mk (st := s_law_same) l_law_same c_law_same k_law_same
  have B_law_same := F_law_same.binds (ps := P_law_same) fun _ _ _ _ _ _ us hl => match us, hl with | [_, _], _ => rfl
  have h_law_same : Cl l.prog w K mg base 6 "_law_same" (spP K 2 (r_law_same 6)) := ok_law_same T F_law_same B_law_same (PySem.W.mg_of X G a_law_same)  6
  have F_law_report := fun_mk (st := s_law_report) l_law_report c_law_report k_law_report
  have B_law_report := F_law_report.binds (ps := P_law_report) fun _ _ _ _ _ _ us hl => match us, hl with | [_], _ => rfl
  have h_law_report : Cl l.prog w K mg base 3 "_law_report" (spG K mg 1 r_law_report) := ⟨f_law_report, _, P_law_report, ok_law_report T F_law_report h_law_draw, PySem.W.mg_of X G a_law_report, k_law_report, B_law_report⟩
  have F_law_answer := fun_mk (st := s_law_answer) l_law_answer c_law_answer k_law_answer
  have B_law_answer := F_law_answer.binds (ps := P_law_answer) fun _ _ _ _ _ _ us hl => match us, hl with | [_, _, _], _ => rfl
  have h_law_answer : Cl l.prog w K mg base 7 "_law_answer" (spG K mg 3 r_law_answer) := ⟨f_law_answer, _, P_law_answer, ok_law_answer T F_law_answer h_Giver_poll h_law_same h_Giver_waiting, PySem.W.mg_of X G a_law_answer, k_law_answer, B_law_answer⟩
  have F_law_heard := fun_mk (st := s_law_heard) l_law_heard c_law_heard k_law_heard
  have B_law_heard := F_law_heard.binds (ps := P_law_heard) fun _ _ _ _ _ _ us hl => match us, hl with | [_, _], _ => rfl
  have h_law_heard : Cl l.prog w K mg base 7 "_law_heard" (spG K mg 2 r_law_heard) := ⟨f_law_heard, _, P_law_heard, ok_law_heard T F_law_heard h_Asker_hear h_law_same h_Asker_asks h_Asker_taken, PySem.W.mg_of X G a_law_heard, k_law_heard, B_law_heard⟩
  have F_law_link := fun_mk (st := s_law_link) l_law_link c_law_link k_law_link
  have B_law_link := F_law_link.binds (ps := P_law_link) fun _ _ _ _ _ _ us hl => match us, hl with | [_], _ => rfl
  have h_law_link : Cl l.prog w K mg base 3 "_law_link" (spG K mg 1 r_law_link) := ⟨f_law_link, _, P_law_link, ok_law_link T F_law_link h_Giver_init h_Asker_init, PySem.W.mg_of X G a_law_link, k_law_link, B_law_link⟩
  have F_law_loose := fun_mk (st := s_law_loose) l_law_loose c_law_loose k_law_loose
  have B_law_loose := F_law_loose.binds (ps := P_law_loose) fun _ _ _ _ _ _ us hl => match us, hl with | [_], _ => rfl
  have h_law_loose : Cl l.prog w K mg base 8 "_law_loose" (spG K mg 1 r_law_loose) := ⟨f_law_loose, _, P_law_loose, ok_law_loose T F_law_loose h_law_link h_law_draw h_law_report h_Giver_put h_law_answer h_law_heard, PySem.W.mg_of X G a_law_loose, k_law_loose, B_law_loose⟩
  have F_law_run := fun_mk (st := s_law_run) l_law_run c_law_run k_law_run
  have B_law_run := F_law_run.binds (ps := P_law_run) fun _ _ _ _ _ _ us hl => match us, hl with | [_], _ => rfl
  have h_law_run : Cl l.prog w K mg base 8 "_law_run" (spG K mg 1 r_law_run) := ⟨f_law_run, _, P_law_run, ok_law_run T F_law_run h_law_draw h_law_link h_law_report h_Giver_put h_law_answer h_law_heard h_law_same, PySem.W.mg_of X G a_law_run, k_law_run, B_law_run⟩
  have F_law := fun_mk (st := s_law) l_law c_law k_law
  exact fn_law (ok_law T F_law h_law_box h_law_run h_law_loose) rfl law
end
theorem walk {l : PySem.W.OpenLaw} {q : Program} {loose : List Str} {XP : (Str → Option Value) → Heap → Prop} {YP : World → Heap → Prop} {d : DefRec} {K : Params → PySem.W.Frag} (hn : l.most = some 63) (hdf : d.params.defaults = []) (hY : ∀ (w : World) (h : Heap), YP w h → (K w.params).In h)
    (F : ∀ (w : World) (mg : Str → Option Value) (fa : Addr) (h : Heap), (K w.params).In h → h.Ns mainGlobals mg → mg d.name = some (.ref fa) → ∃ fd : FuncData, (∀ (s : Shared) (u : Value), BindsTo s fd ⟨[u], []⟩ [("script", u)]) ∧ ∀ base : Heap, (K w.params).In base → base.Ns mainGlobals mg → FnOk l.prog w (K w.params) mg base L2.CX0 9 fa fd ["script"] (spLaw (K w.params))) :
    PySem.W.WalkO q loose XP YP l.row.toRowW d [] (fun f vs => PySem.call f vs) :=
  L2.walk_of (n := 63) (k := 9) (x := "script") (CX := fun _ => L2.CX0) (sp := fun w => spLaw (K w.params)) hn (by decide) hdf ⟨rfl, by decide, by decide⟩ hY F (fun _ _ a ns hl _ hS => ⟨a, ns, rfl, hS, hl, fun _ => rfl⟩) fun _ _ _ _ _ z => z
end K39
open PySem PySem.W PyProof.Rows in
set_option maxRecDepth 100000 in
set_option maxHeartbeats 0 in
theorem PySem.Challenge.cw_keystotext_k39_whole_givers_and_askers_holds : PySem.Challenge.rw_keystotext_k39_whole_givers_and_askers.Holds := by
  w_on; o_law; k_head; (case hw => w_witness2)
  k_fill
  refine K39.walk (l := PySem.Challenge.rw_keystotext_k39_whole_givers_and_askers) rfl rfl (fun w h Y => PySem.W.kIn_of Y) ?F
  case F =>
    intro w mg fa h KX G hmg
    refine' K39.all_mk KX G hmg ?aC_Giver ?aC_Asker ?a_Giver_init ?i_Giver_init ?l_Giver_init ?c_Giver_init ?k_Giver_init ?a_Giver_waiting ?i_Giver_waiting ?l_Giver_waiting ?c_Giver_waiting ?k_Giver_waiting ?a_Giver_put ?i_Giver_put ?l_Giver_put ?c_Giver_put ?k_Giver_put ?a_Giver_poll ?i_Giver_poll ?l_Giver_poll ?c_Giver_poll ?k_Giver_poll ?a_Asker_init ?i_Asker_init ?l_Asker_init ?c_Asker_init ?k_Asker_init ?a_Asker_asks ?i_Asker_asks ?l_Asker_asks ?c_Asker_asks ?k_Asker_asks ?a_Asker_hear ?i_Asker_hear ?l_Asker_hear ?c_Asker_hear ?k_Asker_hear ?a_Asker_taken ?i_Asker_taken ?l_Asker_taken ?c_Asker_taken ?k_Asker_taken ?a_law_box ?l_law_box ?c_law_box ?k_law_box ?a_law_load ?l_law_load ?c_law_load ?k_law_load ?a_law_draw ?l_law_draw ?c_law_draw ?k_law_draw ?a_law_same ?l_law_same ?c_law_same ?k_law_same ?a_law_report ?l_law_report ?c_law_report ?k_law_report ?a_law_answer ?l_law_answer ?c_law_answer ?k_law_answer ?a_law_heard ?l_law_heard ?c_law_heard ?k_law_heard ?a_law_link ?l_law_link ?c_law_link ?k_law_link ?a_law_loose ?l_law_loose ?c_law_loose ?k_law_loose ?a_law_run ?l_law_run ?c_law_run ?k_law_run ?a_law ?l_law ?c_law ?k_law ?pg_Giver ?hd_Giver ?po_Giver ?sa_Giver ?mk_Giver ?kc_Giver ?pg_Asker ?hd_Asker ?po_Asker ?sa_Asker ?mk_Asker ?kc_Asker ?nf_Giver_modulo ?nf_Giver_waiting ?nf_Giver_first ?nf_Asker_modulo ?nf_Asker_taken ?z_len ?z_tuple ?z_list ?z_int ?z_isinstance ?z_range ?z_all ?z_bool ?z_str ?z_min ?z_sorted K39.law_true
    (case aC_Giver => k_is)
    (case aC_Asker => k_is)
    (case a_Giver_init => k_is)
    (case i_Giver_init => k_is)
    (case l_Giver_init => k_is)
    (case c_Giver_init => k_is)
    (case k_Giver_init => k_is)
    (case a_Giver_waiting => k_is)
    (case i_Giver_waiting => k_is)
    (case l_Giver_waiting => k_is)
    (case c_Giver_waiting => k_is)
    (case k_Giver_waiting => k_is)
    (case a_Giver_put => k_is)
    (case i_Giver_put => k_is)
    (case l_Giver_put => k_is)
    (case c_Giver_put => k_is)
    (case k_Giver_put => k_is)
    (case a_Giver_poll => k_is)
    (case i_Giver_poll => k_is)
    (case l_Giver_poll => k_is)
    (case c_Giver_poll => k_is)
    (case k_Giver_poll => k_is)
    (case a_Asker_init => k_is)
    (case i_Asker_init => k_is)
    (case l_Asker_init => k_is)
    (case c_Asker_init => k_is)
    (case k_Asker_init => k_is)
    (case a_Asker_asks => k_is)
    (case i_Asker_asks => k_is)
    (case l_Asker_asks => k_is)
    (case c_Asker_asks => k_is)
    (case k_Asker_asks => k_is)
    (case a_Asker_hear => k_is)
    (case i_Asker_hear => k_is)
    (case l_Asker_hear => k_is)
    (case c_Asker_hear => k_is)
    (case k_Asker_hear => k_is)
    (case a_Asker_taken => k_is)
    (case i_Asker_taken => k_is)
    (case l_Asker_taken => k_is)
    (case c_Asker_taken => k_is)
    (case k_Asker_taken => k_is)
    (case a_law_box => k_is)
    (case l_law_box => k_is)
    (case c_law_box => k_is)
    (case k_law_box => k_is)
    (case a_law_load => k_is)
    (case l_law_load => k_is)
    (case c_law_load => k_is)
    (case k_law_load => k_is)
    (case a_law_draw => k_is)
    (case l_law_draw => k_is)
    (case c_law_draw => k_is)
    (case k_law_draw => k_is)
    (case a_law_same => k_is)
    (case l_law_same => k_is)
    (case c_law_same => k_is)
    (case k_law_same => k_is)
    (case a_law_report => k_is)
    (case l_law_report => k_is)
    (case c_law_report => k_is)
    (case k_law_report => k_is)
    (case a_law_answer => k_is)
    (case l_law_answer => k_is)
    (case c_law_answer => k_is)
    (case k_law_answer => k_is)
    (case a_law_heard => k_is)
    (case l_law_heard => k_is)
    (case c_law_heard => k_is)
    (case k_law_heard => k_is)
    (case a_law_link => k_is)
    (case l_law_link => k_is)
    (case c_law_link => k_is)
    (case k_law_link => k_is)
    (case a_law_loose => k_is)
    (case l_law_loose => k_is)
    (case c_law_loose => k_is)
    (case k_law_loose => k_is)
    (case a_law_run => k_is)
    (case l_law_run => k_is)
    (case c_law_run => k_is)
    (case k_law_run => k_is)
    (case a_law => k_is)
    (case l_law => k_is)
    (case c_law => k_is)
    (case k_law => k_is)
    (case pg_Giver => k_is)
    (case hd_Giver => k_is)
    (case po_Giver => k_is)
    (case sa_Giver => k_is)
    (case mk_Giver => k_is)
    (case kc_Giver => k_is)
    (case pg_Asker => k_is)
    (case hd_Asker => k_is)
    (case po_Asker => k_is)
    (case sa_Asker => k_is)
    (case mk_Asker => k_is)
    (case kc_Asker => k_is)
    (case nf_Giver_modulo => k_is)
    (case nf_Giver_waiting => k_is)
    (case nf_Giver_first => k_is)
    (case nf_Asker_modulo => k_is)
    (case nf_Asker_taken => k_is)
    (case z_len => k_is)
    (case z_tuple => k_is)
    (case z_list => k_is)
    (case z_int => k_is)
    (case z_isinstance => k_is)
    (case z_range => k_is)
    (case z_all => k_is)
    (case z_bool => k_is)
    (case z_str => k_is)
    (case z_min => k_is)
    (case z_sorted => k_is)
#print axioms PySem.Challenge.cw_keystotext_k39_whole_givers_and_askers_holds
