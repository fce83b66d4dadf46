import PyProof.Rows.All
import Wide.All
import OpenK.AllK
import Wide.FinOn
import HandS.ForMost
import HandS.ClsMeth
import HandS.Deep
import HandS.TupAny
import HandS.SortInts
import HandS.IsInst
import HandS.Wide
import HandS.WideBits
import HandS.Conv
import HandS.Codes
import HandS.More
import HandS.Walk
import PySem.Challenge.RW_lookspare_k71_thinned_walks
set_option Elab.async false
set_option linter.all false
set_option maxRecDepth 100000
set_option maxHeartbeats 4000000
namespace Lk
open PySem L2

/-! ### heaps: what is kept -/
def Kp (F : List Addr) (H H' : Hp) : Prop := ∀ q o, H q = some o → (q ∉ F ∨ ∃ xs, o = HO.tup xs) → H' q = some o
section
variable {F G : List Addr} {H0 H H' : Hp} {p q : Addr} {o o' : HO} {xs : List V} {K : PySem.W.Frag}
theorem Kp.refl : Kp F H H := fun _ _ e _ => e
theorem Kp.step (a : Kp F H0 H) (b : Kp G H H') (h : ∀ q ∈ G, q ∈ F ∨ H0 q = none) : Kp F H0 H' := fun q o e c => by
  have e1 := a q o e c
  refine b q o e1 ?_
  rcases c with c | c
  · refine .inl fun hq => ?_
    rcases h q hq with z | z
    · exact c z
    · rw [e] at z; cases z
  · exact .inr c
theorem Kp.trans (a : Kp F H0 H) (b : Kp F H H') : Kp F H0 H' := a.step b fun _ h => .inl h
theorem Kp.ext (a : Kp F H0 H) (b : Kp [] H H') : Kp F H0 H' := a.step b fun _ h => absurd h List.not_mem_nil
theorem Kp.new (a : Kp F H0 H) (n : H p = none) : Kp F H0 (upd H p o) := fun q u e c => by
  have e1 := a q u e c
  rw [upd_ne (ne_of_none e1 n)]
  exact e1
theorem Kp.put (a : Kp F H0 H) (e : H q = some o) (h : q ∈ F ∨ H0 q = none) (nt : ∀ xs, o ≠ .tup xs := by intro _ z; cases z) : Kp F H0 (upd H q o') := fun r u e1 c => by
  have e2 := a r u e1 c
  by_cases hr : r = q
  · subst hr
    rw [e] at e2
    cases e2
    rcases c with c | ⟨xs, c⟩
    · rcases h with h | h
      · exact absurd h c
      · rw [e1] at h; cases h
    · exact absurd c (nt xs)
  · rw [upd_ne hr]; exact e2
theorem Kp.tup (a : Kp F H0 H) (e : H0 q = some (.tup xs)) : H q = some (.tup xs) := a q _ e (.inr ⟨xs, rfl⟩)
theorem Kp.at (a : Kp F H0 H) (e : H0 q = some o) (n : q ∉ F) : H q = some o := a q o e (.inl n)
theorem Kp.at0 (a : Kp [] H0 H) (e : H0 q = some o) : H q = some o := a q o e (.inl List.not_mem_nil)
theorem Kp.free (a : Kp F H0 H) (n : H p = none) (h : p ∉ F) : H0 p = none := by
  cases e : H0 p with
  | none => rfl
  | some o => rw [a p o e (.inl h)] at n; cases n
theorem Kp.free0 (a : Kp [] H0 H) (n : H p = none) : H0 p = none := a.free n List.not_mem_nil
theorem Kp.mono (a : Kp F H0 H) (h : ∀ q ∈ F, q ∈ G) : Kp G H0 H := fun q o e c => a q o e (c.imp (fun z w => z (h q w)) fun z => z)
theorem Kp.nil (a : Kp [] H0 H) : Kp F H0 H := a.mono fun _ h => absurd h List.not_mem_nil
theorem Kp.same (a : Kp [] H0 H) : Same H0 H := fun q o e => a.at0 e
theorem Kp.seq (a : Kp F H0 H) (h : SqL K H0 p xs) (n : p ∉ F) : SqL K H p xs := by
  rcases h with (h | ⟨o, h⟩) | h
  · exact .inl (.inl (a.at h n))
  · exact .inl (.inr ⟨o, a.at h n⟩)
  · exact .inr h
/-- fresh things of F may be forgotten -/
theorem Kp.drop (a : Kp F H0 H) (h : ∀ q ∈ F, q ∈ G ∨ H0 q = none) : Kp G H0 H := fun q o e c => by
  refine a q o e ?_
  rcases c with c | c
  · refine .inl fun hq => ?_
    rcases h q hq with z | z
    · exact c z
    · rw [e] at z; cases z
  · exact .inr c
end
theorem nin1 {p q : Addr} (h : p ≠ q) : p ∉ [q] := fun m => h (List.mem_singleton.mp m)
theorem in1 {p : Addr} : p ∈ [p] := List.mem_singleton.mpr rfl

/-! ### two lists side by side -/
def All2 {α β : Type} (R : α → β → Prop) (as : List α) (bs : List β) : Prop := as.length = bs.length ∧ ∀ (i : Nat) a b, as[i]? = some a → bs[i]? = some b → R a b
section
variable {α β : Type} {R S : α → β → Prop} {as cs : List α} {bs ds : List β} {a : α} {b : β}
theorem All2.nil : All2 R [] [] := ⟨rfl, fun i a b h => by simp at h⟩
theorem All2.len (h : All2 R as bs) : as.length = bs.length := h.1
theorem All2.mono (h : All2 R as bs) (f : ∀ a b, R a b → S a b) : All2 S as bs := ⟨h.1, fun i a b e1 e2 => f a b (h.2 i a b e1 e2)⟩
theorem All2.app (h : All2 R as bs) (k : All2 R cs ds) : All2 R (as ++ cs) (bs ++ ds) := by
  refine ⟨by rw [List.length_append, List.length_append, h.1, k.1], fun i a b e1 e2 => ?_⟩
  by_cases hi : i < as.length
  · rw [List.getElem?_append_left hi] at e1
    rw [List.getElem?_append_left (h.1 ▸ hi)] at e2
    exact h.2 i a b e1 e2
  · have hi : as.length ≤ i := Nat.le_of_not_lt hi
    rw [List.getElem?_append_right hi] at e1
    rw [List.getElem?_append_right (h.1 ▸ hi), ← h.1] at e2
    exact k.2 _ a b e1 e2
theorem All2.one (h : R a b) : All2 R [a] [b] := ⟨rfl, fun i x y e1 e2 => by
  cases i with
  | zero => simp at e1 e2; subst e1 e2; exact h
  | succ i => simp at e1⟩
theorem All2.snoc (h : All2 R as bs) (k : R a b) : All2 R (as ++ [a]) (bs ++ [b]) := h.app (.one k)
theorem All2.cons (k : R a b) (h : All2 R as bs) : All2 R (a :: as) (b :: bs) := (All2.one k).app h
theorem All2.uncons (h : All2 R (a :: as) (b :: bs)) : R a b ∧ All2 R as bs :=
  ⟨h.2 0 a b rfl rfl, Nat.succ.inj h.1, fun i x y e1 e2 => h.2 (i + 1) x y (by simpa using e1) (by simpa using e2)⟩
theorem All2.set (h : All2 R as bs) (i : Nat) (k : R a b) : All2 R (as.set i a) (bs.set i b) := by
  refine ⟨by rw [List.length_set, List.length_set, h.1], fun j x y e1 e2 => ?_⟩
  by_cases hj : i = j
  · subst hj
    have l1 : i < as.length := by
      have := (List.getElem?_eq_some_iff.mp e1).1
      rwa [List.length_set] at this
    rw [List.getElem?_set_self l1] at e1
    rw [List.getElem?_set_self (h.1 ▸ l1)] at e2
    cases e1; cases e2; exact k
  · rw [List.getElem?_set_ne hj] at e1 e2
    exact h.2 j x y e1 e2
theorem All2.get (h : All2 R as bs) {i : Nat} (e : bs[i]? = some b) : ∃ a, as[i]? = some a ∧ R a b := by
  have l := (List.getElem?_eq_some_iff.mp e).1
  have l2 : i < as.length := by rw [h.1]; exact l
  exact ⟨as[i], List.getElem?_eq_getElem l2, h.2 i _ b (List.getElem?_eq_getElem l2) e⟩
theorem All2.getL (h : All2 R as bs) {i : Nat} (e : as[i]? = some a) : ∃ b, bs[i]? = some b ∧ R a b := by
  have l := (List.getElem?_eq_some_iff.mp e).1
  have l2 : i < bs.length := by rw [← h.1]; exact l
  exact ⟨bs[i], List.getElem?_eq_getElem l2, h.2 i a _ e (List.getElem?_eq_getElem l2)⟩
end

/-! ### items by whole numbers -/
theorem atI_some {α : Type} {xs : List α} {i : Int} {v : α} (h0 : 0 ≤ i) (h : xs[i.toNat]? = some v) : atI xs i = some v := by
  have q := atI_nat h
  rw [Int.toNat_of_nonneg h0] at q
  exact q
theorem atI_in {α : Type} {xs : List α} {i : Int} (h0 : 0 ≤ i) (h1 : i < (xs.length : Int)) : ∃ v, xs[i.toNat]? = some v ∧ atI xs i = some v := by
  have l : i.toNat < xs.length := by omega
  exact ⟨xs[i.toNat], List.getElem?_eq_getElem l, atI_some h0 (List.getElem?_eq_getElem l)⟩
/-- the item of a list of ints -/
def gi (xs : List Int) (i : Int) : Int := xs.getD i.toNat 0
theorem gi_get {xs : List Int} {i : Int} (h0 : 0 ≤ i) (h1 : i < (xs.length : Int)) : xs[i.toNat]? = some (gi xs i) := by
  have l : i.toNat < xs.length := by omega
  unfold gi
  rw [List.getD_eq_getElem?_getD, List.getElem?_eq_getElem l]
  rfl
theorem atI_gi {xs : List Int} {i : Int} (h0 : 0 ≤ i) (h1 : i < (xs.length : Int)) : atI (xs.map V.int) i = some (.int (gi xs i)) := by
  refine atI_some h0 ?_
  rw [List.getElem?_map, gi_get h0 h1]
  rfl
theorem ixN_in {n : Nat} {i : Int} (h0 : 0 ≤ i) (h1 : i < (n : Int)) : ixN n i = some i.toNat := by
  unfold ixN
  rw [if_pos h0, if_pos h1]
theorem seqIndex_in {n : Nat} {i : Int} (h0 : 0 ≤ i) (h1 : i < (n : Int)) : seqIndex? i n = some i.toNat := (ixN_seq (ixN_in h0 h1)).1
theorem gi_mem {xs : List Int} {i : Int} (h0 : 0 ≤ i) (h1 : i < (xs.length : Int)) : gi xs i ∈ xs := List.mem_of_getElem? (gi_get h0 h1)
theorem map_set_int (xs : List Int) (j : Nat) (v : Int) : (xs.map V.int).set j (.int v) = (xs.set j v).map V.int := by rw [List.map_set]

/-! ### data -/
inductive Nd where | zero | name (x : Int) | len (r : Int)
structure Bd where
  a : Nd
  b : Nd
  c : Int
inductive Ln where
  | set (x : Int) (y : Option Int) (c k : Int)
  | sum (x z : Int) (w : Option Int) (k : Int)
  | len (x r k : Int)
  | take (x k : Int)
  | get (x r : Int) (y : Option Int) (c k : Int)
  | put (r : Int) (y : Option Int) (c z k : Int)
  | tell (x k : Int)
  | test (y w : Option Int) (c k m : Int)
  | ask (bs : List Bd) (k m : Int)
  | fin
def oV : Option Int → V | none => .non | some i => .int i
def ndL : Nd → List V | .zero => [.str "zero"] | .name x => [.str "name", .int x, .int 0] | .len r => [.str "len", .int r]
def NdAt (H : Hp) (a : Addr) (n : Nd) : Prop := H a = some (.tup (ndL n))
def BdAt (H : Hp) (a : Addr) (b : Bd) : Prop := ∃ p q, H a = some (.tup [.ref p, .ref q, .int b.c]) ∧ NdAt H p b.a ∧ NdAt H q b.b
def BdsAt (H : Hp) (a : Addr) (bs : List Bd) : Prop := ∃ as : List Addr, H a = some (.tup (as.map V.ref)) ∧ All2 (BdAt H) as bs
def lnB (v : V) : Ln → List V
  | .set x y c k => [.str "set", .int x, oV y, .int c, .int k]
  | .sum x z w k => [.str "sum", .int x, .int z, oV w, .int k]
  | .len x r k => [.str "len", .int x, .int r, .int k]
  | .take x k => [.str "take", .int x, .int k]
  | .get x r y c k => [.str "get", .int x, .int r, oV y, .int c, .int k]
  | .put r y c z k => [.str "put", .int r, oV y, .int c, .int z, .int k]
  | .tell x k => [.str "tell", .int x, .int k]
  | .test y w c k m => [.str "test", oV y, oV w, .int c, .int k, .int m]
  | .ask _ k m => [.str "ask", v, .int k, .int m]
  | .fin => [.str "end"]
def hd : Ln → Str
  | .set .. => "set" | .sum .. => "sum" | .len .. => "len" | .take .. => "take" | .get .. => "get" | .put .. => "put" | .tell .. => "tell" | .test .. => "test" | .ask .. => "ask" | .fin => "end"
def md (v : V) : Ln → List V
  | .set x y c k => [.int x, oV y, .int c]
  | .sum x z w k => [.int x, .int z, oV w]
  | .len x r k => [.int x, .int r]
  | .take x k => [.int x]
  | .get x r y c k => [.int x, .int r, oV y, .int c]
  | .put r y c z k => [.int r, oV y, .int c, .int z]
  | .tell x k => [.int x]
  | .test y w c k m => [oV y, oV w, .int c]
  | .ask _ k m => [v]
  | .fin => []
def tg : Ln → List Int
  | .set _ _ _ k => [k] | .sum _ _ _ k => [k] | .len _ _ k => [k] | .take _ k => [k] | .get _ _ _ _ k => [k] | .put _ _ _ _ k => [k] | .tell _ k => [k]
  | .test _ _ _ k m => [k, m] | .ask _ k m => [k, m] | .fin => []
def isAsk : Ln → Bool | .ask .. => true | _ => false
theorem lnB_eq (v : V) (ln : Ln) : lnB v ln = .str (hd ln) :: (md v ln ++ (tg ln).map V.int) := by cases ln <;> rfl
def LnAt (H : Hp) (a : Addr) (ln : Ln) : Prop := ∃ b : Addr, H a = some (.tup (lnB (.ref b) ln)) ∧ ∀ bs k m, ln = .ask bs k m → BdsAt H b bs
def LinesAt (H : Hp) (l : Addr) (lns : List Ln) : Prop := ∃ as : List Addr, H l = some (.lst (as.map V.ref)) ∧ All2 (LnAt H) as lns
/-- tuples stay -/
def TupK (H H' : Hp) : Prop := ∀ q xs, H q = some (.tup xs) → H' q = some (.tup xs)
theorem Kp.tk {F : List Addr} {H H' : Hp} (a : Kp F H H') : TupK H H' := fun _ _ e => a.tup e
theorem tk_upd {H : Hp} {q : Addr} {o o' : HO} (e : H q = some o) (nt : ∀ xs, o ≠ .tup xs := by intro _ z; cases z) : TupK H (upd H q o') := fun r xs h => by
  rw [upd_ne (ne_of h e (fun z => nt xs z.symm))]; exact h
section
variable {H H' : Hp} {a l : Addr}
theorem BdAt.mono (t : TupK H H') {b : Bd} (h : BdAt H a b) : BdAt H' a b := let ⟨p, q, e, e1, e2⟩ := h; ⟨p, q, t _ _ e, t _ _ e1, t _ _ e2⟩
theorem BdsAt.mono (t : TupK H H') {bs : List Bd} (h : BdsAt H a bs) : BdsAt H' a bs := let ⟨as, e, k⟩ := h; ⟨as, t _ _ e, k.mono fun _ _ z => z.mono t⟩
theorem LnAt.mono (t : TupK H H') {ln : Ln} (h : LnAt H a ln) : LnAt H' a ln := let ⟨b, e, k⟩ := h; ⟨b, t _ _ e, fun bs x y z => (k bs x y z).mono t⟩
theorem lns_mono (t : TupK H H') {as : List Addr} {lns : List Ln} (h : All2 (LnAt H) as lns) : All2 (LnAt H') as lns := h.mono fun _ _ z => z.mono t
theorem LnAt.flat {ln : Ln} (h : H a = some (.tup (lnB (.ref a) ln))) (n : isAsk ln = false) : LnAt H a ln := ⟨a, h, fun bs k m e => by subst e; cases n⟩
end
/-! ### right lines -/
def In (x n : Int) : Prop := 0 ≤ x ∧ x < n
def InO (y : Option Int) (n : Int) : Prop := ∀ i, y = some i → In i n
theorem InO.none {n : Int} : InO .none n := fun _ e => by cases e
theorem InO.some {x n : Int} (h : In x n) : InO (.some x) n := fun _ e => by cases e; exact h
def NdOk (n r : Int) : Nd → Prop | .zero => True | .name x => In x n | .len x => In x r
def Fld (n r : Int) : Ln → Prop
  | .set x y _ _ => In x n ∧ InO y n
  | .sum x z w _ => In x n ∧ In z n ∧ InO w n
  | .len x i _ => In x n ∧ In i r
  | .take x _ => In x n
  | .get x i y _ _ => In x n ∧ In i r ∧ InO y n
  | .put i y _ z _ => In i r ∧ InO y n ∧ In z n
  | .tell x _ => In x n
  | .test y w _ _ _ => InO y n ∧ InO w n
  | .ask bs _ _ => ∀ b ∈ bs, NdOk n r b.a ∧ NdOk n r b.b
  | .fin => True
/-- a program's lines on the way: goals at most B, an ask's below A and at no ask -/
structure Gen (n r A B : Int) (lns : List Ln) : Prop where
  fld : ∀ ln ∈ lns, Fld n r ln
  tgs : ∀ ln ∈ lns, ∀ t ∈ tg ln, 0 ≤ t ∧ t ≤ B
  ask : ∀ ln ∈ lns, isAsk ln = true → ∀ t ∈ tg ln, t < A ∧ ∀ l2, lns[t.toNat]? = some l2 → isAsk l2 = false
section
variable {n r A B A' B' : Int} {lns : List Ln} {ln : Ln}
theorem Gen.nil : Gen n r 0 0 [] := ⟨fun _ h => absurd h List.not_mem_nil, fun _ h => absurd h List.not_mem_nil, fun _ h => absurd h List.not_mem_nil⟩
theorem Gen.up (g : Gen n r A B lns) (ha : A ≤ A') (hb : B ≤ B') : Gen n r A' B' lns :=
  ⟨g.fld, fun l h t q => ⟨(g.tgs l h t q).1, Int.le_trans (g.tgs l h t q).2 hb⟩, fun l h k t q => ⟨Int.lt_of_lt_of_le (g.ask l h k t q).1 ha, (g.ask l h k t q).2⟩⟩
theorem mem_snoc {α : Type} {xs : List α} {x y : α} (h : y ∈ xs ++ [x]) : y ∈ xs ∨ y = x := by
  rcases List.mem_append.mp h with h | h
  · exact .inl h
  · exact .inr (List.mem_singleton.mp h)
theorem Gen.app (g : Gen n r A B lns) (f : Fld n r ln) (k : isAsk ln = false) (h : ∀ t ∈ tg ln, 0 ≤ t ∧ t ≤ B') (hb : B ≤ B') : Gen n r A B' (lns ++ [ln]) := by
  refine ⟨fun l hl => ?_, fun l hl t q => ?_, fun l hl q t ht => ?_⟩
  · rcases mem_snoc hl with z | z
    · exact g.fld l z
    · rw [z]; exact f
  · rcases mem_snoc hl with z | z
    · exact ⟨(g.tgs l z t q).1, Int.le_trans (g.tgs l z t q).2 hb⟩
    · rw [z] at q; exact h t q
  · rcases mem_snoc hl with z | z
    · refine ⟨(g.ask l z q t ht).1, fun l2 e => ?_⟩
      by_cases hi : t.toNat < lns.length
      · rw [List.getElem?_append_left hi] at e
        exact (g.ask l z q t ht).2 l2 e
      · rw [List.getElem?_append_right (Nat.le_of_not_lt hi)] at e
        have := List.mem_of_getElem? e
        rw [List.mem_singleton.mp this]; exact k
    · rw [z, k] at q; cases q
theorem Gen.appAsk (g : Gen n r A B lns) (f : Fld n r ln) (h : ∀ t ∈ tg ln, (lns.length : Int) < t ∧ t ≤ B') (hb : B ≤ B') (ha : A ≤ lns.length) : Gen n r (B' + 1) B' (lns ++ [ln]) := by
  refine ⟨fun l hl => ?_, fun l hl t q => ?_, fun l hl q t ht => ?_⟩
  · rcases mem_snoc hl with z | z
    · exact g.fld l z
    · rw [z]; exact f
  · rcases mem_snoc hl with z | z
    · exact ⟨(g.tgs l z t q).1, Int.le_trans (g.tgs l z t q).2 hb⟩
    · rw [z] at q
      have := h t q
      omega
  · rcases mem_snoc hl with z | z
    · have a1 := g.ask l z q t ht
      have a2 := g.tgs l z t ht
      refine ⟨by omega, fun l2 e => ?_⟩
      rw [List.getElem?_append_left (by omega)] at e
      exact a1.2 l2 e
    · rw [z] at ht
      have := h t ht
      refine ⟨by omega, fun l2 e => ?_⟩
      rw [List.getElem?_append_right (by omega)] at e
      have l := (List.getElem?_eq_some_iff.mp e).1
      rw [List.length_singleton] at l
      omega
theorem mem_set_or {α : Type} {xs : List α} {i : Nat} {x y : α} (h : y ∈ xs.set i x) : y ∈ xs ∨ y = x := (List.mem_or_eq_of_mem_set h)
theorem Gen.set (g : Gen n r A B lns) (i : Nat) (f : Fld n r ln) (k : isAsk ln = false) (h : ∀ t ∈ tg ln, 0 ≤ t ∧ t ≤ B') (hb : B ≤ B') : Gen n r A B' (lns.set i ln) := by
  refine ⟨fun l hl => ?_, fun l hl t q => ?_, fun l hl q t ht => ?_⟩
  · rcases mem_set_or hl with z | z
    · exact g.fld l z
    · rw [z]; exact f
  · rcases mem_set_or hl with z | z
    · exact ⟨(g.tgs l z t q).1, Int.le_trans (g.tgs l z t q).2 hb⟩
    · rw [z] at q; exact h t q
  · rcases mem_set_or hl with z | z
    · refine ⟨(g.ask l z q t ht).1, fun l2 e => ?_⟩
      by_cases hi : i = t.toNat
      · subst hi
        have l := (List.getElem?_eq_some_iff.mp e).1
        rw [List.length_set] at l
        rw [List.getElem?_set_self l] at e
        cases e; exact k
      · rw [List.getElem?_set_ne hi] at e
        exact (g.ask l z q t ht).2 l2 e
    · rw [z, k] at q; cases q
end
/-- the lines of a whole program -/
structure Good (n r : Int) (lns : List Ln) : Prop where
  pos : 0 < lns.length
  gen : Gen n r (lns.length : Int) ((lns.length : Int) - 1) lns
end Lk
namespace Lk
open PySem L2

/-! ### defs and methods, by what they promise -/
section
variable (P : Program) (w : World) (K : PySem.W.Frag) (mg : Str → Option Value) (base : Heap)
/-- a def of the module by its name -/
structure Fo (k : Nat) (x : Str) (ps : List Str) (sp : Sp) : Prop where
  ex : ∃ f fd, FnOk P w K mg base CX0 k f fd ps sp ∧ Binds K fd ps [] ∧ mg x = some (.ref f) ∧ PySem.W.keepIn K (.ref f) = true
/-- what C's method m promises -/
structure Mo (k : Nat) (C : Addr) (m : Str) (ps : List Str) (sp : Sp) : Prop where
  ex : ∃ f fd, FnOk P w K mg base CX0 k f fd ps sp ∧ Binds K fd ps [] ∧ Meth K C m f
/-- a class made by its __init__ -/
structure Co (k : Nat) (C : Addr) (x : Str) (ps : List Str) (sp : Sp) : Prop where
  ex : ∃ f fd, FnOk P w K mg base CX0 k f fd ps sp ∧ Binds K fd ps [] ∧ Mk K C f ∧ mg x = some (.ref C)
/-- a class's def, read off the class -/
structure Ho (k : Nat) (x m : Str) (ps : List Str) (sp : Sp) : Prop where
  ex : ∃ C mc f fd, FnOk P w K mg base CX0 k f fd ps sp ∧ Binds K fd ps [] ∧ mg x = some (.ref C) ∧ ClX.CRead K C mc ∧ ClX.CVal K C mc m (.ref f) (.ref f) ∧ PySem.W.keepIn K (.ref f) = true
end
def tFo (sp : Sp) (t : TA) : TE := fun σ H Q => t σ H fun vs H1 => sp vs H1 Q E0
def tMo (C : Addr) (m : Str) (sp : Sp) (ta : TE) (t : TA) : TE := fun σ H Q => ta σ H fun x H1 => ∃ a dx fs, x = .ref a ∧ H1 a = some (.ins C dx fs) ∧ fs.lookup m = none ∧ t σ H1 fun vs H2 => sp (x :: vs) H2 Q E0
def tCo (C : Addr) (sp : Sp) (t : TA) : TE := fun σ H Q => t σ H fun vs H1 => ∀ x dx, H1 x = none → H1 dx = none → dx ≠ x → sp (.ref x :: vs) (upd (upd H1 dx (.own x)) x (.ins C dx [])) (fun v H2 => v = .non ∧ Q (.ref x) H2) E0
section
variable {X : Cx} {k : Nat} {C : Addr} {ps : List Str} {sp : Sp} {x m : Str} {p pos apos : Pos} {e o : Expr} {es : List Expr} {ta : TE} {t : TA}
theorem tCall_nil {σ : L2.St} {H : Hp} {Q : VK} (h : tFo sp t σ H Q) : tCall sp [] E0 t σ H Q := by
  have e : (fun (vs : List V) (H1 : Hp) => sp (vs ++ []) H1 Q E0) = fun vs H1 => sp vs H1 Q E0 := by
    funext vs H1; rw [List.append_nil]
  show t σ H (fun vs H1 => sp (vs ++ []) H1 Q E0)
  rw [e]; exact h
theorem pe_fo (F : Fo X.prog X.w X.K X.mg X.base k x ps sp) (hr : Room k X.A) (hg : Gl X x) (ha : PA X (e :: es) t) (hdb : (x == ("__debug__" : Str)) = false := by decide)
    (he : starEach (e :: es) X.env = (false, eval e X.env) :: starEach es X.env := by rfl) (hpl : (backTo pos (starEach es X.env)).any (·.1) = false := by rfl) : PE X (.Call (.Name x p) (e :: es) [] pos) (tFo sp t) := by
  obtain ⟨f, fd, h1, h2, h3, h4⟩ := F.ex
  exact ⟨fun pins s σ H Q I h => (pe_call h1 hr hg h3 h4 h2 .nil pass0 ha hdb he hpl).run pins s σ H Q I (tCall_nil h)⟩
theorem pe_co (F : Co X.prog X.w X.K X.mg X.base k C x ps sp) (hr : Room (k + 1) X.A) (hg : Gl X x) (ha : PA X (e :: es) t) (hdb : (x == ("__debug__" : Str)) = false := by decide)
    (he : starEach (e :: es) X.env = (false, eval e X.env) :: starEach es X.env := by rfl) (hpl : (backTo pos (starEach es X.env)).any (·.1) = false := by rfl) : PE X (.Call (.Name x p) (e :: es) [] pos) (tCo C sp t) := by
  obtain ⟨f, fd, h1, h2, h3, h4⟩ := F.ex
  refine ⟨fun pins s σ H Q I h => (pe_make h3 h1 hr hg h4 h2 .nil pass0 ha hdb he hpl).run pins s σ H Q I ?_⟩
  have e : (fun (vs : List V) (H1 : Hp) => ∀ x dx, H1 x = none → H1 dx = none → dx ≠ x → sp (.ref x :: (vs ++ [])) (upd (upd H1 dx (.own x)) x (.ins C dx [])) (fun v H2 => v = .non ∧ Q (.ref x) H2) E0) = fun vs H1 => ∀ x dx, H1 x = none → H1 dx = none → dx ≠ x → sp (.ref x :: vs) (upd (upd H1 dx (.own x)) x (.ins C dx [])) (fun v H2 => v = .non ∧ Q (.ref x) H2) E0 := by
    funext vs H1; rw [List.append_nil]
  show t σ H (fun (vs : List V) (H1 : Hp) => ∀ x dx, H1 x = none → H1 dx = none → dx ≠ x → sp (.ref x :: (vs ++ [])) (upd (upd H1 dx (.own x)) x (.ins C dx [])) (fun v H2 => v = .non ∧ Q (.ref x) H2) E0)
  rw [e]; exact h
theorem pe_mo {pl : Sem Bool} (he : PE X o ta) (c : Cls X.K C) (F : Mo X.prog X.w X.K X.mg X.base k C m ps sp) (hr : Room k X.A) (ha : PA X (e :: es) t)
    (hpl : (backTo pos (starEach es X.env)).any (·.1) = false := by rfl) (hst : starEach (e :: es) X.env = (false, eval e X.env) :: starEach es X.env := by rfl)
    (ht : eval (.Call (.Attribute o m apos) (e :: es) [] pos) X.env = (do let ov ← eval o X.env; standAt apos.atName; let (f, first) ← holding [ov] (getMethod ov m pl); callWith pos f first (backTo pos (starEach (e :: es) X.env)) (backToKw pos (keywordEach [] X.env))) := by rfl) :
    PE X (.Call (.Attribute o m apos) (e :: es) [] pos) (tMo C m sp ta t) := by
  obtain ⟨f, fd, h1, h2, h3⟩ := F.ex
  refine ⟨fun pins s σ H Q I h => (pe_meth (pl := pl) he c h3 h1 hr h2 .nil pass0 ha hst hpl ht).run pins s σ H Q I ?_⟩
  have e1 : (fun (x : V) (H1 : Hp) => ∃ a dx fs, x = .ref a ∧ H1 a = some (.ins C dx fs) ∧ fs.lookup m = none ∧ t σ H1 fun vs H2 => sp (x :: (vs ++ [])) H2 Q E0) = fun x H1 => ∃ a dx fs, x = .ref a ∧ H1 a = some (.ins C dx fs) ∧ fs.lookup m = none ∧ t σ H1 fun vs H2 => sp (x :: vs) H2 Q E0 := by
    funext x H1
    have e2 : (fun (vs : List V) (H2 : Hp) => sp (x :: (vs ++ [])) H2 Q E0) = fun vs H2 => sp (x :: vs) H2 Q E0 := by
      funext vs H2; rw [List.append_nil]
    rw [e2]
  show ta σ H (fun (x : V) (H1 : Hp) => ∃ a dx fs, x = .ref a ∧ H1 a = some (.ins C dx fs) ∧ fs.lookup m = none ∧ t σ H1 fun vs H2 => sp (x :: (vs ++ [])) H2 Q E0)
  rw [e1]; exact h
theorem pe_mo0 {pl : Sem Bool} (he : PE X o ta) (c : Cls X.K C) (F : Mo X.prog X.w X.K X.mg X.base k C m ps sp) (hr : Room k X.A)
    (ht : eval (.Call (.Attribute o m apos) [] [] pos) X.env = (do let ov ← eval o X.env; standAt apos.atName; let (f, first) ← holding [ov] (getMethod ov m pl); callWith pos f first (backTo pos (starEach [] X.env)) (backToKw pos (keywordEach [] X.env))) := by rfl) :
    PE X (.Call (.Attribute o m apos) [] [] pos) (tMo C m sp ta tNil) := by
  obtain ⟨f, fd, h1, h2, h3⟩ := F.ex
  exact ⟨fun pins s σ H Q I h => (pe_meth0 (pl := pl) he c h3 h1 hr h2 .nil pass0 ht).run pins s σ H Q I h⟩
/-- C.m(e, ..) where C is a class and m a plain def of it -/
theorem pe_ho {np : Pos} {pl : Sem Bool} (F : Ho X.prog X.w X.K X.mg X.base k x m ps sp) (hr : Room k X.A) (hg : Gl X x) (ha : PA X (e :: es) t) (hdb : (x == ("__debug__" : Str)) = false := by decide)
    (hpl : (backTo pos (starEach es X.env)).any (·.1) = false := by rfl) (hst : starEach (e :: es) X.env = (false, eval e X.env) :: starEach es X.env := by rfl)
    (ht : eval (.Call (.Attribute (.Name x np) m apos) (e :: es) [] pos) X.env = (do let ov ← eval (.Name x np) X.env; standAt apos.atName; let (f, first) ← holding [ov] (getMethod ov m pl); callWith pos f first (backTo pos (starEach (e :: es) X.env)) (backToKw pos (keywordEach [] X.env))) := by rfl) :
    PE X (.Call (.Attribute (.Name x np) m apos) (e :: es) [] pos) (tFo sp t) := by
  obtain ⟨C, mc, f, fd, h1, h2, h3, h4, h5, h6⟩ := F.ex
  refine ⟨fun pins s σ H Q I h => ?_⟩
  refine PySem.W.methodCall_KW (pl := pl) (ld_glob I hg h3 ?_ hdb) ht
  refine PySem.W.method_cls I.kIn h4.ga (ClX.getcval_ok I h4 h5 fun s2 I2 => ?_)
  refine PySem.W.callWith_K (first := []) (h₀ := X.base) I.ok.mod.kin h6 (thn (ha.run pos pins s2 σ H _ I2 h) fun us s3 ⟨vs, H2, I3, r, q2⟩ => ⟨I3.kIn, ?_⟩) hst hpl
  exact run_fn (us := us) (vs := vs) h1 hr h2 .nil pass0 I3 r (by rw [List.append_nil]; exact q2)
end
/-! ### short words for tests whose answer is known -/
theorem ifY {c A B : Prop} [Decidable c] (hc : c) (h : A) : if decide c = true then A else B := by
  rw [decide_eq_true hc]; exact iteT h
theorem ifN {c A B : Prop} [Decidable c] (hc : ¬ c) (h : B) : if decide c = true then A else B := by
  rw [decide_eq_false hc]; exact iteF h
theorem ifNY {c A B : Prop} [Decidable c] (hc : ¬ c) (h : A) : if (!decide c) = true then A else B := by
  rw [decide_eq_false hc]; exact iteT h
theorem ifNN {c A B : Prop} [Decidable c] (hc : c) (h : B) : if (!decide c) = true then A else B := by
  rw [decide_eq_true hc]; exact iteF h
theorem if2 {c A B : Prop} [Decidable c] (h1 : c → A) (h2 : ¬ c → B) : if decide c = true then A else B := by
  by_cases h : c
  · exact ifY h (h1 h)
  · exact ifN h (h2 h)
theorem ifN2 {c A B : Prop} [Decidable c] (h1 : ¬ c → A) (h2 : c → B) : if (!decide c) = true then A else B := by
  by_cases h : c
  · exact ifNN h (h2 h)
  · exact ifNY h (h1 h)
theorem ifB {b : Bool} {A B : Prop} (h1 : b = true → A) (h2 : b = false → B) : if b = true then A else B := by
  cases b with
  | true => exact iteT (h1 rfl)
  | false => exact iteF (h2 rfl)
end Lk
namespace Lk
open PySem L2

/-! ### the walk as a machine -/
structure WSt where
  at_ : Int
  nums : List Int
  due : List Int
  words : List Int
  rows : List (List Int)
  steps : Int
  fin : Option (Str × Int)
def vl (nums : List Int) : Option Int → Int | none => 0 | some i => gi nums i
def rowAt (s : WSt) (r : Int) : List Int := s.rows.getD r.toNat []
def ndv (s : WSt) : Nd → Int | .zero => 0 | .name x => gi s.nums x | .len r => ((rowAt s r).length : Int)
def keptB (s : WSt) (bs : List Bd) : Bool := bs.all fun b => decide (ndv s b.a - ndv s b.b ≤ b.c)
def lnAt (lns : List Ln) (i : Int) : Ln := lns.getD i.toNat .fin
def askTo (s : WSt) : Ln → Int → Int | .ask bs k m, _ => if keptB s bs = true then k else m | _, a => a
def pa (lns : List Ln) (s : WSt) : Int := askTo s (lnAt lns s.at_) s.at_
def lk (out : List (Int × Str)) (n at_ place : Int) : Option Str :=
  if place < 0 ∧ (at_, ("low" : Str)) ∉ out then some "low" else if n ≤ place ∧ (at_, ("high" : Str)) ∉ out then some "high" else if place < 0 ∨ n ≤ place then some "beyond" else none
def spent (b : Int) (s : WSt) : Option Str := if s.steps = b then some "spent" else none
def lkO (o : Option Str) (b : Int) (s : WSt) : Option Str := match o with | some w => some w | none => spent b s
def stp (out : List (Int × Str)) (b : Int) (s : WSt) : Ln → Option Str
  | .fin => some "end"
  | .get _ r y c _ => lkO (lk out ((rowAt s r).length : Int) s.at_ (vl s.nums y + c)) b s
  | .put r y c _ _ => lkO (lk out ((rowAt s r).length : Int) s.at_ (vl s.nums y + c)) b s
  | _ => spent b s
def hd0 : List Int → Int | [] => 0 | d :: _ => d
def give (s : WSt) : Ln → Int
  | .set _ y c _ => vl s.nums y + c
  | .sum _ z w _ => gi s.nums z + vl s.nums w
  | .len _ r _ => ((rowAt s r).length : Int)
  | .get _ r y c _ => gi (rowAt s r) (vl s.nums y + c)
  | .take _ _ => hd0 s.due
  | _ => 0
def dl (s : WSt) : Ln → WSt
  | .set x y c k => { s with nums := s.nums.set x.toNat (vl s.nums y + c), at_ := k }
  | .sum x z w k => { s with nums := s.nums.set x.toNat (gi s.nums z + vl s.nums w), at_ := k }
  | .len x r k => { s with nums := s.nums.set x.toNat ((rowAt s r).length : Int), at_ := k }
  | .get x r y c k => { s with nums := s.nums.set x.toNat (gi (rowAt s r) (vl s.nums y + c)), at_ := k }
  | .take x k => { s with nums := s.nums.set x.toNat (hd0 s.due), due := s.due.tail, at_ := k }
  | .put r y c z k => { s with rows := s.rows.set r.toNat ((rowAt s r).set (vl s.nums y + c).toNat (gi s.nums z)), at_ := k }
  | .tell x k => { s with words := s.words ++ [gi s.nums x], at_ := k }
  | .test y w c k m => { s with at_ := if c < vl s.nums y - vl s.nums w then m else k }
  | .ask _ _ _ => s
  | .fin => s
def stepE (b : Int) (s : WSt) (ln : Ln) : Option Str → WSt
  | none => { dl s ln with steps := s.steps + 1 }
  | some w => { s with fin := some (w, s.at_) }
def stepF (lns : List Ln) (out : List (Int × Str)) (b : Int) (s : WSt) : WSt :=
  if s.fin.isSome = true then s else stepE b { s with at_ := pa lns s } (lnAt lns (pa lns s)) (stp out b { s with at_ := pa lns s } (lnAt lns (pa lns s)))

/-! ### right states -/
structure WOk0 (n r : Int) (lns : List Ln) (s : WSt) : Prop where
  good : Good n r lns
  at0 : 0 ≤ s.at_
  at1 : s.at_ < (lns.length : Int)
  nums : (s.nums.length : Int) = n
  rows : (s.rows.length : Int) = r
structure WOk (n r b : Int) (lns : List Ln) (s : WSt) : Prop where
  ok : WOk0 n r lns s
  words : (s.words.length : Int) ≤ s.steps
  st0 : 0 ≤ s.steps
  st1 : s.steps ≤ b
  b60 : b ≤ 60
theorem lnAt_get {lns : List Ln} {i : Int} (h0 : 0 ≤ i) (h1 : i < (lns.length : Int)) : lns[i.toNat]? = some (lnAt lns i) := by
  have l : i.toNat < lns.length := by omega
  unfold lnAt
  rw [List.getD_eq_getElem?_getD, List.getElem?_eq_getElem l]
  rfl
theorem lnAt_mem {lns : List Ln} {i : Int} (h0 : 0 ≤ i) (h1 : i < (lns.length : Int)) : lnAt lns i ∈ lns := List.mem_of_getElem? (lnAt_get h0 h1)
theorem row_get {s : WSt} {r i : Int} (h : (s.rows.length : Int) = r) (hi : In i r) : s.rows[i.toNat]? = some (rowAt s i) := by
  have l : i.toNat < s.rows.length := by have := hi.1; have := hi.2; omega
  unfold rowAt
  rw [List.getD_eq_getElem?_getD, List.getElem?_eq_getElem l]
  rfl
section
variable {n r b : Int} {lns : List Ln} {s : WSt} {out : List (Int × Str)}
theorem WOk0.mem (o : WOk0 n r lns s) : lnAt lns s.at_ ∈ lns := lnAt_mem o.at0 o.at1
theorem WOk0.fld (o : WOk0 n r lns s) : Fld n r (lnAt lns s.at_) := o.good.gen.fld _ o.mem
theorem WOk0.tgs (o : WOk0 n r lns s) : ∀ t ∈ tg (lnAt lns s.at_), 0 ≤ t ∧ t < (lns.length : Int) := fun t ht => by
  have := o.good.gen.tgs _ o.mem t ht
  omega
/-- behind the asks -/
theorem pa_cases (o : WOk0 n r lns s) : (isAsk (lnAt lns s.at_) = false ∧ pa lns s = s.at_) ∨ (∃ bs k m, lnAt lns s.at_ = .ask bs k m ∧ pa lns s = (if keptB s bs = true then k else m) ∧ pa lns s ∈ tg (lnAt lns s.at_)) := by
  unfold pa
  cases e : lnAt lns s.at_ with
  | ask bs k m =>
    refine .inr ⟨bs, k, m, rfl, rfl, ?_⟩
    show (if keptB s bs = true then k else m) ∈ [k, m]
    split <;> simp
  | _ => exact .inl ⟨rfl, rfl⟩
theorem pa_in (o : WOk0 n r lns s) : 0 ≤ pa lns s ∧ pa lns s < (lns.length : Int) := by
  rcases pa_cases o with ⟨_, e⟩ | ⟨_, _, _, _, _, h⟩
  · rw [e]; exact ⟨o.at0, o.at1⟩
  · exact o.tgs _ h
theorem pa_not (o : WOk0 n r lns s) : isAsk (lnAt lns (pa lns s)) = false := by
  rcases pa_cases o with ⟨h, e⟩ | ⟨bs, k, m, e1, e2, h⟩
  · rw [e]; exact h
  · have q := pa_in o
    exact (o.good.gen.ask _ o.mem (by rw [e1]; rfl) _ h).2 _ (lnAt_get q.1 q.2)
theorem WOk0.to (o : WOk0 n r lns s) {a : Int} (h : 0 ≤ a ∧ a < (lns.length : Int)) : WOk0 n r lns { s with at_ := a } := ⟨o.good, h.1, h.2, o.nums, o.rows⟩
theorem dl_steps (s : WSt) (ln : Ln) : (dl s ln).steps = s.steps := by cases ln <;> rfl
theorem dl_fin (s : WSt) (ln : Ln) : (dl s ln).fin = s.fin := by cases ln <;> rfl
theorem spent_none (h : spent b s = none) : s.steps ≠ b := fun e => by unfold spent at h; rw [if_pos e] at h; cases h
theorem lkO_none {o : Option Str} (h : lkO o b s = none) : o = none ∧ s.steps ≠ b := by
  cases o with
  | none => exact ⟨rfl, spent_none h⟩
  | some w => cases h
theorem stp_none {ln : Ln} (h : stp out b s ln = none) : s.steps ≠ b := by
  cases ln <;> first | exact spent_none h | exact (lkO_none h).2 | cases h
theorem lk_none {m a p : Int} (h : lk out m a p = none) : 0 ≤ p ∧ p < m := by
  unfold lk at h
  split at h
  · cases h
  · split at h
    · cases h
    · split at h
      · cases h
      · omega
/-- a line done goes on at one of its goals -/
theorem dl_at (s : WSt) {ln : Ln} (h : isAsk ln = false) (f : ln ≠ .fin) : (dl s ln).at_ ∈ tg ln := by
  cases ln with
  | test y w c k m => show (if c < vl s.nums y - vl s.nums w then m else k) ∈ [k, m]; split <;> simp
  | ask bs k m => cases h
  | fin => exact absurd rfl f
  | _ => exact List.mem_singleton.mpr rfl
theorem dl_nums (s : WSt) (ln : Ln) : (dl s ln).nums.length = s.nums.length := by
  cases ln <;> first | rfl | exact List.length_set
theorem dl_rows (s : WSt) (ln : Ln) : (dl s ln).rows.length = s.rows.length := by
  cases ln <;> first | rfl | exact List.length_set
theorem dl_words (s : WSt) (ln : Ln) : (dl s ln).words.length ≤ s.words.length + 1 := by
  cases ln <;> first | exact Nat.le_succ _ | (show (s.words ++ _).length ≤ _; rw [List.length_append, List.length_singleton]; exact Nat.le_refl _)
theorem WOk0.dl (o : WOk0 n r lns s) : WOk0 n r lns (dl s (lnAt lns s.at_)) := by
  have q : 0 ≤ (Lk.dl s (lnAt lns s.at_)).at_ ∧ (Lk.dl s (lnAt lns s.at_)).at_ < (lns.length : Int) := by
    by_cases h : isAsk (lnAt lns s.at_) = false ∧ lnAt lns s.at_ ≠ .fin
    · exact o.tgs _ (dl_at s h.1 h.2)
    · have e : (Lk.dl s (lnAt lns s.at_)).at_ = s.at_ := by
        generalize lnAt lns s.at_ = ln at h
        cases ln with
        | ask bs k m => rfl
        | fin => rfl
        | _ => exact absurd ⟨rfl, fun z => by cases z⟩ h
      rw [e]; exact ⟨o.at0, o.at1⟩
  exact ⟨o.good, q.1, q.2, by rw [dl_nums]; exact o.nums, by rw [dl_rows]; exact o.rows⟩
theorem WOk.dl (o : WOk n r b lns s) (h : s.steps ≠ b) : WOk n r b lns { dl s (lnAt lns s.at_) with steps := s.steps + 1 } := by
  have o1 := o.ok.dl
  have o3 := o.words
  have o4 := o.st0
  have o5 := o.st1
  have q := dl_words s (lnAt lns s.at_)
  refine ⟨⟨o1.good, o1.at0, o1.at1, o1.nums, o1.rows⟩, ?_, ?_, ?_, o.b60⟩
  · show ((Lk.dl s (lnAt lns s.at_)).words.length : Int) ≤ s.steps + 1; omega
  · show 0 ≤ s.steps + 1; omega
  · show s.steps + 1 ≤ b; omega
theorem WOk.to (o : WOk n r b lns s) {a : Int} (h : 0 ≤ a ∧ a < (lns.length : Int)) : WOk n r b lns { s with at_ := a } := ⟨o.ok.to h, o.words, o.st0, o.st1, o.b60⟩
theorem WOk.step (o : WOk n r b lns s) (out : List (Int × Str)) : WOk n r b lns (stepF lns out b s) := by
  unfold stepF
  split
  · exact o
  · have o1 := o.to (pa_in o.ok)
    cases e : stp out b { s with at_ := pa lns s } (lnAt lns (pa lns s)) with
    | none => exact o1.dl (stp_none e)
    | some w => exact ⟨⟨o1.ok.good, o1.ok.at0, o1.ok.at1, o1.ok.nums, o1.ok.rows⟩, o1.words, o1.st0, o1.st1, o1.b60⟩
end

/-! ### the thinned walk against the full one -/
def dueW (out : List (Int × Str)) : Str × Int → Str × Int := fun (w, a) => if (w = "low" ∨ w = "high") ∧ (a, w) ∈ out then ("beyond", a) else (w, a)
def thin (out : List (Int × Str)) (s : WSt) : WSt := { s with fin := s.fin.map (dueW out) }
theorem lk_thin {out : List (Int × Str)} {m a p : Int} (hm : 0 ≤ m) : (lk [] m a p = none ∧ lk out m a p = none) ∨ (∃ w, lk [] m a p = some w ∧ lk out m a p = some (dueW out (w, a)).1) := by
  have nl : ∀ x : Int × Str, x ∉ ([] : List (Int × Str)) := fun _ h => absurd h List.not_mem_nil
  have d1 : ¬ (("high" : Str) = "low") := by decide +kernel
  have d2 : ¬ (("low" : Str) = "high") := by decide +kernel
  by_cases h1 : p < 0
  · refine .inr ⟨"low", by unfold lk; rw [if_pos ⟨h1, nl _⟩], ?_⟩
    unfold lk dueW
    by_cases h2 : (a, ("low" : Str)) ∈ out
    · rw [if_neg (fun z => z.2 h2), if_neg (fun z => by omega), if_pos (.inl h1)]
      show _ = some (if _ then _ else _ : Str × Int).1
      rw [if_pos ⟨.inl rfl, h2⟩]
    · rw [if_pos ⟨h1, h2⟩]
      show _ = some (if _ then _ else _ : Str × Int).1
      rw [if_neg fun z => h2 z.2]
  · by_cases h3 : m ≤ p
    · refine .inr ⟨"high", by unfold lk; rw [if_neg (fun z => h1 z.1), if_pos ⟨h3, nl _⟩], ?_⟩
      unfold lk dueW
      by_cases h2 : (a, ("high" : Str)) ∈ out
      · rw [if_neg (fun z => h1 z.1), if_neg (fun z => z.2 h2), if_pos (.inr h3)]
        show _ = some (if _ then _ else _ : Str × Int).1
        rw [if_pos ⟨.inr rfl, h2⟩]
      · rw [if_neg (fun z => h1 z.1), if_pos ⟨h3, h2⟩]
        show _ = some (if _ then _ else _ : Str × Int).1
        rw [if_neg fun z => h2 z.2]
    · exact .inl ⟨by unfold lk; rw [if_neg (fun z => h1 z.1), if_neg (fun z => h3 z.1), if_neg (fun z => z.elim h1 h3)], by unfold lk; rw [if_neg (fun z => h1 z.1), if_neg (fun z => h3 z.1), if_neg (fun z => z.elim h1 h3)]⟩
theorem dueW_other {out : List (Int × Str)} {w : Str} {a : Int} (h1 : w ≠ "low") (h2 : w ≠ "high") : dueW out (w, a) = (w, a) := by
  show (if _ then _ else _) = _
  rw [if_neg fun z => z.1.elim h1 h2]
theorem dueW_snd {out : List (Int × Str)} {w : Str} {a : Int} : (dueW out (w, a)).2 = a := by
  show (if _ then _ else _ : Str × Int).2 = _
  split <;> rfl
theorem spent_due {out : List (Int × Str)} {b : Int} {s : WSt} : (spent b s).map (fun w => (dueW out (w, s.at_)).1) = spent b s := by
  unfold spent
  split
  · show some (dueW out ("spent", s.at_)).1 = _
    rw [dueW_other (by decide +kernel) (by decide +kernel)]
  · rfl
theorem stp_thin {out : List (Int × Str)} {b : Int} {s : WSt} {ln : Ln} : stp out b s ln = (stp [] b s ln).map fun w => (dueW out (w, s.at_)).1 := by
  have look : ∀ r p, lkO (lk out ((rowAt s r).length : Int) s.at_ p) b s = (lkO (lk [] ((rowAt s r).length : Int) s.at_ p) b s).map fun w => (dueW out (w, s.at_)).1 := fun r p => by
    rcases lk_thin (out := out) (m := ((rowAt s r).length : Int)) (a := s.at_) (p := p) (by omega) with ⟨e1, e2⟩ | ⟨w, e1, e2⟩
    · rw [e1, e2]; exact spent_due.symm
    · rw [e1, e2]; rfl
  cases ln with
  | fin => show some _ = some (dueW out ("end", s.at_)).1; rw [dueW_other (by decide +kernel) (by decide +kernel)]
  | get x r y c k => exact look r _
  | put r y c z k => exact look r _
  | _ => exact spent_due.symm
theorem step_thin {lns : List Ln} {out : List (Int × Str)} {b : Int} {s : WSt} : stepF lns out b (thin out s) = thin out (stepF lns [] b s) := by
  cases e : s.fin with
  | some x =>
    have e1 : stepF lns out b (thin out s) = thin out s := by unfold stepF; rw [if_pos (by show (s.fin.map (dueW out)).isSome = true; rw [e]; rfl)]
    have e2 : stepF lns [] b s = s := by unfold stepF; rw [if_pos (by rw [e]; rfl)]
    rw [e1, e2]
  | none =>
    have et : thin out s = s := by
      obtain ⟨a1, a2, a3, a4, a5, a6, a7⟩ := s
      cases e
      rfl
    rw [et]
    unfold stepF
    have en : ¬ (s.fin.isSome = true) := by rw [e]; decide
    rw [if_neg en, if_neg en, stp_thin (out := out)]
    cases h : stp [] b { s with at_ := pa lns s } (lnAt lns (pa lns s)) with
    | none =>
      show ({ dl _ _ with steps := _ } : WSt) = thin out { dl _ _ with steps := _ }
      unfold thin
      have q : (dl { s with at_ := pa lns s } (lnAt lns (pa lns s))).fin = none := by rw [dl_fin]; exact e
      show _ = ({ dl { s with at_ := pa lns s } (lnAt lns (pa lns s)) with steps := _, fin := Option.map (dueW out) (dl { s with at_ := pa lns s } (lnAt lns (pa lns s))).fin } : WSt)
      rw [q]
      show ({ dl { s with at_ := pa lns s } (lnAt lns (pa lns s)) with steps := s.steps + 1 } : WSt) = { dl { s with at_ := pa lns s } (lnAt lns (pa lns s)) with steps := s.steps + 1, fin := none }
      rw [← q]
    | some w =>
      show ({ s with at_ := pa lns s, fin := some ((dueW out (w, pa lns s)).1, pa lns s) } : WSt) = { s with at_ := pa lns s, fin := some (dueW out (w, pa lns s)) }
      have q : dueW out (w, pa lns s) = ((dueW out (w, pa lns s)).1, pa lns s) := Prod.ext rfl dueW_snd
      rw [← q]
/-- m steps, but a walk that has ended stays -/
def runF (lns : List Ln) (out : List (Int × Str)) (b : Int) : Nat → WSt → WSt
  | 0, s => s
  | m + 1, s => runF lns out b m (stepF lns out b s)
theorem run_thin_eq {lns : List Ln} {out : List (Int × Str)} {b : Int} : ∀ (m : Nat) (s : WSt), runF lns out b m (thin out s) = thin out (runF lns [] b m s)
  | 0, _ => rfl
  | m + 1, s => by
    show runF lns out b m (stepF lns out b (thin out s)) = thin out (runF lns [] b m (stepF lns [] b s))
    rw [step_thin, run_thin_eq m]
theorem step_done {lns : List Ln} {out : List (Int × Str)} {b : Int} {s : WSt} (h : s.fin.isSome = true) : stepF lns out b s = s := by unfold stepF; rw [if_pos h]
theorem run_done {lns : List Ln} {out : List (Int × Str)} {b : Int} : ∀ (m : Nat) {s : WSt}, s.fin.isSome = true → runF lns out b m s = s
  | 0, _, _ => rfl
  | m + 1, s, h => by
    show runF lns out b m (stepF lns out b s) = s
    rw [step_done h, run_done m h]
theorem step_or {n r b : Int} {lns : List Ln} {out : List (Int × Str)} {s : WSt} (h : s.fin = none) : (stepF lns out b s).fin.isSome = true ∨ ((stepF lns out b s).fin = none ∧ (stepF lns out b s).steps = s.steps + 1) := by
  unfold stepF
  rw [if_neg (by rw [h]; decide)]
  cases e : stp out b { s with at_ := pa lns s } (lnAt lns (pa lns s)) with
  | none => exact .inr ⟨by show (dl _ _).fin = none; rw [dl_fin]; exact h, rfl⟩
  | some w => exact .inl rfl
end Lk
namespace Lk
open PySem L2

/-! ### a walk in the heap -/
def IsL (H : Hp) (a : Addr) (xs : List Int) : Prop := H a = some (.lst (xs.map V.int))
structure WA where
  p : Addr
  ll : Addr
  rr : Addr
  du : Addr
  nu : Addr
  wo : Addr
  las : List Addr
  ras : List Addr
  oo : Option Addr
def WA.mut (A : WA) : List Addr := A.p :: A.du :: A.nu :: A.wo :: A.ras
def WA.own (A : WA) : List Addr := A.ll :: A.rr :: A.du :: A.nu :: A.wo :: (A.ras ++ A.oo.toList)
def WA.all (A : WA) : List Addr := A.p :: A.own
def mnames : List Str := ["value", "node", "kept", "pass_asks", "looked", "stopped", "step", "do_line", "given", "told", "frame"]
structure Flds (fs : List (Str × V)) (A : WA) (b : Int) (a st : Int) (ev : V) : Prop where
  lines : fs.lookup ("lines" : Str) = some (.ref A.ll)
  rows : fs.lookup ("rows" : Str) = some (.ref A.rr)
  due : fs.lookup ("due" : Str) = some (.ref A.du)
  budget : fs.lookup ("budget" : Str) = some (.int b)
  at_ : fs.lookup ("at" : Str) = some (.int a)
  numbers : fs.lookup ("numbers" : Str) = some (.ref A.nu)
  words : fs.lookup ("words" : Str) = some (.ref A.wo)
  steps : fs.lookup ("steps" : Str) = some (.int st)
  end_ : fs.lookup ("end" : Str) = some ev
  out : fs.lookup ("out" : Str) = A.oo.map V.ref
  no : ∀ m ∈ mnames, fs.lookup m = none
  len0 : fs.length ≤ 9 + A.oo.toList.length
theorem Flds.len {fs : List (Str × V)} {A : WA} {b a st : Int} {ev : V} (F : Flds fs A b a st ev) : fs.length ≤ 10 := by
  have h := F.len0
  cases e : A.oo with
  | none => rw [e] at h; exact Nat.le_succ_of_le h
  | some o => rw [e] at h; exact h
def FinAt (H : Hp) (v : V) : Option (Str × Int) → Prop
  | none => v = .non
  | some x => ∃ q, v = .ref q ∧ H q = some (.tup [.str x.1, .int x.2])
def OutAt (H : Hp) (o : Addr) (out : List (Int × Str)) : Prop := ∃ as : List Addr, H o = some (.lst (as.map V.ref)) ∧ All2 (fun a (x : Int × Str) => H a = some (.tup [.int x.1, .str x.2])) as out ∧ ∀ x ∈ out, x.2 = "low" ∨ x.2 = "high"
def OoAt (H : Hp) : Option Addr → List (Int × Str) → Prop
  | none, out => out = []
  | some o, out => OutAt H o out
structure WkAt (C : Addr) (th : Bool) (H : Hp) (A : WA) (n r b : Int) (lns : List Ln) (out : List (Int × Str)) (s : WSt) : Prop where
  ok : WOk0 n r lns s
  ins : ∃ dx fs ev, H A.p = some (.ins C dx fs) ∧ Flds fs A b s.at_ s.steps ev ∧ FinAt H ev s.fin
  ll : H A.ll = some (.lst (A.las.map V.ref))
  lns : All2 (LnAt H) A.las lns
  rr : H A.rr = some (.lst (A.ras.map V.ref))
  rows : All2 (IsL H) A.ras s.rows
  du : IsL H A.du s.due
  nu : IsL H A.nu s.nums
  wo : IsL H A.wo s.words
  oo : OoAt H A.oo out
  th : A.oo.isSome = th
  nd : A.own.Nodup
theorem FinAt.mono {H H' : Hp} {v : V} {f : Option (Str × Int)} (t : TupK H H') (h : FinAt H v f) : FinAt H' v f := by
  cases f with
  | none => exact h
  | some x => obtain ⟨q, e, k⟩ := h; exact ⟨q, e, t _ _ k⟩
theorem OutAt.keep {H H' : Hp} {o : Addr} {out : List (Int × Str)} (t : TupK H H') (e : ∀ xs, H o = some (.lst xs) → H' o = some (.lst xs)) (h : OutAt H o out) : OutAt H' o out :=
  let ⟨as, e1, k, z⟩ := h
  ⟨as, e _ e1, k.mono fun _ _ z => t _ _ z, z⟩
section
variable {C : Addr} {th : Bool} {H H' : Hp} {A : WA} {n r b : Int} {lns : List Ln} {out : List (Int × Str)} {s : WSt}
/-- what the lists of a walk lean on is kept -/
theorem WkAt.keep (W : WkAt C th H A n r b lns out s) (t : TupK H H') (k : ∀ q ∈ A.all, ∀ o, H q = some o → H' q = some o) : WkAt C th H' A n r b lns out s := by
  obtain ⟨ok, ⟨dx, fs, ev, h1, h2, h3⟩, e1, e2, e3, e4, e5, e6, e7, e8, e9, e10⟩ := W
  have kk : ∀ q ∈ A.own, ∀ o, H q = some o → H' q = some o := fun q hq => k q (List.mem_cons_of_mem _ hq)
  have kr : ∀ q ∈ A.ras, ∀ o, H q = some o → H' q = some o := fun q hq => kk q (by unfold WA.own; simp [hq])
  refine ⟨ok, ⟨dx, fs, ev, k _ List.mem_cons_self _ h1, h2, h3.mono t⟩, kk _ (by simp [WA.own]) _ e1, lns_mono t e2, kk _ (by simp [WA.own]) _ e3, ⟨e4.1, fun i a x q1 q2 => kr a (List.mem_of_getElem? q1) _ (e4.2 i a x q1 q2)⟩,
    kk _ (by simp [WA.own]) _ e5, kk _ (by simp [WA.own]) _ e6, kk _ (by simp [WA.own]) _ e7, ?_, e9, e10⟩
  cases eo : A.oo with
  | none => rw [eo] at e8; exact e8
  | some o =>
    rw [eo] at e8
    exact OutAt.keep t (fun xs z => kk o (by unfold WA.own; rw [eo]; simp) _ z) e8
theorem WkAt.ext (W : WkAt C th H A n r b lns out s) (k : Kp [] H H') : WkAt C th H' A n r b lns out s := W.keep k.tk fun _ _ _ e => k.at0 e
theorem WkAt.frame {F : List Addr} (W : WkAt C th H A n r b lns out s) (k : Kp F H H') (h : ∀ q ∈ F, q ∉ A.all) : WkAt C th H' A n r b lns out s := W.keep k.tk fun q hq o e => k.at e fun z => h q z hq
/-- another list is not the instance -/
theorem WkAt.p_ne (W : WkAt C th H A n r b lns out s) {q : Addr} {xs : List V} (e : H q = some (.lst xs)) : q ≠ A.p := by
  obtain ⟨dx, fs, ev, h1, _⟩ := W.ins
  exact ne_of e h1 (by intro z; cases z)
/-- the fields of the instance are written -/
theorem WkAt.putP (W : WkAt C th H A n r b lns out s) {dx : Addr} {fs fs' : List (Str × V)} {ev' : V} {s' : WSt} (h1 : H A.p = some (.ins C dx fs)) (ok : WOk0 n r lns s') (f : Flds fs' A b s'.at_ s'.steps ev') (hf : FinAt H ev' s'.fin)
    (e1 : s'.nums = s.nums) (e2 : s'.due = s.due) (e3 : s'.words = s.words) (e4 : s'.rows = s.rows) : WkAt C th (upd H A.p (.ins C dx fs')) A n r b lns out s' := by
  have t : TupK H (upd H A.p (.ins C dx fs')) := tk_upd h1
  have k : ∀ {q : Addr} {xs : List V}, H q = some (.lst xs) → upd H A.p (.ins C dx fs') q = some (.lst xs) := fun {q xs} e => by rw [upd_ne (W.p_ne e)]; exact e
  refine ⟨ok, ⟨dx, fs', ev', upd_same, f, hf.mono t⟩, k W.ll, lns_mono t W.lns, k W.rr, ?_, ?_, ?_, ?_, ?_, W.th, W.nd⟩
  · rw [e4]; exact W.rows.mono fun _ _ z => k z
  · rw [e2]; exact k W.du
  · rw [e1]; exact k W.nu
  · rw [e3]; exact k W.wo
  · have q := W.oo
    cases eo : A.oo with
    | none => rw [eo] at q; exact q
    | some o =>
      rw [eo] at q
      exact OutAt.keep t (fun xs z => k z) q
theorem nd_parts {a b c d e : Addr} {l : List Addr} (h : (a :: b :: c :: d :: e :: l).Nodup) : (a ≠ b ∧ a ≠ c ∧ a ≠ d ∧ a ≠ e ∧ a ∉ l) ∧ (b ≠ c ∧ b ≠ d ∧ b ≠ e ∧ b ∉ l) ∧ (c ≠ d ∧ c ≠ e ∧ c ∉ l) ∧ (d ≠ e ∧ d ∉ l) ∧ e ∉ l ∧ l.Nodup := by
  simp only [List.nodup_cons, List.mem_cons, not_or] at h
  obtain ⟨⟨h1, h2, h3, h4, h5⟩, ⟨h6, h7, h8, h9⟩, ⟨h10, h11, h12⟩, ⟨h13, h14⟩, h15, h16⟩ := h
  exact ⟨⟨h1, h2, h3, h4, h5⟩, ⟨h6, h7, h8, h9⟩, ⟨h10, h11, h12⟩, ⟨h13, h14⟩, h15, h16⟩
/-- one of the walk's lists is written: what the others need -/
theorem WkAt.list_ne (W : WkAt C th H A n r b lns out s) {q : Addr} {xs ys : List V} (e : H q = some (.lst xs)) {s' : WSt} (ok : WOk0 n r lns s') (ea : s'.at_ = s.at_) (es : s'.steps = s.steps) (ef : s'.fin = s.fin)
    (hl : q ≠ A.ll) (hr : q ≠ A.rr) (ho : q ∉ A.oo.toList)
    (h1 : All2 (IsL (upd H q (.lst ys))) A.ras s'.rows) (h2 : IsL (upd H q (.lst ys)) A.du s'.due) (h3 : IsL (upd H q (.lst ys)) A.nu s'.nums) (h4 : IsL (upd H q (.lst ys)) A.wo s'.words) : WkAt C th (upd H q (.lst ys)) A n r b lns out s' := by
  obtain ⟨dx, fs, ev, p1, p2, p3⟩ := W.ins
  have t : TupK H (upd H q (.lst ys)) := tk_upd e
  refine ⟨ok, ⟨dx, fs, ev, by rw [upd_ne (W.p_ne e).symm]; exact p1, by rw [ea, es]; exact p2, by rw [ef]; exact p3.mono t⟩, by rw [upd_ne hl.symm]; exact W.ll, lns_mono t W.lns, by rw [upd_ne hr.symm]; exact W.rr, h1, h2, h3, h4, ?_, W.th, W.nd⟩
  have z := W.oo
  cases eo : A.oo with
  | none => rw [eo] at z; exact z
  | some o =>
    rw [eo] at z ho
    exact OutAt.keep t (fun xs w => by rw [upd_ne (fun x => ho (by rw [x]; simp))]; exact w) z
theorem IsL.ne {a q : Addr} {xs : List Int} {o : HO} (h : IsL H a xs) (n : a ≠ q) : IsL (upd H q o) a xs := by unfold IsL; rw [upd_ne n]; exact h
theorem rows_ne {as : List Addr} {xss : List (List Int)} {q : Addr} {o : HO} (h : All2 (IsL H) as xss) (n : q ∉ as) : All2 (IsL (upd H q o)) as xss :=
  ⟨h.1, fun i a x q1 q2 => (h.2 i a x q1 q2).ne fun e => n (e ▸ List.mem_of_getElem? q1)⟩
theorem WkAt.putNu (W : WkAt C th H A n r b lns out s) {xs : List Int} (ok : WOk0 n r lns { s with nums := xs }) : WkAt C th (upd H A.nu (.lst (xs.map V.int))) A n r b lns out { s with nums := xs } := by
  obtain ⟨⟨a1, a2, a3, a4, a5⟩, ⟨b1, b2, b3, b4⟩, ⟨c1, c2, c3⟩, ⟨d1, d2⟩, e1, nd⟩ := nd_parts W.nd
  rw [List.mem_append, not_or] at d2
  exact W.list_ne W.nu ok rfl rfl rfl a3.symm b2.symm d2.2 (rows_ne W.rows d2.1) (W.du.ne c1) upd_same (W.wo.ne d1.symm)
theorem WkAt.putDu (W : WkAt C th H A n r b lns out s) {xs : List Int} (ok : WOk0 n r lns { s with due := xs }) : WkAt C th (upd H A.du (.lst (xs.map V.int))) A n r b lns out { s with due := xs } := by
  obtain ⟨⟨a1, a2, a3, a4, a5⟩, ⟨b1, b2, b3, b4⟩, ⟨c1, c2, c3⟩, ⟨d1, d2⟩, e1, nd⟩ := nd_parts W.nd
  rw [List.mem_append, not_or] at c3
  exact W.list_ne W.du ok rfl rfl rfl a2.symm b1.symm c3.2 (rows_ne W.rows c3.1) upd_same (W.nu.ne c1.symm) (W.wo.ne c2.symm)
theorem WkAt.putWo (W : WkAt C th H A n r b lns out s) {xs : List Int} (ok : WOk0 n r lns { s with words := xs }) : WkAt C th (upd H A.wo (.lst (xs.map V.int))) A n r b lns out { s with words := xs } := by
  obtain ⟨⟨a1, a2, a3, a4, a5⟩, ⟨b1, b2, b3, b4⟩, ⟨c1, c2, c3⟩, ⟨d1, d2⟩, e1, nd⟩ := nd_parts W.nd
  rw [List.mem_append, not_or] at e1
  exact W.list_ne W.wo ok rfl rfl rfl a4.symm b3.symm e1.2 (rows_ne W.rows e1.1) (W.du.ne c2) (W.nu.ne d1) upd_same
theorem WkAt.putRow (W : WkAt C th H A n r b lns out s) {i : Nat} {a : Addr} {xs : List Int} (ha : A.ras[i]? = some a) (ok : WOk0 n r lns { s with rows := s.rows.set i xs }) : WkAt C th (upd H a (.lst (xs.map V.int))) A n r b lns out { s with rows := s.rows.set i xs } := by
  obtain ⟨⟨a1, a2, a3, a4, a5⟩, ⟨b1, b2, b3, b4⟩, ⟨c1, c2, c3⟩, ⟨d1, d2⟩, e1, nd⟩ := nd_parts W.nd
  have ma : a ∈ A.ras := List.mem_of_getElem? ha
  have mal : a ∈ A.ras ++ A.oo.toList := List.mem_append_left _ ma
  have ne : ∀ {q : Addr}, q ∉ A.ras ++ A.oo.toList → q ≠ a := fun h e => h (e ▸ mal)
  obtain ⟨ndr, _, nds⟩ := List.nodup_append.mp nd
  obtain ⟨x, hx, hr⟩ := W.rows.getL ha
  refine W.list_ne hr ok rfl rfl rfl (ne a5).symm (ne b4).symm (fun m => nds a ma a m rfl) ?_ (W.du.ne (ne c3)) (W.nu.ne (ne d2)) (W.wo.ne (ne e1))
  refine ⟨by rw [List.length_set]; exact W.rows.1, fun j c y q1 q2 => ?_⟩
  by_cases hj : i = j
  · subst hj
    have e : c = a := Option.some.inj (q1.symm.trans ha)
    subst e
    have l := (List.getElem?_eq_some_iff.mp hx).1
    rw [List.getElem?_set_self l] at q2
    cases q2
    exact upd_same
  · rw [List.getElem?_set_ne hj] at q2
    exact (W.rows.2 j c y q1 q2).ne fun e => hj (nd_ix ndr ha (e ▸ q1))
/-- a row of the walk -/
theorem WkAt.row (W : WkAt C th H A n r b lns out s) {i : Int} (h : In i r) : ∃ a, atI (A.ras.map V.ref) i = some (.ref a) ∧ A.ras[i.toNat]? = some a ∧ IsL H a (rowAt s i) := by
  obtain ⟨a, ha, hl⟩ := W.rows.get (row_get W.ok.rows h)
  exact ⟨a, atI_some h.1 (by rw [List.getElem?_map, ha]; rfl), ha, hl⟩
/-- the line at a place -/
theorem WkAt.line (W : WkAt C th H A n r b lns out s) {i : Int} (h0 : 0 ≤ i) (h1 : i < (lns.length : Int)) : ∃ a, atI (A.las.map V.ref) i = some (.ref a) ∧ LnAt H a (lnAt lns i) := by
  obtain ⟨a, ha, hl⟩ := W.lns.get (lnAt_get h0 h1)
  exact ⟨a, atI_some h0 (by rw [List.getElem?_map, ha]; rfl), hl⟩
theorem WkAt.no (W : WkAt C th H A n r b lns out s) {dx : Addr} {fs : List (Str × V)} (h : H A.p = some (.ins C dx fs)) {ev : V} (f : Flds fs A b s.at_ s.steps ev) {m : Str} (hm : m ∈ mnames) : fs.lookup m = none := f.no m hm
end
/-! ### fields written -/
theorem len_putF {f : Str} {y : V} : ∀ {fs : List (Str × V)} {v : V}, fs.lookup f = some v → (putF f y fs).length = fs.length
  | [], _, h => by cases h
  | (k, x) :: r, v, h => by
    rw [show putF f y ((k, x) :: r) = (if k = f then (k, y) :: r else (k, x) :: putF f y r) from rfl]
    split
    · rfl
    · rename_i hk
      have e : List.lookup f ((k, x) :: r) = List.lookup f r := by
        rw [List.lookup_cons]
        have : (f == k) = false := by
          rw [beq_eq_false_iff_ne]; exact fun z => hk z.symm
        rw [this]
      rw [e] at h
      rw [List.length_cons, List.length_cons, len_putF h]
theorem ne_names {f : Str} {l : List Str} (h : l.all (fun m => decide (m ≠ f)) = true) : ∀ m ∈ l, ¬ m = f := fun m hm => of_decide_eq_true (List.all_eq_true.mp h m hm)
section
variable {fs : List (Str × V)} {A : WA} {b a st : Int} {ev : V}
theorem Flds.putAt (F : Flds fs A b a st ev) (a' : Int) : Flds (putF "at" (.int a') fs) A b a' st ev := by
  constructor
  case no => exact fun m hm => by rw [lookup_putF, if_neg (ne_names (f := "at") (l := mnames) (by decide +kernel) m hm)]; exact F.no m hm
  case len0 => rw [len_putF F.at_]; exact F.len0
  case at_ => rw [lookup_putF, if_pos rfl]
  all_goals (rw [lookup_putF, if_neg (by decide +kernel)])
  · exact F.lines
  · exact F.rows
  · exact F.due
  · exact F.budget
  · exact F.numbers
  · exact F.words
  · exact F.steps
  · exact F.end_
  · exact F.out
theorem Flds.putSt (F : Flds fs A b a st ev) (x : Int) : Flds (putF "steps" (.int x) fs) A b a x ev := by
  constructor
  case no => exact fun m hm => by rw [lookup_putF, if_neg (ne_names (f := "steps") (l := mnames) (by decide +kernel) m hm)]; exact F.no m hm
  case len0 => rw [len_putF F.steps]; exact F.len0
  case steps => rw [lookup_putF, if_pos rfl]
  all_goals (rw [lookup_putF, if_neg (by decide +kernel)])
  · exact F.lines
  · exact F.rows
  · exact F.due
  · exact F.budget
  · exact F.at_
  · exact F.numbers
  · exact F.words
  · exact F.end_
  · exact F.out
theorem Flds.putEnd (F : Flds fs A b a st ev) (x : V) : Flds (putF "end" x fs) A b a st x := by
  constructor
  case no => exact fun m hm => by rw [lookup_putF, if_neg (ne_names (f := "end") (l := mnames) (by decide +kernel) m hm)]; exact F.no m hm
  case len0 => rw [len_putF F.end_]; exact F.len0
  case end_ => rw [lookup_putF, if_pos rfl]
  all_goals (rw [lookup_putF, if_neg (by decide +kernel)])
  · exact F.lines
  · exact F.rows
  · exact F.due
  · exact F.budget
  · exact F.at_
  · exact F.numbers
  · exact F.words
  · exact F.steps
  · exact F.out
theorem Flds.putOut (F : Flds fs A b a st ev) (eo : A.oo = none) (o : Addr) : Flds (putF "out" (.ref o) fs) { A with oo := some o } b a st ev := by
  constructor
  case no => exact fun m hm => by rw [lookup_putF, if_neg (ne_names (f := "out") (l := mnames) (by decide +kernel) m hm)]; exact F.no m hm
  case len0 =>
    have h := F.len0
    rw [eo] at h
    exact Nat.le_trans (length_putF _ _ _) (Nat.succ_le_succ h)
  case out => rw [lookup_putF, if_pos rfl]; rfl
  all_goals (rw [lookup_putF, if_neg (by decide +kernel)])
  · exact F.lines
  · exact F.rows
  · exact F.due
  · exact F.budget
  · exact F.at_
  · exact F.numbers
  · exact F.words
  · exact F.steps
  · exact F.end_
end
end Lk
namespace Lk
open PySem L2
/-! ### the text by places -/
def top (i : Nat) : Stmt := PySem.Challenge.pw_lookspare_k71_thinned_walks.main.body.getD i (.Pass ⟨0, 0, 0, 0⟩)
abbrev s_ways : Stmt := top 2
abbrev s_place_of : Stmt := top 3
abbrev s_init : Stmt := inClass (top 5) 0
abbrev s_value : Stmt := inClass (top 5) 1
abbrev s_node : Stmt := inClass (top 5) 2
abbrev s_kept : Stmt := inClass (top 5) 3
abbrev s_pass_asks : Stmt := inClass (top 5) 4
abbrev s_looked : Stmt := inClass (top 5) 5
abbrev s_stopped : Stmt := inClass (top 5) 6
abbrev s_step : Stmt := inClass (top 5) 7
abbrev s_do_line : Stmt := inClass (top 5) 8
abbrev s_given : Stmt := inClass (top 5) 9
abbrev s_told : Stmt := inClass (top 5) 10
abbrev s_frame : Stmt := inClass (top 5) 11
abbrev s_ended : Stmt := top 6
abbrev s_run : Stmt := top 7
abbrev s_init2 : Stmt := inClass (top 9) 0
abbrev s_looked2 : Stmt := inClass (top 9) 1
abbrev s_run_thin : Stmt := top 10
abbrev s_law_next : Stmt := top 12
abbrev s_law_source : Stmt := top 13
abbrev s_law_number : Stmt := top 14
abbrev s_law_straight : Stmt := top 15
abbrev s_law_limit : Stmt := top 16
abbrev s_law_ahead : Stmt := top 17
abbrev s_law_piece : Stmt := top 18
abbrev s_law_loop : Stmt := top 19
abbrev s_law_led : Stmt := top 20
abbrev s_law_turned_about : Stmt := top 21
abbrev s_law_program : Stmt := top 22
abbrev s_law_value : Stmt := top 23
abbrev s_law_input : Stmt := top 24
abbrev s_law_out : Stmt := top 25
abbrev s_law_due : Stmt := top 26
abbrev s_law_steps : Stmt := top 27
abbrev s_law_told : Stmt := top 28
abbrev s_law : Stmt := top 29
/-- what the module's names hold -/
structure Txt (K : PySem.W.Frag) (mg : Str → Option Value) (C1 aP : Addr) : Prop where
  b_len : mg "len" = none
  b_list : mg "list" = none
  b_int : mg "int" = none
  b_max : mg "max" = none
  b_sorted : mg "sorted" = none
  b_divmod : mg "divmod" = none
  b_isinstance : mg "isinstance" = none
  b_range : mg "range" = none
  b_enumerate : mg "enumerate" = none
  b_tuple : mg "tuple" = none
  mgPl : mg "PLACING" = some (.ref aP)
  pl : ∀ H : Hp, SqT K H aP [.str "get", .str "put"]
  mgW : mg "Walk" = some (.ref C1)
/-- a class of walks -/
structure CF (K : PySem.W.Frag) (C : Addr) : Prop where
  cl : Cls K C
  lines : NoAttr K C "lines"
  rows : NoAttr K C "rows"
  due : NoAttr K C "due"
  budget : NoAttr K C "budget"
  at_ : NoAttr K C "at"
  numbers : NoAttr K C "numbers"
  words : NoAttr K C "words"
  steps : NoAttr K C "steps"
  end_ : NoAttr K C "end"
  out : NoAttr K C "out"
theorem tg_two {ln : Ln} (h : hd ln = "test" ∨ hd ln = "ask") : ∃ x y, tg ln = [x, y] := by
  cases ln <;> dsimp only [hd] at h <;> first | exact ⟨_, _, rfl⟩ | exact (h.elim (fun z => absurd z (by decide +kernel)) fun z => absurd z (by decide +kernel))
theorem tg_end {ln : Ln} (h : hd ln = "end") : ln = .fin := by
  cases ln <;> dsimp only [hd] at h <;> first | rfl | exact absurd h (by decide +kernel)
theorem tg_one {ln : Ln} (h : ¬ (hd ln = "test" ∨ hd ln = "ask")) (e : ¬ hd ln = "end") : ∃ x, tg ln = [x] := by
  cases ln <;> first | exact ⟨_, rfl⟩ | exact absurd (.inl rfl) h | exact absurd (.inr rfl) h | exact absurd rfl e
/-! ### answers in short -/
section
variable {K : PySem.W.Frag} {H : Hp} {p a C dx : Addr} {xs : List V} {i : Int} {v : V} {Q : VK} {fs : List (Str × V)} {f : Str}
theorem ixT (h : H p = some (.tup xs)) (e : atI xs i = some v) (q : Q v H) : rIxT K (.ref p) (.int i) H Q := ⟨p, xs, i, v, rfl, rfl, SqT.of h, e, q⟩
theorem ixL (h : H p = some (.lst xs)) (e : atI xs i = some v) (q : Q v H) : rIxL K (.ref p) (.int i) H Q := ⟨p, xs, i, v, rfl, rfl, SqL.of h, e, q⟩
theorem atI_end {x : V} {ms ts : List V} {j : Int} {y : V} (h0 : (ms.length : Int) + 1 ≤ j) (h : ts[(j - (ms.length + 1)).toNat]? = some y) : atI (x :: (ms ++ ts)) j = some y := by
  refine atI_some (by omega) ?_
  have e : j.toNat = (ms.length + (j - (ms.length + 1)).toNat) + 1 := by omega
  rw [e, List.getElem?_cons_succ, List.getElem?_append_right (by omega), Nat.add_sub_cancel_left]
  exact h
theorem atI0 {x : V} : atI (x :: xs) 0 = some x := atI_some (Int.le_refl 0) rfl
theorem in2 (x a b : Str) : inV (.str x) [.str a, .str b] = (decide (x = a) || decide (x = b)) := by
  show (((a == x : Bool) || ((b == x) || false)) : Bool) = _
  rw [Bool.or_false]
  have h : ∀ u z : Str, (u == z) = decide (z = u) := fun u z => by
    by_cases e : z = u
    · subst e; simp
    · rw [decide_eq_false e]; exact beq_eq_false_iff_ne.mpr fun q => e q.symm
  rw [h, h]
end
end Lk
namespace Lk
open PySem L2
/-! ### promises: the package -/
def sV : Option Str → V | none => .non | some w => .str w
def spWays : Sp := fun vs H Q _ => ∃ a ln, vs = [.ref a] ∧ LnAt H a ln ∧ ∀ p H', Kp [] H H' → H' p = some (.tup ((tg ln).map V.int)) → Q (.ref p) H'
/-- row, name, number of a place line -/
def plL : Ln → List V
  | .get _ r y c _ => [.int r, oV y, .int c]
  | .put r y c _ _ => [.int r, oV y, .int c]
  | _ => []
def isPl : Ln → Bool | .get .. => true | .put .. => true | _ => false
def spPlaceOf : Sp := fun vs H Q _ => ∃ a ln, vs = [.ref a] ∧ LnAt H a ln ∧ isPl ln = true ∧ ∀ p H', Kp [] H H' → H' p = some (.tup (plL ln)) → Q (.ref p) H'
section
variable (C : Addr) (th : Bool)
def spValue : Sp := fun vs H Q _ => ∃ A n r b lns out s y, vs = [.ref (WA.p A), oV y] ∧ WkAt C th H A n r b lns out s ∧ InO y n ∧ Q (.int (vl s.nums y)) H
def spNode : Sp := fun vs H Q _ => ∃ A n r b lns out s a nd, vs = [.ref (WA.p A), .ref a] ∧ WkAt C th H A n r b lns out s ∧ NdAt H a nd ∧ NdOk n r nd ∧ Q (.int (ndv s nd)) H
def spKept : Sp := fun vs H Q _ => ∃ A n r b lns out s a bs, vs = [.ref (WA.p A), .ref a] ∧ WkAt C th H A n r b lns out s ∧ BdsAt H a bs ∧ (∀ x ∈ bs, NdOk n r x.a ∧ NdOk n r x.b) ∧ Q (.bl (keptB s bs)) H
def spPass : Sp := fun vs H Q _ => ∃ A n r b lns out s, vs = [.ref (WA.p A)] ∧ WkAt C th H A n r b lns out s ∧ ∀ H', WkAt C th H' A n r b lns out { s with at_ := pa lns s } → Kp A.mut H H' → Q .non H'
def spLooked : Sp := fun vs H Q _ => ∃ A n r b lns out s i pl, vs = [.ref (WA.p A), .int i, .int pl] ∧ WkAt C th H A n r b lns out s ∧ In i r ∧ ∀ H', Kp [] H H' → Q (sV (lk out ((rowAt s i).length : Int) s.at_ pl)) H'
def spStopped : Sp := fun vs H Q _ => ∃ A n r b lns out s, vs = [.ref (WA.p A)] ∧ WkAt C th H A n r b lns out s ∧ ∀ H', Kp [] H H' → Q (sV (stp out b s (lnAt lns s.at_))) H'
def plOk (s : WSt) : Ln → Prop
  | .get _ r y c _ => 0 ≤ vl s.nums y + c ∧ vl s.nums y + c < ((rowAt s r).length : Int)
  | .put r y c _ _ => 0 ≤ vl s.nums y + c ∧ vl s.nums y + c < ((rowAt s r).length : Int)
  | _ => True
def giver : Ln → Bool | .set .. => true | .sum .. => true | .len .. => true | .take .. => true | .get .. => true | _ => false
def gvS (s : WSt) : Ln → WSt | .take _ _ => { s with due := s.due.tail } | _ => s
def spGiven : Sp := fun vs H Q _ => ∃ A n r b lns out s a ln, vs = [.ref (WA.p A), .ref a] ∧ WkAt C th H A n r b lns out s ∧ LnAt H a ln ∧ Fld n r ln ∧ giver ln = true ∧ plOk s ln ∧ ∀ H', WkAt C th H' A n r b lns out (gvS s ln) → Kp A.mut H H' → Q (.int (give s ln)) H'
def spDo : Sp := fun vs H Q _ => ∃ A n r b lns out s a, vs = [.ref (WA.p A), .ref a] ∧ WkAt C th H A n r b lns out s ∧ LnAt H a (lnAt lns s.at_) ∧ isAsk (lnAt lns s.at_) = false ∧ lnAt lns s.at_ ≠ .fin ∧ plOk s (lnAt lns s.at_) ∧ s.words.length ≤ 1000 ∧
  ∀ H', WkAt C th H' A n r b lns out (dl s (lnAt lns s.at_)) → Kp A.mut H H' → Q .non H'
def spStep : Sp := fun vs H Q _ => ∃ A n r b lns out s, vs = [.ref (WA.p A)] ∧ WkAt C th H A n r b lns out s ∧ WOk n r b lns s ∧ ∀ H', WkAt C th H' A n r b lns out (stepF lns out b s) → Kp A.mut H H' → Q .non H'
/-- what told() gives, in the heap -/
def ToldAt (H : Hp) (p : Addr) (s : WSt) : Prop := ∃ ev wo rr ras, H p = some (.tup [ev, .ref wo, .int s.steps, .ref rr]) ∧ FinAt H ev s.fin ∧ IsL H wo s.words ∧ H rr = some (.lst ((ras : List Addr).map V.ref)) ∧ All2 (IsL H) ras s.rows
def spTold : Sp := fun vs H Q _ => ∃ A n r b lns out s, vs = [.ref (WA.p A)] ∧ WkAt C th H A n r b lns out s ∧ s.rows.length ≤ 1000 ∧ ∀ p H', Kp [] H H' → ToldAt H' p s → Q (.ref p) H'
def spFrame : Sp := fun vs H Q _ => ∃ A n r b lns out s, vs = [.ref (WA.p A)] ∧ WkAt C th H A n r b lns out s ∧ ∀ p nu H', Kp [] H H' → H' p = some (.tup [.int s.at_, .ref nu]) → IsL H' nu s.nums → Q (.ref p) H'
/-- told() at the end -/
def spEnded : Sp := fun vs H Q _ => ∃ A n r b lns out s, vs = [.ref (WA.p A)] ∧ WkAt C th H A n r b lns out s ∧ WOk n r b lns s ∧ s.rows.length ≤ 1000 ∧ ∀ p H', Kp A.mut H H' → ToldAt H' p (runF lns out b 70 s) → (runF lns out b 70 s).fin.isSome = true → Q (.ref p) H'
end
/-- a program, rows, numbers to take, as they are handed in -/
structure Hand (H : Hp) (pr rw tk : Addr) (n r : Int) (lns : List Ln) (rows : List (List Int)) (due : List Int) : Prop where
  pr : ∃ ll, H pr = some (.tup [.int n, .int r, .ref ll]) ∧ LinesAt H ll lns
  rw : ∃ ras : List Addr, H rw = some (.lst (ras.map V.ref)) ∧ All2 (IsL H) ras rows
  tk : IsL H tk due
  rl : (rows.length : Int) = r
  rs : rows.length ≤ 1000
  n0 : 0 ≤ n
  n1 : n ≤ 6
/-- a walk at its begin -/
def w0 (n : Int) (rows : List (List Int)) (due : List Int) : WSt := { at_ := 0, nums := List.replicate n.toNat 0, due := due, words := [], rows := rows, steps := 0, fin := none }
/-- Walk.__init__ on an instance without fields: all but the instance stays, what it holds is new -/
def spInit (C : Addr) : Sp := fun vs H Q _ => ∃ x dx pr rw tk n r b lns rows due, vs = [.ref x, .ref pr, .ref rw, .ref tk, .int b] ∧ H x = some (.ins C dx []) ∧ Hand H pr rw tk n r lns rows due ∧ Good n r lns ∧
  ∀ A H', A.p = x → A.oo = none → WkAt C false H' A n r b lns [] (w0 n rows due) → Kp [x] H H' → (∀ q ∈ A.own, H q = none) → Q .non H'
def spMake1 (C : Addr) : Sp := fun vs H Q _ => ∃ pr rw tk n r b lns rows due, vs = [.ref pr, .ref rw, .ref tk, .int b] ∧ Hand H pr rw tk n r lns rows due ∧ Good n r lns ∧
  ∀ A H', WkAt C false H' A n r b lns [] (w0 n rows due) → Kp [] H H' → (∀ q ∈ A.all, H q = none) → Q (.ref A.p) H'
def spInit2 (C : Addr) : Sp := fun vs H Q _ => ∃ x dx pr rw tk ou n r b lns rows due out, vs = [.ref x, .ref pr, .ref rw, .ref tk, .int b, .ref ou] ∧ H x = some (.ins C dx []) ∧ Hand H pr rw tk n r lns rows due ∧ Good n r lns ∧ OutAt H ou out ∧
  ∀ A H', A.p = x → WkAt C true H' A n r b lns out (w0 n rows due) → Kp [x] H H' → (∀ q ∈ A.own, H q = none) → Q .non H'
def spRun : Sp := fun vs H Q _ => ∃ pr rw tk n r b lns rows due, vs = [.ref pr, .ref rw, .ref tk, .int b] ∧ Hand H pr rw tk n r lns rows due ∧ Good n r lns ∧ 0 ≤ b ∧ b ≤ 60 ∧
  ∀ p H', Kp [] H H' → ToldAt H' p (runF lns [] b 70 (w0 n rows due)) → (runF lns [] b 70 (w0 n rows due)).fin.isSome = true → Q (.ref p) H'
def spRunThin : Sp := fun vs H Q _ => ∃ pr rw tk ou n r b lns rows due out, vs = [.ref pr, .ref rw, .ref tk, .int b, .ref ou] ∧ Hand H pr rw tk n r lns rows due ∧ Good n r lns ∧ OutAt H ou out ∧ 0 ≤ b ∧ b ≤ 60 ∧
  ∀ p H', Kp [] H H' → ToldAt H' p (runF lns out b 70 (w0 n rows due)) → Q (.ref p) H'
end Lk
namespace Lk
open PySem L2
section
variable {P : Program} {w : World} {K : PySem.W.Frag} {mg : Str → Option Value} {base : Heap} {C1 aP : Addr}
theorem hu65_of {Ar : Around} {k : Nat} (hr : Room k Ar) : Ar.units + 65 < cLine := by have := hr.un; omega
/-! ### data of any depth -/
def oD (x : Int × Str) : PyData := .tuple [.int x.1, .str x.2]
theorem dpAll_refs {H : Hp} {β : Type} {f : β → PyData} : ∀ {as : List Addr} {xs : List β}, All2 (fun a x => Dp K H (.ref a) (f x)) as xs → DpAll K H (as.map V.ref) (xs.map f)
  | [], [], _ => .nil
  | [], _ :: _, h => by cases h.1
  | _ :: _, [], h => by cases h.1
  | a :: as, x :: xs, h => .cons h.uncons.1 (dpAll_refs h.uncons.2)
theorem dp_od {H : Hp} {p : Addr} {x : Int × Str} (h : H p = some (.tup [.int x.1, .str x.2])) : Dp K H (.ref p) (oD x) := .tup (SqT.of h) (.cons (.int _) (.cons (.str _) .nil))
theorem dp_out {H : Hp} {o : Addr} {out : List (Int × Str)} (h : OutAt H o out) : Dp K H (.ref o) (.list (out.map oD)) := by
  obtain ⟨as, e, k, _⟩ := h
  exact .lst (SqL.of e) (dpAll_refs (k.mono fun _ _ z => dp_od z))
theorem out_any {out : List (Int × Str)} {x : Int × Str} : ((out.map oD).any fun z => PyData.eqv z (oD x)) = decide (x ∈ out) := by
  have h1 : ∀ y : Int × Str, PyData.eqv (oD y) (oD x) = decide (x = y) := fun y => by
    show ((y.1 == x.1) && ((y.2 == x.2) && true)) = _
    rw [Bool.and_true]
    by_cases e : x = y
    · subst e; simp
    · rw [decide_eq_false e]
      cases h : ((y.1 == x.1) && (y.2 == x.2)) with
      | false => rfl
      | true =>
        rw [Bool.and_eq_true] at h
        exact absurd (Prod.ext (eq_of_beq h.1).symm (eq_of_beq h.2).symm) e
  induction out with
  | nil => simp
  | cons y l ih =>
    rw [List.map_cons, List.any_cons, ih, h1, ← Bool.decide_or]
    exact decide_eq_decide.mpr List.mem_cons.symm
theorem lay_od {x : Int × Str} (h : x.2 = "low" ∨ x.2 = "high") : (oD x).canLay0 = true := by
  unfold oD
  simp only [PyData.canLay0, PyData.canLayAll0, Bool.true_and, Bool.and_true]
  rcases h with h | h <;> (rw [h]; decide +kernel)
theorem shaped_od {x : Int × Str} (h : x.2 = "low" ∨ x.2 = "high") : SeqAt.shaped (oD x) = true := by
  unfold SeqAt.shaped
  rw [lay_od h]
  rfl
theorem shaped_out {out : List (Int × Str)} (h : ∀ x ∈ out, x.2 = "low" ∨ x.2 = "high") : SeqAt.shaped (.list (out.map oD)) = true := by
  have h1 : PyData.canLayAll0 (out.map oD) = true ∧ PyData.depthAll (out.map oD) ≤ 1 := by
    induction out with
    | nil => exact ⟨rfl, Nat.zero_le _⟩
    | cons y l ih =>
      have q := ih fun x hx => h x (List.mem_cons_of_mem _ hx)
      refine ⟨?_, ?_⟩
      · show (PyData.canLay0 (oD y) && PyData.canLayAll0 (l.map oD)) = true
        rw [lay_od (h y List.mem_cons_self), q.1]; rfl
      · show max (PyData.depth (oD y)) (PyData.depthAll (l.map oD)) ≤ 1
        have e : PyData.depth (oD y) = 1 := rfl
        rw [e]; have := q.2; omega
  unfold SeqAt.shaped
  rw [Bool.and_eq_true]
  refine ⟨h1.1, decide_eq_true ?_⟩
  show PyData.depthAll _ + 1 ≤ 64
  have := h1.2; omega
def iD (xs : List Int) : PyData := .list (xs.map PyData.int)
def fD : Option (Str × Int) → PyData | none => .none | some x => .tuple [.str x.1, .int x.2]
def toldD (s : WSt) : PyData := .tuple [fD s.fin, iD s.words, .int s.steps, .list (s.rows.map iD)]
theorem dpAll_ints {H : Hp} : ∀ xs : List Int, DpAll K H (xs.map V.int) (xs.map PyData.int)
  | [] => .nil
  | x :: xs => .cons (.int x) (dpAll_ints xs)
theorem dp_ints {H : Hp} {a : Addr} {xs : List Int} (h : IsL H a xs) : Dp K H (.ref a) (iD xs) := .lst (SqL.of h) (dpAll_ints xs)
theorem dp_rows {H : Hp} {a : Addr} {as : List Addr} {rows : List (List Int)} (h : H a = some (.lst (as.map V.ref))) (k : All2 (IsL H) as rows) : Dp K H (.ref a) (.list (rows.map iD)) := .lst (SqL.of h) (dpAll_refs (k.mono fun _ _ z => dp_ints z))
theorem dp_fin {H : Hp} {v : V} {f : Option (Str × Int)} (h : FinAt H v f) : Dp K H v (fD f) := by
  cases f with
  | none => cases (show v = .non from h); exact .non
  | some x => obtain ⟨q, rfl, e⟩ := h; exact .tup (SqT.of e) (.cons (.str _) (.cons (.int _) .nil))
theorem dp_told {H : Hp} {p : Addr} {s : WSt} (h : ToldAt H p s) : Dp K H (.ref p) (toldD s) := by
  obtain ⟨ev, wo, rr, ras, e, h1, h2, h3, h4⟩ := h
  exact .tup (SqT.of e) (.cons (dp_fin h1) (.cons (dp_ints h2) (.cons (.int _) (.cons (dp_rows h3 h4) .nil))))
theorem lay_ints : ∀ xs : List Int, PyData.canLayAll0 (xs.map PyData.int) = true ∧ PyData.depthAll (xs.map PyData.int) = 0
  | [] => ⟨rfl, rfl⟩
  | x :: xs => by
    have q := lay_ints xs
    refine ⟨?_, ?_⟩
    · show (true && PyData.canLayAll0 (xs.map PyData.int)) = true
      rw [q.1]; rfl
    · show max 0 (PyData.depthAll (xs.map PyData.int)) = 0
      rw [q.2]; rfl
theorem lay_iD (xs : List Int) : (iD xs).canLay0 = true ∧ (iD xs).depth = 1 := ⟨(lay_ints xs).1, by show PyData.depthAll _ + 1 = 1; rw [(lay_ints xs).2]⟩
theorem lay_rows : ∀ rows : List (List Int), PyData.canLayAll0 (rows.map iD) = true ∧ PyData.depthAll (rows.map iD) ≤ 1
  | [] => ⟨rfl, Nat.zero_le _⟩
  | x :: xs => by
    have q := lay_rows xs
    refine ⟨?_, ?_⟩
    · show ((iD x).canLay0 && PyData.canLayAll0 (xs.map iD)) = true
      rw [q.1, (lay_iD x).1]; rfl
    · show max (iD x).depth (PyData.depthAll (xs.map iD)) ≤ 1
      rw [(lay_iD x).2]; have := q.2; omega
theorem shaped_iD (xs : List Int) : SeqAt.shaped (iD xs) = true := by
  unfold SeqAt.shaped
  rw [(lay_iD xs).1, (lay_iD xs).2]; rfl
/-- the words of ends -/
def FinOk (f : Option (Str × Int)) : Prop := ∀ x, f = some x → PyData.canLay0 (.str x.1) = true
theorem stp_ok {out : List (Int × Str)} {b : Int} {s : WSt} {ln : Ln} {wd : Str} (h : stp out b s ln = some wd) : PyData.canLay0 (.str wd) = true := by
  have sp : ∀ {wd}, spent b s = some wd → PyData.canLay0 (.str wd) = true := fun {wd} h => by
    unfold spent at h
    split at h
    · cases h; decide +kernel
    · cases h
  have lo : ∀ {m p wd}, lkO (lk out m s.at_ p) b s = some wd → PyData.canLay0 (.str wd) = true := fun {m p wd} h => by
    cases e : lk out m s.at_ p with
    | none => rw [e] at h; exact sp h
    | some v =>
      rw [e] at h
      cases (show some v = some wd from h)
      unfold lk at e
      split at e
      · cases e; decide +kernel
      · split at e
        · cases e; decide +kernel
        · split at e
          · cases e; decide +kernel
          · cases e
  cases ln <;> first | exact sp h | exact lo h | (cases h; decide +kernel)
theorem FinOk.step {lns : List Ln} {out : List (Int × Str)} {b : Int} {s : WSt} (h : FinOk s.fin) : FinOk (stepF lns out b s).fin := by
  unfold stepF
  split
  · exact h
  · cases e : stp out b { s with at_ := pa lns s } (lnAt lns (pa lns s)) with
    | none =>
      show FinOk (dl _ _).fin
      rw [dl_fin]; exact h
    | some wd =>
      intro x hx
      cases hx
      exact stp_ok e
theorem FinOk.run {lns : List Ln} {out : List (Int × Str)} {b : Int} : ∀ (m : Nat) {s : WSt}, FinOk s.fin → FinOk (runF lns out b m s).fin
  | 0, _, h => h
  | m + 1, s, h => FinOk.run m h.step
theorem shaped_told {s : WSt} (h : FinOk s.fin) : SeqAt.shaped (toldD s) = true := by
  have h1 : (fD s.fin).canLay0 = true ∧ (fD s.fin).depth ≤ 1 := by
    cases e : s.fin with
    | none => exact ⟨rfl, Nat.zero_le _⟩
    | some x =>
      refine ⟨?_, Nat.le_refl _⟩
      show (PyData.canLay0 (.str x.1) && (true && true)) = true
      rw [h x e]; rfl
  have h2 := lay_rows s.rows
  unfold SeqAt.shaped
  rw [Bool.and_eq_true]
  refine ⟨?_, decide_eq_true ?_⟩
  · show ((fD s.fin).canLay0 && ((iD s.words).canLay0 && (true && (PyData.canLayAll0 (s.rows.map iD) && true)))) = true
    rw [h1.1, h2.1, (lay_iD _).1]; rfl
  · show max (fD s.fin).depth (max (iD s.words).depth (max 0 (max (PyData.depthAll (s.rows.map iD) + 1) 0))) + 1 ≤ 64
    rw [(lay_iD _).2]
    have := h1.2
    have := h2.2
    omega
theorem eqv_self {d : PyData} (h : SeqAt.shaped d = true) : PyData.eqv d d = true := SeqAt.eqv_refl d (SeqAt.canLay_of_shaped h)
end
end Lk
namespace Lk
open PySem L2
section
variable {P : Program} {w : World} {K : PySem.W.Frag} {mg : Str → Option Value} {base : Heap} {C1 aP : Addr}
theorem sc_ways : FnScope ["line"] ["line"] (defScope s_ways) := ⟨rfl, rfl, rfl, by decide +kernel, rfl, by decide +kernel, by decide +kernel⟩
theorem ok_ways {f : Addr} {fd : FuncData} (F : Fun K "ways" "ways" s_ways f fd) (T : Txt K mg C1 aP) : FnOk P w K mg base CX0 1 f fd ["line"] spWays := by
  refine F.ok sc_ways (fun vs H Q E h => ?_) (fun cdv A outer s H vs Q E hr h => ?_)
  · obtain ⟨a, ln, rfl, _⟩ := h
    rfl
  · obtain ⟨a, ln, rfl, hl, k⟩ := h
    obtain ⟨b, ha, _⟩ := hl
    refine ⟨_, (pss_cons
    (ps_if (pt_cmpR op_in_seq (pe_ix ix_tup (pv 0) pe_int (fun _ _ => rfl)) (pe_tup (pa_cons pe_str (pa_cons pe_str pa_nil))) (by rfl))
      (pss_one
      (ps_ret (pe_tup (pa_cons (pe_ix ix_tup (pv 0) (pe_op op_sub (pe_callB call_len_seq (by rfl) T.b_len (by decide +kernel) (pa_cons (pv 0) pa_nil)) pe_int) (fun _ _ => rfl)) (pa_cons (pe_ix ix_tup (pv 0) (pe_op op_sub (pe_callB call_len_seq (by rfl) T.b_len (by decide +kernel) (pa_cons (pv 0) pa_nil)) pe_int) (fun _ _ => rfl)) pa_nil)))))
      pss_nil)
    (pss_cons
    (ps_if (pt_cmpR op_eq (pe_ix ix_tup (pv 0) pe_int (fun _ _ => rfl)) pe_str (nomark _))
      (pss_one
      (ps_ret (pe_tup pa_nil)))
      pss_nil)
    (pss_one
    (ps_ret (pe_tup (pa_cons (pe_ix ix_tup (pv 0) (pe_op op_sub (pe_callB call_len_seq (by rfl) T.b_len (by decide +kernel) (pa_cons (pv 0) pa_nil)) pe_int) (fun _ _ => rfl)) pa_nil)))))), ?_⟩
    rw [lnB_eq] at ha
    refine ⟨_, rfl, _, _, _, _, rfl, rfl, SqT.of ha, atI0, ?_⟩
    refine ⟨by show 2 ≤ sizeLine; decide, fun p np => ?_⟩
    have ka : ∀ o, upd H p o a = some (.tup (.str (hd ln) :: (md (.ref b) ln ++ (tg ln).map V.int))) := fun o => by rw [upd_ne (ne_of_none ha np)]; exact ha
    refine ⟨p, _, rfl, .inr (SqT.of upd_same), rfl, rfl, _, rfl, ?_⟩
    have len : ∀ ts : List Int, tg ln = ts → ((.str (hd ln) :: (md (.ref b) ln ++ (tg ln).map V.int) : List V).length : Int) = (md (.ref b) ln).length + 1 + (ts.length : Int) := fun ts e => by
      rw [e, List.length_cons, List.length_append, List.length_map]; omega
    refine ifB (fun e => ?_) (fun e => ?_)
    · rw [if_neg Bool.false_ne_true, in2, Bool.or_eq_true, decide_eq_true_eq, decide_eq_true_eq] at e
      obtain ⟨x, y, et⟩ := tg_two e
      refine ⟨_, rfl, _, rfl, a, _, rfl, .inr (SqT.of (ka _)), _, _, rfl, rfl, _, _, _, .int x, rfl, rfl, SqT.of (ka _), ?_, ?_⟩
      · rw [len _ et, et]
        refine atI_end (by simp only [List.length_cons, List.length_nil]; omega) ?_
        have : ((md (.ref b) ln).length + 1 + (([x, y] : List Int).length : Int) - 2 - ((md (.ref b) ln).length + 1)).toNat = 0 := by simp
        rw [this]; rfl
      refine ⟨_, rfl, _, rfl, a, _, rfl, .inr (SqT.of (ka _)), _, _, rfl, rfl, _, _, _, .int y, rfl, rfl, SqT.of (ka _), ?_, ?_⟩
      · rw [len _ et, et]
        refine atI_end (by simp only [List.length_cons, List.length_nil]; omega) ?_
        have : ((md (.ref b) ln).length + 1 + (([x, y] : List Int).length : Int) - 1 - ((md (.ref b) ln).length + 1)).toNat = 1 := by simp; omega
        rw [this]; rfl
      refine ⟨by show 2 ≤ sizeLine; decide, fun q nq => ?_⟩
      exact k _ _ ((Kp.refl.new np).new nq) (by rw [et]; exact upd_same)
    · rw [if_neg Bool.false_ne_true, in2, Bool.or_eq_false_iff, decide_eq_false_iff_not, decide_eq_false_iff_not] at e
      refine ⟨_, rfl, _, _, _, _, rfl, rfl, SqT.of (ka _), atI0, ?_⟩
      refine ⟨rfl, _, rfl, if2 (fun e2 => ?_) fun e2 => ?_⟩
      · have e3 := tg_end (V.str.inj e2)
        refine ⟨Nat.zero_le _, fun q nq => ?_⟩
        exact k _ _ ((Kp.refl.new np).new nq) (by rw [e3]; exact upd_same)
      · obtain ⟨x, et⟩ := tg_one (fun z => z.elim e.1 e.2) fun z => e2 (congrArg V.str z)
        refine ⟨_, rfl, _, rfl, a, _, rfl, .inr (SqT.of (ka _)), _, _, rfl, rfl, _, _, _, .int x, rfl, rfl, SqT.of (ka _), ?_, ?_⟩
        · rw [len _ et, et]
          refine atI_end (by simp only [List.length_cons, List.length_nil]; omega) ?_
          have : ((md (.ref b) ln).length + 1 + (([x] : List Int).length : Int) - 1 - ((md (.ref b) ln).length + 1)).toNat = 0 := by simp
          rw [this]; rfl
        refine ⟨by show 1 ≤ sizeLine; decide, fun q nq => ?_⟩
        exact k _ _ ((Kp.refl.new np).new nq) (by rw [et]; exact upd_same)
end
end Lk
namespace Lk
open PySem L2
section
variable {P : Program} {w : World} {K : PySem.W.Frag} {mg : Str → Option Value} {base : Heap} {C1 aP : Addr}
theorem sc_value : FnScope ["self", "name"] ["self", "name"] (defScope s_value) := ⟨rfl, rfl, rfl, by decide +kernel, rfl, by decide +kernel, by decide +kernel⟩
theorem ok_value {C : Addr} {th : Bool} {f : Addr} {fd : FuncData} (F : Fun K "value" "Walk.value" s_value f fd) (T : Txt K mg C1 aP) (B : CF K C) : FnOk P w K mg base CX0 1 f fd ["self", "name"] (spValue C th) := by
  refine F.ok sc_value (fun vs H Q E h => ?_) (fun cdv Ar outer sh H vs Q E hr h => ?_)
  · obtain ⟨A, n, r, b, lns, out, s, y, rfl, _⟩ := h
    rfl
  · obtain ⟨A, n, r, b, lns, out, s, y, rfl, W, hy, k⟩ := h
    refine ⟨_, (pss_cons
    (ps_if (pt_cmpR op_isN (pv 1) pe_non (nomark _))
      (pss_one
      (ps_ret pe_int))
      pss_nil)
    (pss_one
    (ps_ret (pe_ix ix_list (pe_fld (pv 0) rfl) (pv 1) (fun _ _ => rfl))))), ?_⟩
    obtain ⟨dx, fs, ev, hp, Fl, _⟩ := W.ins
    refine ⟨_, rfl, rfl, _, rfl, ?_⟩
    cases y with
    | none => exact ifY rfl k
    | some i =>
      have hi := hy i rfl
      refine ifN (by intro z; cases z) ?_
      exact ⟨_, rfl, _, _, _, _, _, rfl, hp, B.cl, B.numbers, Fl.numbers, _, rfl, _, _, _, _, rfl, rfl, SqL.of W.nu, atI_gi hi.1 (by rw [W.ok.nums]; exact hi.2), k⟩
theorem sc_node : FnScope ["self", "node"] ["self", "node"] (defScope s_node) := ⟨rfl, rfl, rfl, by decide +kernel, rfl, by decide +kernel, by decide +kernel⟩
theorem ok_node {C : Addr} {th : Bool} {f : Addr} {fd : FuncData} (F : Fun K "node" "Walk.node" s_node f fd) (T : Txt K mg C1 aP) (B : CF K C) : FnOk P w K mg base CX0 1 f fd ["self", "node"] (spNode C th) := by
  refine F.ok sc_node (fun vs H Q E h => ?_) (fun cdv Ar outer sh H vs Q E hr h => ?_)
  · obtain ⟨A, n, r, b, lns, out, s, a, nd, rfl, _⟩ := h
    rfl
  · obtain ⟨A, n, r, b, lns, out, s, a, nd, rfl, W, hn, ho, k⟩ := h
    refine ⟨_, (pss_cons
    (ps_if (pt_cmpR op_eq (pe_ix ix_tup (pv 1) pe_int (fun _ _ => rfl)) pe_str (nomark _))
      (pss_one
      (ps_ret (pe_ix ix_list (pe_fld (pv 0) rfl) (pe_ix ix_tup (pv 1) pe_int (fun _ _ => rfl)) (fun _ _ => rfl))))
      pss_nil)
    (pss_cons
    (ps_if (pt_cmpR op_eq (pe_ix ix_tup (pv 1) pe_int (fun _ _ => rfl)) pe_str (nomark _))
      (pss_one
      (ps_ret (pe_callB call_len_seq (by rfl) T.b_len (by decide +kernel) (pa_cons (pe_ix ix_list (pe_fld (pv 0) rfl) (pe_ix ix_tup (pv 1) pe_int (fun _ _ => rfl)) (fun _ _ => rfl)) pa_nil))))
      pss_nil)
    (pss_one
    (ps_ret pe_int)))), ?_⟩
    obtain ⟨dx, fs, ev, hp, Fl, _⟩ := W.ins
    cases nd with
    | zero =>
      refine ⟨_, rfl, _, _, _, _, rfl, rfl, SqT.of hn, atI0, rfl, _, rfl, ifN (by decide +kernel) ?_⟩
      refine ⟨_, rfl, _, _, _, _, rfl, rfl, SqT.of hn, atI0, rfl, _, rfl, ifN (by decide +kernel) ?_⟩
      exact k
    | name x =>
      refine ⟨_, rfl, _, _, _, _, rfl, rfl, SqT.of hn, atI0, rfl, _, rfl, ifY rfl ?_⟩
      exact ⟨_, rfl, _, _, _, _, _, rfl, hp, B.cl, B.numbers, Fl.numbers, _, rfl, _, _, _, _, rfl, rfl, SqT.of hn, (show atI [V.str "name", .int x, .int 0] 1 = some (.int x) from rfl), _, _, _, _, rfl, rfl, SqL.of W.nu, atI_gi ho.1 (by rw [W.ok.nums]; exact ho.2), k⟩
    | len i =>
      refine ⟨_, rfl, _, _, _, _, rfl, rfl, SqT.of hn, atI0, rfl, _, rfl, ifN (by decide +kernel) ?_⟩
      refine ⟨_, rfl, _, _, _, _, rfl, rfl, SqT.of hn, atI0, rfl, _, rfl, ifY rfl ?_⟩
      obtain ⟨ra, e1, _, e2⟩ := W.row ho
      refine ⟨_, rfl, _, _, _, _, _, rfl, hp, B.cl, B.rows, Fl.rows, _, rfl, _, _, _, _, rfl, rfl, SqT.of hn, (show atI [V.str "len", .int i] 1 = some (.int i) from rfl), _, _, _, _, rfl, rfl, SqL.of W.rr, e1, _, _, rfl, .inl (SqL.of e2), ?_⟩
      rw [List.length_map]
      exact k
theorem sc_kept : FnScope ["self", "bounds", "first", "last", "most"] ["self", "bounds"] (defScope s_kept) := ⟨rfl, rfl, rfl, by decide +kernel, rfl, by decide +kernel, by decide +kernel⟩
theorem keptB_take {s : WSt} {bs : List Bd} {i : Nat} {x : Bd} (h : keptB s (bs.take i) = true) (e : bs[i]? = some x) (hx : ¬ (x.c < ndv s x.a - ndv s x.b)) : keptB s (bs.take (i + 1)) = true := by
  unfold keptB at h ⊢
  rw [List.take_succ, e, List.all_append, h]
  simp; omega
theorem keptB_no {s : WSt} {bs : List Bd} {i : Nat} {x : Bd} (e : bs[i]? = some x) (hx : x.c < ndv s x.a - ndv s x.b) : keptB s bs = false := by
  cases h : keptB s bs with
  | false => rfl
  | true =>
    have := of_decide_eq_true (List.all_eq_true.mp h x (List.mem_of_getElem? e))
    omega
theorem ok_kept {C : Addr} {th : Bool} {f : Addr} {fd : FuncData} (F : Fun K "kept" "Walk.kept" s_kept f fd) (T : Txt K mg C1 aP) (B : CF K C) (M_node : Mo P w K mg base 1 C "node" ["self", "node"] (spNode C th)) : FnOk P w K mg base CX0 2 f fd ["self", "bounds"] (spKept C th) := by
  refine F.ok sc_kept (fun vs H Q E h => ?_) (fun cdv Ar outer sh H vs Q E hr h => ?_)
  · obtain ⟨A, n, r, b, lns, out, s, a, nd, rfl, _⟩ := h
    rfl
  · obtain ⟨A, n, r, b, lns, out, s, a, bs, rfl, W, ⟨as, ha, hb⟩, ho, k⟩ := h
    refine ⟨_, (pss_cons
    (ps_for PassesOwn.never rfl (pi_tup (pv 1)) (pg_tup rfl (pgs_cons (pg_name (i := 2) sc_kept.nd rfl (Or.inl rfl)) (pgs_cons (pg_name (i := 3) sc_kept.nd rfl (Or.inl rfl)) (pgs_cons (pg_name (i := 4) sc_kept.nd rfl (Or.inl rfl)) pgs_nil))))
      (pss_one
      (ps_if (pt_cmpR op_gt (pe_op op_sub (pe_mo (pv 0) B.cl M_node (hr.mono (by decide)) (pa_cons (pv 2) pa_nil)) (pe_mo (pv 0) B.cl M_node (hr.mono (by decide)) (pa_cons (pv 3) pa_nil))) (pv 4) (nomark _))
        (pss_one
        (ps_ret pe_bl))
        pss_nil)))
    (pss_one
    (ps_ret pe_bl))), ?_⟩
    obtain ⟨dx, fs, ev, hp, Fl, _⟩ := W.ins
    refine ⟨_, rfl, a, rfl, ⟨_, SqT.of ha⟩, for_tup (K := K) (a := a) (xs := as.map V.ref) (fun i σ H' => (∃ v2 v3 v4, σ = [some (.ref A.p), some (.ref a), v2, v3, v4]) ∧ H' = H ∧ keptB s (bs.take i) = true) ⟨⟨_, _, _, rfl⟩, rfl, rfl⟩ (fun i σ H' _ p => by rw [p.2.1]; exact SqT.of ha) ?_ ?_⟩
    · rintro i y σ H' hi ⟨⟨v2, v3, v4, rfl⟩, rfl, hk⟩
      rw [List.getElem?_map] at hi
      obtain ⟨c, hc, e⟩ := Option.map_eq_some_iff.mp hi
      subst e
      obtain ⟨x, hx, p, q, e1, e2, e3⟩ := hb.getL hc
      have hxo := ho x (List.mem_of_getElem? hx)
      refine ⟨_, _, rfl, SqT.of e1, rfl, _, _, rfl, _, _, rfl, _, _, rfl, rfl, ?_⟩
      refine ⟨_, rfl, _, _, _, rfl, hp, Fl.no _ (by decide +kernel), _, rfl, A, n, r, b, lns, out, s, _, _, rfl, W, e2, hxo.1, ?_⟩
      refine ⟨_, rfl, _, _, _, rfl, hp, Fl.no _ (by decide +kernel), _, rfl, A, n, r, b, lns, out, s, _, _, rfl, W, e3, hxo.2, ?_⟩
      refine ⟨_, _, rfl, rfl, _, rfl, _, _, rfl, rfl, _, rfl, if2 (fun h => ?_) fun h => ?_⟩
      · have e := keptB_no hx h
        rw [e] at k
        exact k
      · exact ⟨⟨_, _, _, rfl⟩, rfl, keptB_take hk hx h⟩
    · rintro σ H' ⟨_, rfl, hk⟩
      rw [List.length_map, hb.len, List.take_length] at hk
      rw [hk] at k
      exact k
end
end Lk
namespace Lk
open PySem L2
section
variable {P : Program} {w : World} {K : PySem.W.Frag} {mg : Str → Option Value} {base : Heap} {C1 aP : Addr}
theorem hd_ask {ln : Ln} : (V.str (hd ln) = V.str "ask") ↔ isAsk ln = true := by
  cases ln <;> dsimp only [hd, isAsk] <;> first | (constructor <;> intro h <;> first | rfl | exact h) | exact ⟨fun h => absurd h (by decide +kernel), fun h => absurd h (by decide +kernel)⟩
theorem sc_pass_asks : FnScope ["self", "line"] ["self"] (defScope s_pass_asks) := ⟨rfl, rfl, rfl, by decide +kernel, rfl, by decide +kernel, by decide +kernel⟩
theorem ok_pass_asks {C : Addr} {th : Bool} {f : Addr} {fd : FuncData} (F : Fun K "pass_asks" "Walk.pass_asks" s_pass_asks f fd) (T : Txt K mg C1 aP) (B : CF K C) (M_kept : Mo P w K mg base 2 C "kept" ["self", "bounds"] (spKept C th)) : FnOk P w K mg base CX0 3 f fd ["self"] (spPass C th) := by
  refine F.ok sc_pass_asks (fun vs H Q E h => ?_) (fun cdv Ar outer sh H vs Q E hr h => ?_)
  · obtain ⟨A, n, r, b, lns, out, s, rfl, _⟩ := h
    rfl
  · obtain ⟨A, n, r, b, lns, out, s, rfl, W, k⟩ := h
    refine ⟨_, (pss_one
    (ps_while PassesOwn.never (pt_cmpR op_eq (pe_ix ix_tup (pe_ix ix_list (pe_fld (pv 0) rfl) (pe_fld (pv 0) rfl) (fun _ _ => rfl)) pe_int (fun _ _ => rfl)) pe_str (nomark _))
      (pss_cons
      (ps_set (i := 1) sc_pass_asks.nd rfl (Or.inl rfl) (pe_ix ix_list (pe_fld (pv 0) rfl) (pe_fld (pv 0) rfl) (fun _ _ => rfl)))
      (pss_one
      (ps_fld (pv 0) (pe_ix ix_tup (pv 1) (pe_op op_add pe_int (pe_callTy call_int1 (by rfl) T.b_int (by decide +kernel) (pa_cons (pe_not (pe_mo (pv 0) B.cl M_kept (hr.mono (by decide)) (pa_cons (pe_ix ix_tup (pv 1) pe_int (fun _ _ => rfl)) pa_nil))) pa_nil))) (fun _ _ => rfl)) rfl))))), ?_⟩
    refine ⟨fun m σ H' => (m = 1 ∧ H' = H ∧ σ = [some (.ref A.p), none]) ∨ (m = 0 ∧ WkAt C th H' A n r b lns out { s with at_ := pa lns s } ∧ Kp A.mut H H' ∧ ∃ v, σ = [some (.ref A.p), v]), ⟨1, .inl ⟨rfl, rfl, rfl⟩⟩, ?_⟩
    rintro m σ H1 (⟨rfl, rfl, rfl⟩ | ⟨rfl, W1, k1, v, rfl⟩)
    · obtain ⟨dx, fs, ev, hp, Fl, hF⟩ := W.ins
      obtain ⟨a, ea, c, hc, hb⟩ := W.line W.ok.at0 W.ok.at1
      have hc' := hc
      rw [lnB_eq] at hc'
      refine ⟨_, rfl, _, _, _, _, _, rfl, hp, B.cl, B.lines, Fl.lines, _, rfl, _, _, _, _, _, rfl, hp, B.cl, B.at_, Fl.at_, _, _, _, _, rfl, rfl, SqL.of W.ll, ea, _, _, _, _, rfl, rfl, SqT.of hc', atI0, rfl, _, rfl, if2 (fun h => ?_) fun h => ?_⟩
      · have hA := hd_ask.mp h
        have f := W.ok.fld
        rcases pa_cases W.ok with ⟨z, _⟩ | ⟨bs, x, y, e1, e2, e3⟩
        · rw [z] at hA; cases hA
        · have hB := hb bs x y e1
          rw [e1] at hc f
          refine ⟨fun σ H' => WkAt C th H' A n r b lns out { s with at_ := pa lns s } ∧ Kp A.mut H1 H' ∧ ∃ v, σ = [some (.ref A.p), v], fun σ H' z => ⟨0, Nat.zero_lt_one, .inr ⟨rfl, z⟩⟩, ?_⟩
          refine ⟨_, rfl, _, _, _, _, _, rfl, hp, B.cl, B.lines, Fl.lines, _, rfl, _, _, _, _, _, rfl, hp, B.cl, B.at_, Fl.at_, _, _, _, _, rfl, rfl, SqL.of W.ll, ea, ?_⟩
          refine ⟨_, rfl, _, rfl, _, _, _, rfl, hp, Fl.no _ (by decide +kernel), _, rfl, _, _, _, _, rfl, rfl, SqT.of hc, (show atI [V.str "ask", .ref c, .int x, .int y] 1 = some (.ref c) from rfl), A, n, r, b, lns, out, s, _, bs, rfl, W, hB, f, ?_⟩
          refine ⟨_, rfl, .inr ⟨_, rfl, _, _, rfl, rfl, _, _, _, .int (pa lns s), rfl, rfl, SqT.of hc, ?_, ?_⟩⟩
          · rw [e2]
            cases keptB s bs with
            | true => rfl
            | false => rfl
          · refine ⟨_, rfl, _, _, _, _, rfl, hp, B.cl, B.at_, Nat.lt_of_le_of_lt Fl.len (by decide), ?_⟩
            refine ⟨W.putP hp (W.ok.to (pa_in W.ok)) (Fl.putAt _) hF rfl rfl rfl rfl, Kp.refl.put hp (.inl (by simp [WA.mut])), _, rfl⟩
      · have hn : isAsk (lnAt lns s.at_) = false := by
          cases z : isAsk (lnAt lns s.at_) with
          | false => rfl
          | true => exact absurd (hd_ask.mpr z) h
        have e : pa lns s = s.at_ := by
          rcases pa_cases W.ok with ⟨_, e⟩ | ⟨bs, x, y, e1, _⟩
          · exact e
          · rw [e1] at hn; cases hn
        exact k H1 (by rw [e]; exact W) Kp.refl
    · obtain ⟨dx, fs, ev, hp, Fl, hF⟩ := W1.ins
      obtain ⟨a, ea, c, hc, hb⟩ := W1.line W1.ok.at0 W1.ok.at1
      rw [lnB_eq] at hc
      refine ⟨_, rfl, _, _, _, _, _, rfl, hp, B.cl, B.lines, Fl.lines, _, rfl, _, _, _, _, _, rfl, hp, B.cl, B.at_, Fl.at_, _, _, _, _, rfl, rfl, SqL.of W1.ll, ea, _, _, _, _, rfl, rfl, SqT.of hc, atI0, rfl, _, rfl, ifN (fun h => ?_) ?_⟩
      · have hA := hd_ask.mp h
        have q : isAsk (lnAt lns (pa lns s)) = false := pa_not W.ok
        have hA' : isAsk (lnAt lns (pa lns s)) = true := hA
        rw [q] at hA'
        cases hA'
      · exact k _ W1 k1
end
end Lk
namespace Lk
open PySem L2
section
variable {P : Program} {w : World} {K : PySem.W.Frag} {mg : Str → Option Value} {base : Heap} {C1 aP : Addr}
theorem sc_place_of : FnScope ["line"] ["line"] (defScope s_place_of) := ⟨rfl, rfl, rfl, by decide +kernel, rfl, by decide +kernel, by decide +kernel⟩
theorem ok_place_of {f : Addr} {fd : FuncData} (F : Fun K "place_of" "place_of" s_place_of f fd) (T : Txt K mg C1 aP) : FnOk P w K mg base CX0 1 f fd ["line"] spPlaceOf := by
  refine F.ok sc_place_of (fun vs H Q E h => ?_) (fun cdv Ar outer sh H vs Q E hr h => ?_)
  · obtain ⟨a, ln, rfl, _⟩ := h
    rfl
  · obtain ⟨a, ln, rfl, ⟨c, ha, _⟩, hp, k⟩ := h
    refine ⟨_, (pss_cons
    (ps_if (pt_cmpR op_eq (pe_ix ix_tup (pv 0) pe_int (fun _ _ => rfl)) pe_str (nomark _))
      (pss_one
      (ps_ret (pe_tup (pa_cons (pe_ix ix_tup (pv 0) pe_int (fun _ _ => rfl)) (pa_cons (pe_ix ix_tup (pv 0) pe_int (fun _ _ => rfl)) (pa_cons (pe_ix ix_tup (pv 0) pe_int (fun _ _ => rfl)) pa_nil))))))
      pss_nil)
    (pss_one
    (ps_ret (pe_tup (pa_cons (pe_ix ix_tup (pv 0) pe_int (fun _ _ => rfl)) (pa_cons (pe_ix ix_tup (pv 0) pe_int (fun _ _ => rfl)) (pa_cons (pe_ix ix_tup (pv 0) pe_int (fun _ _ => rfl)) pa_nil))))))), ?_⟩
    cases ln with
    | get x r y c' t =>
      refine ⟨_, rfl, _, _, _, _, rfl, rfl, SqT.of ha, atI0, rfl, _, rfl, ifY rfl ?_⟩
      refine ⟨_, rfl, _, _, _, .int r, rfl, rfl, SqT.of ha, rfl, _, rfl, _, _, _, oV y, rfl, rfl, SqT.of ha, rfl, _, rfl, _, _, _, .int c', rfl, rfl, SqT.of ha, rfl, (by show 3 ≤ sizeLine; decide), fun p np => ?_⟩
      exact k _ _ (Kp.refl.new np) upd_same
    | put r y c' z t =>
      refine ⟨_, rfl, _, _, _, _, rfl, rfl, SqT.of ha, atI0, rfl, _, rfl, ifN (by decide +kernel) ?_⟩
      refine ⟨_, rfl, _, _, _, .int r, rfl, rfl, SqT.of ha, rfl, _, rfl, _, _, _, oV y, rfl, rfl, SqT.of ha, rfl, _, rfl, _, _, _, .int c', rfl, rfl, SqT.of ha, rfl, (by show 3 ≤ sizeLine; decide), fun p np => ?_⟩
      exact k _ _ (Kp.refl.new np) upd_same
    | _ => cases hp
theorem sc_looked : FnScope ["self", "row", "place"] ["self", "row", "place"] (defScope s_looked) := ⟨rfl, rfl, rfl, by decide +kernel, rfl, by decide +kernel, by decide +kernel⟩
theorem ok_looked {C : Addr} {f : Addr} {fd : FuncData} (F : Fun K "looked" "Walk.looked" s_looked f fd) (T : Txt K mg C1 aP) (B : CF K C) : FnOk P w K mg base CX0 1 f fd ["self", "row", "place"] (spLooked C false) := by
  refine F.ok sc_looked (fun vs H Q E h => ?_) (fun cdv Ar outer sh H vs Q E hr h => ?_)
  · obtain ⟨A, n, r, b, lns, out, s, i, pl, rfl, _⟩ := h
    rfl
  · obtain ⟨A, n, r, b, lns, out, s, i, pl, rfl, W, hi, k⟩ := h
    refine ⟨_, (pss_cons
    (ps_if (pt_cmpR op_lt (pv 2) pe_int (nomark _))
      (pss_one
      (ps_ret pe_str))
      pss_nil)
    (pss_cons
    (ps_if (pt_cmpR op_ge (pv 2) (pe_callB call_len_seq (by rfl) T.b_len (by decide +kernel) (pa_cons (pe_ix ix_list (pe_fld (pv 0) rfl) (pv 1) (fun _ _ => rfl)) pa_nil)) (nomark _))
      (pss_one
      (ps_ret pe_str))
      pss_nil)
    (pss_one
    (ps_ret pe_non)))), ?_⟩
    obtain ⟨dx, fs, ev, hp, Fl, _⟩ := W.ins
    have ho : out = [] := by
      have q := W.oo
      have z := W.th
      cases eo : A.oo with
      | none => rw [eo] at q; exact q
      | some o => rw [eo] at z; cases z
    subst ho
    obtain ⟨ra, e1, _, e2⟩ := W.row hi
    have k := k H Kp.refl
    have nl : ∀ x : Int × Str, x ∉ ([] : List (Int × Str)) := fun _ h => absurd h List.not_mem_nil
    unfold lk at k
    refine ⟨_, rfl, _, _, rfl, rfl, _, rfl, if2 (fun h => ?_) fun h => ?_⟩
    · rw [if_pos ⟨h, nl _⟩] at k
      exact k
    · refine ⟨_, rfl, _, rfl, _, _, _, _, _, rfl, hp, B.cl, B.rows, Fl.rows, _, rfl, _, _, _, _, rfl, rfl, SqL.of W.rr, e1, _, _, rfl, .inl (SqL.of e2), _, _, rfl, rfl, _, rfl, if2 (fun h2 => ?_) fun h2 => ?_⟩
      · rw [List.length_map] at h2
        rw [if_neg (fun z => h z.1), if_pos ⟨h2, nl _⟩] at k
        exact k
      · rw [List.length_map] at h2
        rw [if_neg (fun z => h z.1), if_neg (fun z => h2 z.1), if_neg (fun z => z.elim h h2)] at k
        exact k
theorem sc_looked2 : FnScope ["self", "row", "place", "size"] ["self", "row", "place"] (defScope s_looked2) := ⟨rfl, rfl, rfl, by decide +kernel, rfl, by decide +kernel, by decide +kernel⟩
theorem ok_looked2 {C : Addr} {f : Addr} {fd : FuncData} (F : Fun K "looked" "ThinWalk.looked" s_looked2 f fd) (T : Txt K mg C1 aP) (B : CF K C) : FnOk P w K mg base CX0 1 f fd ["self", "row", "place"] (spLooked C true) := by
  refine F.ok sc_looked2 (fun vs H Q E h => ?_) (fun cdv Ar outer sh H vs Q E hr h => ?_)
  · obtain ⟨A, n, r, b, lns, out, s, i, pl, rfl, _⟩ := h
    rfl
  · obtain ⟨A, n, r, b, lns, out, s, i, pl, rfl, W, hi, k⟩ := h
    refine ⟨_, (pss_cons
    (ps_set (i := 3) sc_looked2.nd rfl (Or.inl rfl) (pe_callB call_len_seq (by rfl) T.b_len (by decide +kernel) (pa_cons (pe_ix ix_list (pe_fld (pv 0) rfl) (pv 1) (fun _ _ => rfl)) pa_nil)))
    (pss_cons
    (ps_if ((pw_and (pt_cmpR op_lt (pv 2) pe_int (nomark _)) (pw_and1 (pt_cmpR (op_notInD (hu65_of hr)) (pe_tup (pa_cons (pe_fld (pv 0) rfl) (pa_cons pe_str pa_nil))) (pe_fld (pv 0) rfl) (by rfl))))).pt
      (pss_one
      (ps_ret pe_str))
      pss_nil)
    (pss_cons
    (ps_if ((pw_and (pt_cmpR op_ge (pv 2) (pv 3) (nomark _)) (pw_and1 (pt_cmpR (op_notInD (hu65_of hr)) (pe_tup (pa_cons (pe_fld (pv 0) rfl) (pa_cons pe_str pa_nil))) (pe_fld (pv 0) rfl) (by rfl))))).pt
      (pss_one
      (ps_ret pe_str))
      pss_nil)
    (pss_cons
    (ps_if ((pw_or (pt_cmpR op_lt (pv 2) pe_int (nomark _)) (pw_or1 (pt_cmpR op_ge (pv 2) (pv 3) (nomark _))))).pt
      (pss_one
      (ps_ret pe_str))
      pss_nil)
    (pss_one
    (ps_ret pe_non)))))), ?_⟩
    obtain ⟨dx, fs, ev, hp, Fl, _⟩ := W.ins
    obtain ⟨o, eo, ho⟩ : ∃ o, A.oo = some o ∧ OutAt H o out := by
      have q := W.oo
      have z := W.th
      cases eo : A.oo with
      | none => rw [eo] at z; cases z
      | some o => rw [eo] at q; exact ⟨o, rfl, q⟩
    have hf : fs.lookup ("out" : Str) = some (.ref o) := by rw [Fl.out, eo]; rfl
    obtain ⟨ra, e1, _, e2⟩ := W.row hi
    have so := shaped_out ho.choose_spec.2.2
    unfold lk at k
    refine ⟨_, rfl, _, _, _, _, _, rfl, hp, B.cl, B.rows, Fl.rows, _, rfl, _, _, _, _, rfl, rfl, SqL.of W.rr, e1, _, _, rfl, .inl (SqL.of e2), ?_⟩
    rw [List.length_map]
    -- the last test, from any heap that keeps all
    have last : ∀ H', Kp [] H H' → ¬ (pl < 0 ∧ (s.at_, ("low" : Str)) ∉ out) → ¬ (((rowAt s i).length : Int) ≤ pl ∧ (s.at_, ("high" : Str)) ∉ out) → (if pl < 0 ∨ ((rowAt s i).length : Int) ≤ pl then Q (.str "beyond") H' else Q .non H') := fun H' kp h1 h2 => by
      have k := k H' kp
      rw [if_neg h1, if_neg h2] at k
      by_cases h : pl < 0 ∨ ((rowAt s i).length : Int) ≤ pl
      · rw [if_pos h] at k ⊢; exact k
      · rw [if_neg h] at k ⊢; exact k
    have fin : ∀ H', Kp [] H H' → ¬ (pl < 0 ∧ (s.at_, ("low" : Str)) ∉ out) → ¬ (((rowAt s i).length : Int) ≤ pl ∧ (s.at_, ("high" : Str)) ∉ out) →
        tIfS (tOr (tTest (tOp (rI0 fun i j => .bl (decide (i < j))) (tVar 2) (tC (.int 0)))) (tTest (tOp (rI0 fun i j => .bl (decide (j ≤ i))) (tVar 2) (tVar 3)))) (tRet (tC (.str "beyond"))) tNext
          { nx := fun σ H => tRet (tC .non) { nx := fun _ H' => Q .non H', rt := Q } σ H, rt := Q } [some (.ref A.p), some (.int i), some (.int pl), some (.int ((rowAt s i).length : Int))] H' := fun H' kp h1 h2 => by
      have z := last H' kp h1 h2
      refine ⟨_, rfl, _, _, rfl, rfl, _, rfl, if2 (fun h => ?_) fun h => ?_⟩
      · rw [if_pos (.inl h)] at z; exact z
      · refine ⟨_, rfl, _, rfl, _, _, rfl, rfl, _, rfl, if2 (fun h3 => ?_) fun h3 => ?_⟩
        · rw [if_pos (.inr h3)] at z; exact z
        · rw [if_neg (fun q => q.elim h h3)] at z; exact z
    have mid : ∀ H', Kp [] H H' → ¬ (pl < 0 ∧ (s.at_, ("low" : Str)) ∉ out) →
        tIfS (tAnd (tTest (tOp (rI0 fun i j => .bl (decide (j ≤ i))) (tVar 2) (tVar 3))) (tTest (tOp (rNotInD K) (tTup (tCons (tFld K (tVar 0) "at") (tCons (tC (.str "high")) tNil))) (tFld K (tVar 0) "out")))) (tRet (tC (.str "high"))) tNext
          { nx := (fun σ H => tIfS (tOr (tTest (tOp (rI0 fun i j => .bl (decide (i < j))) (tVar 2) (tC (.int 0)))) (tTest (tOp (rI0 fun i j => .bl (decide (j ≤ i))) (tVar 2) (tVar 3)))) (tRet (tC (.str "beyond"))) tNext
              ⟨(fun σ H => tRet (tC .non) { nx := fun _ H' => Q .non H', rt := Q } σ H), Q, fun _ _ => False, fun _ _ => False⟩ σ H), rt := Q } [some (.ref A.p), some (.int i), some (.int pl), some (.int ((rowAt s i).length : Int))] H' := fun H' kp h1 => by
      refine ⟨_, rfl, _, rfl, _, _, rfl, rfl, _, rfl, if2 (fun h => ?_) fun h => ?_⟩
      · refine ⟨_, rfl, _, _, _, _, _, rfl, kp.at0 hp, B.cl, B.at_, Fl.at_, (by show 2 ≤ sizeLine; decide), fun p np => ?_⟩
        have kp2 := kp.new (o := .tup [.int s.at_, .str "high"]) np
        refine ⟨_, rfl, _, _, _, _, _, rfl, kp2.at0 hp, B.cl, B.out, hf, _, _, dp_od (x := (s.at_, "high")) upd_same, dp_out (OutAt.keep kp2.tk (fun xs z => kp2.at0 z) ho), shaped_od (.inr rfl), so, ?_⟩
        rw [out_any]
        refine ⟨_, rfl, ifN2 (fun h3 => ?_) fun h3 => ?_⟩
        · have k := k _ kp2
          rw [if_neg h1, if_pos ⟨h, h3⟩] at k
          exact k
        · exact fin _ kp2 h1 fun z => z.2 h3
      · exact fin _ kp h1 fun z => h z.1
    refine ⟨_, rfl, _, _, rfl, rfl, _, rfl, if2 (fun h => ?_) fun h => ?_⟩
    · refine ⟨_, rfl, _, _, _, _, _, rfl, hp, B.cl, B.at_, Fl.at_, (by show 2 ≤ sizeLine; decide), fun p np => ?_⟩
      have kp2 := (Kp.refl (F := []) (H := H)).new (o := .tup [.int s.at_, .str "low"]) np
      refine ⟨_, rfl, _, _, _, _, _, rfl, kp2.at0 hp, B.cl, B.out, hf, _, _, dp_od (x := (s.at_, "low")) upd_same, dp_out (OutAt.keep kp2.tk (fun xs z => kp2.at0 z) ho), shaped_od (.inl rfl), so, ?_⟩
      rw [out_any]
      refine ⟨_, rfl, ifN2 (fun h3 => ?_) fun h3 => ?_⟩
      · have k := k _ kp2
        rw [if_pos ⟨h, h3⟩] at k
        exact k
      · exact mid _ kp2 fun z => z.2 h3
    · exact mid _ Kp.refl fun z => h z.1
end
end Lk
namespace Lk
open PySem L2
section
variable {P : Program} {w : World} {K : PySem.W.Frag} {mg : Str → Option Value} {base : Heap} {C1 aP : Addr}
theorem hd_pl {ln : Ln} (h : hd ln = "get" ∨ hd ln = "put") : isPl ln = true := by
  cases ln <;> dsimp only [hd] at h <;> first | rfl | exact (h.elim (fun z => absurd z (by decide +kernel)) fun z => absurd z (by decide +kernel))
theorem pl_parts {n r : Int} {ln : Ln} (h : isPl ln = true) (f : Fld n r ln) : ∃ i y c, plL ln = [.int i, oV y, .int c] ∧ In i r ∧ InO y n ∧ ∀ out b s, stp out b s ln = lkO (lk out ((rowAt s i).length : Int) s.at_ (vl s.nums y + c)) b s := by
  cases ln with
  | get x i y c t => exact ⟨i, y, c, rfl, f.2.1, f.2.2, fun _ _ _ => rfl⟩
  | put i y c z t => exact ⟨i, y, c, rfl, f.1, f.2.1, fun _ _ _ => rfl⟩
  | _ => cases h
theorem not_pl {ln : Ln} (h : ¬ (hd ln = "get" ∨ hd ln = "put")) (e : ¬ hd ln = "end") (out : List (Int × Str)) (b : Int) (s : WSt) : stp out b s ln = spent b s := by
  cases ln <;> first | rfl | exact absurd (.inl rfl) h | exact absurd (.inr rfl) h | exact absurd rfl e
theorem st_tail {C : Addr} {th : Bool} {H : Hp} {A : WA} {n r b : Int} {lns : List Ln} {out : List (Int × Str)} {s : WSt} {Q : VK} {σ : L2.St} (B : CF K C) (W : WkAt C th H A n r b lns out s) (h0 : σ[0]? = some (some (.ref A.p))) (k : Q (sV (spent b s)) H) :
    tSeq (tIfS (tTest (tOp rEq (tFld K (tVar 0) "steps") (tFld K (tVar 0) "budget"))) (tRet (tC (.str "spent"))) tNext) (tRet (tC .non)) { nx := fun _ H' => Q .non H', rt := Q } σ H := by
  obtain ⟨dx, fs, ev, hp, Fl, _⟩ := W.ins
  unfold spent at k
  refine ⟨_, h0, _, _, _, _, _, rfl, hp, B.cl, B.steps, Fl.steps, _, h0, _, _, _, _, _, rfl, hp, B.cl, B.budget, Fl.budget, rfl, _, rfl, if2 (fun h => ?_) fun h => ?_⟩
  · rw [if_pos (V.int.inj h)] at k; exact k
  · rw [if_neg fun z => h (congrArg V.int z)] at k; exact k
theorem sc_stopped : FnScope ["self", "line", "row", "name", "more", "word"] ["self"] (defScope s_stopped) := ⟨rfl, rfl, rfl, by decide +kernel, rfl, by decide +kernel, by decide +kernel⟩
theorem ok_stopped {C : Addr} {th : Bool} {f : Addr} {fd : FuncData} (F : Fun K "stopped" "Walk.stopped" s_stopped f fd) (T : Txt K mg C1 aP) (B : CF K C) (G_place_of : Fo P w K mg base 1 "place_of" ["line"] spPlaceOf)
    (M_value : Mo P w K mg base 1 C "value" ["self", "name"] (spValue C th)) (M_looked : Mo P w K mg base 1 C "looked" ["self", "row", "place"] (spLooked C th)) : FnOk P w K mg base CX0 2 f fd ["self"] (spStopped C th) := by
  refine F.ok sc_stopped (fun vs H Q E h => ?_) (fun cdv Ar outer sh H vs Q E hr h => ?_)
  · obtain ⟨A, n, r, b, lns, out, s, rfl, _⟩ := h
    rfl
  · obtain ⟨A, n, r, b, lns, out, s, rfl, W, k⟩ := h
    refine ⟨_, (pss_cons
    (ps_set (i := 1) sc_stopped.nd rfl (Or.inl rfl) (pe_ix ix_list (pe_fld (pv 0) rfl) (pe_fld (pv 0) rfl) (fun _ _ => rfl)))
    (pss_cons
    (ps_if (pt_cmpR op_eq (pe_ix ix_tup (pv 1) pe_int (fun _ _ => rfl)) pe_str (nomark _))
      (pss_one
      (ps_ret pe_str))
      pss_nil)
    (pss_cons
    (ps_if (pt_cmpR op_in_seq (pe_ix ix_tup (pv 1) pe_int (fun _ _ => rfl)) (pe_glob (v := .ref aP) rfl T.mgPl rfl) (by rfl))
      (pss_cons
      (ps_asg (pe_fo G_place_of (hr.mono (by decide)) rfl (pa_cons (pv 1) pa_nil)) (pg_tup rfl (pgs_cons (pg_name (i := 2) sc_stopped.nd rfl (Or.inl rfl)) (pgs_cons (pg_name (i := 3) sc_stopped.nd rfl (Or.inl rfl)) (pgs_cons (pg_name (i := 4) sc_stopped.nd rfl (Or.inl rfl)) pgs_nil)))))
      (pss_cons
      (ps_set (i := 5) sc_stopped.nd rfl (Or.inl rfl) (pe_mo (pv 0) B.cl M_looked (hr.mono (by decide)) (pa_cons (pv 2) (pa_cons (pe_op op_add (pe_mo (pv 0) B.cl M_value (hr.mono (by decide)) (pa_cons (pv 3) pa_nil)) (pv 4)) pa_nil))))
      (pss_one
      (ps_if (pt_cmpR op_notN (pv 5) pe_non (nomark _))
        (pss_one
        (ps_ret (pv 5)))
        pss_nil))))
      pss_nil)
    (pss_cons
    (ps_if (pt_cmpR op_eq (pe_fld (pv 0) rfl) (pe_fld (pv 0) rfl) (nomark _))
      (pss_one
      (ps_ret pe_str))
      pss_nil)
    (pss_one
    (ps_ret pe_non)))))), ?_⟩
    obtain ⟨dx, fs, ev, hp, Fl, _⟩ := W.ins
    obtain ⟨a, ea, hl⟩ := W.line W.ok.at0 W.ok.at1
    have f := W.ok.fld
    obtain ⟨c, hc, hb⟩ := id hl
    rw [lnB_eq] at hc
    refine ⟨_, rfl, _, _, _, _, _, rfl, hp, B.cl, B.lines, Fl.lines, _, rfl, _, _, _, _, _, rfl, hp, B.cl, B.at_, Fl.at_, _, _, _, _, rfl, rfl, SqL.of W.ll, ea, ?_⟩
    refine ⟨_, rfl, _, _, _, _, rfl, rfl, SqT.of hc, atI0, rfl, _, rfl, if2 (fun h => ?_) fun h => ?_⟩
    · have e := tg_end (V.str.inj h)
      have k := k _ Kp.refl
      rw [e] at k
      exact k
    · have hne : ¬ hd (lnAt lns s.at_) = "end" := fun z => h (congrArg V.str z)
      refine ⟨_, rfl, _, _, _, _, rfl, rfl, SqT.of hc, atI0, aP, _, rfl, .inr (T.pl _), rfl, rfl, _, rfl, ifB (fun e => ?_) fun e => ?_⟩
      · rw [if_neg Bool.false_ne_true, in2, Bool.or_eq_true, decide_eq_true_eq, decide_eq_true_eq] at e
        have hpl := hd_pl e
        obtain ⟨i, y, c', e1, hi, hy, e2⟩ := pl_parts hpl f
        refine ⟨_, rfl, a, _, rfl, hl, hpl, fun p H1 k1 hp1 => ?_⟩
        rw [e1] at hp1
        have W1 := W.ext k1
        refine ⟨_, _, rfl, SqT.of hp1, rfl, _, _, rfl, _, _, rfl, _, _, rfl, rfl, ?_⟩
        refine ⟨_, rfl, _, _, _, rfl, k1.at0 hp, Fl.no _ (by decide +kernel), _, rfl, _, rfl, _, _, _, rfl, k1.at0 hp, Fl.no _ (by decide +kernel), _, rfl, A, n, r, b, lns, out, s, y, rfl, W1, hy, _, rfl, _, _, rfl, rfl, A, n, r, b, lns, out, s, i, _, rfl, W1, hi, fun H2 k2 => ?_⟩
        have k := k H2 (k1.ext k2)
        rw [e2] at k
        refine ⟨_, rfl, rfl, _, rfl, ?_⟩
        cases el : lk out ((rowAt s i).length : Int) s.at_ (vl s.nums y + c') with
        | none =>
          rw [el] at k
          refine ifNN rfl ?_
          exact st_tail B (W1.ext k2) rfl k
        | some wd =>
          rw [el] at k
          refine ifNY (fun z => by cases z) ?_
          exact ⟨_, rfl, k⟩
      · rw [if_neg Bool.false_ne_true, in2, Bool.or_eq_false_iff, decide_eq_false_iff_not, decide_eq_false_iff_not] at e
        have k := k H Kp.refl
        rw [not_pl (fun z => z.elim e.1 e.2) hne] at k
        exact st_tail B W rfl k
theorem sc_step : FnScope ["self", "word"] ["self"] (defScope s_step) := ⟨rfl, rfl, rfl, by decide +kernel, rfl, by decide +kernel, by decide +kernel⟩
theorem stp_plOk {out : List (Int × Str)} {b : Int} {s : WSt} {ln : Ln} (h : stp out b s ln = none) : plOk s ln := by
  cases ln <;> first | exact lk_none (lkO_none h).1 | exact True.intro
theorem ok_step {C : Addr} {th : Bool} {f : Addr} {fd : FuncData} (F : Fun K "step" "Walk.step" s_step f fd) (T : Txt K mg C1 aP) (B : CF K C)
    (M_pass_asks : Mo P w K mg base 3 C "pass_asks" ["self"] (spPass C th)) (M_stopped : Mo P w K mg base 2 C "stopped" ["self"] (spStopped C th)) (M_do_line : Mo P w K mg base 3 C "do_line" ["self", "line"] (spDo C th)) : FnOk P w K mg base CX0 4 f fd ["self"] (spStep C th) := by
  refine F.ok sc_step (fun vs H Q E h => ?_) (fun cdv Ar outer sh H vs Q E hr h => ?_)
  · obtain ⟨A, n, r, b, lns, out, s, rfl, _⟩ := h
    rfl
  · obtain ⟨A, n, r, b, lns, out, s, rfl, W, ok, k⟩ := h
    refine ⟨_, (pss_one
    (ps_if (pt_cmpR op_isN (pe_fld (pv 0) rfl) pe_non (nomark _))
      (pss_cons
      (ps_expr (pe_mo0 (pv 0) B.cl M_pass_asks (hr.mono (by decide))))
      (pss_cons
      (ps_set (i := 1) sc_step.nd rfl (Or.inl rfl) (pe_mo0 (pv 0) B.cl M_stopped (hr.mono (by decide))))
      (pss_one
      (ps_if (pt_cmpR op_isN (pv 1) pe_non (nomark _))
        (pss_cons
        (ps_expr (pe_mo (pv 0) B.cl M_do_line (hr.mono (by decide)) (pa_cons (pe_ix ix_list (pe_fld (pv 0) rfl) (pe_fld (pv 0) rfl) (fun _ _ => rfl)) pa_nil)))
        (pss_one
        (ps_fldaug (pv 0) pe_int in_add)))
        (pss_one
        (ps_fld (pv 0) (pe_tup (pa_cons (pv 1) (pa_cons (pe_fld (pv 0) rfl) pa_nil))) rfl))))))
      pss_nil)), ?_⟩
    obtain ⟨dx, fs, ev, hp, Fl, hF⟩ := W.ins
    refine ⟨_, rfl, _, _, _, _, _, rfl, hp, B.cl, B.end_, Fl.end_, rfl, _, rfl, if2 (fun h => ?_) fun h => ?_⟩
    · have hfin : s.fin = none := by
        cases e : s.fin with
        | none => rfl
        | some x =>
          rw [e] at hF
          obtain ⟨q, e1, _⟩ := hF
          rw [e1] at h; cases h
      have hst : stepF lns out b s = stepE b { s with at_ := pa lns s } (lnAt lns (pa lns s)) (stp out b { s with at_ := pa lns s } (lnAt lns (pa lns s))) := by
        unfold stepF
        rw [if_neg (by rw [hfin]; decide)]
      rw [hst] at k
      refine ⟨_, rfl, _, _, _, rfl, hp, Fl.no _ (by decide +kernel), A, n, r, b, lns, out, s, rfl, W, fun H1 W1 k1 => ?_⟩
      obtain ⟨dx1, fs1, ev1, hp1, Fl1, hF1⟩ := W1.ins
      refine ⟨_, rfl, _, _, _, rfl, hp1, Fl1.no _ (by decide +kernel), A, n, r, b, lns, out, _, rfl, W1, fun H2 k2 => ?_⟩
      have W2 := W1.ext k2
      have hp2 := k2.at0 hp1
      refine ⟨_, rfl, rfl, _, rfl, ?_⟩
      show if decide (sV (stp out b { s with at_ := pa lns s } (lnAt lns (pa lns s))) = .non) = true then _ else _
      cases e : stp out b { s with at_ := pa lns s } (lnAt lns (pa lns s)) with
      | none =>
        rw [e] at k
        refine ifY rfl ?_
        obtain ⟨a, ea, hl⟩ := W2.line W2.ok.at0 W2.ok.at1
        refine ⟨_, rfl, _, _, _, rfl, hp2, Fl1.no _ (by decide +kernel), _, rfl, _, _, _, _, _, rfl, hp2, B.cl, B.lines, Fl1.lines, _, rfl, _, _, _, _, _, rfl, hp2, B.cl, B.at_, Fl1.at_, _, _, _, _, rfl, rfl, SqL.of W2.ll, ea,
          A, n, r, b, lns, out, _, a, rfl, W2, hl, pa_not W.ok, fun z => ?_, stp_plOk e, ?_, fun H3 W3 k3 => ?_⟩
        · have z' : lnAt lns (pa lns s) = .fin := z
          rw [z'] at e; cases e
        · have q1 := ok.words
          have q2 := ok.st1
          have q3 := ok.b60
          show s.words.length ≤ 1000
          omega
        · obtain ⟨dx3, fs3, ev3, hp3, Fl3, hF3⟩ := W3.ins
          refine ⟨_, rfl, _, _, _, _, _, rfl, hp3, B.cl, B.steps, Fl3.steps, _, _, rfl, rfl, _, _, hp3, Nat.lt_of_le_of_lt Fl3.len (by decide), ?_⟩
          refine k _ ?_ (((k1.ext k2).trans k3).put hp3 (.inl (by simp [WA.mut])))
          have e3 : (dl { s with at_ := pa lns s } (lnAt lns (pa lns s))).steps = s.steps := dl_steps _ _
          have ok3 := W3.ok
          have Fl4 := Fl3.putSt (s.steps + 1)
          refine W3.putP hp3 (s' := { dl { s with at_ := pa lns s } (lnAt lns (pa lns s)) with steps := s.steps + 1 }) ⟨ok3.good, ok3.at0, ok3.at1, ok3.nums, ok3.rows⟩ ?_ hF3 rfl rfl rfl rfl
          have e4 : (dl { s with at_ := pa lns s } (lnAt lns ({ s with at_ := pa lns s } : WSt).at_)).steps + 1 = s.steps + 1 := by rw [dl_steps]
          rw [e4]
          exact Fl4
      | some wd =>
        rw [e] at k
        refine ifN (fun z => by cases z) ?_
        refine ⟨_, rfl, _, rfl, _, _, _, _, _, rfl, hp2, B.cl, B.at_, Fl1.at_, (by show 2 ≤ sizeLine; decide), fun q nq => ?_⟩
        have W3 := W2.ext (Kp.refl.new (o := .tup [sV (some wd), .int (pa lns s)]) nq)
        have hp3 : upd H2 q (.tup [sV (some wd), .int (pa lns s)]) A.p = _ := (Kp.refl (F := [])).new nq |>.at0 hp2
        refine ⟨_, rfl, _, _, _, _, rfl, hp3, B.cl, B.end_, Nat.lt_of_le_of_lt Fl1.len (by decide), ?_⟩
        refine k _ ?_ (((k1.ext k2).new nq).put hp3 (.inl (by simp [WA.mut])))
        have ok1 := W1.ok
        exact W3.putP hp3 (s' := { s with at_ := pa lns s, fin := some (wd, pa lns s) }) ⟨ok1.good, ok1.at0, ok1.at1, ok1.nums, ok1.rows⟩ (Fl1.putEnd _) ⟨q, rfl, upd_same⟩ rfl rfl rfl rfl
    · have hs : s.fin.isSome = true := by
        cases e : s.fin with
        | none =>
          rw [e] at hF
          exact absurd hF h
        | some x => rfl
      rw [step_done hs] at k
      exact k H W Kp.refl
end
end Lk
namespace Lk
open PySem L2
section
variable {P : Program} {w : World} {K : PySem.W.Frag} {mg : Str → Option Value} {base : Heap} {C1 aP : Addr}
theorem sc_given : FnScope ["self", "line"] ["self", "line"] (defScope s_given) := ⟨rfl, rfl, rfl, by decide +kernel, rfl, by decide +kernel, by decide +kernel⟩
theorem ok_given {C : Addr} {th : Bool} {f : Addr} {fd : FuncData} (F : Fun K "given" "Walk.given" s_given f fd) (T : Txt K mg C1 aP) (B : CF K C)
    (M_value : Mo P w K mg base 1 C "value" ["self", "name"] (spValue C th)) : FnOk P w K mg base CX0 2 f fd ["self", "line"] (spGiven C th) := by
  refine F.ok sc_given (fun vs H Q E h => ?_) (fun cdv Ar outer sh H vs Q E hr h => ?_)
  · obtain ⟨A, n, r, b, lns, out, s, a, ln, rfl, _⟩ := h
    rfl
  · obtain ⟨A, n, r, b, lns, out, s, a, ln, rfl, W, ⟨c, hc, _⟩, fl, hg, hpl, k⟩ := h
    refine ⟨_, (pss_cons
    (ps_if (pt_cmpR op_eq (pe_ix ix_tup (pv 1) pe_int (fun _ _ => rfl)) pe_str (nomark _))
      (pss_one
      (ps_ret (pe_op op_add (pe_mo (pv 0) B.cl M_value (hr.mono (by decide)) (pa_cons (pe_ix ix_tup (pv 1) pe_int (fun _ _ => rfl)) pa_nil)) (pe_ix ix_tup (pv 1) pe_int (fun _ _ => rfl)))))
      pss_nil)
    (pss_cons
    (ps_if (pt_cmpR op_eq (pe_ix ix_tup (pv 1) pe_int (fun _ _ => rfl)) pe_str (nomark _))
      (pss_one
      (ps_ret (pe_op op_add (pe_mo (pv 0) B.cl M_value (hr.mono (by decide)) (pa_cons (pe_ix ix_tup (pv 1) pe_int (fun _ _ => rfl)) pa_nil)) (pe_mo (pv 0) B.cl M_value (hr.mono (by decide)) (pa_cons (pe_ix ix_tup (pv 1) pe_int (fun _ _ => rfl)) pa_nil)))))
      pss_nil)
    (pss_cons
    (ps_if (pt_cmpR op_eq (pe_ix ix_tup (pv 1) pe_int (fun _ _ => rfl)) pe_str (nomark _))
      (pss_one
      (ps_ret (pe_callB call_len_seq (by rfl) T.b_len (by decide +kernel) (pa_cons (pe_ix ix_list (pe_fld (pv 0) rfl) (pe_ix ix_tup (pv 1) pe_int (fun _ _ => rfl)) (fun _ _ => rfl)) pa_nil))))
      pss_nil)
    (pss_cons
    (ps_if (pt_cmpR op_eq (pe_ix ix_tup (pv 1) pe_int (fun _ _ => rfl)) pe_str (nomark _))
      (pss_one
      (ps_ret (pe_ix ix_list (pe_ix ix_list (pe_fld (pv 0) rfl) (pe_ix ix_tup (pv 1) pe_int (fun _ _ => rfl)) (fun _ _ => rfl)) (pe_op op_add (pe_mo (pv 0) B.cl M_value (hr.mono (by decide)) (pa_cons (pe_ix ix_tup (pv 1) pe_int (fun _ _ => rfl)) pa_nil)) (pe_ix ix_tup (pv 1) pe_int (fun _ _ => rfl))) (fun _ _ => rfl))))
      pss_nil)
    (pss_cons
    (ps_if (pt_cmpR (op_eqD hr.units) (pe_fld (pv 0) rfl) (pe_lst pa_nil) (nomark _))
      (pss_one
      (ps_ret pe_int))
      pss_nil)
    (pss_one
    (ps_ret (pe_bm PySem.F.plainAttrs_list PySem.F.slot_list_pop PySem.F.type_list_pop mt_popAt (pe_fld (pv 0) rfl) (pa_cons pe_int pa_nil))))))))), ?_⟩
    obtain ⟨dx, fs, ev, hp, Fl, _⟩ := W.ins
    have no : fs.lookup ("value" : Str) = none := Fl.no _ (by decide +kernel)
    cases ln with
    | set x y c' t =>
      refine ⟨_, rfl, _, _, _, _, rfl, rfl, SqT.of hc, atI0, rfl, _, rfl, ifY rfl ?_⟩
      exact ⟨_, rfl, _, _, _, rfl, hp, no, _, rfl, _, _, _, oV y, rfl, rfl, SqT.of hc, rfl, A, n, r, b, lns, out, s, y, rfl, W, fl.2, _, rfl, _, _, _, .int c', rfl, rfl, SqT.of hc, rfl, _, _, rfl, rfl, k H W Kp.refl⟩
    | sum x z y t =>
      refine ⟨_, rfl, _, _, _, _, rfl, rfl, SqT.of hc, atI0, rfl, _, rfl, ifN (by decide +kernel) ?_⟩
      refine ⟨_, rfl, _, _, _, _, rfl, rfl, SqT.of hc, atI0, rfl, _, rfl, ifY rfl ?_⟩
      exact ⟨_, rfl, _, _, _, rfl, hp, no, _, rfl, _, _, _, .int z, rfl, rfl, SqT.of hc, rfl, A, n, r, b, lns, out, s, some z, rfl, W, InO.some fl.2.1, _, rfl, _, _, _, rfl, hp, no, _, rfl, _, _, _, oV y, rfl, rfl, SqT.of hc, rfl, A, n, r, b, lns, out, s, y, rfl, W, fl.2.2, _, _, rfl, rfl, k H W Kp.refl⟩
    | len x i t =>
      refine ⟨_, rfl, _, _, _, _, rfl, rfl, SqT.of hc, atI0, rfl, _, rfl, ifN (by decide +kernel) ?_⟩
      refine ⟨_, rfl, _, _, _, _, rfl, rfl, SqT.of hc, atI0, rfl, _, rfl, ifN (by decide +kernel) ?_⟩
      refine ⟨_, rfl, _, _, _, _, rfl, rfl, SqT.of hc, atI0, rfl, _, rfl, ifY rfl ?_⟩
      obtain ⟨ra, e1, _, e2⟩ := W.row fl.2
      refine ⟨_, rfl, _, _, _, _, _, rfl, hp, B.cl, B.rows, Fl.rows, _, rfl, _, _, _, .int i, rfl, rfl, SqT.of hc, rfl, _, _, _, _, rfl, rfl, SqL.of W.rr, e1, _, _, rfl, .inl (SqL.of e2), ?_⟩
      rw [List.length_map]
      exact k H W Kp.refl
    | get x i y c' t =>
      refine ⟨_, rfl, _, _, _, _, rfl, rfl, SqT.of hc, atI0, rfl, _, rfl, ifN (by decide +kernel) ?_⟩
      refine ⟨_, rfl, _, _, _, _, rfl, rfl, SqT.of hc, atI0, rfl, _, rfl, ifN (by decide +kernel) ?_⟩
      refine ⟨_, rfl, _, _, _, _, rfl, rfl, SqT.of hc, atI0, rfl, _, rfl, ifN (by decide +kernel) ?_⟩
      refine ⟨_, rfl, _, _, _, _, rfl, rfl, SqT.of hc, atI0, rfl, _, rfl, ifY rfl ?_⟩
      obtain ⟨ra, e1, _, e2⟩ := W.row fl.2.1
      exact ⟨_, rfl, _, _, _, _, _, rfl, hp, B.cl, B.rows, Fl.rows, _, rfl, _, _, _, .int i, rfl, rfl, SqT.of hc, rfl, _, _, _, _, rfl, rfl, SqL.of W.rr, e1, _, rfl, _, _, _, rfl, hp, no, _, rfl, _, _, _, oV y, rfl, rfl, SqT.of hc, rfl, A, n, r, b, lns, out, s, y, rfl, W, fl.2.2,
        _, rfl, _, _, _, .int c', rfl, rfl, SqT.of hc, rfl, _, _, rfl, rfl, _, _, _, _, rfl, rfl, SqL.of e2, atI_gi hpl.1 hpl.2, k H W Kp.refl⟩
    | take x t =>
      refine ⟨_, rfl, _, _, _, _, rfl, rfl, SqT.of hc, atI0, rfl, _, rfl, ifN (by decide +kernel) ?_⟩
      refine ⟨_, rfl, _, _, _, _, rfl, rfl, SqT.of hc, atI0, rfl, _, rfl, ifN (by decide +kernel) ?_⟩
      refine ⟨_, rfl, _, _, _, _, rfl, rfl, SqT.of hc, atI0, rfl, _, rfl, ifN (by decide +kernel) ?_⟩
      refine ⟨_, rfl, _, _, _, _, rfl, rfl, SqT.of hc, atI0, rfl, _, rfl, ifN (by decide +kernel) ?_⟩
      refine ⟨_, rfl, _, _, _, _, _, rfl, hp, B.cl, B.due, Fl.due, Nat.zero_le _, fun p np => ?_⟩
      have k1 := (Kp.refl (F := []) (H := H)).new (o := .lst []) np
      have W1 := W.ext k1
      refine ⟨_, _, dp_ints W1.du, .lst (SqL.of upd_same) .nil, shaped_iD _, rfl, _, rfl, ?_⟩
      cases ed : s.due with
      | nil =>
        refine iteT ?_
        have e : gvS s (.take x t) = s := by
          obtain ⟨a1, a2, a3, a4, a5, a6, a7⟩ := s
          cases ed
          rfl
        have k := k _ (by rw [e]; exact W1) k1.nil
        rw [show give s (.take x t) = hd0 s.due from rfl, ed] at k
        exact k
      | cons d ds =>
        refine iteF ?_
        have hdu := W1.du
        rw [show IsL (upd H p (.lst [])) A.du s.due = IsL (upd H p (.lst [])) A.du (d :: ds) by rw [ed]] at hdu
        have W2 := W1.putDu (xs := ds) ⟨W.ok.good, W.ok.at0, W.ok.at1, W.ok.nums, W.ok.rows⟩
        have k := k _ (by rw [show gvS s (.take x t) = { s with due := s.due.tail } from rfl, ed]; exact W2) (k1.nil.put W1.du (.inl (by simp [WA.mut])))
        rw [show give s (.take x t) = hd0 s.due from rfl, ed] at k
        refine ⟨_, rfl, _, _, _, _, _, rfl, k1.at0 hp, B.cl, B.due, Fl.due, .inl ⟨rfl, _, SqL.of hdu⟩, _, _, _, _, _, rfl, rfl, hdu, by decide, by decide, (show seqIndex? 0 _ = some 0 from seqIndex_in (Int.le_refl 0) (by rw [List.length_map, List.length_cons]; omega)), rfl, ?_⟩
        exact k
    | _ => cases hg
theorem do_tail {C : Addr} {th : Bool} {H : Hp} {A : WA} {n r b : Int} {lns : List Ln} {out : List (Int × Str)} {s : WSt} {a : Addr} {ln : Ln} {wh t : Int} {D : Ends} (B : CF K C) (W : WkAt C th H A n r b lns out s) (hl : LnAt H a ln)
    (h0 : 0 ≤ wh) (e : (tg ln)[wh.toNat]? = some t) (ok : WOk0 n r lns { s with at_ := t }) (k : ∀ σ H', WkAt C th H' A n r b lns out { s with at_ := t } → Kp A.mut H H' → D.nx σ H') :
    sFld K (tVar 0) (tOp (rIxT K) (tFo spWays (tCons (tVar 1) tNil)) (tVar 2)) "at" D [some (.ref A.p), some (.ref a), some (.int wh)] H := by
  refine ⟨_, rfl, a, ln, rfl, hl, fun p H1 k1 e1 => ?_⟩
  have W1 := W.ext k1
  obtain ⟨dx, fs, ev, hp, Fl, hF⟩ := W1.ins
  refine ⟨_, rfl, _, _, _, .int t, rfl, rfl, SqT.of e1, atI_some h0 (by rw [List.getElem?_map, e]; rfl), _, rfl, _, _, _, _, rfl, hp, B.cl, B.at_, Nat.lt_of_le_of_lt Fl.len (by decide), ?_⟩
  exact k _ _ (W1.putP hp ok (Fl.putAt t) hF rfl rfl rfl rfl) (k1.nil.put hp (.inl (by simp [WA.mut])))
theorem sc_do_line : FnScope ["self", "line", "which"] ["self", "line"] (defScope s_do_line) := ⟨rfl, rfl, rfl, by decide +kernel, rfl, by decide +kernel, by decide +kernel⟩
theorem ok_do_line {C : Addr} {th : Bool} {f : Addr} {fd : FuncData} (F : Fun K "do_line" "Walk.do_line" s_do_line f fd) (T : Txt K mg C1 aP) (B : CF K C) (G_ways : Fo P w K mg base 1 "ways" ["line"] spWays)
    (M_value : Mo P w K mg base 1 C "value" ["self", "name"] (spValue C th)) (M_given : Mo P w K mg base 2 C "given" ["self", "line"] (spGiven C th)) : FnOk P w K mg base CX0 3 f fd ["self", "line"] (spDo C th) := by
  refine F.ok sc_do_line (fun vs H Q E h => ?_) (fun cdv Ar outer sh H vs Q E hr h => ?_)
  · obtain ⟨A, n, r, b, lns, out, s, a, rfl, _⟩ := h
    rfl
  · obtain ⟨A, n, r, b, lns, out, s, a, rfl, W, hl, na, nf, hpl, hw, k⟩ := h
    refine ⟨_, (pss_cons
    (ps_set (i := 2) sc_do_line.nd rfl (Or.inl rfl) pe_int)
    (pss_cons
    (ps_if (pt_cmpR op_eq (pe_ix ix_tup (pv 1) pe_int (fun _ _ => rfl)) pe_str (nomark _))
      (pss_one
      (ps_set (i := 2) sc_do_line.nd rfl (Or.inl rfl) (pe_callTy call_int1 (by rfl) T.b_int (by decide +kernel) (pa_cons (pe_cmpR op_gt (pe_op op_sub (pe_mo (pv 0) B.cl M_value (hr.mono (by decide)) (pa_cons (pe_ix ix_tup (pv 1) pe_int (fun _ _ => rfl)) pa_nil)) (pe_mo (pv 0) B.cl M_value (hr.mono (by decide)) (pa_cons (pe_ix ix_tup (pv 1) pe_int (fun _ _ => rfl)) pa_nil))) (pe_ix ix_tup (pv 1) pe_int (fun _ _ => rfl)) (nomark _)) pa_nil))))
      (pss_one
      (ps_if (pt_cmpR op_eq (pe_ix ix_tup (pv 1) pe_int (fun _ _ => rfl)) pe_str (nomark _))
        (pss_one
        (ps_asg (pe_ix ix_list (pe_fld (pv 0) rfl) (pe_ix ix_tup (pv 1) pe_int (fun _ _ => rfl)) (fun _ _ => rfl)) (pg_sub (pe_ix ix_list (pe_fld (pv 0) rfl) (pe_ix ix_tup (pv 1) pe_int (fun _ _ => rfl)) (fun _ _ => rfl)) (pe_op op_add (pe_mo (pv 0) B.cl M_value (hr.mono (by decide)) (pa_cons (pe_ix ix_tup (pv 1) pe_int (fun _ _ => rfl)) pa_nil)) (pe_ix ix_tup (pv 1) pe_int (fun _ _ => rfl))) set_list)))
        (pss_one
        (ps_if (pt_cmpR op_eq (pe_ix ix_tup (pv 1) pe_int (fun _ _ => rfl)) pe_str (nomark _))
          (pss_one
          (ps_expr (pe_bm PySem.F.plainAttrs_list PySem.F.slot_list_append PySem.F.type_list_append mt_append (pe_fld (pv 0) rfl) (pa_cons (pe_ix ix_list (pe_fld (pv 0) rfl) (pe_ix ix_tup (pv 1) pe_int (fun _ _ => rfl)) (fun _ _ => rfl)) pa_nil))))
          (pss_one
          (ps_asg (pe_mo (pv 0) B.cl M_given (hr.mono (by decide)) (pa_cons (pv 1) pa_nil)) (pg_sub (pe_fld (pv 0) rfl) (pe_ix ix_tup (pv 1) pe_int (fun _ _ => rfl)) set_list))))))))
    (pss_one
    (ps_fld (pv 0) (pe_ix ix_tup (pe_fo G_ways (hr.mono (by decide)) rfl (pa_cons (pv 1) pa_nil)) (pv 2) (fun _ _ => rfl)) rfl)))), ?_⟩
    obtain ⟨dx, fs, ev, hp, Fl, _⟩ := W.ins
    have no : fs.lookup ("value" : Str) = none := Fl.no _ (by decide +kernel)
    have okd := W.ok.dl
    have f := W.ok.fld
    -- the lines that give a number to a name
    have give_ : ∀ x t, giver (lnAt lns s.at_) = true → In x n → dl s (lnAt lns s.at_) = { gvS s (lnAt lns s.at_) with nums := s.nums.set x.toNat (give s (lnAt lns s.at_)), at_ := t } → (gvS s (lnAt lns s.at_)).nums = s.nums → tg (lnAt lns s.at_) = [t] →
        (∀ H', LnAt H' a (lnAt lns s.at_) → ∃ ys, H' a = some (.tup ys) ∧ atI ys 1 = some (.int x)) →
        tSeq (tAsg (tMo C "given" (spGiven C th) (tVar 0) (tCons (tVar 1) tNil)) (gSub (tFld K (tVar 0) "numbers") (tOp (rIxT K) (tVar 1) (tC (.int 1))) rSetL)) (sFld K (tVar 0) (tOp (rIxT K) (tFo spWays (tCons (tVar 1) tNil)) (tVar 2)) "at")
          { nx := fun _ H' => Q .non H', rt := Q } [some (.ref A.p), some (.ref a), some (.int 0)] H := fun x t hg hx hd hn ht hy => by
      refine ⟨_, rfl, _, _, _, rfl, hp, Fl.no _ (by decide +kernel), _, rfl, A, n, r, b, lns, out, s, a, _, rfl, W, hl, f, hg, hpl, fun H1 W1 k1 => ?_⟩
      obtain ⟨dx1, fs1, ev1, hp1, Fl1, hF1⟩ := W1.ins
      have hl1 := hl.mono k1.tk
      obtain ⟨ys, y1, y2⟩ := hy H1 hl1
      have hnu := W1.nu
      refine ⟨_, rfl, _, _, _, _, _, rfl, hp1, B.cl, B.numbers, Fl1.numbers, _, rfl, _, _, _, .int x, rfl, rfl, SqT.of y1, y2, _, _, _, _, rfl, rfl, hnu, ixN_in hx.1 (by rw [List.length_map, W1.ok.nums]; exact hx.2), ?_⟩
      rw [map_set_int]
      have W2 := W1.putNu (xs := (gvS s (lnAt lns s.at_)).nums.set x.toNat (give s (lnAt lns s.at_))) ⟨W1.ok.good, W1.ok.at0, W1.ok.at1, by rw [List.length_set]; exact W1.ok.nums, W1.ok.rows⟩
      rw [hd] at okd
      refine do_tail B W2 (hl1.mono (tk_upd hnu)) (Int.le_refl 0) (by rw [ht]; rfl) (t := t) ?_ fun σ H' W3 k3 => ?_
      · rw [hn]; exact okd
      · refine k H' ?_ ((k1.put hnu (.inl (by simp [WA.mut]))).trans k3)
        rw [hd]
        rw [hn] at W3
        exact W3
    generalize hln : lnAt lns s.at_ = ln at *
    obtain ⟨c, hc, _⟩ := id hl
    cases ln with
    | set x y c' t =>
      refine ⟨_, rfl, _, _, _, _, rfl, rfl, SqT.of hc, atI0, rfl, _, rfl, ifN (by decide +kernel) ?_⟩
      refine ⟨_, rfl, _, _, _, _, rfl, rfl, SqT.of hc, atI0, rfl, _, rfl, ifN (by decide +kernel) ?_⟩
      refine ⟨_, rfl, _, _, _, _, rfl, rfl, SqT.of hc, atI0, rfl, _, rfl, ifN (by decide +kernel) ?_⟩
      exact give_ x t rfl f.1 rfl rfl rfl fun H' ⟨c, h, _⟩ => ⟨_, h, rfl⟩
    | sum x z y t =>
      refine ⟨_, rfl, _, _, _, _, rfl, rfl, SqT.of hc, atI0, rfl, _, rfl, ifN (by decide +kernel) ?_⟩
      refine ⟨_, rfl, _, _, _, _, rfl, rfl, SqT.of hc, atI0, rfl, _, rfl, ifN (by decide +kernel) ?_⟩
      refine ⟨_, rfl, _, _, _, _, rfl, rfl, SqT.of hc, atI0, rfl, _, rfl, ifN (by decide +kernel) ?_⟩
      exact give_ x t rfl f.1 rfl rfl rfl fun H' ⟨c, h, _⟩ => ⟨_, h, rfl⟩
    | len x i t =>
      refine ⟨_, rfl, _, _, _, _, rfl, rfl, SqT.of hc, atI0, rfl, _, rfl, ifN (by decide +kernel) ?_⟩
      refine ⟨_, rfl, _, _, _, _, rfl, rfl, SqT.of hc, atI0, rfl, _, rfl, ifN (by decide +kernel) ?_⟩
      refine ⟨_, rfl, _, _, _, _, rfl, rfl, SqT.of hc, atI0, rfl, _, rfl, ifN (by decide +kernel) ?_⟩
      exact give_ x t rfl f.1 rfl rfl rfl fun H' ⟨c, h, _⟩ => ⟨_, h, rfl⟩
    | get x i y c' t =>
      refine ⟨_, rfl, _, _, _, _, rfl, rfl, SqT.of hc, atI0, rfl, _, rfl, ifN (by decide +kernel) ?_⟩
      refine ⟨_, rfl, _, _, _, _, rfl, rfl, SqT.of hc, atI0, rfl, _, rfl, ifN (by decide +kernel) ?_⟩
      refine ⟨_, rfl, _, _, _, _, rfl, rfl, SqT.of hc, atI0, rfl, _, rfl, ifN (by decide +kernel) ?_⟩
      exact give_ x t rfl f.1 rfl rfl rfl fun H' ⟨c, h, _⟩ => ⟨_, h, rfl⟩
    | take x t =>
      refine ⟨_, rfl, _, _, _, _, rfl, rfl, SqT.of hc, atI0, rfl, _, rfl, ifN (by decide +kernel) ?_⟩
      refine ⟨_, rfl, _, _, _, _, rfl, rfl, SqT.of hc, atI0, rfl, _, rfl, ifN (by decide +kernel) ?_⟩
      refine ⟨_, rfl, _, _, _, _, rfl, rfl, SqT.of hc, atI0, rfl, _, rfl, ifN (by decide +kernel) ?_⟩
      exact give_ x t rfl f rfl rfl rfl fun H' ⟨c, h, _⟩ => ⟨_, h, rfl⟩
    | tell x t =>
      refine ⟨_, rfl, _, _, _, _, rfl, rfl, SqT.of hc, atI0, rfl, _, rfl, ifN (by decide +kernel) ?_⟩
      refine ⟨_, rfl, _, _, _, _, rfl, rfl, SqT.of hc, atI0, rfl, _, rfl, ifN (by decide +kernel) ?_⟩
      refine ⟨_, rfl, _, _, _, _, rfl, rfl, SqT.of hc, atI0, rfl, _, rfl, ifY rfl ?_⟩
      have hwo := W.wo
      refine ⟨_, rfl, _, _, _, _, _, rfl, hp, B.cl, B.words, Fl.words, .inl ⟨rfl, _, SqL.of hwo⟩, _, rfl, _, _, _, _, _, rfl, hp, B.cl, B.numbers, Fl.numbers, _, rfl, _, _, _, .int x, rfl, rfl, SqT.of hc, rfl, _, _, _, _, rfl, rfl, SqL.of W.nu, atI_gi f.1 (by rw [W.ok.nums]; exact f.2),
        _, _, _, rfl, rfl, hwo, Nat.lt_of_le_of_lt (by rw [List.length_map]; exact hw) (by decide), ?_⟩
      rw [show s.words.map V.int ++ [V.int (gi s.nums x)] = (s.words ++ [gi s.nums x]).map V.int by rw [List.map_append]; rfl]
      have W2 := W.putWo (xs := s.words ++ [gi s.nums x]) ⟨W.ok.good, W.ok.at0, W.ok.at1, W.ok.nums, W.ok.rows⟩
      exact do_tail B W2 (hl.mono (tk_upd hwo)) (Int.le_refl 0) (t := t) rfl okd fun σ H' W3 k3 => k H' W3 ((Kp.refl.put hwo (.inl (by simp [WA.mut]))).trans k3)
    | put i y c' z t =>
      refine ⟨_, rfl, _, _, _, _, rfl, rfl, SqT.of hc, atI0, rfl, _, rfl, ifN (by decide +kernel) ?_⟩
      refine ⟨_, rfl, _, _, _, _, rfl, rfl, SqT.of hc, atI0, rfl, _, rfl, ifY rfl ?_⟩
      obtain ⟨ra, e1, e3, e2⟩ := W.row f.1
      refine ⟨_, rfl, _, _, _, _, _, rfl, hp, B.cl, B.numbers, Fl.numbers, _, rfl, _, _, _, .int z, rfl, rfl, SqT.of hc, rfl, _, _, _, _, rfl, rfl, SqL.of W.nu, atI_gi f.2.2.1 (by rw [W.ok.nums]; exact f.2.2.2),
        _, rfl, _, _, _, _, _, rfl, hp, B.cl, B.rows, Fl.rows, _, rfl, _, _, _, .int i, rfl, rfl, SqT.of hc, rfl, _, _, _, _, rfl, rfl, SqL.of W.rr, e1, _, rfl, _, _, _, rfl, hp, no, _, rfl, _, _, _, oV y, rfl, rfl, SqT.of hc, rfl, A, n, r, b, lns, out, s, y, rfl, W, f.2.1,
        _, rfl, _, _, _, .int c', rfl, rfl, SqT.of hc, rfl, _, _, rfl, rfl, _, _, _, _, rfl, rfl, e2, ixN_in hpl.1 (by rw [List.length_map]; exact hpl.2), ?_⟩
      rw [map_set_int]
      have W2 := W.putRow (i := i.toNat) e3 (xs := (rowAt s i).set (vl s.nums y + c').toNat (gi s.nums z)) ⟨W.ok.good, W.ok.at0, W.ok.at1, W.ok.nums, by rw [List.length_set]; exact W.ok.rows⟩
      exact do_tail B W2 (hl.mono (tk_upd e2)) (Int.le_refl 0) (t := t) rfl okd fun σ H' W3 k3 => k H' W3 ((Kp.refl.put e2 (.inl (by simp [WA.mut, List.mem_of_getElem? e3]))).trans k3)
    | test y y2 c' t m =>
      refine ⟨_, rfl, _, _, _, _, rfl, rfl, SqT.of hc, atI0, rfl, _, rfl, ifY rfl ?_⟩
      refine ⟨_, rfl, _, _, _, rfl, hp, no, _, rfl, _, _, _, oV y, rfl, rfl, SqT.of hc, rfl, A, n, r, b, lns, out, s, y, rfl, W, f.1, _, rfl, _, _, _, rfl, hp, no, _, rfl, _, _, _, oV y2, rfl, rfl, SqT.of hc, rfl, A, n, r, b, lns, out, s, y2, rfl, W, f.2,
        _, _, rfl, rfl, _, rfl, _, _, _, .int c', rfl, rfl, SqT.of hc, rfl, _, _, rfl, rfl, .inr ⟨_, rfl, ?_⟩⟩
      have okd' : WOk0 n r lns { s with at_ := if c' < vl s.nums y - vl s.nums y2 then m else t } := okd
      have k' : ∀ H', WkAt C th H' A n r b lns out { s with at_ := if c' < vl s.nums y - vl s.nums y2 then m else t } → Kp A.mut H H' → Q .non H' := k
      by_cases h : c' < vl s.nums y - vl s.nums y2
      · rw [decide_eq_true h, if_pos rfl]
        rw [if_pos h] at okd' k'
        exact do_tail B W hl (by decide) (t := m) rfl okd' fun σ H' W3 k3 => k' H' W3 k3
      · rw [decide_eq_false h, if_neg Bool.false_ne_true]
        rw [if_neg h] at okd' k'
        exact do_tail B W hl (Int.le_refl 0) (t := t) rfl okd' fun σ H' W3 k3 => k' H' W3 k3
    | ask bs x y => cases na
    | fin => exact absurd rfl nf
end
end Lk
namespace Lk
open PySem L2
section
variable {P : Program} {w : World} {K : PySem.W.Frag} {mg : Str → Option Value} {base : Heap} {C1 aP : Addr}
/-! ### [list(row) for row in rows] -/
def rCopy (K : PySem.W.Frag) : List V → Hp → VK → Prop := fun xs H Q => ∃ p ys, xs = [.ref p] ∧ (SqL K H p ys ∨ SqT K H p ys) ∧ ∀ l, H l = none → Q (.ref l) (upd H l (.lst ys))
theorem copy_rows {H : Hp} {a : Addr} {ras : List Addr} {rows : List (List Int)} {σ : L2.St} {j : Nat} {Q : Addr → Hp → Prop} (hj : j < σ.length) (ha : H a = some (.lst (ras.map V.ref))) (hr : All2 (IsL H) ras rows) (hn : rows.length ≤ 1000)
    (k : ∀ D ras' H', Kp [] H H' → H' D = some (.lst ((ras' : List Addr).map V.ref)) → All2 (IsL H') ras' rows → (∀ q ∈ D :: ras', H q = none) → (D :: ras').Nodup → Q D H') :
    ∀ D, H D = none → ∃ W : Nat → Nat → Hp → Prop, (∃ m, W 0 m (upd H D (.lst []))) ∧ ∀ i m H', W i m H' →
      ((Itl K a).stop i H' ∧ Q D H') ∨ ((Itl K a).go i H' ∧ ∃ Nx : Hp → Prop, (∀ H'', Nx H'' → ∃ m', m' < m ∧ W (i + 1) m' H'') ∧ ∀ x H'', (Itl K a).yld i H' x H'' → gName j x (wipe σ [j]) H'' fun σ2 H2 => wipe σ2 [j] = wipe σ [j] ∧ tYes σ2 H2 fun b H3 =>
        if b = true then tCB (rCopy K) (tCons (tVar j) tNil) σ2 H3 fun y H4 => ∃ acc, H4 D = some (.lst acc) ∧ acc.length < sizeLine ∧ Nx (upd H4 D (.lst (acc ++ [y]))) else Nx H3) := by
  intro D hD
  refine lc_list (K := K) (a := a) (xs := ras.map V.ref) (fun i H' => ∃ ras' : List Addr, Kp [] H H' ∧ H' D = some (.lst (ras'.map V.ref)) ∧ All2 (IsL H') ras' (rows.take i) ∧ (∀ q ∈ D :: ras', H q = none) ∧ (D :: ras').Nodup)
    ⟨[], Kp.refl.new hD, upd_same, All2.nil, fun q hq => by rw [List.mem_singleton.mp hq]; exact hD, by simp⟩ (fun i H' _ p => by obtain ⟨_, kp, _⟩ := p; exact SqL.of (kp.at0 ha)) ?_ ?_
  · rintro i x H' hi ⟨ras', kp, hd', hr', fr, nd⟩
    rw [List.getElem?_map] at hi
    obtain ⟨q, hq, e⟩ := Option.map_eq_some_iff.mp hi
    subst e
    obtain ⟨row, hrow, hl⟩ := hr.getL hq
    refine ⟨?_, ?_⟩
    · show (((σ.set j none).set j (some (.ref q))).set j none) = σ.set j none
      rw [List.set_set, List.set_set]
    · refine ⟨.ref q, ?_, q, _, rfl, .inl (SqL.of (kp.at0 hl)), fun l nl => ?_⟩
      · show ((σ.set j none).set j (some (.ref q)))[j]? = _
        rw [List.getElem?_set_self (by rw [List.length_set]; exact hj)]
      · have nDl : D ≠ l := ne_of_none hd' nl
        have len : ras'.length = (rows.take i).length := hr'.len
        refine ⟨_, by rw [upd_ne nDl]; exact hd', ?_, ras' ++ [l], ?_, ?_, ?_, ?_, ?_⟩
        · rw [List.length_map, len, List.length_take]
          have : sizeLine = 16777216 := sizeLine_eq
          omega
        · exact (kp.new nl).put (by rw [upd_ne nDl]; exact hd') (.inr hD)
        · rw [List.map_append]; exact upd_same
        · rw [List.take_add_one, hrow]
          refine All2.snoc ⟨hr'.1, fun m c y q1 q2 => ?_⟩ ?_
          · have z := hr'.2 m c y q1 q2
            have nc : c ≠ D := fun e => (List.nodup_cons.mp nd).1 (e ▸ List.mem_of_getElem? q1)
            exact (z.ne (ne_of_none z nl)).ne nc
          · show upd _ D _ l = _
            rw [upd_ne nDl.symm]; exact upd_same
        · intro q' hq'
          rcases List.mem_cons.mp hq' with e | e
          · rw [e]; exact hD
          · rcases List.mem_append.mp e with e | e
            · exact fr q' (List.mem_cons_of_mem _ e)
            · rw [List.mem_singleton.mp e]; exact kp.free0 nl
        · obtain ⟨n1, n2⟩ := List.nodup_cons.mp nd
          refine List.nodup_cons.mpr ⟨fun m => ?_, ?_⟩
          · rcases List.mem_append.mp m with e | e
            · exact n1 e
            · exact nDl (List.mem_singleton.mp e)
          · rw [List.nodup_append]
            refine ⟨n2, by simp, fun c hc d hd e => ?_⟩
            rw [List.mem_singleton] at hd
            subst hd
            obtain ⟨m, hm⟩ := List.getElem?_of_mem hc
            obtain ⟨y, _, z⟩ := hr'.getL hm
            exact ne_of_none z nl e
  · rintro H' ⟨ras', kp, hd', hr', fr, nd⟩
    rw [List.length_map, hr.len, List.take_length] at hr'
    exact k D ras' H' kp hd' hr' fr nd
theorem sc_told : FnScope ["self", "row"] ["self"] (defScope s_told) := ⟨rfl, rfl, rfl, by decide +kernel, rfl, by decide +kernel, by decide +kernel⟩
theorem ok_told {C : Addr} {th : Bool} {f : Addr} {fd : FuncData} (F : Fun K "told" "Walk.told" s_told f fd) (T : Txt K mg C1 aP) (B : CF K C) : FnOk P w K mg base CX0 1 f fd ["self"] (spTold C th) := by
  refine F.ok sc_told (fun vs H Q E h => ?_) (fun cdv Ar outer sh H vs Q E hr h => ?_)
  · obtain ⟨A, n, r, b, lns, out, s, rfl, _⟩ := h
    rfl
  · obtain ⟨A, n, r, b, lns, out, s, rfl, W, rl, k⟩ := h
    refine ⟨_, (pss_one
    (ps_ret (pe_tup (pa_cons (pe_fld (pv 0) rfl) (pa_cons (pe_callTy call_list_of (by rfl) T.b_list (by decide +kernel) (pa_cons (pe_fld (pv 0) rfl) pa_nil)) (pa_cons (pe_fld (pv 0) rfl) (pa_cons (pe_lc (own := [("row", 1)]) rfl sc_told.nd (pi_list (pe_fld (pv 0) rfl)) (blkOk_by (N := ["self", "row"]) (sc := defScope s_told) (by decide +kernel)) (fun _ _ _ _ _ => (pg_name (i := 1) sc_told.nd rfl (Or.inl rfl))) (fun _ _ _ _ _ => pts_nil) (fun _ _ _ _ _ => (pe_callTy (T := "list") (r := rCopy K) call_list_of (by rfl) T.b_list (by decide +kernel) (pa_cons (pv 1) pa_nil)))) pa_nil))))))), ?_⟩
    obtain ⟨dx, fs, ev, hp, Fl, hF⟩ := W.ins
    refine ⟨_, rfl, _, _, _, _, _, rfl, hp, B.cl, B.end_, Fl.end_, _, rfl, _, _, _, _, _, rfl, hp, B.cl, B.words, Fl.words, _, _, rfl, .inl (SqL.of W.wo), fun l nl => ?_⟩
    have k1 := (Kp.refl (F := []) (H := H)).new (o := .lst (s.words.map V.int)) nl
    have hp1 := k1.at0 hp
    have W1 := W.ext k1
    refine ⟨_, rfl, _, _, _, _, _, rfl, hp1, B.cl, B.steps, Fl.steps, _, rfl, _, _, _, _, _, rfl, hp1, B.cl, B.rows, Fl.rows, _, rfl, ⟨_, SqL.of W1.rr⟩, copy_rows (j := 1) (σ := [some (.ref A.p), none]) (Nat.lt_succ_self 1) W1.rr W1.rows rl fun D ras' H2 k2 e2 r2 _ _ => ?_⟩
    refine ⟨by show 4 ≤ sizeLine; decide, fun p np => ?_⟩
    have k3 := (Kp.refl (F := []) (H := H2)).new (o := .tup [ev, .ref l, .int s.steps, .ref D]) np
    refine k p _ ((k1.ext k2).ext k3) ⟨ev, l, D, ras', upd_same, ?_, ?_, k3.at0 e2, r2.mono fun _ _ z => k3.at0 z⟩
    · exact (hF.mono k1.tk).mono (fun q xs e => k3.tup (k2.tup e))
    · exact k3.at0 (k2.at0 upd_same)
theorem sc_frame : FnScope ["self"] ["self"] (defScope s_frame) := ⟨rfl, rfl, rfl, by decide +kernel, rfl, by decide +kernel, by decide +kernel⟩
theorem ok_frame {C : Addr} {th : Bool} {f : Addr} {fd : FuncData} (F : Fun K "frame" "Walk.frame" s_frame f fd) (T : Txt K mg C1 aP) (B : CF K C) : FnOk P w K mg base CX0 1 f fd ["self"] (spFrame C th) := by
  refine F.ok sc_frame (fun vs H Q E h => ?_) (fun cdv Ar outer sh H vs Q E hr h => ?_)
  · obtain ⟨A, n, r, b, lns, out, s, rfl, _⟩ := h
    rfl
  · obtain ⟨A, n, r, b, lns, out, s, rfl, W, k⟩ := h
    refine ⟨_, (pss_one
    (ps_ret (pe_tup (pa_cons (pe_fld (pv 0) rfl) (pa_cons (pe_callTy call_list_of (by rfl) T.b_list (by decide +kernel) (pa_cons (pe_fld (pv 0) rfl) pa_nil)) pa_nil))))), ?_⟩
    obtain ⟨dx, fs, ev, hp, Fl, hF⟩ := W.ins
    refine ⟨_, rfl, _, _, _, _, _, rfl, hp, B.cl, B.at_, Fl.at_, _, rfl, _, _, _, _, _, rfl, hp, B.cl, B.numbers, Fl.numbers, _, _, rfl, .inl (SqL.of W.nu), fun l nl => ?_⟩
    refine ⟨by show 2 ≤ sizeLine; decide, fun p np => ?_⟩
    have k1 := (Kp.refl (F := []) (H := H)).new (o := .lst (s.nums.map V.int)) nl
    refine k p l _ (k1.new np) upd_same ?_
    exact ((Kp.refl (F := [])).new np).at0 upd_same
theorem sc_ended : FnScope ["walk"] ["walk"] (defScope s_ended) := ⟨rfl, rfl, rfl, by decide +kernel, rfl, by decide +kernel, by decide +kernel⟩
theorem ok_ended {C : Addr} {th : Bool} {f : Addr} {fd : FuncData} (F : Fun K "ended" "ended" s_ended f fd) (T : Txt K mg C1 aP) (B : CF K C) (M_told : Mo P w K mg base 1 C "told" ["self"] (spTold C th)) (M_step : Mo P w K mg base 4 C "step" ["self"] (spStep C th)) :
    FnOk P w K mg base CX0 5 f fd ["walk"] (spEnded C th) := by
  refine F.ok sc_ended (fun vs H Q E h => ?_) (fun cdv Ar outer sh H vs Q E hr h => ?_)
  · obtain ⟨A, n, r, b, lns, out, s, rfl, _⟩ := h
    rfl
  · obtain ⟨A, n, r, b, lns, out, s, rfl, W, ok, rl, k⟩ := h
    refine ⟨_, (pss_cons
    (ps_while PassesOwn.never (pt_cmpR op_isN (pe_ix ix_tup (pe_mo0 (pv 0) B.cl M_told (hr.mono (by decide))) pe_int (fun _ _ => rfl)) pe_non (nomark _))
      (pss_one
      (ps_expr (pe_mo0 (pv 0) B.cl M_step (hr.mono (by decide))))))
    (pss_one
    (ps_ret (pe_mo0 (pv 0) B.cl M_told (hr.mono (by decide)))))), ?_⟩
    have stepRows : ∀ s : WSt, (stepF lns out b s).rows.length = s.rows.length := fun s => by
      unfold stepF
      split
      · rfl
      · cases stp out b { s with at_ := pa lns s } (lnAt lns (pa lns s)) with
        | none => exact dl_rows _ _
        | some w => rfl
    refine ⟨fun m σ H' => ∃ s' j, σ = [some (.ref A.p)] ∧ WkAt C th H' A n r b lns out s' ∧ WOk n r b lns s' ∧ Kp A.mut H H' ∧ s'.rows.length ≤ 1000 ∧ runF lns out b 70 s = runF lns out b j s' ∧ (s'.fin = none → (b - s'.steps).toNat + 1 ≤ j) ∧ m = (if s'.fin = none then (b - s'.steps).toNat + 1 else 0),
      ⟨_, s, 70, rfl, W, ok, Kp.refl, rl, rfl, fun _ => by have := ok.st0; have := ok.b60; omega, rfl⟩, ?_⟩
    rintro m σ H' ⟨s', j, rfl, W', ok', kp, rl', er, hj, hm⟩
    obtain ⟨dx, fs, ev, hp, Fl, hF⟩ := W'.ins
    refine ⟨_, rfl, _, _, _, rfl, hp, Fl.no _ (by decide +kernel), A, n, r, b, lns, out, s', rfl, W', rl', fun p H1 k1 t1 => ?_⟩
    obtain ⟨ev1, wo1, rr1, ras1, e1, f1, _⟩ := t1
    have W1 := W'.ext k1
    have kp1 := kp.ext k1
    have hp1 := k1.at0 hp
    refine ⟨_, _, _, _, rfl, rfl, SqT.of e1, atI0, rfl, _, rfl, if2 (fun h => ?_) fun h => ?_⟩
    · have hfin : s'.fin = none := by
        cases e : s'.fin with
        | none => rfl
        | some x =>
          rw [e] at f1
          obtain ⟨q, e2, _⟩ := f1
          rw [e2] at h; cases h
      rw [if_pos hfin] at hm
      have hj := hj hfin
      refine ⟨fun σ' H'' => ∃ s2 j2, σ' = [some (.ref A.p)] ∧ WkAt C th H'' A n r b lns out s2 ∧ WOk n r b lns s2 ∧ Kp A.mut H H'' ∧ s2.rows.length ≤ 1000 ∧ runF lns out b 70 s = runF lns out b j2 s2 ∧ (s2.fin = none → (b - s2.steps).toNat + 1 ≤ j2) ∧ (if s2.fin = none then (b - s2.steps).toNat + 1 else 0) < m,
        fun σ' H'' ⟨s2, j2, z1, z2, z3, z4, z5, z6, z7, z8⟩ => ⟨_, z8, s2, j2, z1, z2, z3, z4, z5, z6, z7, rfl⟩, ?_⟩
      refine ⟨_, rfl, _, _, _, rfl, hp1, Fl.no _ (by decide +kernel), A, n, r, b, lns, out, s', rfl, W1, ok', fun H2 W2 k2 => ?_⟩
      obtain ⟨i, rfl⟩ : ∃ i, j = i + 1 := ⟨j - 1, by omega⟩
      have ok2 := ok'.step out
      refine ⟨_, i, rfl, W2, ok2, kp1.trans k2, by rw [stepRows]; exact rl', er, fun h2 => ?_, ?_⟩
      · rcases step_or (n := n) (r := r) (b := b) (lns := lns) (out := out) hfin with z | ⟨_, z⟩
        · rw [h2] at z; cases z
        · have := ok2.st1
          rw [z] at this ⊢
          omega
      · rcases step_or (n := n) (r := r) (b := b) (lns := lns) (out := out) hfin with z | ⟨z0, z⟩
        · rw [if_neg (fun q => by rw [q] at z; cases z)]
          omega
        · have := ok2.st1
          rw [if_pos z0]
          rw [z] at this ⊢
          omega
    · have hs : s'.fin.isSome = true := by
        cases e : s'.fin with
        | none => rw [e] at f1; exact absurd f1 h
        | some x => rfl
      have er2 : runF lns out b 70 s = s' := by rw [er, run_done j hs]
      rw [er2] at k
      refine ⟨_, rfl, _, _, _, rfl, hp1, Fl.no _ (by decide +kernel), A, n, r, b, lns, out, s', rfl, W1, rl', fun p2 H2 k2 t2 => ?_⟩
      exact k p2 H2 (kp1.ext k2) t2 hs
end
end Lk
namespace Lk
open PySem L2
section
variable {P : Program} {w : World} {K : PySem.W.Frag} {mg : Str → Option Value} {base : Heap} {C1 aP : Addr}
theorem Hand.mono {H H' : Hp} {pr rw tk : Addr} {n r : Int} {lns : List Ln} {rows : List (List Int)} {due : List Int} (h : Hand H pr rw tk n r lns rows due) (k : Kp [] H H') : Hand H' pr rw tk n r lns rows due := by
  obtain ⟨⟨ll, e1, as, e2, e3⟩, ⟨ras, e4, e5⟩, e6, h1, h2, h3, h4⟩ := h
  exact ⟨⟨ll, k.tup e1, as, k.at0 e2, lns_mono k.tk e3⟩, ⟨ras, k.at0 e4, e5.mono fun _ _ z => k.at0 z⟩, k.at0 e6, h1, h2, h3, h4⟩
theorem Kp.x {x : Addr} {G G' : Hp} {C dx : Addr} {fs : List (Str × V)} {o : HO} (k : Kp [x] G G') (hx : G x = some (.ins C dx fs)) : Kp [x] G (upd G' x o) := fun q u e c => by
  have e1 := k q u e c
  by_cases h : q = x
  · subst h
    rw [hx] at e
    cases e
    rcases c with c | ⟨xs, c⟩
    · exact absurd in1 c
    · cases c
  · rw [upd_ne h]; exact e1
theorem init_fs {a1 a2 a3 a6 a7 : Addr} {las ras : List Addr} {x : Addr} {b : Int} :
    Flds (putF "end" .non (putF "steps" (.int 0) (putF "words" (.ref a7) (putF "numbers" (.ref a6) (putF "at" (.int 0) (putF "budget" (.int b) (putF "due" (.ref a3) (putF "rows" (.ref a2) (putF "lines" (.ref a1) [])))))))))
      ⟨x, a1, a2, a3, a6, a7, las, ras, none⟩ b 0 0 .non := by
  constructor
  case no =>
    intro m hm
    rw [lookup_putF, if_neg (ne_names (f := "end") (l := mnames) (by decide +kernel) m hm), lookup_putF, if_neg (ne_names (f := "steps") (l := mnames) (by decide +kernel) m hm), lookup_putF, if_neg (ne_names (f := "words") (l := mnames) (by decide +kernel) m hm),
      lookup_putF, if_neg (ne_names (f := "numbers") (l := mnames) (by decide +kernel) m hm), lookup_putF, if_neg (ne_names (f := "at") (l := mnames) (by decide +kernel) m hm), lookup_putF, if_neg (ne_names (f := "budget") (l := mnames) (by decide +kernel) m hm),
      lookup_putF, if_neg (ne_names (f := "due") (l := mnames) (by decide +kernel) m hm), lookup_putF, if_neg (ne_names (f := "rows") (l := mnames) (by decide +kernel) m hm), lookup_putF, if_neg (ne_names (f := "lines") (l := mnames) (by decide +kernel) m hm)]
    rfl
  case len0 =>
    have q : ∀ f v (fs : List (Str × V)) k, fs.length ≤ k → (putF f v fs).length ≤ k + 1 := fun f v fs k h => Nat.le_trans (length_putF f v fs) (by omega)
    exact q _ _ _ _ (q _ _ _ _ (q _ _ _ _ (q _ _ _ _ (q _ _ _ _ (q _ _ _ _ (q _ _ _ _ (q _ _ _ _ (q _ _ _ 0 (Nat.le_refl 0)))))))))
  case out => (repeat rw [lookup_putF, if_neg (by decide +kernel)]); rfl
  all_goals (repeat rw [lookup_putF, if_neg (by decide +kernel)])
  all_goals (rw [lookup_putF, if_pos rfl])
theorem sc_init : FnScope ["self", "program", "rows", "taken", "budget", "row"] ["self", "program", "rows", "taken", "budget"] (defScope s_init) := ⟨rfl, rfl, rfl, by decide +kernel, rfl, by decide +kernel, by decide +kernel⟩
theorem ok_init {C : Addr} {f : Addr} {fd : FuncData} (F : Fun K "__init__" "Walk.__init__" s_init f fd) (T : Txt K mg C1 aP) (B : CF K C) : FnOk P w K mg base CX0 1 f fd ["self", "program", "rows", "taken", "budget"] (spInit C) := by
  refine F.ok sc_init (fun vs H Q E h => ?_) (fun cdv Ar outer sh H vs Q E hr h => ?_)
  · obtain ⟨x, dx, pr, rw_, tk, n, r, b, lns, rows, due, rfl, _⟩ := h
    rfl
  · obtain ⟨x, dx, pr, rw_, tk, n, r, b, lns, rows, due, rfl, hx, hh, good, k⟩ := h
    obtain ⟨⟨ll, hpr, las, hll, hlns⟩, ⟨ras0, hrw, hrows⟩, htk, rl, rs, n0, n1⟩ := hh
    refine ⟨_, (pss_cons
    (ps_fld (pv 0) (pe_callTy call_list_of (by rfl) T.b_list (by decide +kernel) (pa_cons (pe_ix ix_tup (pv 1) pe_int (fun _ _ => rfl)) pa_nil)) rfl)
    (pss_cons
    (ps_fld (pv 0) (pe_lc (own := [("row", 5)]) rfl sc_init.nd (pi_list (pv 2)) (blkOk_by (N := ["self", "program", "rows", "taken", "budget", "row"]) (sc := defScope s_init) (by decide +kernel)) (fun _ _ _ _ _ => (pg_name (i := 5) sc_init.nd rfl (Or.inl rfl))) (fun _ _ _ _ _ => pts_nil) (fun _ _ _ _ _ => (pe_callTy (T := "list") (r := rCopy K) call_list_of (by rfl) T.b_list (by decide +kernel) (pa_cons (pv 5) pa_nil)))) rfl)
    (pss_cons
    (ps_fld (pv 0) (pe_callTy call_list_of (by rfl) T.b_list (by decide +kernel) (pa_cons (pv 3) pa_nil)) rfl)
    (pss_cons
    (ps_fld (pv 0) (pv 4) rfl)
    (pss_cons
    (ps_fld (pv 0) pe_int rfl)
    (pss_cons
    (ps_fld (pv 0) (pe_op op_rep (pe_lst (pa_cons pe_int pa_nil)) (pe_ix ix_tup (pv 1) pe_int (fun _ _ => rfl))) rfl)
    (pss_cons
    (ps_fld (pv 0) (pe_lst pa_nil) rfl)
    (pss_cons
    (ps_fld (pv 0) pe_int rfl)
    (pss_one
    (ps_fld (pv 0) pe_non rfl)))))))))), ?_⟩
    have nx : ∀ {G : Hp} {fs : List (Str × V)} {q : Addr} {xs : List V}, G x = some (.ins C dx fs) → G q = some (.lst xs) → q ∉ [x] := fun h1 h2 => nin1 (ne_of h2 h1 (by intro z; cases z))
    -- self.lines = list(program[2])
    refine ⟨_, rfl, _, _, _, .ref ll, rfl, rfl, SqT.of hpr, rfl, _, _, rfl, .inl (SqL.of hll), fun a1 m1 => ?_⟩
    have x1 : x ≠ a1 := ne_of_none hx m1
    refine ⟨_, rfl, x, C, dx, [], rfl, (by rw [upd_ne x1]; exact hx), B.cl, B.lines, by decide, ?_⟩
    have k1 : Kp [x] H (upd (upd H a1 (.lst (las.map V.ref))) x (.ins C dx (putF "lines" (.ref a1) []))) := (Kp.refl.new m1).x hx
    have c1 : upd (upd H a1 (.lst (las.map V.ref))) x (.ins C dx (putF "lines" (.ref a1) [])) a1 = some (.lst (las.map V.ref)) := by rw [upd_ne x1.symm]; exact upd_same
    have h1 : upd (upd H a1 (.lst (las.map V.ref))) x (.ins C dx (putF "lines" (.ref a1) [])) x = some (.ins C dx (putF "lines" (.ref a1) [])) := upd_same
    generalize upd (upd H a1 (.lst (las.map V.ref))) x (.ins C dx (putF "lines" (.ref a1) [])) = G1 at k1 c1 h1 ⊢
    -- self.rows = [list(row) for row in rows]
    have rows1 : All2 (IsL G1) ras0 rows := hrows.mono fun q _ z => k1.at z (nx hx z)
    have rw1 := k1.at hrw (nx hx hrw)
    refine ⟨_, rfl, rw_, rfl, ⟨_, SqL.of rw1⟩, copy_rows (j := 5) (σ := [some (.ref x), some (.ref pr), some (.ref rw_), some (.ref tk), some (.int b), none]) (Nat.lt_succ_self 5) rw1 rows1 rs fun a2 ras G2 k2 c2 r2 fr2 nd2 => ?_⟩
    refine ⟨_, rfl, x, C, dx, _, rfl, k2.at0 h1, B.cl, B.rows, Nat.lt_of_le_of_lt (length_putF _ _ _) (by decide), ?_⟩
    have hG2 := k2.at0 h1
    have k3 : Kp [x] G1 (upd G2 x (.ins C dx (putF "rows" (.ref a2) (putF "lines" (.ref a1) [])))) := k2.nil.x h1
    have c2' : upd G2 x (.ins C dx (putF "rows" (.ref a2) (putF "lines" (.ref a1) []))) a2 = some (.lst (ras.map V.ref)) := by rw [upd_ne (ne_of c2 hG2 (by intro z; cases z))]; exact c2
    have r2' : All2 (IsL (upd G2 x (.ins C dx (putF "rows" (.ref a2) (putF "lines" (.ref a1) []))))) ras rows := r2.mono fun q _ z => z.ne (ne_of z hG2 (by intro z; cases z))
    have h3 : upd G2 x (.ins C dx (putF "rows" (.ref a2) (putF "lines" (.ref a1) []))) x = some (.ins C dx (putF "rows" (.ref a2) (putF "lines" (.ref a1) []))) := upd_same
    generalize upd G2 x (.ins C dx (putF "rows" (.ref a2) (putF "lines" (.ref a1) []))) = G3 at k3 c2' r2' h3 ⊢
    have k13 := k1.trans k3
    have c13 := k3.at c1 (nx h1 c1)
    -- self.due = list(taken)
    have tk3 := k13.at htk (nx hx htk)
    refine ⟨_, rfl, _, _, rfl, .inl (SqL.of tk3), fun a3 m3 => ?_⟩
    have x3 : x ≠ a3 := ne_of_none h3 m3
    refine ⟨_, rfl, x, C, dx, _, rfl, (by rw [upd_ne x3]; exact h3), B.cl, B.due, Nat.lt_of_le_of_lt (Nat.le_trans (length_putF _ _ _) (Nat.succ_le_succ (length_putF _ _ _))) (by decide), ?_⟩
    refine ⟨_, rfl, _, rfl, x, C, dx, _, rfl, upd_same, B.cl, B.budget, Nat.lt_of_le_of_lt (Nat.le_trans (length_putF _ _ _) (Nat.succ_le_succ (Nat.le_trans (length_putF _ _ _) (Nat.succ_le_succ (length_putF _ _ _))))) (by decide), ?_⟩
    refine ⟨_, rfl, x, C, dx, _, rfl, upd_same, B.cl, B.at_, Nat.lt_of_le_of_lt (Nat.le_trans (length_putF _ _ _) (Nat.succ_le_succ (Nat.le_trans (length_putF _ _ _) (Nat.succ_le_succ (Nat.le_trans (length_putF _ _ _) (Nat.succ_le_succ (length_putF _ _ _))))))) (by decide), ?_⟩
    rw [upd_upd, upd_upd]
    have k5 : Kp [x] G3 (upd (upd G3 a3 (.lst (due.map V.int))) x (.ins C dx (putF "at" (.int 0) (putF "budget" (.int b) (putF "due" (.ref a3) (putF "rows" (.ref a2) (putF "lines" (.ref a1) []))))))) := (Kp.refl.new m3).x h3
    have c3 : upd (upd G3 a3 (.lst (due.map V.int))) x (.ins C dx (putF "at" (.int 0) (putF "budget" (.int b) (putF "due" (.ref a3) (putF "rows" (.ref a2) (putF "lines" (.ref a1) [])))))) a3 = some (.lst (due.map V.int)) := by rw [upd_ne x3.symm]; exact upd_same
    have h5 : upd (upd G3 a3 (.lst (due.map V.int))) x (.ins C dx (putF "at" (.int 0) (putF "budget" (.int b) (putF "due" (.ref a3) (putF "rows" (.ref a2) (putF "lines" (.ref a1) [])))))) x = some (.ins C dx (putF "at" (.int 0) (putF "budget" (.int b) (putF "due" (.ref a3) (putF "rows" (.ref a2) (putF "lines" (.ref a1) [])))))) := upd_same
    generalize upd (upd G3 a3 (.lst (due.map V.int))) x (.ins C dx (putF "at" (.int 0) (putF "budget" (.int b) (putF "due" (.ref a3) (putF "rows" (.ref a2) (putF "lines" (.ref a1) [])))))) = G5 at k5 c3 h5 ⊢
    have len5 : (putF "at" (.int 0) (putF "budget" (.int b) (putF "due" (.ref a3) (putF "rows" (.ref a2) (putF "lines" (.ref a1) []))))).length ≤ 5 := by
      have q : ∀ f v (fs : List (Str × V)) k, fs.length ≤ k → (putF f v fs).length ≤ k + 1 := fun f v fs k h => Nat.le_trans (length_putF f v fs) (by omega)
      exact q _ _ _ _ (q _ _ _ _ (q _ _ _ _ (q _ _ _ _ (q _ _ _ 0 (Nat.le_refl 0)))))
    -- self.numbers = [0] * program[0]
    have pr5 := (k13.trans k5).tup hpr
    refine ⟨by show 1 ≤ sizeLine; decide, fun q5 mq => ?_⟩
    have xq : x ≠ q5 := ne_of_none h5 mq
    have prq : upd G5 q5 (.lst [.int 0]) pr = _ := ((Kp.refl (F := [])).new mq).tup pr5
    refine ⟨_, rfl, _, _, _, .int n, rfl, rfl, SqT.of prq, rfl, q5, n, _, rfl, rfl, upd_same, by omega, by omega, ?_, fun a6 m6 => ?_⟩
    · have : sizeLine = 16777216 := sizeLine_eq
      show 1 * n.toNat ≤ sizeLine
      omega
    have e6 : (List.replicate n.toNat [V.int 0]).flatten = (List.replicate n.toNat (0 : Int)).map V.int := by
      rw [List.map_replicate, List.flatten_replicate_singleton]
    rw [e6]
    have kq := (Kp.refl (F := [x]) (H := G5)).new (o := .lst [.int 0]) mq
    have x6 : x ≠ a6 := ne_of_none (o := .ins C dx _) (by rw [upd_ne xq]; exact h5) m6
    refine ⟨_, rfl, x, C, dx, _, rfl, (by rw [upd_ne x6, upd_ne xq]; exact h5), B.cl, B.numbers, Nat.lt_of_le_of_lt len5 (by decide), ?_⟩
    have k6 : Kp [x] G5 (upd (upd (upd G5 q5 (.lst [.int 0])) a6 (.lst ((List.replicate n.toNat (0 : Int)).map V.int))) x (.ins C dx (putF "numbers" (.ref a6) (putF "at" (.int 0) (putF "budget" (.int b) (putF "due" (.ref a3) (putF "rows" (.ref a2) (putF "lines" (.ref a1) [])))))))) := (kq.new m6).x h5
    have f6 : G5 a6 = none := kq.free m6 (nin1 x6.symm)
    have c6 : upd (upd (upd G5 q5 (.lst [.int 0])) a6 (.lst ((List.replicate n.toNat (0 : Int)).map V.int))) x (.ins C dx (putF "numbers" (.ref a6) (putF "at" (.int 0) (putF "budget" (.int b) (putF "due" (.ref a3) (putF "rows" (.ref a2) (putF "lines" (.ref a1) []))))))) a6 = some (.lst ((List.replicate n.toNat (0 : Int)).map V.int)) := by rw [upd_ne x6.symm]; exact upd_same
    have h6 : upd (upd (upd G5 q5 (.lst [.int 0])) a6 (.lst ((List.replicate n.toNat (0 : Int)).map V.int))) x (.ins C dx (putF "numbers" (.ref a6) (putF "at" (.int 0) (putF "budget" (.int b) (putF "due" (.ref a3) (putF "rows" (.ref a2) (putF "lines" (.ref a1) []))))))) x = some (.ins C dx (putF "numbers" (.ref a6) (putF "at" (.int 0) (putF "budget" (.int b) (putF "due" (.ref a3) (putF "rows" (.ref a2) (putF "lines" (.ref a1) []))))))) := upd_same
    generalize upd (upd (upd G5 q5 (.lst [.int 0])) a6 (.lst ((List.replicate n.toNat (0 : Int)).map V.int))) x (.ins C dx (putF "numbers" (.ref a6) (putF "at" (.int 0) (putF "budget" (.int b) (putF "due" (.ref a3) (putF "rows" (.ref a2) (putF "lines" (.ref a1) []))))))) = G6 at k6 c6 h6 ⊢
    -- self.words = []; self.steps = 0; self.end = None
    refine ⟨Nat.zero_le _, fun a7 m7 => ?_⟩
    have x7 : x ≠ a7 := ne_of_none h6 m7
    have len6 := Nat.le_trans (length_putF "numbers" (.ref a6) _) (Nat.succ_le_succ len5)
    have len7 := Nat.le_trans (length_putF "words" (.ref a7) _) (Nat.succ_le_succ len6)
    have len8 := Nat.le_trans (length_putF "steps" (.int 0) _) (Nat.succ_le_succ len7)
    refine ⟨_, rfl, x, C, dx, _, rfl, (by rw [upd_ne x7]; exact h6), B.cl, B.words, Nat.lt_of_le_of_lt len6 (by decide), ?_⟩
    refine ⟨_, rfl, x, C, dx, _, rfl, upd_same, B.cl, B.steps, Nat.lt_of_le_of_lt len7 (by decide), ?_⟩
    refine ⟨_, rfl, x, C, dx, _, rfl, upd_same, B.cl, B.end_, Nat.lt_of_le_of_lt len8 (by decide), ?_⟩
    rw [upd_upd, upd_upd]
    have k7 : Kp [x] G6 (upd (upd G6 a7 (.lst [])) x (.ins C dx (putF "end" .non (putF "steps" (.int 0) (putF "words" (.ref a7) (putF "numbers" (.ref a6) (putF "at" (.int 0) (putF "budget" (.int b) (putF "due" (.ref a3) (putF "rows" (.ref a2) (putF "lines" (.ref a1) []))))))))))) := (Kp.refl.new m7).x h6
    have c7 : upd (upd G6 a7 (.lst [])) x (.ins C dx (putF "end" .non (putF "steps" (.int 0) (putF "words" (.ref a7) (putF "numbers" (.ref a6) (putF "at" (.int 0) (putF "budget" (.int b) (putF "due" (.ref a3) (putF "rows" (.ref a2) (putF "lines" (.ref a1) [])))))))))) a7 = some (.lst []) := by rw [upd_ne x7.symm]; exact upd_same
    have h7 : upd (upd G6 a7 (.lst [])) x (.ins C dx (putF "end" .non (putF "steps" (.int 0) (putF "words" (.ref a7) (putF "numbers" (.ref a6) (putF "at" (.int 0) (putF "budget" (.int b) (putF "due" (.ref a3) (putF "rows" (.ref a2) (putF "lines" (.ref a1) [])))))))))) x = some (.ins C dx _) := upd_same
    generalize upd (upd G6 a7 (.lst [])) x (.ins C dx (putF "end" .non (putF "steps" (.int 0) (putF "words" (.ref a7) (putF "numbers" (.ref a6) (putF "at" (.int 0) (putF "budget" (.int b) (putF "due" (.ref a3) (putF "rows" (.ref a2) (putF "lines" (.ref a1) [])))))))))) = G7 at k7 c7 h7 ⊢
    -- what lies where
    have c35 := k5.at c2' (nx h3 c2')
    have r35 : All2 (IsL G5) ras rows := r2'.mono fun q _ z => k5.at z (nx h3 z)
    have c15 := k5.at c13 (nx h3 c13)
    have c36 := k6.at c3 (nx h5 c3)
    have c26 := k6.at c35 (nx h5 c35)
    have r26 : All2 (IsL G6) ras rows := r35.mono fun q _ z => k6.at z (nx h5 z)
    have c16 := k6.at c15 (nx h5 c15)
    have c17 := k7.at c16 (nx h6 c16)
    have c27 := k7.at c26 (nx h6 c26)
    have r27 : All2 (IsL G7) ras rows := r26.mono fun q _ z => k7.at z (nx h6 z)
    have c37 := k7.at c36 (nx h6 c36)
    have c67 := k7.at c6 (nx h6 c6)
    have k15 := k13.trans k5
    have k16 := k15.trans k6
    have k17 := k16.trans k7
    have inras : ∀ {G : Hp} {q : Addr}, All2 (IsL G) ras rows → q ∈ ras → ∃ xs, G q = some (.lst xs) := fun {G q} h hq => by
      obtain ⟨m, hm⟩ := List.getElem?_of_mem hq
      obtain ⟨y, _, z⟩ := h.getL hm
      exact ⟨_, z⟩
    have n1' : a1 ∉ a2 :: ras := fun hq => by have := fr2 a1 hq; rw [c1] at this; cases this
    have n3 : ∀ q ∈ ras, q ≠ a3 := fun q hq => by obtain ⟨xs, z⟩ := inras r2' hq; exact ne_of_none z m3
    have n6 : ∀ q ∈ ras, q ≠ a6 := fun q hq => by obtain ⟨xs, z⟩ := inras r35 hq; exact ne_of_none z f6
    have n7 : ∀ q ∈ ras, q ≠ a7 := fun q hq => by obtain ⟨xs, z⟩ := inras r26 hq; exact ne_of_none z m7
    obtain ⟨nd2a, nd2b⟩ := List.nodup_cons.mp nd2
    refine k ⟨x, a1, a2, a3, a6, a7, las, ras, none⟩ G7 rfl rfl ⟨⟨good, Int.le_refl 0, by have := good.pos; show (0 : Int) < _; omega, ?_, rl⟩, ⟨dx, _, .non, h7, init_fs, rfl⟩, c17, lns_mono k17.tk hlns, c27, r27, c37, c67, c7, rfl, rfl, ?_⟩ k17 ?_
    · show ((List.replicate n.toNat (0 : Int)).length : Int) = n
      rw [List.length_replicate]; omega
    · show (a1 :: a2 :: a3 :: a6 :: a7 :: (ras ++ [])).Nodup
      rw [List.append_nil]
      simp only [List.nodup_cons, List.mem_cons, not_or]
      refine ⟨⟨fun e => n1' (by rw [e]; exact List.mem_cons_self), ne_of_none c13 m3, ne_of_none c15 f6, ne_of_none c16 m7, fun hq => n1' (List.mem_cons_of_mem _ hq)⟩, ⟨ne_of_none c2' m3, ne_of_none c35 f6, ne_of_none c26 m7, nd2a⟩,
        ⟨ne_of_none c3 f6, ne_of_none c36 m7, fun hq => n3 _ hq rfl⟩, ⟨ne_of_none c6 m7, fun hq => n6 _ hq rfl⟩, fun hq => n7 _ hq rfl, nd2b⟩
    · intro q hq
      have hq' : q = a1 ∨ q = a2 ∨ q = a3 ∨ q = a6 ∨ q = a7 ∨ q ∈ ras := by
        have : q ∈ a1 :: a2 :: a3 :: a6 :: a7 :: (ras ++ []) := hq
        rw [List.append_nil] at this
        simpa using this
      rcases hq' with e | e | e | e | e | e
      · rw [e]; exact m1
      · rw [e]; exact k1.free (fr2 a2 List.mem_cons_self) (nx h3 c2')
      · rw [e]; exact k13.free m3 (nin1 x3.symm)
      · rw [e]; exact k15.free f6 (nin1 x6.symm)
      · rw [e]; exact k16.free m7 (nin1 x7.symm)
      · obtain ⟨xs, z⟩ := inras r2' e
        exact k1.free (fr2 q (List.mem_cons_of_mem _ e)) (nx h3 z)
end
end Lk
namespace Lk
open PySem L2
section
variable {P : Program} {w : World} {K : PySem.W.Frag} {mg : Str → Option Value} {base : Heap} {C1 aP : Addr}
theorem sc_init2 : FnScope ["self", "program", "rows", "taken", "budget", "out"] ["self", "program", "rows", "taken", "budget", "out"] (defScope s_init2) := ⟨rfl, rfl, rfl, by decide +kernel, rfl, by decide +kernel, by decide +kernel⟩
theorem ok_init2 {C : Addr} {f : Addr} {fd : FuncData} (F : Fun K "__init__" "ThinWalk.__init__" s_init2 f fd) (T : Txt K mg C1 aP) (B : CF K C) (G_init : Ho P w K mg base 1 "Walk" "__init__" ["self", "program", "rows", "taken", "budget"] (spInit C)) : FnOk P w K mg base CX0 2 f fd ["self", "program", "rows", "taken", "budget", "out"] (spInit2 C) := by
  refine F.ok sc_init2 (fun vs H Q E h => ?_) (fun cdv Ar outer sh H vs Q E hr h => ?_)
  · obtain ⟨x, dx, pr, rw_, tk, ou, n, r, b, lns, rows, due, out, rfl, _⟩ := h
    rfl
  · obtain ⟨x, dx, pr, rw_, tk, ou, n, r, b, lns, rows, due, out, rfl, hx, hh, good, ho, k⟩ := h
    refine ⟨_, (pss_cons
    (ps_expr (pe_ho G_init (hr.mono (by decide)) rfl (pa_cons (pv 0) (pa_cons (pv 1) (pa_cons (pv 2) (pa_cons (pv 3) (pa_cons (pv 4) pa_nil)))))))
    (pss_one
    (ps_fld (pv 0) (pe_callTy call_list_of (by rfl) T.b_list (by decide +kernel) (pa_cons (pv 5) pa_nil)) rfl))), ?_⟩
    refine ⟨_, rfl, _, rfl, _, rfl, _, rfl, _, rfl, x, dx, pr, rw_, tk, n, r, b, lns, rows, due, rfl, hx, hh, good, fun A H1 ex eo W k1 fr => ?_⟩
    obtain ⟨dx1, fs1, ev1, hp1, Fl1, hF1⟩ := W.ins
    have ho1 : OutAt H1 ou out := OutAt.keep k1.tk (fun xs z => k1.at z (nin1 (ne_of z hx (by intro z; cases z)))) ho
    obtain ⟨as, e1, e2, e3⟩ := id ho1
    refine ⟨_, rfl, _, _, rfl, .inl (SqL.of e1), fun a m => ?_⟩
    have k2 := (Kp.refl (F := []) (H := H1)).new (o := .lst (as.map V.ref)) m
    have W2 := W.ext k2
    subst ex
    have hp2 := k2.at0 hp1
    refine ⟨_, rfl, A.p, C, dx1, _, rfl, hp2, B.cl, B.out, Nat.lt_of_le_of_lt Fl1.len (by decide), ?_⟩
    have ap : a ≠ A.p := (ne_of_none hp1 m).symm
    have W3 := W2.putP hp2 W2.ok (Fl1.putAt 0) hF1 rfl rfl rfl rfl
    have nown : ∀ q ∈ A.own, q ≠ a := fun q hq e => by
      subst e
      have inras : ∀ {q : Addr}, q ∈ A.ras → ∃ xs, H1 q = some (.lst xs) := fun {q} hq => by
        obtain ⟨i, hi⟩ := List.getElem?_of_mem hq
        obtain ⟨y, _, z⟩ := W.rows.getL hi
        exact ⟨_, z⟩
      have hq' : q = A.ll ∨ q = A.rr ∨ q = A.du ∨ q = A.nu ∨ q = A.wo ∨ q ∈ A.ras := by
        have : q ∈ A.ll :: A.rr :: A.du :: A.nu :: A.wo :: (A.ras ++ A.oo.toList) := hq
        rw [eo] at this
        simpa using this
      rcases hq' with e | e | e | e | e | e
      · have := W.ll; rw [← e, m] at this; cases this
      · have := W.rr; rw [← e, m] at this; cases this
      · have : H1 A.du = _ := W.du; rw [← e, m] at this; cases this
      · have : H1 A.nu = _ := W.nu; rw [← e, m] at this; cases this
      · have : H1 A.wo = _ := W.wo; rw [← e, m] at this; cases this
      · obtain ⟨xs, z⟩ := inras e
        rw [m] at z; cases z
    have t : TupK H1 (upd (upd H1 a (.lst (as.map V.ref))) A.p (.ins C dx1 (putF "out" (.ref a) fs1))) := fun q xs e => by
      rw [upd_ne (ne_of e hp1 (by intro z; cases z)), upd_ne (ne_of_none e m)]; exact e
    have keep : ∀ {q : Addr} {xs : List V}, H1 q = some (.lst xs) → upd (upd H1 a (.lst (as.map V.ref))) A.p (.ins C dx1 (putF "out" (.ref a) fs1)) q = some (.lst xs) := fun {q xs} e => by
      rw [upd_ne (W.p_ne e), upd_ne (ne_of_none e m)]; exact e
    refine k { A with oo := some a } _ rfl ⟨W.ok, ⟨dx1, _, ev1, upd_same, Fl1.putOut eo a, hF1.mono t⟩, keep W.ll, lns_mono t W.lns, keep W.rr, W.rows.mono fun _ _ z => keep z, keep W.du, keep W.nu, keep W.wo, ?_, rfl, ?_⟩ ((k1.ext k2).x hx) ?_
    · refine ⟨as, by rw [upd_ne ap]; exact upd_same, e2.mono fun _ _ z => t _ _ z, e3⟩
    · have nd := W.nd
      have e4 : A.own = A.ll :: A.rr :: A.du :: A.nu :: A.wo :: A.ras := by unfold WA.own; rw [eo]; simp
      rw [e4] at nd nown
      show ((A.ll :: A.rr :: A.du :: A.nu :: A.wo :: A.ras) ++ [a]).Nodup
      rw [List.nodup_append]
      exact ⟨nd, by simp, fun c hc d hd => by rw [List.mem_singleton.mp hd]; exact nown c hc⟩
    · intro q hq
      have hq' : q ∈ A.own ∨ q = a := by
        have e4 : A.own = A.ll :: A.rr :: A.du :: A.nu :: A.wo :: A.ras := by unfold WA.own; rw [eo]; simp
        rw [e4]
        have : q ∈ (A.ll :: A.rr :: A.du :: A.nu :: A.wo :: A.ras) ++ [a] := hq
        exact mem_snoc this
      rcases hq' with e | e
      · exact fr q e
      · rw [e]; exact k1.free m (nin1 ap)
/-- a walk's new addresses are all forgotten -/
theorem Kp.fresh {F : List Addr} {H H' : Hp} (k : Kp F H H') (h : ∀ q ∈ F, H q = none) : Kp [] H H' := k.drop fun q hq => .inr (h q hq)
theorem w0_ok {n r b : Int} {lns : List Ln} {rows : List (List Int)} {due : List Int} (g : Good n r lns) (h1 : 0 ≤ n) (h2 : (rows.length : Int) = r) (b0 : 0 ≤ b) (b1 : b ≤ 60) : WOk n r b lns (w0 n rows due) :=
  ⟨⟨g, Int.le_refl 0, by have := g.pos; show (0 : Int) < _; omega, by show ((List.replicate n.toNat (0 : Int)).length : Int) = n; rw [List.length_replicate]; omega, h2⟩, Int.le_refl 0, Int.le_refl 0, b0, b1⟩
theorem mut_all {A : WA} {q : Addr} (h : q ∈ A.mut) : q ∈ A.all := by
  unfold WA.mut at h
  unfold WA.all WA.own
  simp only [List.mem_cons, List.mem_append] at h ⊢
  rcases h with h | h | h | h | h
  · exact .inl h
  · exact .inr (.inr (.inr (.inl h)))
  · exact .inr (.inr (.inr (.inr (.inl h))))
  · exact .inr (.inr (.inr (.inr (.inr (.inl h)))))
  · exact .inr (.inr (.inr (.inr (.inr (.inr (.inl h))))))
theorem sc_run : FnScope ["program", "rows", "taken", "budget"] ["program", "rows", "taken", "budget"] (defScope s_run) := ⟨rfl, rfl, rfl, by decide +kernel, rfl, by decide +kernel, by decide +kernel⟩
theorem ok_run {f : Addr} {fd : FuncData} (F : Fun K "run" "run" s_run f fd) (G_ended : Fo P w K mg base 5 "ended" ["walk"] (spEnded C1 false)) (G_Walk : Co P w K mg base 1 C1 "Walk" ["self", "program", "rows", "taken", "budget"] (spInit C1)) : FnOk P w K mg base CX0 6 f fd ["program", "rows", "taken", "budget"] spRun := by
  refine F.ok sc_run (fun vs H Q E h => ?_) (fun cdv Ar outer sh H vs Q E hr h => ?_)
  · obtain ⟨pr, rw_, tk, n, r, b, lns, rows, due, rfl, _⟩ := h
    rfl
  · obtain ⟨pr, rw_, tk, n, r, b, lns, rows, due, rfl, hh, good, b0, b1, k⟩ := h
    refine ⟨_, (pss_one
    (ps_ret (pe_fo G_ended (hr.mono (by decide)) rfl (pa_cons (pe_co G_Walk (hr.mono (by decide)) rfl (pa_cons (pv 0) (pa_cons (pv 1) (pa_cons (pv 2) (pa_cons (pv 3) pa_nil))))) pa_nil)))), ?_⟩
    refine ⟨_, rfl, _, rfl, _, rfl, _, rfl, fun x dx nx ndx nex => ?_⟩
    have k0 : Kp [] H (upd (upd H dx (.own x)) x (.ins C1 dx [])) := (Kp.refl.new ndx).new (by rw [upd_ne (Ne.symm nex)]; exact nx)
    refine ⟨x, dx, pr, rw_, tk, n, r, b, lns, rows, due, rfl, upd_same, hh.mono k0, good, fun A H1 ex eo W k1 fr => ⟨rfl, ?_⟩⟩
    have kA : Kp [] H H1 := k0.step k1 fun q hq => .inr (by rw [List.mem_singleton.mp hq]; exact nx)
    have frA : ∀ q ∈ A.all, H q = none := fun q hq => by
      rcases List.mem_cons.mp hq with e | e
      · rw [e, ex]; exact nx
      · exact k0.free0 (fr q e)
    subst ex
    refine ⟨A, n, r, b, lns, [], w0 n rows due, rfl, W, w0_ok good hh.n0 hh.rl b0 b1, hh.rs, fun p H2 k2 t2 h2 => ?_⟩
    exact k p H2 (kA.step k2 fun q hq => .inr (frA q (mut_all hq))) t2 h2
theorem sc_run_thin : FnScope ["program", "rows", "taken", "budget", "out"] ["program", "rows", "taken", "budget", "out"] (defScope s_run_thin) := ⟨rfl, rfl, rfl, by decide +kernel, rfl, by decide +kernel, by decide +kernel⟩
theorem ok_run_thin {C2 : Addr} {f : Addr} {fd : FuncData} (F : Fun K "run_thin" "run_thin" s_run_thin f fd) (G_ended : Fo P w K mg base 5 "ended" ["walk"] (spEnded C2 true)) (G_ThinWalk : Co P w K mg base 2 C2 "ThinWalk" ["self", "program", "rows", "taken", "budget", "out"] (spInit2 C2)) : FnOk P w K mg base CX0 6 f fd ["program", "rows", "taken", "budget", "out"] spRunThin := by
  refine F.ok sc_run_thin (fun vs H Q E h => ?_) (fun cdv Ar outer sh H vs Q E hr h => ?_)
  · obtain ⟨pr, rw_, tk, ou, n, r, b, lns, rows, due, out, rfl, _⟩ := h
    rfl
  · obtain ⟨pr, rw_, tk, ou, n, r, b, lns, rows, due, out, rfl, hh, good, ho, b0, b1, k⟩ := h
    refine ⟨_, (pss_one
    (ps_ret (pe_fo G_ended (hr.mono (by decide)) rfl (pa_cons (pe_co G_ThinWalk (hr.mono (by decide)) rfl (pa_cons (pv 0) (pa_cons (pv 1) (pa_cons (pv 2) (pa_cons (pv 3) (pa_cons (pv 4) pa_nil)))))) pa_nil)))), ?_⟩
    refine ⟨_, rfl, _, rfl, _, rfl, _, rfl, _, rfl, fun x dx nx ndx nex => ?_⟩
    have k0 : Kp [] H (upd (upd H dx (.own x)) x (.ins C2 dx [])) := (Kp.refl.new ndx).new (by rw [upd_ne (Ne.symm nex)]; exact nx)
    refine ⟨x, dx, pr, rw_, tk, ou, n, r, b, lns, rows, due, out, rfl, upd_same, hh.mono k0, good, OutAt.keep k0.tk (fun xs z => k0.at0 z) ho, fun A H1 ex W k1 fr => ⟨rfl, ?_⟩⟩
    have kA : Kp [] H H1 := k0.step k1 fun q hq => .inr (by rw [List.mem_singleton.mp hq]; exact nx)
    have frA : ∀ q ∈ A.all, H q = none := fun q hq => by
      rcases List.mem_cons.mp hq with e | e
      · rw [e, ex]; exact nx
      · exact k0.free0 (fr q e)
    subst ex
    refine ⟨A, n, r, b, lns, out, w0 n rows due, rfl, W, w0_ok good hh.n0 hh.rl b0 b1, hh.rs, fun p H2 k2 t2 h2 => ?_⟩
    exact k p H2 (kA.step k2 fun q hq => .inr (frA q (mut_all hq))) t2
end
end Lk
namespace Lk
open PySem L2
/-! ### promises: the law's own defs -/
def SrcAt (H : Hp) (l : Addr) : Prop := ∃ s rest, IsL H l (s :: rest) ∧ 0 ≤ s ∧ s < 2147483647
def RolesAt (H : Hp) (ro : Addr) (n : Int) : Prop := ∃ xs, IsL H ro xs ∧ (xs.length : Int) = n ∧ ∀ x ∈ xs, In x n
def LoopsAt (H : Hp) (lo : Addr) (L : Int) : Prop := ∃ ps : List Addr, H lo = some (.lst (ps.map V.ref)) ∧ ps.length ≤ 1000 ∧ ∀ p ∈ ps, ∃ (head : Int) (lp : Addr) (xs : List Int), H p = some (.tup [.int head, .ref lp]) ∧ IsL H lp xs ∧ xs.length ≤ 1000 ∧ In head L ∧ ∀ x ∈ xs, In x L
def spNext : Sp := fun vs H Q _ => ∃ l m, vs = [.ref l, .int m] ∧ SrcAt H l ∧ 0 < m ∧ ∀ v H', 0 ≤ v → v < m → Kp [l] H H' → SrcAt H' l → Q (.int v) H'
def spSource (K : PySem.W.Frag) : Sp := fun vs H Q _ => ∃ (a : Addr) (ns : List Int), vs = [.ref a] ∧ SqL K H a (ns.map V.int) ∧ ns.length ≤ 63 ∧ ∀ l H', Kp [] H H' → SrcAt H' l → Q (.ref l) H'
def spNumber : Sp := fun vs H Q _ => ∃ c : Int, vs = [.int c] ∧ ∀ v H', Kp [] H H' → Q (.int v) H'
def spStraight : Sp := fun vs H Q _ => ∃ l at_ n r ro, vs = [.ref l, .int at_, .int n, .int r, .ref ro] ∧ SrcAt H l ∧ RolesAt H ro n ∧ l ≠ ro ∧ 3 ≤ n ∧ 1 ≤ r ∧ ∀ p ln H', Kp [l] H H' → SrcAt H' l → LnAt H' p ln → Fld n r ln → isAsk ln = false → tg ln = [at_ + 1] → Q (.ref p) H'
def spLimit : Sp := fun vs H Q _ => ∃ c at_ n r ro, vs = [.int c, .int at_, .int r, .ref ro] ∧ RolesAt H ro n ∧ 3 ≤ n ∧ 1 ≤ r ∧ 0 ≤ at_ ∧
  ∀ p as lns H', Kp [] H H' → H p = none → H' p = some (.lst ((as : List Addr).map V.ref)) → All2 (LnAt H') as lns → 1 ≤ lns.length → lns.length ≤ 2 → (∀ ln ∈ lns, Fld n r ln ∧ isAsk ln = false ∧ ∀ t ∈ tg ln, 0 ≤ t ∧ t ≤ at_ + lns.length) → Q (.ref p) H'
def spAhead : Sp := fun vs H Q _ => ∃ c at_ n r ro, vs = [.int c, .int at_, .ref ro] ∧ RolesAt H ro n ∧ 3 ≤ n ∧ 1 ≤ r ∧ 0 ≤ at_ ∧ ∀ p ln H', Kp [] H H' → LnAt H' p ln → Fld n r ln → (∀ t ∈ tg ln, t = at_ + 1 ∨ t = at_ + 2) → Q (.ref p) H'
def OutsOk (lns : List Ln) (outs : List Int) : Prop := ∀ o ∈ outs, 0 ≤ o ∧ ∃ y w c k m, lns[o.toNat]? = some (.test y w c k m)
/-- what stands while a program is made: the heap -/
structure Mk1 (H : Hp) (l ll ro oo : Addr) (n : Int) (lns : List Ln) (outs : List Int) : Prop where
  src : SrcAt H l
  lin : LinesAt H ll lns
  rol : RolesAt H ro n
  out : IsL H oo outs
  nd : [l, ll, ro, oo].Nodup
/-- .. and the numbers -/
structure Mk0 (H : Hp) (l ll ro oo : Addr) (n r : Int) (lns : List Ln) (outs : List Int) : Prop where
  m : Mk1 H l ll ro oo n lns outs
  n3 : 3 ≤ n
  r1 : 1 ≤ r
  gen : Gen n r (lns.length : Int) (lns.length : Int) lns
  outs : OutsOk lns outs
def spPiece : Sp := fun vs H Q _ => ∃ l ll ro oo n r head lns outs, vs = [.ref l, .ref ll, .int n, .int r, .ref ro, .ref oo, .int head] ∧ Mk0 H l ll ro oo n r lns outs ∧ In head (lns.length : Int) ∧ lns.length ≤ 500 ∧ outs.length ≤ 500 ∧
  ∀ lns' outs' H', Kp [l, ll, oo] H H' → Mk0 H' l ll ro oo n r lns' outs' → lns.length < lns'.length → lns'.length ≤ lns.length + 5 → outs'.length ≤ outs.length + 1 → Q .non H'
def spLoop : Sp := fun vs H Q _ => ∃ l ll ro oo n r lns outs, vs = [.ref l, .ref ll, .int n, .int r, .ref ro, .ref oo] ∧ Mk0 H l ll ro oo n r lns outs ∧ lns.length ≤ 100 ∧ outs.length ≤ 100 ∧
  ∀ p head lp xs lns' outs' H', Kp [l, ll, oo] H H' → Mk0 H' l ll ro oo n r lns' outs' → lns'.length ≤ lns.length + 20 → outs'.length ≤ outs.length + 2 → lns.length < lns'.length → H' p = some (.tup [.int head, .ref lp]) → IsL H' lp xs → xs.length ≤ 1000 → H lp = none → In head (lns'.length : Int) → (∀ x ∈ xs, In x (lns'.length : Int)) → Q (.ref p) H'
def GoalsAt (H : Hp) (d : Addr) (g : Int → Int) (many : Int) : Prop := ∃ kvs : List (Key × V), H d = some (.dK kvs) ∧ ∀ k, 0 ≤ k → k ≤ many → valV kvs (Sum.inl k) = some (.int (g k))
def ledL (g : Int → Int) : Ln → Ln
  | .set x y c k => .set x y c (g k)
  | .sum x z w k => .sum x z w (g k)
  | .len x r k => .len x r (g k)
  | .take x k => .take x (g k)
  | .get x r y c k => .get x r y c (g k)
  | .put r y c z k => .put r y c z (g k)
  | .tell x k => .tell x (g k)
  | .test y w c k m => .test y w c (g k) (g m)
  | .ask bs k m => .ask bs (g k) (g m)
  | .fin => .fin
def spLed : Sp := fun vs H Q _ => ∃ a ln d g many, vs = [.ref a, .ref d] ∧ LnAt H a ln ∧ GoalsAt H d g many ∧ (∀ t ∈ tg ln, 0 ≤ t ∧ t ≤ many) ∧ ∀ p H', Kp [] H H' → LnAt H' p (ledL g ln) → Q (.ref p) H'
def spTurned : Sp := fun vs H Q _ => ∃ ll lo c lns n r, vs = [.ref ll, .ref lo, .int c] ∧ LinesAt H ll lns ∧ Good n r lns ∧ 2 ≤ lns.length ∧ lns.length ≤ 1000 ∧ LoopsAt H lo (lns.length : Int) ∧
  ∀ p ll' lo' lns' H', Kp [] H H' → H ll' = none → H' p = some (.tup [.ref ll', .ref lo']) → LinesAt H' ll' lns' → Good n r lns' → lns'.length = lns.length → Q (.ref p) H'
def spProgram : Sp := fun vs H Q _ => ∃ l, vs = [.ref l] ∧ SrcAt H l ∧
  ∀ p pr lo ro n r ll lns H', Kp [l] H H' → SrcAt H' l → H' p = some (.tup [.ref pr, .ref lo, .ref ro]) → H' pr = some (.tup [.int n, .int r, .ref ll]) → LinesAt H' ll lns → Good n r lns → 3 ≤ n → n ≤ 4 → 1 ≤ r → r ≤ 2 → lns.length ≤ 1000 → H ll = none → Q (.ref p) H'
def spLValue : Sp := fun vs H Q _ => ∃ c : Int, vs = [.int c] ∧ ∀ v H', Kp [] H H' → Q (.int v) H'
def spInput : Sp := fun vs H Q _ => ∃ l r, vs = [.ref l, .int r] ∧ SrcAt H l ∧ 0 ≤ r ∧ r ≤ 2 ∧
  ∀ p fo tk ras rows due H', Kp [l] H H' → SrcAt H' l → H' p = some (.tup [.ref fo, .ref tk]) → H' fo = some (.lst ((ras : List Addr).map V.ref)) → All2 (IsL H') ras rows → (rows.length : Int) = r → IsL H' tk due → (∀ q ∈ fo :: tk :: ras, H q = none) → Q (.ref p) H'
def spOut : Sp := fun vs H Q _ => ∃ pr c n r ll lns, vs = [.ref pr, .int c] ∧ H pr = some (.tup [.int n, .int r, .ref ll]) ∧ LinesAt H ll lns ∧ lns.length ≤ 1000 ∧ 0 ≤ c ∧ c < 10 ^ 30 ∧ ∀ o out H', Kp [] H H' → OutAt H' o out → Q (.ref o) H'
def spDue : Sp := fun vs H Q _ => ∃ p o s out, vs = [.ref p, .ref o] ∧ ToldAt H p s ∧ s.fin.isSome = true ∧ OutAt H o out ∧ ∀ p' H', Kp [] H H' → ToldAt H' p' (thin out s) → Q (.ref p') H'
def spLTold (C : Addr) : Sp := fun vs H Q _ => ∃ A n r b lns ou s o out, vs = [.ref (WA.p A), .ref o] ∧ WkAt C false H A n r b lns ou s ∧ s.rows.length ≤ 1000 ∧ OutAt H o out ∧ ∀ p H', Kp [] H H' → ToldAt H' p (thin out s) → Q (.ref p) H'
def spSteps : Sp := fun vs H Q _ => ∃ pr rw tk ou n r b lns rows due out, vs = [.ref pr, .ref rw, .ref tk, .int b, .ref ou] ∧ Hand H pr rw tk n r lns rows due ∧ Good n r lns ∧ OutAt H ou out ∧ 0 ≤ b ∧ b ≤ 60 ∧ ∀ H', Kp [] H H' → Q (.bl true) H'
def spLaw (K : PySem.W.Frag) : Sp := fun vs H Q _ => ∃ (a : Addr) (ns : List Int), vs = [.ref a] ∧ SqL K H a (ns.map V.int) ∧ ns.length ≤ 63 ∧ ∀ H', Q (.bl true) H'
end Lk
namespace Lk
open PySem L2
section
variable {P : Program} {w : World} {K : PySem.W.Frag} {mg : Str → Option Value} {base : Heap} {C1 aP : Addr}
theorem SrcAt.keep {F : List Addr} {H H' : Hp} {l : Addr} (k : Kp F H H') (n : l ∉ F) (h : SrcAt H l) : SrcAt H' l := let ⟨s, rest, e, q⟩ := h; ⟨s, rest, k.at e n, q⟩
theorem RolesAt.keep {F : List Addr} {H H' : Hp} {ro : Addr} {n : Int} (k : Kp F H H') (m : ro ∉ F) (h : RolesAt H ro n) : RolesAt H' ro n := let ⟨xs, e, q⟩ := h; ⟨xs, k.at e m, q⟩
theorem nn {p : Addr} : p ∉ ([] : List Addr) := List.not_mem_nil
theorem sc_law_next : FnScope ["_law_source_here", "_law_many", "_law_cell"] ["_law_source_here", "_law_many"] (defScope s_law_next) := ⟨rfl, rfl, rfl, by decide +kernel, rfl, by decide +kernel, by decide +kernel⟩
theorem ok_law_next {f : Addr} {fd : FuncData} (F : Fun K "_law_next" "_law_next" s_law_next f fd) (T : Txt K mg C1 aP) : FnOk P w K mg base CX0 1 f fd ["_law_source_here", "_law_many"] spNext := by
  refine F.ok sc_law_next (fun vs H Q E h => ?_) (fun cdv Ar outer sh H vs Q E hr h => ?_)
  · obtain ⟨l, m, rfl, _⟩ := h
    rfl
  · obtain ⟨l, m, rfl, ⟨s, rest, hl, s0, s1⟩, hm, k⟩ := h
    refine ⟨_, (pss_cons
    (ps_set (i := 2) sc_law_next.nd rfl (Or.inl rfl) (pe_op op_fdiv (pe_op op_mod (pe_op op_mul (pe_ix ix_list (pv 0) pe_int (fun _ _ => rfl)) pe_int) pe_int) pe_int))
    (pss_cons
    (ps_if (pt_cmpR op_gt (pe_callB call_len_seq (by rfl) T.b_len (by decide +kernel) (pa_cons (pv 0) pa_nil)) pe_int (nomark _))
      (pss_one
      (ps_set (i := 2) sc_law_next.nd rfl (Or.inl rfl) (pe_bm PySem.F.plainAttrs_list PySem.F.slot_list_pop PySem.F.type_list_pop mt_popAt (pv 0) (pa_cons pe_int pa_nil))))
      pss_nil)
    (pss_cons
    (ps_asg (pe_op op_mod (pe_op op_add (pe_op op_add (pe_op op_mul (pe_ix ix_list (pv 0) pe_int (fun _ _ => rfl)) pe_int) (pe_op op_mod (pv 2) pe_int)) pe_int) pe_int) (pg_sub (pv 0) pe_int set_list))
    (pss_one
    (ps_ret (pe_op op_mod (pv 2) (pv 1))))))), ?_⟩
    have hl' : H l = some (.lst ((s :: rest).map V.int)) := hl
    -- the last two statements, whatever the cell
    have last : ∀ (G : Hp) (c : Int) (s' : Int) (rest' : List Int), 0 ≤ s' → s' < 2147483647 → IsL G l (s' :: rest') → Kp [l] H G →
        tSeq (tAsg (tOp (rI (fun _ j => 0 < j) fun i j => .int (i % j)) (tOp (rI0 fun i j => .int (i + j)) (tOp (rI0 fun i j => .int (i + j)) (tOp (rI CMul fun i j => .int (i * j)) (tOp (rIxL K) (tVar 0) (tC (.int 0))) (tC (.int 16807))) (tOp (rI (fun _ j => 0 < j) fun i j => .int (i % j)) (tVar 2) (tC (.int 2147483647)))) (tC (.int 1))) (tC (.int 2147483647)))
            (gSub (tVar 0) (tC (.int 0)) rSetL)) (tRet (tOp (rI (fun _ j => 0 < j) fun i j => .int (i % j)) (tVar 2) (tVar 1)))
          { nx := fun _ H' => Q .non H', rt := Q } [some (.ref l), some (.int m), some (.int c)] G := fun G c s' rest' z0 z1 hG kG => by
      refine ⟨_, rfl, _, _, _, .int s', rfl, rfl, SqL.of hG, atI0, _, _, rfl, rfl, .inr ⟨by decide, by decide⟩, _, rfl, _, _, rfl, rfl, (by show (0 : Int) < _; decide), _, _, rfl, rfl, _, _, rfl, rfl, _, _, rfl, rfl, (by show (0 : Int) < _; decide), ?_⟩
      refine ⟨_, rfl, _, _, _, 0, rfl, rfl, hG, ixN_in (Int.le_refl 0) (by rw [List.length_map, List.length_cons]; omega), ?_⟩
      refine ⟨_, rfl, _, rfl, _, _, rfl, rfl, hm, ?_⟩
      refine k _ _ (Int.emod_nonneg _ (by omega)) (Int.emod_lt_of_pos _ hm) (kG.put hG (.inl in1)) ⟨_, rest', upd_same, Int.emod_nonneg _ (by decide), Int.emod_lt_of_pos _ (by decide)⟩
    refine ⟨_, rfl, _, _, _, .int s, rfl, rfl, SqL.of hl', atI0, _, _, rfl, rfl, .inr ⟨by decide, by decide⟩, _, _, rfl, rfl, (by show (0 : Int) < _; decide), _, _, rfl, rfl, ⟨by decide, by decide⟩, ?_⟩
    refine ⟨_, rfl, _, _, rfl, .inl (SqL.of hl'), _, _, rfl, rfl, _, rfl, if2 (fun h => ?_) fun h => ?_⟩
    · obtain ⟨y, rest', rfl⟩ : ∃ y rest', rest = y :: rest' := by
        cases rest with
        | nil => exact absurd (show (1 : Int) < 1 from h) (by decide)
        | cons y r => exact ⟨y, r, rfl⟩
      refine ⟨_, rfl, .inl ⟨rfl, _, SqL.of hl'⟩, _, _, _, 1, .int y, rfl, rfl, hl', by decide, by decide, (seqIndex_in (by decide) (by rw [List.length_map]; show (1 : Int) < ((s :: y :: rest').length : Int); rw [List.length_cons, List.length_cons]; omega)), rfl, ?_⟩
      exact last _ _ s rest' s0 s1 upd_same (Kp.refl.put hl' (.inl in1))
    · exact last _ _ s rest s0 s1 hl Kp.refl
theorem sc_law_source : FnScope ["_law_script", "_law_start", "_law_cell"] ["_law_script"] (defScope s_law_source) := ⟨rfl, rfl, rfl, by decide +kernel, rfl, by decide +kernel, by decide +kernel⟩
theorem ok_law_source {f : Addr} {fd : FuncData} (F : Fun K "_law_source" "_law_source" s_law_source f fd) (T : Txt K mg C1 aP) : FnOk P w K mg base CX0 1 f fd ["_law_script"] (spSource K) := by
  refine F.ok sc_law_source (fun vs H Q E h => ?_) (fun cdv Ar outer sh H vs Q E hr h => ?_)
  · obtain ⟨a, ns, rfl, _⟩ := h
    rfl
  · obtain ⟨a, ns, rfl, hs, hn, k⟩ := h
    refine ⟨_, (pss_cons
    (ps_set (i := 1) sc_law_source.nd rfl (Or.inl rfl) pe_int)
    (pss_cons
    (ps_for PassesOwn.never rfl (pi_list (pv 0)) (pg_name (i := 2) sc_law_source.nd rfl (Or.inl rfl))
      (pss_one
      (ps_set (i := 1) sc_law_source.nd rfl (Or.inl rfl) (pe_op op_mod (pe_op op_add (pe_op op_mul (pv 1) pe_int) (pv 2)) pe_int))))
    (pss_one
    (ps_ret (pe_op op_cat (pe_lst (pa_cons (pv 1) pa_nil)) (pe_callTy call_list_of (by rfl) T.b_list (by decide +kernel) (pa_cons (pv 0) pa_nil))))))), ?_⟩
    refine ⟨_, rfl, a, rfl, ⟨_, hs⟩, for_list (K := K) (a := a) (xs := ns.map V.int) (fun i σ H' => H' = H ∧ ∃ (s : Int) (v : Option V), σ = [some (.ref a), some (.int s), v] ∧ 0 ≤ s ∧ s < 2147483647)
      ⟨rfl, 40503, none, rfl, by decide, by decide⟩ (fun i σ H' _ p => by rw [p.1]; exact hs) ?_ ?_⟩
    · rintro i y σ H' hi ⟨rfl, s, v, rfl, s0, s1⟩
      rw [List.getElem?_map] at hi
      obtain ⟨u, hu, e⟩ := Option.map_eq_some_iff.mp hi
      subst e
      refine ⟨_, rfl, _, _, rfl, rfl, .inr ⟨by decide, by decide⟩, _, rfl, _, _, rfl, rfl, _, _, rfl, rfl, (by show (0 : Int) < _; decide), ?_⟩
      exact ⟨rfl, _, _, rfl, Int.emod_nonneg _ (by decide), Int.emod_lt_of_pos _ (by decide)⟩
    · rintro σ H' ⟨rfl, s, v, rfl, s0, s1⟩
      refine ⟨_, rfl, (by show 1 ≤ sizeLine; decide), fun p np => ?_⟩
      have k1 := (Kp.refl (F := []) (H := H')).new (o := .lst [.int s]) np
      refine ⟨_, rfl, _, _, rfl, .inl (k1.seq hs nn), fun q nq => ?_⟩
      have npq := ne_of_none (o := .lst [.int s]) upd_same nq
      refine ⟨p, q, _, _, rfl, rfl, (by rw [upd_ne npq]; exact upd_same), upd_same, ?_, fun l nl => ?_⟩
      · have : sizeLine = 16777216 := sizeLine_eq
        rw [List.length_map]
        show 1 + ns.length ≤ sizeLine
        omega
      · exact k l _ ((k1.new nq).new nl) ⟨s, ns, upd_same, s0, s1⟩
theorem sc_law_number : FnScope ["_law_cell"] ["_law_cell"] (defScope s_law_number) := ⟨rfl, rfl, rfl, by decide +kernel, rfl, by decide +kernel, by decide +kernel⟩
theorem ok_law_number {f : Addr} {fd : FuncData} (F : Fun K "_law_number" "_law_number" s_law_number f fd) : FnOk P w K mg base CX0 1 f fd ["_law_cell"] spNumber := by
  refine F.ok sc_law_number (fun vs H Q E h => ?_) (fun cdv Ar outer sh H vs Q E hr h => ?_)
  · obtain ⟨c, rfl, _⟩ := h
    rfl
  · obtain ⟨c, rfl, k⟩ := h
    refine ⟨_, (pss_one
    (ps_ret (pe_ix ix_list (pe_lst (pa_cons pe_int (pa_cons pe_int (pa_cons pe_int (pa_cons (pe_un un_neg pe_int) (pa_cons pe_int (pa_cons (pe_op op_sub (pe_op op_mod (pe_op op_fdiv (pv 0) pe_int) pe_int) pe_int) pa_nil))))))) (pe_op op_mod (pv 0) pe_int) (fun _ _ => rfl)))), ?_⟩
    refine ⟨1, rfl, _, rfl, _, _, rfl, rfl, ⟨by decide, by decide⟩, _, _, rfl, rfl, (by show (0 : Int) < _; decide), _, _, rfl, rfl, (by show 6 ≤ sizeLine; decide), fun p np => ?_⟩
    refine ⟨_, rfl, _, _, rfl, rfl, (by show (0 : Int) < _; decide), ?_⟩
    have h0 : (0 : Int) ≤ c % 6 := Int.emod_nonneg _ (by decide)
    have h1 : c % 6 < 6 := Int.emod_lt_of_pos _ (by decide)
    refine ⟨_, _, _, .int (gi [0, 0, 1, -1, 2, c / 6 % 2001 - 1000] (c % 6)), rfl, rfl, SqL.of upd_same, (show atI (([0, 0, 1, -1, 2, c / 6 % 2001 - 1000] : List Int).map V.int) (c % 6) = _ from atI_gi h0 h1), ?_⟩
    exact k _ _ (Kp.refl.new np)
theorem sc_law_value : FnScope ["_law_cell", "_law_way"] ["_law_cell"] (defScope s_law_value) := ⟨rfl, rfl, rfl, by decide +kernel, rfl, by decide +kernel, by decide +kernel⟩
theorem ok_law_value {f : Addr} {fd : FuncData} (F : Fun K "_law_value" "_law_value" s_law_value f fd) (T : Txt K mg C1 aP) : FnOk P w K mg base CX0 1 f fd ["_law_cell"] spLValue := by
  refine F.ok sc_law_value (fun vs H Q E h => ?_) (fun cdv Ar outer sh H vs Q E hr h => ?_)
  · obtain ⟨c, rfl, _⟩ := h
    rfl
  · obtain ⟨c, rfl, k⟩ := h
    refine ⟨_, (pss_cons
    (ps_asg (pe_callB call_divmod (by rfl) T.b_divmod (by decide +kernel) (pa_cons (pv 0) (pa_cons pe_int pa_nil))) (pg_tup rfl (pgs_cons (pg_name (i := 0) sc_law_value.nd rfl (Or.inl rfl)) (pgs_cons (pg_name (i := 1) sc_law_value.nd rfl (Or.inl rfl)) pgs_nil))))
    (pss_cons
    (ps_if (pt_cmpR op_lt (pv 1) pe_int (nomark _))
      (pss_one
      (ps_ret (pe_op op_sub (pe_op op_mod (pv 0) pe_int) pe_int)))
      pss_nil)
    (pss_one
    (ps_ret (pe_op op_sub (pe_op op_mod (pv 0) (pe_op op_add (pe_op op_mul pe_int (pe_op op_pow pe_int pe_int)) pe_int)) (pe_op op_pow pe_int pe_int)))))), ?_⟩
    refine ⟨_, rfl, _, _, rfl, ⟨by decide, by decide⟩, fun p np => ?_⟩
    have k1 := (Kp.refl (F := []) (H := H)).new (o := .tup [.int (c / 3), .int (c % 3)]) np
    refine ⟨_, _, rfl, SqT.of upd_same, rfl, _, _, rfl, _, _, rfl, rfl, ?_⟩
    refine ⟨_, rfl, _, _, rfl, rfl, _, rfl, if2 (fun h => ?_) fun h => ?_⟩
    · exact ⟨_, rfl, _, _, rfl, rfl, (by show (0 : Int) < _; decide), _, _, rfl, rfl, k _ _ k1⟩
    · exact ⟨_, rfl, _, _, rfl, rfl, ⟨by decide, by decide, by decide⟩, _, _, rfl, rfl, .inl ⟨by decide, by decide⟩, _, _, rfl, rfl, _, _, rfl, rfl, (by show (0 : Int) < _; decide), _, _, rfl, rfl, ⟨by decide, by decide, by decide⟩, _, _, rfl, rfl, k _ _ k1⟩
end
end Lk
namespace Lk
open PySem L2
section
variable {P : Program} {w : World} {K : PySem.W.Frag} {mg : Str → Option Value} {base : Heap} {C1 aP : Addr}
theorem mod_in (c : Int) {m : Int} (h : 0 < m) : 0 ≤ c % m ∧ c % m < m := ⟨Int.emod_nonneg _ (by omega), Int.emod_lt_of_pos _ h⟩
theorem sc_law_straight : FnScope ["_law_source_here", "_law_at", "_law_names", "_law_rows", "_law_roles", "_law_cell", "_law_way", "_law_x", "_law_y", "_law_c", "_law_r"] ["_law_source_here", "_law_at", "_law_names", "_law_rows", "_law_roles"] (defScope s_law_straight) := ⟨rfl, rfl, rfl, by decide +kernel, rfl, by decide +kernel, by decide +kernel⟩
theorem ok_law_straight {f : Addr} {fd : FuncData} (F : Fun K "_law_straight" "_law_straight" s_law_straight f fd) (T : Txt K mg C1 aP) (G_law_next : Fo P w K mg base 1 "_law_next" ["_law_source_here", "_law_many"] spNext) (G_law_number : Fo P w K mg base 1 "_law_number" ["_law_cell"] spNumber) : FnOk P w K mg base CX0 2 f fd ["_law_source_here", "_law_at", "_law_names", "_law_rows", "_law_roles"] spStraight := by
  refine F.ok sc_law_straight (fun vs H Q E h => ?_) (fun cdv Ar outer sh H vs Q E hr h => ?_)
  · obtain ⟨l, at_, n, r, ro, rfl, _⟩ := h
    rfl
  · obtain ⟨l, at_, n, r, ro, rfl, hs, hro, lro, n3, r1, k⟩ := h
    refine ⟨_, (pss_cons
    (ps_asg (pe_callB call_divmod (by rfl) T.b_divmod (by decide +kernel) (pa_cons (pe_fo G_law_next (hr.mono (by decide)) rfl (pa_cons (pv 0) (pa_cons (pe_op op_pow pe_int pe_int) pa_nil))) (pa_cons pe_int pa_nil))) (pg_tup rfl (pgs_cons (pg_name (i := 5) sc_law_straight.nd rfl (Or.inl rfl)) (pgs_cons (pg_name (i := 6) sc_law_straight.nd rfl (Or.inl rfl)) pgs_nil))))
    (pss_cons
    (ps_set (i := 7) sc_law_straight.nd rfl (Or.inl rfl) (pe_ix ix_list (pv 4) (pe_op op_add pe_int (pe_op op_mod (pv 5) (pe_op op_sub (pv 2) pe_int))) (fun _ _ => rfl)))
    (pss_cons
    (ps_set (i := 8) sc_law_straight.nd rfl (Or.inl rfl) (pe_ix ix_list (pe_lst (pa_cons (pe_ix ix_list (pv 4) pe_int (fun _ _ => rfl)) (pa_cons (pe_ix ix_list (pv 4) pe_int (fun _ _ => rfl)) (pa_cons (pe_ix ix_list (pv 4) (pe_op op_mod (pe_op op_fdiv (pv 5) pe_int) (pv 2)) (fun _ _ => rfl)) (pa_cons pe_non pa_nil))))) (pe_op op_mod (pe_op op_fdiv (pv 5) pe_int) pe_int) (fun _ _ => rfl)))
    (pss_cons
    (ps_set (i := 9) sc_law_straight.nd rfl (Or.inl rfl) (pe_fo G_law_number (hr.mono (by decide)) rfl (pa_cons (pe_op op_fdiv (pv 5) pe_int) pa_nil)))
    (pss_cons
    (ps_set (i := 10) sc_law_straight.nd rfl (Or.inl rfl) (pe_op op_mod (pe_op op_fdiv (pv 5) pe_int) (pv 3)))
    (pss_cons
    (ps_if (pt_cmpR op_lt (pv 6) pe_int (nomark _))
      (pss_one
      (ps_ret (pe_tup (pa_cons pe_str (pa_cons (pv 7) (pa_cons (pv 10) (pa_cons (pv 8) (pa_cons (pv 9) (pa_cons (pe_op op_add (pv 1) pe_int) pa_nil)))))))))
      pss_nil)
    (pss_cons
    (ps_if (pt_cmpR op_lt (pv 6) pe_int (nomark _))
      (pss_one
      (ps_ret (pe_tup (pa_cons pe_str (pa_cons (pv 10) (pa_cons (pv 8) (pa_cons (pv 9) (pa_cons (pe_ix ix_list (pv 4) (pe_op op_mod (pe_op op_fdiv (pv 5) pe_int) (pv 2)) (fun _ _ => rfl)) (pa_cons (pe_op op_add (pv 1) pe_int) pa_nil)))))))))
      pss_nil)
    (pss_cons
    (ps_if (pt_cmpR op_eq (pv 6) pe_int (nomark _))
      (pss_one
      (ps_ret (pe_tup (pa_cons pe_str (pa_cons (pe_ix ix_list (pv 4) (pe_op op_mod (pe_op op_fdiv (pv 5) pe_int) (pv 2)) (fun _ _ => rfl)) (pa_cons (pe_op op_add (pv 1) pe_int) pa_nil))))))
      pss_nil)
    (pss_cons
    (ps_if (pt_cmpR op_eq (pv 6) pe_int (nomark _))
      (pss_one
      (ps_ret (pe_tup (pa_cons pe_str (pa_cons (pv 7) (pa_cons (pe_ix ix_list (pv 4) (pe_op op_mod (pe_op op_fdiv (pv 5) pe_int) (pv 2)) (fun _ _ => rfl)) (pa_cons (pv 8) (pa_cons (pe_op op_add (pv 1) pe_int) pa_nil))))))))
      pss_nil)
    (pss_cons
    (ps_if (pt_cmpR op_eq (pv 6) pe_int (nomark _))
      (pss_one
      (ps_ret (pe_tup (pa_cons pe_str (pa_cons (pv 7) (pa_cons (pe_op op_add (pv 1) pe_int) pa_nil))))))
      pss_nil)
    (pss_cons
    (ps_if (pt_cmpR op_eq (pv 6) pe_int (nomark _))
      (pss_one
      (ps_ret (pe_tup (pa_cons pe_str (pa_cons (pv 7) (pa_cons (pv 10) (pa_cons (pe_op op_add (pv 1) pe_int) pa_nil)))))))
      pss_nil)
    (pss_one
    (ps_ret (pe_tup (pa_cons pe_str (pa_cons (pv 7) (pa_cons (pv 8) (pa_cons (pv 9) (pa_cons (pe_op op_add (pv 1) pe_int) pa_nil))))))))))))))))))), ?_⟩
    refine ⟨_, rfl, _, _, rfl, rfl, ⟨by decide, by decide, by decide⟩, l, _, rfl, hs, (by decide), fun v H1 v0 v1 k1 hs1 => ?_⟩
    refine ⟨_, _, rfl, ⟨by decide, by decide⟩, fun p np => ?_⟩
    have k2 : Kp [l] H (upd H1 p (.tup [.int (v / 12), .int (v % 12)])) := k1.new np
    have hs2 : SrcAt (upd H1 p (.tup [.int (v / 12), .int (v % 12)])) l := hs1.keep ((Kp.refl (F := [])).new np) nn
    have e2 : upd H1 p (.tup [.int (v / 12), .int (v % 12)]) p = some (.tup [.int (v / 12), .int (v % 12)]) := upd_same
    generalize upd H1 p (.tup [.int (v / 12), .int (v % 12)]) = H2 at k2 hs2 e2 ⊢
    refine ⟨_, _, rfl, SqT.of e2, rfl, _, _, rfl, _, _, rfl, rfl, ?_⟩
    generalize v / 12 = c
    generalize v % 12 = wy
    obtain ⟨xs, hx, hlen, hall⟩ := hro.keep k2 (nin1 lro.symm)
    have hn2 : (0 : Int) < n - 2 := by omega
    have hn0 : (0 : Int) < n := by omega
    have hr0 : (0 : Int) < r := by omega
    have m1 := mod_in c hn2
    have i1 : 0 ≤ 2 + c % (n - 2) ∧ 2 + c % (n - 2) < (xs.length : Int) := by omega
    have iz : (0 : Int) ≤ 0 ∧ (0 : Int) < (xs.length : Int) := by omega
    have m2 := mod_in (c / 2) hn0
    have m64 := mod_in (c / 64) hn0
    rw [← hlen] at m2 m64
    have mr := mod_in (c / 16) hr0
    have inX := hall _ (gi_mem i1.1 i1.2)
    have inZ := hall _ (gi_mem m64.1 m64.2)
    refine ⟨_, rfl, _, rfl, _, rfl, _, _, rfl, rfl, _, _, rfl, rfl, hn2, _, _, rfl, rfl, _, _, _, _, rfl, rfl, SqL.of hx, atI_gi i1.1 i1.2, ?_⟩
    refine ⟨_, rfl, _, _, _, _, rfl, rfl, SqL.of hx, atI_gi iz.1 iz.2, _, rfl, _, _, _, _, rfl, rfl, SqL.of hx, atI_gi iz.1 iz.2, _, rfl, _, rfl, _, _, rfl, rfl, ⟨by decide, by decide⟩, _, rfl, _, _, rfl, rfl, hn0, _, _, _, _, rfl, rfl, SqL.of hx, atI_gi (by rw [← hlen]; exact m2.1) (by rw [← hlen]; exact m2.2), (by show 4 ≤ sizeLine; decide), fun q nq => ?_⟩
    have k3 : Kp [l] H (upd H2 q (.lst [.int (gi xs 0), .int (gi xs 0), .int (gi xs (c / 2 % n)), .non])) := k2.new nq
    have kq : Kp [] H2 (upd H2 q (.lst [.int (gi xs 0), .int (gi xs 0), .int (gi xs (c / 2 % n)), .non])) := Kp.refl.new nq
    have e3 : upd H2 q (.lst [.int (gi xs 0), .int (gi xs 0), .int (gi xs (c / 2 % n)), .non]) q = some (.lst [.int (gi xs 0), .int (gi xs 0), .int (gi xs (c / 2 % n)), .non]) := upd_same
    generalize upd H2 q (.lst [.int (gi xs 0), .int (gi xs 0), .int (gi xs (c / 2 % n)), .non]) = H3 at k3 kq e3 ⊢
    have m4 := mod_in (c / 8) (show (0 : Int) < 4 by decide)
    obtain ⟨y, ey, hy⟩ : ∃ y, atI [V.int (gi xs 0), .int (gi xs 0), .int (gi xs (c / 2 % n)), .non] (c / 8 % 4) = some (oV y) ∧ InO y n := by
      have in0 := hall _ (gi_mem iz.1 iz.2)
      rw [hlen] at m2
      have in2 := hall _ (gi_mem (xs := xs) m2.1 (by rw [hlen]; exact m2.2))
      have hc : c / 8 % 4 = 0 ∨ c / 8 % 4 = 1 ∨ c / 8 % 4 = 2 ∨ c / 8 % 4 = 3 := by omega
      rcases hc with e | e | e | e <;> rw [e]
      · exact ⟨some (gi xs 0), rfl, InO.some in0⟩
      · exact ⟨some (gi xs 0), rfl, InO.some in0⟩
      · exact ⟨some (gi xs (c / 2 % n)), rfl, InO.some in2⟩
      · exact ⟨none, rfl, InO.none⟩
    refine ⟨_, rfl, _, _, rfl, rfl, ⟨by decide, by decide⟩, _, _, rfl, rfl, (by show (0 : Int) < _; decide), _, _, _, oV y, rfl, rfl, SqL.of e3, ey, ?_⟩
    refine ⟨_, rfl, _, _, rfl, rfl, ⟨by decide, by decide⟩, _, rfl, fun cn H4 k4 => ?_⟩
    have kk : Kp [l] H H4 := k3.ext k4
    have hs4 := hs2.keep (kq.ext k4) nn
    have hx4 : H4 ro = some (.lst (xs.map V.int)) := (kq.ext k4).at0 hx
    refine ⟨_, rfl, _, _, rfl, rfl, ⟨by decide, by decide⟩, _, rfl, _, _, rfl, rfl, hr0, ?_⟩
    have a64 : atI (xs.map V.int) (c / 64 % n) = some (.int (gi xs (c / 64 % n))) := atI_gi (by rw [← hlen]; exact m64.1) (by rw [← hlen]; exact m64.2)
    rw [hlen] at inZ
    have fin : ∀ p ln, H4 p = none → Fld n r ln → isAsk ln = false → tg ln = [at_ + 1] → Q (.ref p) (upd H4 p (.tup (lnB (.ref p) ln))) := fun p ln np f a t =>
      k p ln _ (kk.new np) (hs4.keep ((Kp.refl (F := [])).new np) nn) (LnAt.flat upd_same a) f a t
    refine ⟨_, rfl, _, _, rfl, rfl, _, rfl, if2 (fun h => ?_) fun h => ?_⟩
    · refine ⟨_, rfl, _, rfl, _, rfl, _, rfl, _, rfl, _, _, rfl, rfl, (by show 6 ≤ sizeLine; decide), fun p np => ?_⟩
      exact fin p (.get (gi xs (2 + c % (n - 2))) (c / 16 % r) y cn (at_ + 1)) np ⟨inX, mr, hy⟩ rfl rfl
    refine ⟨_, rfl, _, _, rfl, rfl, _, rfl, if2 (fun h => ?_) fun h => ?_⟩
    · refine ⟨_, rfl, _, rfl, _, rfl, _, rfl, _, rfl, _, _, rfl, rfl, ⟨by decide, by decide⟩, _, rfl, _, _, rfl, rfl, hn0, _, _, _, _, rfl, rfl, SqL.of hx4, a64, _, rfl, _, _, rfl, rfl, (by show 6 ≤ sizeLine; decide), fun p np => ?_⟩
      exact fin p (.put (c / 16 % r) y cn (gi xs (c / 64 % n)) (at_ + 1)) np ⟨mr, hy, inZ⟩ rfl rfl
    refine ⟨_, rfl, rfl, _, rfl, if2 (fun h => ?_) fun h => ?_⟩
    · refine ⟨_, rfl, _, rfl, _, _, rfl, rfl, ⟨by decide, by decide⟩, _, rfl, _, _, rfl, rfl, hn0, _, _, _, _, rfl, rfl, SqL.of hx4, a64, _, rfl, _, _, rfl, rfl, (by show 3 ≤ sizeLine; decide), fun p np => ?_⟩
      exact fin p (.tell (gi xs (c / 64 % n)) (at_ + 1)) np inZ rfl rfl
    refine ⟨_, rfl, rfl, _, rfl, if2 (fun h => ?_) fun h => ?_⟩
    · refine ⟨_, rfl, _, rfl, _, rfl, _, _, rfl, rfl, ⟨by decide, by decide⟩, _, rfl, _, _, rfl, rfl, hn0, _, _, _, _, rfl, rfl, SqL.of hx4, a64, _, rfl, _, rfl, _, _, rfl, rfl, (by show 5 ≤ sizeLine; decide), fun p np => ?_⟩
      exact fin p (.sum (gi xs (2 + c % (n - 2))) (gi xs (c / 64 % n)) y (at_ + 1)) np ⟨inX, inZ, hy⟩ rfl rfl
    refine ⟨_, rfl, rfl, _, rfl, if2 (fun h => ?_) fun h => ?_⟩
    · refine ⟨_, rfl, _, rfl, _, _, rfl, rfl, (by show 3 ≤ sizeLine; decide), fun p np => ?_⟩
      exact fin p (.take (gi xs (2 + c % (n - 2))) (at_ + 1)) np inX rfl rfl
    refine ⟨_, rfl, rfl, _, rfl, if2 (fun h => ?_) fun h => ?_⟩
    · refine ⟨_, rfl, _, rfl, _, rfl, _, _, rfl, rfl, (by show 4 ≤ sizeLine; decide), fun p np => ?_⟩
      exact fin p (.len (gi xs (2 + c % (n - 2))) (c / 16 % r) (at_ + 1)) np ⟨inX, mr⟩ rfl rfl
    · refine ⟨_, rfl, _, rfl, _, rfl, _, rfl, _, _, rfl, rfl, (by show 5 ≤ sizeLine; decide), fun p np => ?_⟩
      exact fin p (.set (gi xs (2 + c % (n - 2))) y cn (at_ + 1)) np ⟨inX, hy⟩ rfl rfl
end
end Lk
namespace Lk
open PySem L2
section
variable {P : Program} {w : World} {K : PySem.W.Frag} {mg : Str → Option Value} {base : Heap} {C1 aP : Addr}
theorem roles_at {H : Hp} {ro : Addr} {n i : Int} (h : RolesAt H ro n) (h0 : 0 ≤ i) (h1 : i < n) : ∃ xs, H ro = some (.lst ((xs : List Int).map V.int)) ∧ ∃ x, atI (xs.map V.int) i = some (.int x) ∧ In x n := by
  obtain ⟨xs, e, hl, ha⟩ := h
  rw [← hl] at h1
  exact ⟨xs, e, gi xs i, atI_gi h0 h1, hl ▸ (hl ▸ ha _ (gi_mem h0 h1))⟩
theorem sc_law_limit : FnScope ["_law_cell", "_law_at", "_law_rows", "_law_roles", "_law_n", "_law_r"] ["_law_cell", "_law_at", "_law_rows", "_law_roles"] (defScope s_law_limit) := ⟨rfl, rfl, rfl, by decide +kernel, rfl, by decide +kernel, by decide +kernel⟩
theorem ok_law_limit {f : Addr} {fd : FuncData} (F : Fun K "_law_limit" "_law_limit" s_law_limit f fd) : FnOk P w K mg base CX0 1 f fd ["_law_cell", "_law_at", "_law_rows", "_law_roles"] spLimit := by
  refine F.ok sc_law_limit (fun vs H Q E h => ?_) (fun cdv Ar outer sh H vs Q E hr h => ?_)
  · obtain ⟨c, at_, n, r, ro, rfl, _⟩ := h
    rfl
  · obtain ⟨c, at_, n, r, ro, rfl, hro, n3, r1, a0, k⟩ := h
    refine ⟨_, (pss_cons
    (ps_set (i := 4) sc_law_limit.nd rfl (Or.inl rfl) (pe_ix ix_list (pv 3) pe_int (fun _ _ => rfl)))
    (pss_cons
    (ps_set (i := 5) sc_law_limit.nd rfl (Or.inl rfl) (pe_op op_mod (pe_op op_fdiv (pv 0) pe_int) (pv 2)))
    (pss_cons
    (ps_if (pt_cmpR op_eq (pe_op op_mod (pv 0) pe_int) pe_int (nomark _))
      (pss_one
      (ps_ret (pe_lst (pa_cons (pe_tup (pa_cons pe_str (pa_cons (pv 4) (pa_cons (pv 5) (pa_cons (pe_op op_add (pv 1) pe_int) pa_nil))))) pa_nil))))
      pss_nil)
    (pss_cons
    (ps_if (pt_cmpR op_eq (pe_op op_mod (pv 0) pe_int) pe_int (nomark _))
      (pss_one
      (ps_ret (pe_lst (pa_cons (pe_tup (pa_cons pe_str (pa_cons (pv 4) (pa_cons (pv 5) (pa_cons (pe_op op_add (pv 1) pe_int) pa_nil))))) (pa_cons (pe_tup (pa_cons pe_str (pa_cons (pv 4) (pa_cons (pv 4) (pa_cons (pe_op op_sub (pe_op op_mod (pe_op op_fdiv (pv 0) pe_int) pe_int) pe_int) (pa_cons (pe_op op_add (pv 1) pe_int) pa_nil)))))) pa_nil)))))
      pss_nil)
    (pss_cons
    (ps_if (pt_cmpR op_eq (pe_op op_mod (pv 0) pe_int) pe_int (nomark _))
      (pss_one
      (ps_ret (pe_lst (pa_cons (pe_tup (pa_cons pe_str (pa_cons (pv 4) (pa_cons (pe_op op_add (pv 1) pe_int) pa_nil)))) pa_nil))))
      pss_nil)
    (pss_one
    (ps_ret (pe_lst (pa_cons (pe_tup (pa_cons pe_str (pa_cons (pv 4) (pa_cons pe_non (pa_cons (pe_op op_sub (pe_op op_mod (pe_op op_fdiv (pv 0) pe_int) pe_int) pe_int) (pa_cons (pe_op op_add (pv 1) pe_int) pa_nil)))))) pa_nil))))))))), ?_⟩
    obtain ⟨xs, hx, x, ex, inx⟩ := roles_at hro (i := 1) (by decide) (by omega)
    have hr0 : (0 : Int) < r := by omega
    have mr := mod_in (c / 4) hr0
    refine ⟨_, rfl, _, _, _, _, rfl, rfl, SqL.of hx, ex, ?_⟩
    refine ⟨_, rfl, _, _, rfl, rfl, ⟨by decide, by decide⟩, _, rfl, _, _, rfl, rfl, hr0, ?_⟩
    have one : ∀ (ln : Ln) (p q : Addr), Fld n r ln → isAsk ln = false → tg ln = [at_ + 1] → H p = none → upd H p (.tup (lnB (.ref p) ln)) q = none → Q (.ref q) (upd (upd H p (.tup (lnB (.ref p) ln))) q (.lst [.ref p])) := fun ln p q hf ha ht np nq => by
      have k1 := (Kp.refl (F := []) (H := H)).new (o := .tup (lnB (.ref p) ln)) np
      refine k q [p] [ln] _ (k1.new nq) (k1.free0 nq) upd_same (All2.one ?_) (Nat.le_refl 1) (by show 1 ≤ 2; decide) fun l2 h2 => ?_
      · exact (LnAt.flat upd_same ha).mono ((Kp.refl (F := [])).new nq).tk
      · rw [List.mem_singleton.mp h2]
        refine ⟨hf, ha, fun t ht' => ?_⟩
        rw [ht] at ht'
        rw [List.mem_singleton.mp ht']
        show 0 ≤ at_ + 1 ∧ at_ + 1 ≤ at_ + ((1 : Nat) : Int)
        omega
    refine ⟨_, rfl, _, _, rfl, rfl, (by show (0 : Int) < _; decide), rfl, _, rfl, if2 (fun h => ?_) fun h => ?_⟩
    · refine ⟨_, rfl, _, rfl, _, rfl, _, _, rfl, rfl, (by show 4 ≤ sizeLine; decide), fun p np => ⟨(by show 1 ≤ sizeLine; decide), fun q nq => ?_⟩⟩
      exact one (.len x (c / 4 % r) (at_ + 1)) p q ⟨inx, mr⟩ rfl rfl np nq
    refine ⟨_, rfl, _, _, rfl, rfl, (by show (0 : Int) < _; decide), rfl, _, rfl, if2 (fun h => ?_) fun h => ?_⟩
    · refine ⟨_, rfl, _, rfl, _, rfl, _, _, rfl, rfl, (by show 4 ≤ sizeLine; decide), fun p np => ?_⟩
      refine ⟨_, rfl, _, rfl, _, rfl, _, _, rfl, rfl, ⟨by decide, by decide⟩, _, _, rfl, rfl, (by show (0 : Int) < _; decide), _, _, rfl, rfl, _, rfl, _, _, rfl, rfl, (by show 5 ≤ sizeLine; decide), fun p2 np2 => ⟨(by show 2 ≤ sizeLine; decide), fun q nq => ?_⟩⟩
      have k1 := (Kp.refl (F := []) (H := H)).new (o := .tup (lnB (.ref p) (.len x (c / 4 % r) (at_ + 1)))) np
      have k2 := (Kp.refl (F := []) (H := upd H p (.tup (lnB (.ref p) (.len x (c / 4 % r) (at_ + 1)))))).new (o := .tup (lnB (.ref p2) (.set x (some x) (c / 8 % 5 - 2) (at_ + 2)))) np2
      refine k q [p, p2] [.len x (c / 4 % r) (at_ + 1), .set x (some x) (c / 8 % 5 - 2) (at_ + 2)] _ ((k1.new np2).new nq) (k1.free0 (k2.free0 nq)) upd_same ?_ (by show 1 ≤ 2; decide) (Nat.le_refl 2) fun l2 h2 => ?_
      · refine All2.cons ?_ (All2.one ?_)
        · exact (LnAt.flat (ln := .len x (c / 4 % r) (at_ + 1)) upd_same rfl).mono (k2.new nq).tk
        · exact (LnAt.flat (ln := .set x (some x) (c / 8 % 5 - 2) (at_ + 2)) upd_same rfl).mono ((Kp.refl (F := [])).new nq).tk
      · rcases List.mem_cons.mp h2 with e | e
        · rw [e]
          refine ⟨⟨inx, mr⟩, rfl, fun t ht => ?_⟩
          rw [List.mem_singleton.mp ht]
          show 0 ≤ at_ + 1 ∧ at_ + 1 ≤ at_ + ((2 : Nat) : Int)
          omega
        · rw [List.mem_singleton.mp e]
          refine ⟨⟨inx, InO.some inx⟩, rfl, fun t ht => ?_⟩
          rw [List.mem_singleton.mp ht]
          show 0 ≤ at_ + 2 ∧ at_ + 2 ≤ at_ + ((2 : Nat) : Int)
          omega
    refine ⟨_, rfl, _, _, rfl, rfl, (by show (0 : Int) < _; decide), rfl, _, rfl, if2 (fun h => ?_) fun h => ?_⟩
    · refine ⟨_, rfl, _, rfl, _, _, rfl, rfl, (by show 3 ≤ sizeLine; decide), fun p np => ⟨(by show 1 ≤ sizeLine; decide), fun q nq => ?_⟩⟩
      exact one (.take x (at_ + 1)) p q inx rfl rfl np nq
    · refine ⟨_, rfl, _, rfl, _, _, rfl, rfl, ⟨by decide, by decide⟩, _, _, rfl, rfl, (by show (0 : Int) < _; decide), _, _, rfl, rfl, _, rfl, _, _, rfl, rfl, (by show 5 ≤ sizeLine; decide), fun p np => ⟨(by show 1 ≤ sizeLine; decide), fun q nq => ?_⟩⟩
      exact one (.set x none (c / 8 % 7 - 1) (at_ + 1)) p q ⟨inx, InO.none⟩ rfl rfl np nq
theorem sc_law_ahead : FnScope ["_law_cell", "_law_at", "_law_roles", "_law_c", "_law_n", "_law_goals", "_law_some"] ["_law_cell", "_law_at", "_law_roles"] (defScope s_law_ahead) := ⟨rfl, rfl, rfl, by decide +kernel, rfl, by decide +kernel, by decide +kernel⟩
theorem ok_law_ahead {f : Addr} {fd : FuncData} (F : Fun K "_law_ahead" "_law_ahead" s_law_ahead f fd) : FnOk P w K mg base CX0 1 f fd ["_law_cell", "_law_at", "_law_roles"] spAhead := by
  refine F.ok sc_law_ahead (fun vs H Q E h => ?_) (fun cdv Ar outer sh H vs Q E hr h => ?_)
  · obtain ⟨c, at_, n, r, ro, rfl, _⟩ := h
    rfl
  · obtain ⟨c, at_, n, r, ro, rfl, hro, n3, r1, a0, k⟩ := h
    refine ⟨_, (pss_cons
    (ps_set (i := 3) sc_law_ahead.nd rfl (Or.inl rfl) (pe_op op_sub (pe_op op_mod (pe_op op_fdiv (pv 0) pe_int) pe_int) pe_int))
    (pss_cons
    (ps_set (i := 4) sc_law_ahead.nd rfl (Or.inl rfl) (pe_tup (pa_cons pe_str (pa_cons (pe_ix ix_list (pv 2) pe_int (fun _ _ => rfl)) (pa_cons pe_int pa_nil)))))
    (pss_cons
    (ps_set (i := 5) sc_law_ahead.nd rfl (Or.inl rfl) (pe_ix ix_list (pe_lst (pa_cons (pe_tup (pa_cons (pe_op op_add (pv 1) pe_int) (pa_cons (pe_op op_add (pv 1) pe_int) pa_nil))) (pa_cons (pe_tup (pa_cons (pe_op op_add (pv 1) pe_int) (pa_cons (pe_op op_add (pv 1) pe_int) pa_nil))) (pa_cons (pe_tup (pa_cons (pe_op op_add (pv 1) pe_int) (pa_cons (pe_op op_add (pv 1) pe_int) pa_nil))) pa_nil)))) (pe_op op_mod (pv 0) pe_int) (fun _ _ => rfl)))
    (pss_cons
    (ps_if (pt_cmpR op_eq (pe_op op_mod (pe_op op_fdiv (pv 0) pe_int) pe_int) pe_int (nomark _))
      (pss_one
      (ps_ret (pe_op op_catA (pe_tup (pa_cons pe_str (pa_cons (pe_ix ix_list (pv 2) pe_int (fun _ _ => rfl)) (pa_cons pe_non (pa_cons (pv 3) pa_nil))))) (pv 5))))
      pss_nil)
    (pss_cons
    (ps_set (i := 6) sc_law_ahead.nd rfl (Or.inl rfl) (pe_tup (pa_cons (pe_tup (pa_cons (pv 4) (pa_cons (pe_tup (pa_cons pe_str pa_nil)) (pa_cons (pv 3) pa_nil)))) (pa_cons (pe_tup (pa_cons (pv 4) (pa_cons (pe_tup (pa_cons pe_str (pa_cons pe_int pa_nil))) (pa_cons pe_int pa_nil)))) pa_nil))))
    (pss_one
    (ps_ret (pe_op op_catA (pe_tup (pa_cons pe_str (pa_cons (pe_slice sl_tupA (pv 6) po_none (po_some (pe_op op_add pe_int (pe_op op_mod (pe_op op_fdiv (pv 0) pe_int) pe_int)))) pa_nil))) (pv 5))))))))), ?_⟩
    obtain ⟨xs, hx, x, ex, inx⟩ := roles_at hro (i := 1) (by decide) (by omega)
    refine ⟨_, rfl, _, _, rfl, rfl, ⟨by decide, by decide⟩, _, _, rfl, rfl, (by show (0 : Int) < _; decide), _, _, rfl, rfl, ?_⟩
    refine ⟨_, rfl, _, _, _, _, rfl, rfl, SqL.of hx, ex, (by show 3 ≤ sizeLine; decide), fun a1 m1 => ?_⟩
    have k1 : Kp [] H (upd H a1 (.tup [.str "name", .int x, .int 0])) := Kp.refl.new m1
    have e1 : upd H a1 (.tup [.str "name", .int x, .int 0]) a1 = some (.tup (ndL (.name x))) := upd_same
    generalize upd H a1 (.tup [.str "name", .int x, .int 0]) = H1 at k1 e1 ⊢
    refine ⟨_, rfl, _, _, rfl, rfl, _, rfl, _, _, rfl, rfl, (by show 2 ≤ sizeLine; decide), fun g1 w1 => ?_⟩
    refine ⟨_, rfl, _, _, rfl, rfl, _, rfl, _, _, rfl, rfl, (by show 2 ≤ sizeLine; decide), fun g2 w2 => ?_⟩
    refine ⟨_, rfl, _, _, rfl, rfl, _, rfl, _, _, rfl, rfl, (by show 2 ≤ sizeLine; decide), fun g3 w3 => ?_⟩
    refine ⟨(by show 3 ≤ sizeLine; decide), fun g4 w4 => ?_⟩
    have kg1 := (Kp.refl (F := []) (H := H1)).new (o := .tup [.int (at_ + 1), .int (at_ + 2)]) w1
    have kg2 := (Kp.refl (F := []) (H := upd H1 g1 (.tup [.int (at_ + 1), .int (at_ + 2)]))).new (o := .tup [.int (at_ + 2), .int (at_ + 1)]) w2
    have kg3 := (Kp.refl (F := []) (H := upd (upd H1 g1 (.tup [.int (at_ + 1), .int (at_ + 2)])) g2 (.tup [.int (at_ + 2), .int (at_ + 1)]))).new (o := .tup [.int (at_ + 2), .int (at_ + 2)]) w3
    have kg4 := (Kp.refl (F := []) (H := upd (upd (upd H1 g1 (.tup [.int (at_ + 1), .int (at_ + 2)])) g2 (.tup [.int (at_ + 2), .int (at_ + 1)])) g3 (.tup [.int (at_ + 2), .int (at_ + 2)]))).new (o := .lst [.ref g1, .ref g2, .ref g3]) w4
    have d1 := ((kg2.ext kg3).ext kg4).tup (upd_same (H := H1) (a := g1) (o := .tup [.int (at_ + 1), .int (at_ + 2)]))
    have d2 := (kg3.ext kg4).tup (upd_same (H := upd H1 g1 (.tup [.int (at_ + 1), .int (at_ + 2)])) (a := g2) (o := .tup [.int (at_ + 2), .int (at_ + 1)]))
    have d3 := kg4.tup (upd_same (H := upd (upd H1 g1 (.tup [.int (at_ + 1), .int (at_ + 2)])) g2 (.tup [.int (at_ + 2), .int (at_ + 1)])) (a := g3) (o := .tup [.int (at_ + 2), .int (at_ + 2)]))
    have kg : Kp [] H1 _ := ((kg1.ext kg2).ext kg3).ext kg4
    have d4 : upd (upd (upd (upd H1 g1 (.tup [.int (at_ + 1), .int (at_ + 2)])) g2 (.tup [.int (at_ + 2), .int (at_ + 1)])) g3 (.tup [.int (at_ + 2), .int (at_ + 2)])) g4 (.lst [.ref g1, .ref g2, .ref g3]) g4 = some (.lst [.ref g1, .ref g2, .ref g3]) := upd_same
    clear kg1 kg2 kg3 kg4
    generalize upd (upd (upd (upd H1 g1 (.tup [.int (at_ + 1), .int (at_ + 2)])) g2 (.tup [.int (at_ + 2), .int (at_ + 1)])) g3 (.tup [.int (at_ + 2), .int (at_ + 2)])) g4 (.lst [.ref g1, .ref g2, .ref g3]) = H2 at kg d1 d2 d3 d4 ⊢
    obtain ⟨g, t1, t2, eg, dg, h1, h2⟩ : ∃ g t1 t2, atI [V.ref g1, .ref g2, .ref g3] (c % 3) = some (.ref g) ∧ H2 g = some (.tup [.int t1, .int t2]) ∧ (t1 = at_ + 1 ∨ t1 = at_ + 2) ∧ (t2 = at_ + 1 ∨ t2 = at_ + 2) := by
      have m := mod_in c (show (0 : Int) < 3 by decide)
      have hc : c % 3 = 0 ∨ c % 3 = 1 ∨ c % 3 = 2 := by omega
      rcases hc with e | e | e <;> rw [e]
      · exact ⟨g1, _, _, rfl, d1, .inl rfl, .inr rfl⟩
      · exact ⟨g2, _, _, rfl, d2, .inr rfl, .inl rfl⟩
      · exact ⟨g3, _, _, rfl, d3, .inr rfl, .inr rfl⟩
    refine ⟨_, rfl, _, _, rfl, rfl, (by show (0 : Int) < _; decide), _, _, _, .ref g, rfl, rfl, SqL.of d4, eg, ?_⟩
    have k2 : Kp [] H H2 := k1.ext kg
    have e12 := kg.tup e1
    have hx2 := k2.at0 hx
    have tgs : ∀ t ∈ [t1, t2], t = at_ + 1 ∨ t = at_ + 2 := fun t ht => by
      rcases List.mem_cons.mp ht with e | e
      · rw [e]; exact h1
      · rw [List.mem_singleton.mp e]; exact h2
    refine ⟨_, rfl, _, _, rfl, rfl, ⟨by decide, by decide⟩, _, _, rfl, rfl, (by show (0 : Int) < _; decide), rfl, _, rfl, if2 (fun h => ?_) fun h => ?_⟩
    · refine ⟨_, rfl, _, _, _, _, rfl, rfl, SqL.of hx2, ex, _, rfl, (by show 4 ≤ sizeLine; decide), fun p np => ?_⟩
      have k3 := (Kp.refl (F := []) (H := H2)).new (o := .tup [.str "test", .int x, .non, .int (c / 8 % 9 - 2)]) np
      refine ⟨_, rfl, p, g, _, _, rfl, rfl, SqT.of upd_same, SqT.of (k3.tup dg), (by show 6 ≤ sizeLine; decide), (fun z => by cases z), (fun _ z => by cases z), fun _ _ q nq => ?_⟩
      exact k q (.test (some x) none (c / 8 % 9 - 2) t1 t2) _ ((k2.ext k3).new nq) (LnAt.flat upd_same rfl) ⟨InO.some inx, InO.none⟩ tgs
    · -- the bounds of an ask
      refine ⟨_, rfl, (by show 1 ≤ sizeLine; decide), fun z1 y1 => ?_⟩
      refine ⟨_, rfl, (by show 3 ≤ sizeLine; decide), fun b1 y2 => ?_⟩
      refine ⟨_, rfl, (by show 2 ≤ sizeLine; decide), fun z2 y3 => ?_⟩
      refine ⟨(by show 3 ≤ sizeLine; decide), fun b2 y4 => ?_⟩
      refine ⟨(by show 2 ≤ sizeLine; decide), fun so y5 => ?_⟩
      have q1 := (Kp.refl (F := []) (H := H2)).new (o := .tup [.str "zero"]) y1
      have q2 := q1.new (o := .tup [.ref a1, .ref z1, .int (c / 8 % 9 - 2)]) y2
      have q3 := q2.new (o := .tup [.str "len", .int 0]) y3
      have q4 := q3.new (o := .tup [.ref a1, .ref z2, .int 0]) y4
      have q5 := q4.new (o := .tup [.ref b1, .ref b2]) y5
      have u2 := (((((Kp.refl (F := [])).new y2).new y3).new y4).new y5 (o := .tup [.ref b1, .ref b2])).tup (upd_same (H := H2) (a := z1) (o := .tup [.str "zero"]))
      have u3 := ((((Kp.refl (F := [])).new y3).new y4).new y5 (o := .tup [.ref b1, .ref b2])).tup (upd_same (a := b1) (o := .tup [.ref a1, .ref z1, .int (c / 8 % 9 - 2)]))
      have u4 := (((Kp.refl (F := [])).new y4).new y5 (o := .tup [.ref b1, .ref b2])).tup (upd_same (a := z2) (o := .tup [.str "len", .int 0]))
      have u5 := ((Kp.refl (F := [])).new y5 (o := .tup [.ref b1, .ref b2])).tup (upd_same (a := b2) (o := .tup [.ref a1, .ref z2, .int 0]))
      have e15 := q5.tup e12
      have dg5 := q5.tup dg
      have u6 : upd (upd (upd (upd (upd H2 z1 (.tup [.str "zero"])) b1 (.tup [.ref a1, .ref z1, .int (c / 8 % 9 - 2)])) z2 (.tup [.str "len", .int 0])) b2 (.tup [.ref a1, .ref z2, .int 0])) so (.tup [.ref b1, .ref b2]) so = some (.tup [.ref b1, .ref b2]) := upd_same
      have k5 : Kp [] H _ := k2.ext q5
      clear q1 q2 q3 q4 q5
      generalize upd (upd (upd (upd (upd H2 z1 (.tup [.str "zero"])) b1 (.tup [.ref a1, .ref z1, .int (c / 8 % 9 - 2)])) z2 (.tup [.str "len", .int 0])) b2 (.tup [.ref a1, .ref z2, .int 0])) so (.tup [.ref b1, .ref b2]) = H5 at k5 u2 u3 u4 u5 u6 e15 dg5 ⊢
      have B1 : BdAt H5 b1 ⟨.name x, .zero, (c / 8 % 9 - 2)⟩ := ⟨a1, z1, u3, e15, u2⟩
      have B2 : BdAt H5 b2 ⟨.name x, .len 0, 0⟩ := ⟨a1, z2, u5, e15, u4⟩
      have ok1 : NdOk n r (.name x) ∧ NdOk n r .zero := ⟨inx, True.intro⟩
      have ok2 : NdOk n r (.name x) ∧ NdOk n r (.len 0) := ⟨inx, (by show 0 ≤ (0 : Int) ∧ 0 < r; omega)⟩
      have last : ∀ (sl : Addr) (bs : List Bd) (H6 : Hp), Kp [] H5 H6 → BdsAt H6 sl bs → (∀ b ∈ bs, NdOk n r b.a ∧ NdOk n r b.b) → ∀ p, H6 p = none → ∀ q, upd H6 p (.tup [.str "ask", .ref sl]) q = none → Q (.ref q) (upd (upd H6 p (.tup [.str "ask", .ref sl])) q (.tup ([.str "ask", .ref sl] ++ [.int t1, .int t2]))) := fun sl bs H6 k6 hb ho p np q nq => by
        have k7 := (Kp.refl (F := []) (H := H6)).new (o := .tup [.str "ask", .ref sl]) np
        refine k q (.ask bs t1 t2) _ (((k5.ext k6).ext k7).new nq) ⟨sl, upd_same, fun bs' k' m' e => ?_⟩ ho tgs
        cases e
        exact hb.mono (k7.new nq).tk
      have m2 := mod_in (c / 144) (show (0 : Int) < 2 by decide)
      have hc : c / 144 % 2 = 0 ∨ c / 144 % 2 = 1 := by omega
      refine ⟨_, rfl, _, rfl, _, _, rfl, rfl, ⟨by decide, by decide⟩, _, _, rfl, rfl, (by show (0 : Int) < _; decide), _, _, rfl, rfl, _, rfl, so, _, rfl, SqT.of u6, ?_, ?_⟩
      · rcases hc with e | e
        · intro z
          rw [e] at z
          exact absurd (show HT.sIx 2 2 (some (1 + 0)) = 2 from z.2) (by decide)
        · intro _
          refine ⟨(by show 2 ≤ sizeLine; decide), fun p np => ?_⟩
          refine ⟨_, rfl, p, g, _, _, rfl, rfl, SqT.of upd_same, SqT.of (((Kp.refl (F := [])).new np).tup dg5), (by show 4 ≤ sizeLine; decide), (fun z => by cases z), (fun _ z => by cases z), fun _ _ q nq => ?_⟩
          exact last so [⟨.name x, .zero, (c / 8 % 9 - 2)⟩, ⟨.name x, .len 0, 0⟩] H5 Kp.refl ⟨[b1, b2], u6, All2.cons B1 (All2.one B2)⟩ (fun b hb => by
            rcases List.mem_cons.mp hb with e | e
            · rw [e]; exact ok1
            · rw [List.mem_singleton.mp e]; exact ok2) p np q nq
      · rcases hc with e | e
        · intro _ sl nsl
          rw [e]
          have k6 := (Kp.refl (F := []) (H := H5)).new (o := .tup [.ref b1]) nsl
          refine ⟨(by show 2 ≤ sizeLine; decide), fun p np => ?_⟩
          refine ⟨_, rfl, p, g, _, _, rfl, rfl, SqT.of upd_same, SqT.of ((k6.new np).tup dg5), (by show 4 ≤ sizeLine; decide), (fun z => by cases z), (fun _ z => by cases z), fun _ _ q nq => ?_⟩
          exact last sl [⟨.name x, .zero, (c / 8 % 9 - 2)⟩] _ k6 ⟨[b1], upd_same, All2.one (B1.mono k6.tk)⟩ (fun b hb => by rw [List.mem_singleton.mp hb]; exact ok1) p np q nq
        · intro z
          rw [e] at z
          exact absurd ⟨(show HT.sIx 2 0 none = 0 by decide), (show HT.sIx 2 2 (some (1 + 1)) = 2 by decide)⟩ z
end
end Lk
namespace Lk
open PySem L2
section
variable {P : Program} {w : World} {K : PySem.W.Frag} {mg : Str → Option Value} {base : Heap} {C1 aP : Addr}
theorem atI_neg1 {xs : List Int} {n : Int} (hl : (xs.length : Int) = n) (hn : 1 ≤ n) (ha : ∀ x ∈ xs, In x n) : ∃ x, atI (xs.map V.int) (-1) = some (.int x) ∧ In x n := by
  have hne : xs ≠ [] := fun e => by rw [e] at hl; simp at hl; omega
  refine ⟨xs.getLast hne, ?_, ha _ (List.getLast_mem hne)⟩
  have e : xs.map V.int = (xs.dropLast).map V.int ++ [.int (xs.getLast hne)] := by
    rw [← List.map_singleton, ← List.map_append, List.dropLast_concat_getLast]
  rw [e]
  exact atI_last _ _
theorem roles_all {H : Hp} {ro : Addr} {n : Int} (h : RolesAt H ro n) (h3 : 3 ≤ n) : ∃ xs x0 x1 xl, H ro = some (.lst ((xs : List Int).map V.int)) ∧ atI (xs.map V.int) 0 = some (.int x0) ∧ atI (xs.map V.int) 1 = some (.int x1) ∧ atI (xs.map V.int) (-1) = some (.int xl) ∧ In x0 n ∧ In x1 n ∧ In xl n := by
  obtain ⟨xs, e, hl, ha⟩ := h
  obtain ⟨xl, e3, h3'⟩ := atI_neg1 hl (by omega) ha
  exact ⟨xs, gi xs 0, gi xs 1, xl, e, atI_gi (by decide) (by omega), atI_gi (by decide) (by omega), e3, ha _ (gi_mem (by decide) (by omega)), ha _ (gi_mem (by decide) (by omega)), h3'⟩
section
variable {H H' : Hp} {l ll ro oo p : Addr} {n : Int} {lns : List Ln} {outs : List Int} {ln : Ln} {as : List Addr}
theorem nd4 (h : [l, ll, ro, oo].Nodup) : l ≠ ll ∧ l ≠ ro ∧ l ≠ oo ∧ ll ≠ ro ∧ ll ≠ oo ∧ ro ≠ oo := by
  simp only [List.nodup_cons, List.mem_cons, not_or, List.not_mem_nil, not_false_eq_true, and_true, List.nodup_nil] at h
  obtain ⟨⟨a, b, c⟩, ⟨d, e⟩, f⟩ := h
  exact ⟨a, b, c, d, e, f⟩
theorem LinesAt.keep {F : List Addr} (k : Kp F H H') (m : ll ∉ F) (h : LinesAt H ll lns) : LinesAt H' ll lns := let ⟨as, e, q⟩ := h; ⟨as, k.at e m, lns_mono k.tk q⟩
theorem Mk1.ext (M : Mk1 H l ll ro oo n lns outs) (k : Kp [] H H') : Mk1 H' l ll ro oo n lns outs := ⟨M.src.keep k nn, M.lin.keep k nn, M.rol.keep k nn, k.at0 M.out, M.nd⟩
theorem Mk1.srcd (M : Mk1 H l ll ro oo n lns outs) (k : Kp [l] H H') (s : SrcAt H' l) : Mk1 H' l ll ro oo n lns outs := by
  obtain ⟨a, b, c, d, e, f⟩ := nd4 M.nd
  exact ⟨s, M.lin.keep k (nin1 a.symm), M.rol.keep k (nin1 b.symm), k.at M.out (nin1 c.symm), M.nd⟩
theorem Mk1.lined (M : Mk1 H l ll ro oo n lns outs) (k : Kp [ll] H H') {lns' : List Ln} (s : LinesAt H' ll lns') : Mk1 H' l ll ro oo n lns' outs := by
  obtain ⟨a, b, c, d, e, f⟩ := nd4 M.nd
  exact ⟨M.src.keep k (nin1 a), s, M.rol.keep k (nin1 d.symm), k.at M.out (nin1 e.symm), M.nd⟩
theorem LinesAt.app (h : H ll = some (.lst (as.map V.ref))) (ha : All2 (LnAt H) as lns) (hp : LnAt H p ln) : LinesAt (upd H ll (.lst (as.map V.ref ++ [.ref p]))) ll (lns ++ [ln]) := by
  have t : TupK H (upd H ll (.lst (as.map V.ref ++ [.ref p]))) := tk_upd h
  exact ⟨as ++ [p], by rw [List.map_append]; exact upd_same, (lns_mono t ha).snoc (hp.mono t)⟩
theorem Mk1.app (M : Mk1 H l ll ro oo n lns outs) (h : H ll = some (.lst (as.map V.ref))) (ha : All2 (LnAt H) as lns) (hp : LnAt H p ln) : Mk1 (upd H ll (.lst (as.map V.ref ++ [.ref p]))) l ll ro oo n (lns ++ [ln]) outs :=
  M.lined (Kp.refl.put h (.inl in1)) (LinesAt.app h ha hp)
theorem Mk1.outApp (M : Mk1 H l ll ro oo n lns outs) (x : Int) : Mk1 (upd H oo (.lst (outs.map V.int ++ [.int x]))) l ll ro oo n lns (outs ++ [x]) := by
  obtain ⟨a, b, c, d, e, f⟩ := nd4 M.nd
  have k : Kp [oo] H (upd H oo (.lst (outs.map V.int ++ [.int x]))) := Kp.refl.put M.out (.inl in1)
  refine ⟨M.src.keep k (nin1 c), M.lin.keep k (nin1 e), M.rol.keep k (nin1 f), ?_, M.nd⟩
  show upd H oo _ oo = some (.lst ((outs ++ [x]).map V.int))
  rw [List.map_append]; exact upd_same
theorem OutsOk.app (h : OutsOk lns outs) : OutsOk (lns ++ [ln]) outs := fun o ho => by
  obtain ⟨h0, y, w, c, k, m, e⟩ := h o ho
  refine ⟨h0, y, w, c, k, m, ?_⟩
  rw [List.getElem?_append_left (List.getElem?_eq_some_iff.mp e).1]
  exact e
end
theorem flat_new {H : Hp} {p : Addr} {ln : Ln} (_ : H p = none) (a : isAsk ln = false) : LnAt (upd H p (.tup (lnB (.ref p) ln))) p ln := LnAt.flat upd_same a
theorem L3 {l ll oo q : Addr} (h : q = l ∨ q = ll ∨ q = oo) : q ∈ [l, ll, oo] := by simpa using h
theorem sc_law_piece : FnScope ["_law_source_here", "_law_lines", "_law_names", "_law_rows", "_law_roles", "_law_outs", "_law_head", "_law_cell", "_law_i", "_law_at", "_law_w", "_law_c"] ["_law_source_here", "_law_lines", "_law_names", "_law_rows", "_law_roles", "_law_outs", "_law_head"] (defScope s_law_piece) := ⟨rfl, rfl, rfl, by decide +kernel, rfl, by decide +kernel, by decide +kernel⟩
theorem ok_law_piece {f : Addr} {fd : FuncData} (F : Fun K "_law_piece" "_law_piece" s_law_piece f fd) (T : Txt K mg C1 aP) (G_law_next : Fo P w K mg base 1 "_law_next" ["_law_source_here", "_law_many"] spNext) (G_law_number : Fo P w K mg base 1 "_law_number" ["_law_cell"] spNumber)
    (G_law_straight : Fo P w K mg base 2 "_law_straight" ["_law_source_here", "_law_at", "_law_names", "_law_rows", "_law_roles"] spStraight) : FnOk P w K mg base CX0 3 f fd ["_law_source_here", "_law_lines", "_law_names", "_law_rows", "_law_roles", "_law_outs", "_law_head"] spPiece := by
  refine F.ok sc_law_piece (fun vs H Q E h => ?_) (fun cdv Ar outer sh H vs Q E hr h => ?_)
  · obtain ⟨l, ll, ro, oo, n, r, head, lns, outs, rfl, _⟩ := h
    rfl
  · obtain ⟨l, ll, ro, oo, n, r, head, lns, outs, rfl, M0, hh, L500, O500, k⟩ := h
    refine ⟨_, (pss_cons
    (ps_set (i := 7) sc_law_piece.nd rfl (Or.inl rfl) (pe_fo G_law_next (hr.mono (by decide)) rfl (pa_cons (pv 0) (pa_cons (pe_op op_pow pe_int pe_int) pa_nil))))
    (pss_cons
    (ps_set (i := 8) sc_law_piece.nd rfl (Or.inl rfl) (pe_ix ix_list (pv 4) pe_int (fun _ _ => rfl)))
    (pss_cons
    (ps_set (i := 9) sc_law_piece.nd rfl (Or.inl rfl) (pe_callB call_len_seq (by rfl) T.b_len (by decide +kernel) (pa_cons (pv 1) pa_nil)))
    (C8.pss_cut
    (ps_if (pt_cmpR op_eq (pe_op op_mod (pv 7) pe_int) pe_int (nomark _))
      (pss_one
      (ps_expr (pe_bm PySem.F.plainAttrs_list PySem.F.slot_list_append PySem.F.type_list_append mt_append (pv 1) (pa_cons (pe_tup (pa_cons pe_str (pa_cons (pe_ix ix_list (pe_lst (pa_cons pe_non (pa_cons (pe_ix ix_list (pv 4) (pe_un un_neg pe_int) (fun _ _ => rfl)) pa_nil))) (pe_op op_mod (pe_op op_fdiv (pv 7) pe_int) pe_int) (fun _ _ => rfl)) (pa_cons (pe_ix ix_list (pv 4) pe_int (fun _ _ => rfl)) (pa_cons (pe_op op_sub (pe_op op_mod (pe_op op_fdiv (pv 7) pe_int) pe_int) pe_int) (pa_cons (pe_op op_add (pv 9) pe_int) (pa_cons (pv 6) pa_nil))))))) pa_nil))))
      pss_nil)
    (pss_cons
    (ps_set (i := 9) sc_law_piece.nd rfl (Or.inl rfl) (pe_callB call_len_seq (by rfl) T.b_len (by decide +kernel) (pa_cons (pv 1) pa_nil)))
    (C8.pss_cut
    (ps_if (pt_cmpR op_eq (pe_op op_mod (pe_op op_fdiv (pv 7) pe_int) pe_int) pe_int (nomark _))
      (pss_cons
      (ps_set (i := 10) sc_law_piece.nd rfl (Or.inl rfl) (pe_ix ix_list (pe_lst (pa_cons pe_non (pa_cons (pe_ix ix_list (pv 4) pe_int (fun _ _ => rfl)) pa_nil))) (pe_op op_mod (pe_op op_fdiv (pv 7) pe_int) pe_int) (fun _ _ => rfl)))
      (pss_cons
      (ps_set (i := 11) sc_law_piece.nd rfl (Or.inl rfl) (pe_fo G_law_number (hr.mono (by decide)) rfl (pa_cons (pe_op op_fdiv (pv 7) pe_int) pa_nil)))
      (pss_cons
      (ps_expr (pe_bm PySem.F.plainAttrs_list PySem.F.slot_list_append PySem.F.type_list_append mt_append (pv 1) (pa_cons (pe_tup (pa_cons pe_str (pa_cons (pv 8) (pa_cons (pv 10) (pa_cons (pv 11) (pa_cons (pe_op op_add (pv 9) pe_int) (pa_cons (pe_op op_add (pv 9) pe_int) pa_nil))))))) pa_nil)))
      (pss_cons
      (ps_expr (pe_bm PySem.F.plainAttrs_list PySem.F.slot_list_append PySem.F.type_list_append mt_append (pv 1) (pa_cons (pe_tup (pa_cons pe_str (pa_cons (pv 10) (pa_cons (pv 8) (pa_cons (pe_callB (call_max2 rfl) (by rfl) T.b_max (by decide +kernel) (pa_cons (pe_un un_neg pe_int) (pa_cons (pe_op op_sub (pe_op op_sub (pe_op op_mod (pe_op op_fdiv (pv 7) pe_int) pe_int) pe_int) (pv 11)) pa_nil))) (pa_cons pe_int (pa_cons (pe_op op_add (pv 9) pe_int) pa_nil))))))) pa_nil)))
      (pss_one
      (ps_expr (pe_bm PySem.F.plainAttrs_list PySem.F.slot_list_append PySem.F.type_list_append mt_append (pv 5) (pa_cons (pe_op op_add (pv 9) pe_int) pa_nil))))))))
      pss_nil)
    (pss_cons
    (ps_set (i := 9) sc_law_piece.nd rfl (Or.inl rfl) (pe_callB call_len_seq (by rfl) T.b_len (by decide +kernel) (pa_cons (pv 1) pa_nil)))
    (C8.pss_cut
    (ps_if (pt_cmpR op_eq (pe_op op_mod (pe_op op_fdiv (pv 7) pe_int) pe_int) pe_int (nomark _))
      (pss_cons
      (ps_set (i := 10) sc_law_piece.nd rfl (Or.inl rfl) (pe_ix ix_list (pe_lst (pa_cons pe_non (pa_cons (pe_ix ix_list (pv 4) pe_int (fun _ _ => rfl)) (pa_cons (pe_ix ix_list (pv 4) (pe_un un_neg pe_int) (fun _ _ => rfl)) pa_nil)))) (pe_op op_mod (pe_op op_fdiv (pv 7) pe_int) pe_int) (fun _ _ => rfl)))
      (pss_one
      (ps_expr (pe_bm PySem.F.plainAttrs_list PySem.F.slot_list_append PySem.F.type_list_append mt_append (pv 1) (pa_cons (pe_tup (pa_cons pe_str (pa_cons (pv 10) (pa_cons (pv 8) (pa_cons (pe_op op_sub (pe_op op_mod (pe_op op_fdiv (pv 7) pe_int) pe_int) pe_int) (pa_cons (pe_op op_add (pv 9) pe_int) (pa_cons (pe_op op_add (pv 9) pe_int) pa_nil))))))) pa_nil)))))
      pss_nil)
    (pss_one
    (ps_expr (pe_bm PySem.F.plainAttrs_list PySem.F.slot_list_append PySem.F.type_list_append mt_append (pv 1) (pa_cons (pe_fo G_law_straight (hr.mono (by decide)) rfl (pa_cons (pv 0) (pa_cons (pe_callB call_len_seq (by rfl) T.b_len (by decide +kernel) (pa_cons (pv 1) pa_nil)) (pa_cons (pv 2) (pa_cons (pv 3) (pa_cons (pv 4) pa_nil)))))) pa_nil)))))))))))), ?_⟩
    have n3 := M0.n3
    have r1 := M0.r1
    have big : ∀ {m : Nat}, m ≤ 1000 → m < sizeLine := fun {m} h => by have : sizeLine = 16777216 := sizeLine_eq; omega
    refine ⟨_, rfl, _, _, rfl, rfl, ⟨by decide, by decide, by decide⟩, l, _, rfl, M0.m.src, (by decide), fun v H1 v0 v1 k1 hs1 => ?_⟩
    have M1 := M0.m.srcd k1 hs1
    have kk1 : Kp [l, ll, oo] H H1 := k1.mono fun q hq => L3 (.inl (List.mem_singleton.mp hq))
    obtain ⟨xs, x0, x1, xl, hx, e0, e1, el, in0, in1', inl⟩ := roles_all M1.rol n3
    refine ⟨_, rfl, _, _, _, _, rfl, rfl, SqL.of hx, e0, ?_⟩
    obtain ⟨as1, hll1, hal1⟩ := M1.lin
    refine ⟨_, rfl, _, _, rfl, .inl (SqL.of hll1), ?_⟩
    rw [List.length_map, hal1.len]
    -- what holds between the parts
    have mid : ∀ G, Kp [l, ll, oo] H G → ∀ lns', Mk1 G l ll ro oo n lns' outs → True := fun _ _ _ _ => True.intro
    refine ⟨fun σ' G => ∃ lns' v9, σ' = [some (.ref l), some (.ref ll), some (.int n), some (.int r), some (.ref ro), some (.ref oo), some (.int head), some (.int v), some (.int x0), v9, none, none] ∧ Mk1 G l ll ro oo n lns' outs ∧ Kp [l, ll, oo] H G ∧ Gen n r (lns'.length : Int) (lns'.length : Int) lns' ∧ OutsOk lns' outs ∧ lns.length ≤ lns'.length ∧ lns'.length ≤ lns.length + 1, ?_, ?_⟩
    · refine ⟨_, rfl, _, _, rfl, rfl, (by show (0 : Int) < _; decide), rfl, _, rfl, if2 (fun h => ?_) fun h => ?_⟩
      · refine ⟨_, rfl, .inl ⟨rfl, _, SqL.of hll1⟩, ?_⟩
        refine ⟨_, rfl, _, rfl, _, _, _, .int xl, rfl, rfl, SqL.of hx, el, (by show 2 ≤ sizeLine; decide), fun q nq => ?_⟩
        have kq := (Kp.refl (F := []) (H := H1)).new (o := .lst [.non, .int xl]) nq
        obtain ⟨y, ey, hy⟩ : ∃ y, atI [V.non, .int xl] (v / 8 % 2) = some (oV y) ∧ InO y n := by
          have hc : v / 8 % 2 = 0 ∨ v / 8 % 2 = 1 := by omega
          rcases hc with e | e <;> rw [e]
          · exact ⟨none, rfl, InO.none⟩
          · exact ⟨some xl, rfl, InO.some inl⟩
        refine ⟨_, rfl, _, _, rfl, rfl, ⟨by decide, by decide⟩, _, _, rfl, rfl, (by show (0 : Int) < _; decide), _, _, _, oV y, rfl, rfl, SqL.of upd_same, ey, ?_⟩
        refine ⟨_, rfl, _, _, _, _, rfl, rfl, SqL.of (kq.at0 hx), e1, _, rfl, _, _, rfl, rfl, ⟨by decide, by decide⟩, _, _, rfl, rfl, (by show (0 : Int) < _; decide), _, _, rfl, rfl, _, rfl, _, _, rfl, rfl, _, rfl, (by show 6 ≤ sizeLine; decide), fun p np => ?_⟩
        have kp := kq.new (o := .tup (lnB (.ref p) (.test y (some x1) (v / 16 % 5 - 2) ((lns.length : Int) + 1) head))) np
        refine ⟨ll, _, _, rfl, rfl, kp.at0 hll1, big (by rw [List.length_map, hal1.len]; omega), ?_⟩
        have hln := flat_new (ln := .test y (some x1) (v / 16 % 5 - 2) ((lns.length : Int) + 1) head) np rfl
        refine ⟨lns ++ [.test y (some x1) (v / 16 % 5 - 2) ((lns.length : Int) + 1) head], _, rfl, (M1.ext kp).app (kp.at0 hll1) (lns_mono kp.tk hal1) hln, ((kk1.ext kp).put (kp.at0 hll1) (.inl (L3 (.inr (.inl rfl))))), ?_, M0.outs.app, ?_, ?_⟩
        · have g := M0.gen.app (ln := .test y (some x1) (v / 16 % 5 - 2) ((lns.length : Int) + 1) head) (B' := (lns.length : Int) + 1) ⟨hy, InO.some in1'⟩ rfl (fun t ht => by
            rcases List.mem_cons.mp ht with e | e
            · rw [e]; omega
            · rw [List.mem_singleton.mp e]; have := hh.1; have := hh.2; omega) (by omega)
          refine g.up ?_ ?_ <;> (rw [List.length_append, List.length_singleton]; omega)
        · rw [List.length_append]; omega
        · rw [List.length_append, List.length_singleton]; omega
      · exact ⟨lns, _, rfl, M1, kk1, M0.gen, M0.outs, Nat.le_refl _, Nat.le_succ _⟩
    · rintro σ' G ⟨lns1, v9, rfl, M2, kk2, g2, o2, b1, b2⟩
      clear hal1 hll1 M1 hs1 k1 kk1
      obtain ⟨as2, hll2, hal2⟩ := M2.lin
      obtain ⟨xs, x0', x1, xl, hx, e0', e1, el, _, in1', inl⟩ := roles_all M2.rol n3
      refine ⟨_, rfl, _, _, rfl, .inl (SqL.of hll2), ?_⟩
      rw [List.length_map, hal2.len]
      refine ⟨fun σ' G' => ∃ lns' outs' v9 v10 v11, σ' = [some (.ref l), some (.ref ll), some (.int n), some (.int r), some (.ref ro), some (.ref oo), some (.int head), some (.int v), some (.int x0), v9, v10, v11] ∧ Mk1 G' l ll ro oo n lns' outs' ∧ Kp [l, ll, oo] H G' ∧ Gen n r (lns'.length : Int) (lns'.length : Int) lns' ∧ OutsOk lns' outs' ∧ lns.length ≤ lns'.length ∧ lns'.length ≤ lns.length + 3 ∧ outs'.length ≤ outs.length + 1, ?_, ?_⟩
      · refine ⟨_, rfl, _, _, rfl, rfl, ⟨by decide, by decide⟩, _, _, rfl, rfl, (by show (0 : Int) < _; decide), rfl, _, rfl, if2 (fun h => ?_) fun h => ?_⟩
        · refine ⟨_, rfl, _, _, _, _, rfl, rfl, SqL.of hx, e1, (by show 2 ≤ sizeLine; decide), fun q nq => ?_⟩
          have kq := (Kp.refl (F := []) (H := G)).new (o := .lst [.non, .int x1]) nq
          obtain ⟨y, ey, hy⟩ : ∃ y, atI [V.non, .int x1] (v / 480 % 2) = some (oV y) ∧ InO y n := by
            have hc : v / 480 % 2 = 0 ∨ v / 480 % 2 = 1 := by omega
            rcases hc with e | e <;> rw [e]
            · exact ⟨none, rfl, InO.none⟩
            · exact ⟨some x1, rfl, InO.some in1'⟩
          refine ⟨_, rfl, _, _, rfl, rfl, ⟨by decide, by decide⟩, _, _, rfl, rfl, (by show (0 : Int) < _; decide), _, _, _, oV y, rfl, rfl, SqL.of upd_same, ey, ?_⟩
          refine ⟨_, rfl, _, _, rfl, rfl, ⟨by decide, by decide⟩, _, rfl, fun cn G3 k3 => ?_⟩
          have k23 : Kp [] G G3 := kq.ext k3
          have M3 := M2.ext k23
          have kk3 := kk2.ext k23
          have hll3 := k23.at0 hll2
          have hal3 := lns_mono k23.tk hal2
          clear k3 kq nq
          -- the first test
          refine ⟨_, rfl, .inl ⟨rfl, _, SqL.of hll3⟩, ?_⟩
          refine ⟨_, rfl, _, rfl, _, rfl, _, rfl, _, _, rfl, rfl, _, rfl, _, _, rfl, rfl, (by show 6 ≤ sizeLine; decide), fun p np => ?_⟩
          have kp := (Kp.refl (F := []) (H := G3)).new (o := .tup (lnB (.ref p) (.test (some x0) y cn ((lns1.length : Int) + 1) ((lns1.length : Int) + 2)))) np
          refine ⟨ll, _, _, rfl, rfl, kp.at0 hll3, big (by rw [List.length_map, hal3.len]; omega), ?_⟩
          have hln := flat_new (ln := .test (some x0) y cn ((lns1.length : Int) + 1) ((lns1.length : Int) + 2)) np rfl
          have M4 := (M3.ext kp).app (kp.at0 hll3) (lns_mono kp.tk hal3) hln
          have kk4 : Kp [l, ll, oo] H _ := (kk3.ext kp).put (o' := .lst (as2.map V.ref ++ [.ref p])) (kp.at0 hll3) (.inl (L3 (.inr (.inl rfl))))
          have g4 := g2.app (ln := .test (some x0) y cn ((lns1.length : Int) + 1) ((lns1.length : Int) + 2)) (B' := (lns1.length : Int) + 2) ⟨InO.some in0, hy⟩ rfl (fun t ht => by
            rcases List.mem_cons.mp ht with e | e
            · rw [e]; omega
            · rw [List.mem_singleton.mp e]; omega) (by omega)
          have o4 := o2.app (ln := .test (some x0) y cn ((lns1.length : Int) + 1) ((lns1.length : Int) + 2))
          have hll4 : upd (upd G3 p (.tup (lnB (.ref p) (.test (some x0) y cn ((lns1.length : Int) + 1) ((lns1.length : Int) + 2))))) ll (.lst (as2.map V.ref ++ [.ref p])) ll = some (.lst ((as2 ++ [p]).map V.ref)) := by rw [List.map_append]; exact upd_same
          have hal4 : All2 (LnAt (upd (upd G3 p (.tup (lnB (.ref p) (.test (some x0) y cn ((lns1.length : Int) + 1) ((lns1.length : Int) + 2))))) ll (.lst (as2.map V.ref ++ [.ref p])))) (as2 ++ [p]) (lns1 ++ [.test (some x0) y cn ((lns1.length : Int) + 1) ((lns1.length : Int) + 2)]) := by
            have t := tk_upd (o' := .lst (as2.map V.ref ++ [.ref p])) (kp.at0 hll3)
            exact (lns_mono t (lns_mono kp.tk hal3)).snoc (hln.mono t)
          have hG4 : upd (upd G3 p (.tup (lnB (.ref p) (.test (some x0) y cn ((lns1.length : Int) + 1) ((lns1.length : Int) + 2))))) ll (.lst (as2.map V.ref ++ [.ref p])) = upd (upd G3 p (.tup [.str "test", .int x0, oV y, .int cn, .int ((lns1.length : Int) + 1), .int ((lns1.length : Int) + 2)])) ll (.lst (as2.map V.ref ++ [.ref p])) := rfl
          rw [hG4] at M4 kk4 hll4 hal4
          clear hln kp hG4
          generalize upd (upd G3 p (.tup [.str "test", .int x0, oV y, .int cn, .int ((lns1.length : Int) + 1), .int ((lns1.length : Int) + 2)])) ll (.lst (as2.map V.ref ++ [.ref p])) = G4 at M4 kk4 hll4 hal4 ⊢
          -- the second one
          refine ⟨_, rfl, .inl ⟨rfl, _, SqL.of hll4⟩, ?_⟩
          refine ⟨_, rfl, _, rfl, 1000, rfl, _, rfl, _, _, rfl, rfl, ⟨by decide, by decide⟩, _, _, rfl, rfl, (by show (0 : Int) < _; decide), _, _, rfl, rfl, _, rfl, _, _, rfl, rfl, _, _, rfl, _, rfl, _, _, rfl, rfl, (by show 6 ≤ sizeLine; decide), fun p2 np2 => ?_⟩
          obtain ⟨mx, hmx⟩ : ∃ mx : Int, mx = (if v / 96 % 2 - 1 - cn > -1000 then v / 96 % 2 - 1 - cn else -1000) := ⟨_, rfl⟩
          have kp := (Kp.refl (F := []) (H := G4)).new (o := .tup (lnB (.ref p2) (.test y (some x0) mx 0 ((lns1.length : Int) + 2)))) np2
          rw [hmx] at kp
          refine ⟨ll, _, _, rfl, rfl, kp.at0 hll4, big (by rw [List.length_map, hal4.len, List.length_append, List.length_singleton]; omega), ?_⟩
          have hln := flat_new (ln := .test y (some x0) (if v / 96 % 2 - 1 - cn > -1000 then v / 96 % 2 - 1 - cn else -1000) 0 ((lns1.length : Int) + 2)) np2 rfl
          have M5 := (M4.ext kp).app (kp.at0 hll4) (lns_mono kp.tk hal4) hln
          have kk5 := (kk4.ext kp).put (o' := .lst ((as2 ++ [p]).map V.ref ++ [.ref p2])) (kp.at0 hll4) (.inl (L3 (.inr (.inl rfl))))
          have g5 := g4.app (ln := .test y (some x0) (if v / 96 % 2 - 1 - cn > -1000 then v / 96 % 2 - 1 - cn else -1000) 0 ((lns1.length : Int) + 2)) (B' := (lns1.length : Int) + 2) ⟨hy, InO.some in0⟩ rfl (fun t ht => by
            rcases List.mem_cons.mp ht with e | e
            · rw [e]; omega
            · rw [List.mem_singleton.mp e]; omega) (Int.le_refl _)
          have o5 := o4.app (ln := .test y (some x0) (if v / 96 % 2 - 1 - cn > -1000 then v / 96 % 2 - 1 - cn else -1000) 0 ((lns1.length : Int) + 2))
          -- outs.append
          have ho5 := M5.out
          refine ⟨_, rfl, .inl ⟨rfl, _, SqL.of ho5⟩, _, rfl, _, _, rfl, rfl, oo, _, _, rfl, rfl, ho5, big (by rw [List.length_map]; omega), ?_⟩
          refine ⟨_, outs ++ [(lns1.length : Int) + 1], _, _, _, rfl, M5.outApp _, kk5.put ho5 (.inl (L3 (.inr (.inr rfl)))), ?_, ?_, ?_, ?_, ?_⟩
          · refine g5.up ?_ ?_ <;> (rw [List.length_append, List.length_append, List.length_singleton]; show _ ≤ (((lns1.length + 1) + 1 : Nat) : Int); omega)
          · intro o ho
            rcases mem_snoc ho with e | e
            · exact o5 o e
            · rw [e]
              refine ⟨by omega, y, some x0, (if v / 96 % 2 - 1 - cn > -1000 then v / 96 % 2 - 1 - cn else -1000), 0, (lns1.length : Int) + 2, ?_⟩
              rw [List.getElem?_append_right (by rw [List.length_append, List.length_singleton]; omega)]
              have : ((lns1.length : Int) + 1).toNat - (lns1 ++ [Ln.test (some x0) y cn ((lns1.length : Int) + 1) ((lns1.length : Int) + 2)]).length = 0 := by rw [List.length_append, List.length_singleton]; omega
              rw [this]; rfl
          · rw [List.length_append, List.length_append]; omega
          · rw [List.length_append, List.length_append, List.length_singleton, List.length_singleton]; omega
          · rw [List.length_append, List.length_singleton]; exact Nat.le_refl _
        · exact ⟨lns1, outs, _, _, _, rfl, M2, kk2, g2, o2, b1, by omega, by omega⟩
      · rintro σ' G5 ⟨lns2, outs2, v9', v10, v11, rfl, M5, kk5, g5, o5, b3, b4, b5⟩
        clear hal2 hll2 M2 kk2 g2 o2 hx
        obtain ⟨as5, hll5, hal5⟩ := M5.lin
        obtain ⟨xs, x0', x1, xl, hx, e0', e1, el, _, in1', inl⟩ := roles_all M5.rol n3
        refine ⟨_, rfl, _, _, rfl, .inl (SqL.of hll5), ?_⟩
        rw [List.length_map, hal5.len]
        refine ⟨fun σ' G' => ∃ lns' v9 v10 v11, σ' = [some (.ref l), some (.ref ll), some (.int n), some (.int r), some (.ref ro), some (.ref oo), some (.int head), some (.int v), some (.int x0), v9, v10, v11] ∧ Mk1 G' l ll ro oo n lns' outs2 ∧ Kp [l, ll, oo] H G' ∧ Gen n r (lns'.length : Int) ((lns'.length : Int) + 1) lns' ∧ OutsOk lns' outs2 ∧ lns.length ≤ lns'.length ∧ lns'.length ≤ lns.length + 4, ?_, ?_⟩
        · refine ⟨_, rfl, _, _, rfl, rfl, ⟨by decide, by decide⟩, _, _, rfl, rfl, (by show (0 : Int) < _; decide), rfl, _, rfl, if2 (fun h => ?_) fun h => ?_⟩
          · refine ⟨_, rfl, _, _, _, _, rfl, rfl, SqL.of hx, e1, _, rfl, 1, rfl, _, _, _, .int xl, rfl, rfl, SqL.of hx, el, (by show 3 ≤ sizeLine; decide), fun q nq => ?_⟩
            have kq := (Kp.refl (F := []) (H := G5)).new (o := .lst [.non, .int x1, .int xl]) nq
            obtain ⟨y, ey, hy⟩ : ∃ y, atI [V.non, .int x1, .int xl] (v / 2560 % 3) = some (oV y) ∧ InO y n := by
              have hc : v / 2560 % 3 = 0 ∨ v / 2560 % 3 = 1 ∨ v / 2560 % 3 = 2 := by omega
              rcases hc with e | e | e <;> rw [e]
              · exact ⟨none, rfl, InO.none⟩
              · exact ⟨some x1, rfl, InO.some in1'⟩
              · exact ⟨some xl, rfl, InO.some inl⟩
            refine ⟨_, rfl, _, _, rfl, rfl, ⟨by decide, by decide⟩, _, _, rfl, rfl, (by show (0 : Int) < _; decide), _, _, _, oV y, rfl, rfl, SqL.of upd_same, ey, ?_⟩
            have hll6 := kq.at0 hll5
            have hal6 := lns_mono kq.tk hal5
            have M6 := M5.ext kq
            refine ⟨_, rfl, .inl ⟨rfl, _, SqL.of hll6⟩, ?_⟩
            refine ⟨_, rfl, _, rfl, _, rfl, _, _, rfl, rfl, ⟨by decide, by decide⟩, _, _, rfl, rfl, (by show (0 : Int) < _; decide), _, _, rfl, rfl, _, rfl, _, _, rfl, rfl, _, rfl, _, _, rfl, rfl, (by show 6 ≤ sizeLine; decide), fun p np => ?_⟩
            have kp := (Kp.refl (F := []) (H := upd G5 q (.lst [.non, .int x1, .int xl]))).new (o := .tup (lnB (.ref p) (.test y (some x0) (v / 7680 % 3 - 1) ((lns2.length : Int) + 1) ((lns2.length : Int) + 2)))) np
            refine ⟨ll, _, _, rfl, rfl, kp.at0 hll6, big (by rw [List.length_map, hal6.len]; omega), ?_⟩
            have hln := flat_new (ln := .test y (some x0) (v / 7680 % 3 - 1) ((lns2.length : Int) + 1) ((lns2.length : Int) + 2)) np rfl
            refine ⟨_, _, _, _, rfl, (M6.ext kp).app (kp.at0 hll6) (lns_mono kp.tk hal6) hln, (((kk5.ext kq).ext kp).put (kp.at0 hll6) (.inl (L3 (.inr (.inl rfl))))), ?_, o5.app, ?_, ?_⟩
            · have g := g5.app (ln := .test y (some x0) (v / 7680 % 3 - 1) ((lns2.length : Int) + 1) ((lns2.length : Int) + 2)) (B' := (lns2.length : Int) + 2) ⟨hy, InO.some in0⟩ rfl (fun t ht => by
                rcases List.mem_cons.mp ht with e | e
                · rw [e]; omega
                · rw [List.mem_singleton.mp e]; omega) (by omega)
              refine g.up ?_ ?_ <;> (rw [List.length_append, List.length_singleton]; omega)
            · rw [List.length_append]; omega
            · rw [List.length_append, List.length_singleton]; omega
          · exact ⟨lns2, _, _, _, rfl, M5, kk5, g5.up (Int.le_refl _) (by omega), o5, b3, by omega⟩
        · rintro σ' G7 ⟨lns3, v9', v10, v11, rfl, M7, kk7, g7, o7, b6, b7⟩
          clear hal5 hll5 M5 kk5 g5 o5 hx
          obtain ⟨as7, hll7, hal7⟩ := M7.lin
          refine ⟨_, rfl, .inl ⟨rfl, _, SqL.of hll7⟩, ?_⟩
          refine ⟨_, rfl, _, rfl, _, _, rfl, .inl (SqL.of hll7), _, rfl, _, rfl, _, rfl, ?_⟩
          rw [List.length_map, hal7.len]
          refine ⟨l, _, n, r, ro, rfl, M7.src, M7.rol, (nd4 M7.nd).2.1, n3, r1, fun p ln G8 k8 hs8 hln hf ha ht => ?_⟩
          have M8 := M7.srcd k8 hs8
          have nl := nd4 M7.nd
          have hll8 := k8.at hll7 (nin1 nl.1.symm)
          have hal8 := lns_mono k8.tk hal7
          refine ⟨ll, _, _, rfl, rfl, hll8, big (by rw [List.length_map, hal8.len]; omega), ?_⟩
          have g := g7.app (ln := ln) (B' := (lns3.length : Int) + 1) hf ha (fun t h => by
            rw [ht] at h
            rw [List.mem_singleton.mp h]; omega) (Int.le_refl _)
          have kk8 : Kp [l, ll, oo] H G8 := kk7.trans (k8.mono fun q hq => L3 (.inl (List.mem_singleton.mp hq)))
          refine k (lns3 ++ [ln]) outs2 _ (kk8.put hll8 (.inl (L3 (.inr (.inl rfl))))) ⟨M8.app hll8 hal8 hln, n3, r1, ?_, o7.app⟩ ?_ ?_ b5
          · refine g.up ?_ ?_ <;> (rw [List.length_append, List.length_singleton]; omega)
          · rw [List.length_append, List.length_singleton]; omega
          · rw [List.length_append, List.length_singleton]; omega
end
end Lk
namespace Lk
open PySem L2
section
variable {P : Program} {w : World} {K : PySem.W.Frag} {mg : Str → Option Value} {base : Heap} {C1 aP : Addr}
section
variable {H H' : Hp} {l ll ro oo p : Addr} {n r A B B' : Int} {lns : List Ln} {outs : List Int} {ln : Ln} {as bs : List Addr}
theorem Gen.extend {n r A B' : Int} : ∀ {ms lns : List Ln} {B : Int}, Gen n r A B lns → (∀ ln ∈ ms, Fld n r ln ∧ isAsk ln = false ∧ ∀ t ∈ tg ln, 0 ≤ t ∧ t ≤ B') → B ≤ B' → Gen n r A B' (lns ++ ms)
  | [], lns, B, g, _, hb => by rw [List.append_nil]; exact g.up (Int.le_refl _) hb
  | x :: ms, lns, B, g, h, hb => by
    have hx := h x List.mem_cons_self
    have g1 := g.app hx.1 hx.2.1 hx.2.2 hb
    have e : lns ++ x :: ms = (lns ++ [x]) ++ ms := by rw [List.append_assoc]; rfl
    rw [e]
    exact Gen.extend g1 (fun y hy => h y (List.mem_cons_of_mem _ hy)) (Int.le_refl _)
theorem LinesAt.ext2 {ms : List Ln} (h : H ll = some (.lst (as.map V.ref))) (ha : All2 (LnAt H) as lns) (hb : All2 (LnAt H) bs ms) : LinesAt (upd H ll (.lst (as.map V.ref ++ bs.map V.ref))) ll (lns ++ ms) := by
  have t : TupK H (upd H ll (.lst (as.map V.ref ++ bs.map V.ref))) := tk_upd h
  exact ⟨as ++ bs, by rw [List.map_append]; exact upd_same, (lns_mono t ha).app (lns_mono t hb)⟩
theorem LinesAt.set (h : H ll = some (.lst (as.map V.ref))) (ha : All2 (LnAt H) as lns) (hp : LnAt H p ln) (j : Nat) : LinesAt (upd H ll (.lst ((as.map V.ref).set j (.ref p)))) ll (lns.set j ln) := by
  have t : TupK H (upd H ll (.lst ((as.map V.ref).set j (.ref p)))) := tk_upd h
  exact ⟨as.set j p, by rw [List.map_set]; exact upd_same, (lns_mono t ha).set j (hp.mono t)⟩
theorem OutsOk.more {ms : List Ln} (h : OutsOk lns outs) : OutsOk (lns ++ ms) outs := fun o ho => by
  obtain ⟨h0, y, w, c, k, m, e⟩ := h o ho
  refine ⟨h0, y, w, c, k, m, ?_⟩
  rw [List.getElem?_append_left (List.getElem?_eq_some_iff.mp e).1]
  exact e
theorem OutsOk.set (h : OutsOk lns outs) (j : Nat) {y w : Option Int} {c k m : Int} : OutsOk (lns.set j (.test y w c k m)) outs := fun o ho => by
  obtain ⟨h0, y', w', c', k', m', e⟩ := h o ho
  by_cases hj : j = o.toNat
  · subst hj
    exact ⟨h0, y, w, c, k, m, by rw [List.getElem?_set_self (List.getElem?_eq_some_iff.mp e).1]⟩
  · exact ⟨h0, y', w', c', k', m', by rw [List.getElem?_set_ne hj]; exact e⟩
theorem Mk0.m' {r : Int} (M : Mk0 H l ll ro oo n r lns outs) : Mk1 H l ll ro oo n lns outs := M.m
end
theorem sc_law_loop : FnScope ["_law_source_here", "_law_lines", "_law_names", "_law_rows", "_law_roles", "_law_outs", "_law_cell", "_law_i", "_law_at", "_law_late", "_law_test", "_law_k", "_law_step"] ["_law_source_here", "_law_lines", "_law_names", "_law_rows", "_law_roles", "_law_outs"] (defScope s_law_loop) := ⟨rfl, rfl, rfl, by decide +kernel, rfl, by decide +kernel, by decide +kernel⟩
theorem ok_law_loop {f : Addr} {fd : FuncData} (F : Fun K "_law_loop" "_law_loop" s_law_loop f fd) (T : Txt K mg C1 aP) (G_law_next : Fo P w K mg base 1 "_law_next" ["_law_source_here", "_law_many"] spNext)
    (G_law_limit : Fo P w K mg base 1 "_law_limit" ["_law_cell", "_law_at", "_law_rows", "_law_roles"] spLimit) (G_law_ahead : Fo P w K mg base 1 "_law_ahead" ["_law_cell", "_law_at", "_law_roles"] spAhead)
    (G_law_straight : Fo P w K mg base 2 "_law_straight" ["_law_source_here", "_law_at", "_law_names", "_law_rows", "_law_roles"] spStraight)
    (G_law_piece : Fo P w K mg base 3 "_law_piece" ["_law_source_here", "_law_lines", "_law_names", "_law_rows", "_law_roles", "_law_outs", "_law_head"] spPiece) : FnOk P w K mg base CX0 4 f fd ["_law_source_here", "_law_lines", "_law_names", "_law_rows", "_law_roles", "_law_outs"] spLoop := by
  refine F.ok sc_law_loop (fun vs H Q E h => ?_) (fun cdv Ar outer sh H vs Q E hr h => ?_)
  · obtain ⟨l, ll, ro, oo, n, r, lns, outs, rfl, _⟩ := h
    rfl
  · obtain ⟨l, ll, ro, oo, n, r, lns, outs, rfl, M0, L100, O100, k⟩ := h
    refine ⟨_, (pss_cons
    (ps_set (i := 6) sc_law_loop.nd rfl (Or.inl rfl) (pe_fo G_law_next (hr.mono (by decide)) rfl (pa_cons (pv 0) (pa_cons (pe_op op_pow pe_int pe_int) pa_nil))))
    (pss_cons
    (ps_set (i := 7) sc_law_loop.nd rfl (Or.inl rfl) (pe_ix ix_list (pv 4) pe_int (fun _ _ => rfl)))
    (pss_cons
    (ps_expr (pe_bm PySem.F.plainAttrs_list PySem.F.slot_list_extend PySem.F.type_list_extend mt_extend (pv 1) (pa_cons (pe_fo G_law_limit (hr.mono (by decide)) rfl (pa_cons (pe_op op_fdiv (pv 6) pe_int) (pa_cons (pe_callB call_len_seq (by rfl) T.b_len (by decide +kernel) (pa_cons (pv 1) pa_nil)) (pa_cons (pv 3) (pa_cons (pv 4) pa_nil))))) pa_nil)))
    (C8.pss_cut
    (ps_if (pt_cmpR op_eq (pe_fo G_law_next (hr.mono (by decide)) rfl (pa_cons (pv 0) (pa_cons pe_int pa_nil))) pe_int (nomark _))
      (pss_one
      (ps_expr (pe_bm PySem.F.plainAttrs_list PySem.F.slot_list_append PySem.F.type_list_append mt_append (pv 1) (pa_cons (pe_fo G_law_ahead (hr.mono (by decide)) rfl (pa_cons (pe_op op_fdiv (pv 6) pe_int) (pa_cons (pe_callB call_len_seq (by rfl) T.b_len (by decide +kernel) (pa_cons (pv 1) pa_nil)) (pa_cons (pv 4) pa_nil)))) pa_nil))))
      pss_nil)
    (pss_cons
    (ps_set (i := 8) sc_law_loop.nd rfl (Or.inl rfl) (pe_callB call_len_seq (by rfl) T.b_len (by decide +kernel) (pa_cons (pv 1) pa_nil)))
    (pss_cons
    (ps_set (i := 9) sc_law_loop.nd rfl (Or.inl rfl) (pe_cmpR op_eq (pe_fo G_law_next (hr.mono (by decide)) rfl (pa_cons (pv 0) (pa_cons pe_int pa_nil))) pe_int (nomark _)))
    (C8.pss_cut
    (ps_if (pt_cmpR op_gt (pe_op op_mod (pv 6) pe_int) pe_int (nomark _))
      (pss_cons
      (ps_expr (pe_bm PySem.F.plainAttrs_list PySem.F.slot_list_append PySem.F.type_list_append mt_append (pv 1) (pa_cons (pe_tup (pa_cons pe_str (pa_cons (pv 7) (pa_cons pe_non (pa_cons (pe_op op_sub (pe_op op_mod (pe_op op_fdiv (pv 6) pe_int) pe_int) pe_int) (pa_cons (pe_op op_add (pv 8) pe_int) pa_nil)))))) pa_nil)))
      (pss_one
      (ps_set (i := 10) sc_law_loop.nd rfl (Or.inl rfl) (pe_tup (pa_cons pe_str (pa_cons (pv 7) (pa_cons (pe_ix ix_list (pv 4) pe_int (fun _ _ => rfl)) (pa_cons (pe_op op_sub (pe_op op_mod (pe_op op_fdiv (pv 6) pe_int) pe_int) pe_int) pa_nil))))))))
      (pss_cons
      (ps_expr (pe_bm PySem.F.plainAttrs_list PySem.F.slot_list_append PySem.F.type_list_append mt_append (pv 1) (pa_cons (pe_tup (pa_cons pe_str (pa_cons (pv 7) (pa_cons (pe_ix ix_list (pv 4) pe_int (fun _ _ => rfl)) (pa_cons (pe_un un_neg pe_int) (pa_cons (pe_op op_add (pv 8) pe_int) pa_nil)))))) pa_nil)))
      (pss_one
      (ps_set (i := 10) sc_law_loop.nd rfl (Or.inl rfl) (pe_tup (pa_cons pe_str (pa_cons pe_non (pa_cons (pv 7) (pa_cons (pe_op op_fdiv (pe_op op_mod (pe_op op_fdiv (pv 6) pe_int) pe_int) pe_int) pa_nil)))))))))
    (pss_cons
    (ps_expr (pe_bm PySem.F.plainAttrs_list PySem.F.slot_list_append PySem.F.type_list_append mt_append (pv 1) (pa_cons (pe_fo G_law_straight (hr.mono (by decide)) rfl (pa_cons (pv 0) (pa_cons (pe_op op_add (pv 8) pe_int) (pa_cons (pv 2) (pa_cons (pv 3) (pa_cons (pv 4) pa_nil)))))) pa_nil)))
    (C8.pss_cut
    (ps_for PassesOwn.never rfl (pi_range1 rfl T.b_range (pa_cons (pe_op op_add pe_int (pe_op op_mod (pe_op op_fdiv (pv 6) pe_int) pe_int)) pa_nil)) (pg_name (i := 11) sc_law_loop.nd rfl (Or.inl rfl))
      (pss_one
      (ps_expr (pe_fo G_law_piece (hr.mono (by decide)) rfl (pa_cons (pv 0) (pa_cons (pv 1) (pa_cons (pv 2) (pa_cons (pv 3) (pa_cons (pv 4) (pa_cons (pv 5) (pa_cons (pe_op op_add (pv 8) pe_int) pa_nil)))))))))))
    (pss_cons
    (ps_set (i := 12) sc_law_loop.nd rfl (Or.inl rfl) (pe_ix ix_list (pe_lst (pa_cons (pe_op op_sub (pe_op op_sub pe_int pe_int) (pe_op op_mod (pe_op op_fdiv (pv 6) pe_int) pe_int)) (pa_cons (pe_op op_add pe_int (pe_op op_mod (pe_op op_fdiv (pv 6) pe_int) pe_int)) pa_nil))) (pe_callTy call_int1 (by rfl) T.b_int (by decide +kernel) (pa_cons (pe_cmpR op_gt (pe_op op_mod (pv 6) pe_int) pe_int (nomark _)) pa_nil)) (fun _ _ => rfl)))
    (pss_cons
    (ps_expr (pe_bm PySem.F.plainAttrs_list PySem.F.slot_list_append PySem.F.type_list_append mt_append (pv 1) (pa_cons (pe_tup (pa_cons pe_str (pa_cons (pv 7) (pa_cons (pv 7) (pa_cons (pv 12) (pa_cons (pe_ix ix_list (pe_lst (pa_cons (pe_op op_add (pv 8) pe_int) (pa_cons (pe_op op_add (pe_callB call_len_seq (by rfl) T.b_len (by decide +kernel) (pa_cons (pv 1) pa_nil)) pe_int) pa_nil))) (pe_callTy call_int1 (by rfl) T.b_int (by decide +kernel) (pa_cons (pv 9) pa_nil)) (fun _ _ => rfl)) pa_nil)))))) pa_nil)))
    (C8.pss_cut
    (ps_if (pt_val (pv 9))
      (pss_one
      (ps_expr (pe_bm PySem.F.plainAttrs_list PySem.F.slot_list_append PySem.F.type_list_append mt_append (pv 1) (pa_cons (pe_op op_catA (pv 10) (pe_tup (pa_cons (pe_op op_add (pv 8) pe_int) (pa_cons (pe_op op_add (pe_callB call_len_seq (by rfl) T.b_len (by decide +kernel) (pa_cons (pv 1) pa_nil)) pe_int) pa_nil)))) pa_nil))))
      (pss_one
      (ps_asg (pe_op op_catA (pv 10) (pe_tup (pa_cons (pe_op op_add (pv 8) pe_int) (pa_cons (pe_callB call_len_seq (by rfl) T.b_len (by decide +kernel) (pa_cons (pv 1) pa_nil)) pa_nil)))) (pg_sub (pv 1) (pe_op op_add (pv 8) pe_int) set_list))))
    (pss_one
    (ps_ret (pe_tup (pa_cons (pe_op op_add (pv 8) pe_int) (pa_cons (pe_listRg rfl rfl T.b_list (prg_2 rfl T.b_range (pe_op op_add (pv 8) pe_int) (pe_callB call_len_seq (by rfl) T.b_len (by decide +kernel) (pa_cons (pv 1) pa_nil)))) pa_nil))))))))))))))))), ?_⟩
    have n3 := M0.n3
    have r1 := M0.r1
    have nl := nd4 M0.m.nd
    have big : ∀ {m : Nat}, m ≤ 1000 → m < sizeLine := fun {m} h => by have : sizeLine = 16777216 := sizeLine_eq; omega
    have kl : ∀ {G G' : Hp}, Kp [l] G G' → Kp [l, ll, oo] G G' := fun k => k.mono fun q hq => L3 (.inl (List.mem_singleton.mp hq))
    refine ⟨_, rfl, _, _, rfl, rfl, ⟨by decide, by decide, by decide⟩, l, _, rfl, M0.m.src, (by decide), fun v H1 v0 v1 k1 hs1 => ?_⟩
    have M1 := M0.m.srcd k1 hs1
    have kk1 := kl k1
    obtain ⟨xs, x0, x1, xl, hx, e0, e1, el, in0, in1', inl⟩ := roles_all M1.rol n3
    refine ⟨_, rfl, _, _, _, _, rfl, rfl, SqL.of hx, e0, ?_⟩
    obtain ⟨as1, hll1, hal1⟩ := M1.lin
    -- lines.extend(limit)
    refine ⟨_, rfl, .inl ⟨rfl, _, SqL.of hll1⟩, ?_⟩
    refine ⟨_, rfl, _, _, rfl, rfl, ⟨by decide, by decide⟩, _, rfl, _, _, rfl, .inl (SqL.of hll1), _, rfl, _, rfl, ?_⟩
    rw [List.length_map, hal1.len]
    refine ⟨_, _, n, r, ro, rfl, M1.rol, n3, r1, by omega, fun pl bs ms H2 k2 npl hpl hms ms1 ms2 hall => ?_⟩
    have M2 := M1.ext k2
    have hll2 := k2.at0 hll1
    have hal2 := lns_mono k2.tk hal1
    refine ⟨ll, pl, _, _, rfl, rfl, hll2, hpl, ?_, ?_⟩
    · rw [List.length_map, List.length_map, hal2.len, hms.len]
      have : sizeLine = 16777216 := sizeLine_eq
      omega
    have M3 := M2.lined (Kp.refl.put hll2 (.inl in1)) (LinesAt.ext2 hll2 hal2 hms)
    have kk3 := (kk1.ext k2).put (o' := .lst (as1.map V.ref ++ bs.map V.ref)) hll2 (.inl (L3 (.inr (.inl rfl))))
    have g3 := M0.gen.extend (B' := (lns.length : Int) + ms.length) hall (by omega)
    have o3 := M0.outs.more (ms := ms)
    have len3 : (lns ++ ms).length = lns.length + ms.length := List.length_append
    generalize upd H2 ll (.lst (as1.map V.ref ++ bs.map V.ref)) = H3 at M3 kk3 ⊢
    generalize lns ++ ms = lns3 at M3 g3 o3 len3
    clear hll2 hal2 M2 hpl hms hall hll1 hal1 M1 hs1 k1 kk1 k2 npl
    -- if next(..) == 0: lines.append(ahead)
    refine ⟨fun σ' G => ∃ lns', σ' = [some (.ref l), some (.ref ll), some (.int n), some (.int r), some (.ref ro), some (.ref oo), some (.int v), some (.int x0), none, none, none, none, none] ∧ Mk1 G l ll ro oo n lns' outs ∧ Kp [l, ll, oo] H G ∧ Gen n r ((lns'.length : Int) + 2) ((lns'.length : Int) + 1) lns' ∧ OutsOk lns' outs ∧ lns.length < lns'.length ∧ lns'.length ≤ lns.length + 3, ?_, ?_⟩
    · refine ⟨_, rfl, l, _, rfl, M3.src, (by decide), fun v2 H4 v20 v21 k4 hs4 => ⟨rfl, _, rfl, ?_⟩⟩
      have M4 := M3.srcd k4 hs4
      have kk4 := kk3.trans (kl k4)
      refine if2 (fun h => ?_) fun h => ?_
      · obtain ⟨as4, hll4, hal4⟩ := M4.lin
        refine ⟨_, rfl, .inl ⟨rfl, _, SqL.of hll4⟩, ?_⟩
        refine ⟨_, rfl, _, _, rfl, rfl, ⟨by decide, by decide⟩, _, rfl, _, _, rfl, .inl (SqL.of hll4), _, rfl, ?_⟩
        rw [List.length_map, hal4.len]
        refine ⟨_, _, n, r, ro, rfl, M4.rol, n3, r1, by omega, fun p ln H5 k5 hln hf ht => ?_⟩
        have hll5 := k5.at0 hll4
        have hal5 := lns_mono k5.tk hal4
        refine ⟨ll, _, _, rfl, rfl, hll5, big (by rw [List.length_map, hal5.len]; omega), ?_⟩
        refine ⟨lns3 ++ [ln], rfl, (M4.ext k5).app hll5 hal5 hln, (kk4.ext k5).put hll5 (.inl (L3 (.inr (.inl rfl)))), ?_, o3.app, ?_, ?_⟩
        · cases ha : isAsk ln with
          | false =>
            have g := g3.app (B' := (lns3.length : Int) + 2) hf ha (fun t h => by
              rcases ht t h with e | e <;> (rw [e]; omega)) (by omega)
            refine g.up ?_ ?_ <;> (rw [List.length_append, List.length_singleton]; omega)
          | true =>
            have g := g3.appAsk (B' := (lns3.length : Int) + 2) hf (fun t h => by
              rcases ht t h with e | e <;> (rw [e]; omega)) (by omega) (by omega)
            refine g.up ?_ ?_ <;> (rw [List.length_append, List.length_singleton]; omega)
        · rw [List.length_append]; omega
        · rw [List.length_append, List.length_singleton]; omega
      · exact ⟨lns3, rfl, M4, kk4, g3.up (by omega) (by omega), o3, by omega, by omega⟩
    rintro σ' G ⟨lns1, rfl, M1, kk1, g1, o1, b1, b2⟩
    clear M3 kk3 g3 o3 len3 hx e0 e1 el
    obtain ⟨as1, hll1, hal1⟩ := M1.lin
    refine ⟨_, rfl, _, _, rfl, .inl (SqL.of hll1), ?_⟩
    rw [List.length_map, hal1.len]
    refine ⟨_, rfl, l, _, rfl, M1.src, (by decide), fun v2 H2 v20 v21 k2 hs2 => ⟨rfl, ?_⟩⟩
    have M2 := M1.srcd k2 hs2
    have kk2 := kk1.trans (kl k2)
    have hll2 := k2.at hll1 (nin1 nl.1.symm)
    have hal2 := lns_mono k2.tk hal1
    clear M1 kk1 hll1 hal1 k2 hs2
    generalize decide (V.int v2 = V.int 0) = late
    obtain ⟨xs, x0', x1, xl, hx, e0, e1, el, _, in1', inl⟩ := roles_all M2.rol n3
    -- the loop's begin: a set, and the test as a tuple
    refine ⟨fun σ' G' => ∃ lns' tt y w c, σ' = [some (.ref l), some (.ref ll), some (.int n), some (.int r), some (.ref ro), some (.ref oo), some (.int v), some (.int x0), some (.int (lns1.length : Int)), some (.bl late), some (.ref tt), none, none] ∧ Mk1 G' l ll ro oo n lns' outs ∧ Kp [l, ll, oo] H G' ∧ Gen n r ((lns1.length : Int) + 2) ((lns1.length : Int) + 1) lns' ∧ OutsOk lns' outs ∧ lns'.length = lns1.length + 1 ∧
      G' tt = some (.tup [.str "test", oV y, oV w, .int c]) ∧ InO y n ∧ InO w n, ?_, ?_⟩
    · refine ⟨_, rfl, _, _, rfl, rfl, (by show (0 : Int) < _; decide), _, _, rfl, rfl, _, rfl, if2 (fun h => ?_) fun h => ?_⟩
      · refine ⟨_, rfl, .inl ⟨rfl, _, SqL.of hll2⟩, ?_⟩
        refine ⟨_, rfl, _, rfl, _, _, rfl, rfl, ⟨by decide, by decide⟩, _, _, rfl, rfl, (by show (0 : Int) < _; decide), _, _, rfl, rfl, _, rfl, _, _, rfl, rfl, (by show 5 ≤ sizeLine; decide), fun p np => ?_⟩
        have kp := (Kp.refl (F := []) (H := H2)).new (o := .tup (lnB (.ref p) (.set x0 none (v / 1024 % 5 - 1) ((lns1.length : Int) + 1)))) np
        refine ⟨ll, _, _, rfl, rfl, kp.at0 hll2, big (by rw [List.length_map, hal2.len]; omega), ?_⟩
        have hln := flat_new (ln := .set x0 none (v / 1024 % 5 - 1) ((lns1.length : Int) + 1)) np rfl
        have M3 := (M2.ext kp).app (kp.at0 hll2) (lns_mono kp.tk hal2) hln
        have kk3 := (kk2.ext kp).put (o' := .lst (as1.map V.ref ++ [V.ref p])) (kp.at0 hll2) (.inl (L3 (.inr (.inl rfl))))
        have hx3 : upd (upd H2 p (.tup (lnB (.ref p) (.set x0 none (v / 1024 % 5 - 1) ((lns1.length : Int) + 1))))) ll (.lst (as1.map V.ref ++ [V.ref p])) ro = some (.lst (xs.map V.int)) := by rw [upd_ne nl.2.2.2.1.symm]; exact kp.at0 hx
        refine ⟨_, rfl, _, rfl, _, _, _, _, rfl, rfl, SqL.of hx3, e1, _, rfl, _, _, rfl, rfl, ⟨by decide, by decide⟩, _, _, rfl, rfl, (by show (0 : Int) < _; decide), _, _, rfl, rfl, (by show 4 ≤ sizeLine; decide), fun tt ntt => ?_⟩
        have kt := (Kp.refl (F := []) (H := upd (upd H2 p (.tup (lnB (.ref p) (.set x0 none (v / 1024 % 5 - 1) ((lns1.length : Int) + 1))))) ll (.lst (as1.map V.ref ++ [V.ref p])))).new (o := .tup [.str "test", .int x0, .int x1, .int (v / 4 % 2 - 1)]) ntt
        refine ⟨_, tt, some x0, some x1, v / 4 % 2 - 1, rfl, M3.ext kt, kk3.ext kt, ?_, o1.app, ?_, upd_same, InO.some in0, InO.some in1'⟩
        · exact g1.app ⟨in0, InO.none⟩ rfl (fun t h => by rw [List.mem_singleton.mp h]; omega) (Int.le_refl _)
        · rw [List.length_append, List.length_singleton]
      · refine ⟨_, rfl, .inl ⟨rfl, _, SqL.of hll2⟩, ?_⟩
        refine ⟨_, rfl, _, rfl, _, _, _, _, rfl, rfl, SqL.of hx, e1, 1, rfl, _, rfl, _, _, rfl, rfl, (by show 5 ≤ sizeLine; decide), fun p np => ?_⟩
        have kp := (Kp.refl (F := []) (H := H2)).new (o := .tup (lnB (.ref p) (.set x0 (some x1) (-1) ((lns1.length : Int) + 1)))) np
        refine ⟨ll, _, _, rfl, rfl, kp.at0 hll2, big (by rw [List.length_map, hal2.len]; omega), ?_⟩
        have hln := flat_new (ln := .set x0 (some x1) (-1) ((lns1.length : Int) + 1)) np rfl
        have M3 := (M2.ext kp).app (kp.at0 hll2) (lns_mono kp.tk hal2) hln
        have kk3 := (kk2.ext kp).put (o' := .lst (as1.map V.ref ++ [V.ref p])) (kp.at0 hll2) (.inl (L3 (.inr (.inl rfl))))
        refine ⟨_, rfl, _, rfl, _, _, rfl, rfl, ⟨by decide, by decide⟩, _, _, rfl, rfl, (by show (0 : Int) < _; decide), _, _, rfl, rfl, ⟨by decide, by decide⟩, (by show 4 ≤ sizeLine; decide), fun tt ntt => ?_⟩
        have kt := (Kp.refl (F := []) (H := upd (upd H2 p (.tup (lnB (.ref p) (.set x0 (some x1) (-1) ((lns1.length : Int) + 1))))) ll (.lst (as1.map V.ref ++ [V.ref p])))).new (o := .tup [.str "test", .non, .int x0, .int (v / 4 % 3 / 2)]) ntt
        refine ⟨_, tt, none, some x0, v / 4 % 3 / 2, rfl, M3.ext kt, kk3.ext kt, ?_, o1.app, ?_, upd_same, InO.none, InO.some in0⟩
        · exact g1.app ⟨in0, InO.some in1'⟩ rfl (fun t h => by rw [List.mem_singleton.mp h]; omega) (Int.le_refl _)
        · rw [List.length_append, List.length_singleton]
    rintro σ' G3 ⟨lns2, tt, y, w', c, rfl, M3, kk3, g3, o3, len3, htt, hy, hw⟩
    clear M2 kk2 hll2 hal2 hx g1 o1
    -- lines.append(straight)
    obtain ⟨as3, hll3, hal3⟩ := M3.lin
    refine ⟨_, rfl, .inl ⟨rfl, _, SqL.of hll3⟩, ?_⟩
    refine ⟨_, rfl, _, rfl, _, _, rfl, rfl, _, rfl, _, rfl, _, rfl, l, _, n, r, ro, rfl, M3.src, M3.rol, nl.2.1, n3, r1, fun p ln G4 k4 hs4 hln hf ha ht => ?_⟩
    have M4 := M3.srcd k4 hs4
    have hll4 := k4.at hll3 (nin1 nl.1.symm)
    have hal4 := lns_mono k4.tk hal3
    have htt4 := k4.tup htt
    refine ⟨ll, _, _, rfl, rfl, hll4, big (by rw [List.length_map, hal4.len]; omega), ?_⟩
    have M5 := M4.app hll4 hal4 hln
    have kk5 := (kk3.trans (kl k4)).put (o' := .lst (as3.map V.ref ++ [V.ref p])) hll4 (.inl (L3 (.inr (.inl rfl))))
    have htt5 := (tk_upd (o' := .lst (as3.map V.ref ++ [V.ref p])) hll4) tt _ htt4
    have len5 : (lns2 ++ [ln]).length = lns1.length + 2 := by rw [List.length_append, List.length_singleton, len3]
    have g5 := g3.app (B' := (lns1.length : Int) + 2) hf ha (fun t h => by
      rw [ht] at h
      rw [List.mem_singleton.mp h]; omega) (by omega)
    have o5 := o3.app (ln := ln)
    generalize upd G4 ll (.lst (as3.map V.ref ++ [V.ref p])) = G5 at M5 kk5 htt5 ⊢
    generalize lns2 ++ [ln] = lns5 at M5 g5 o5 len5
    clear hll3 hal3 hll4 hal4 M3 M4 k4 hs4 hln htt htt4 kk3 g3 o3
    -- the pieces
    have P0 : Mk0 G5 l ll ro oo n r lns5 outs := ⟨M5, n3, r1, g5.up (by omega) (by omega), o5⟩
    clear M5 g5 o5
    refine ⟨fun σ' G' => ∃ lns' outs' v11, σ' = [some (.ref l), some (.ref ll), some (.int n), some (.int r), some (.ref ro), some (.ref oo), some (.int v), some (.int x0), some (.int (lns1.length : Int)), some (.bl late), some (.ref tt), v11, none] ∧ Mk0 G' l ll ro oo n r lns' outs' ∧ Kp [l, ll, oo] H G' ∧ lns1.length + 2 ≤ lns'.length ∧ lns'.length ≤ lns.length + 15 ∧ outs'.length ≤ outs.length + 2 ∧
      G' tt = some (.tup [.str "test", oV y, oV w', .int c]), ?_, ?_⟩
    · have m2 : v / 8192 % 2 = 0 ∨ v / 8192 % 2 = 1 := by omega
      refine ⟨_, rfl, _, _, rfl, rfl, ⟨by decide, by decide⟩, _, _, rfl, rfl, (by show (0 : Int) < _; decide), _, _, rfl, rfl, _, rfl, by omega, by omega, for_range (lo := 0) (n := (1 + v / 8192 % 2).toNat) (fun i σ' G' => ∃ lns' outs' v11, σ' = [some (.ref l), some (.ref ll), some (.int n), some (.int r), some (.ref ro), some (.ref oo), some (.int v), some (.int x0), some (.int (lns1.length : Int)), some (.bl late), some (.ref tt), v11, none] ∧ Mk0 G' l ll ro oo n r lns' outs' ∧ Kp [l, ll, oo] H G' ∧ lns1.length + 2 ≤ lns'.length ∧ lns'.length ≤ lns1.length + 2 + 5 * i ∧ outs'.length ≤ outs.length + i ∧ G' tt = some (.tup [.str "test", oV y, oV w', .int c]))
        ⟨lns5, outs, none, rfl, P0, kk5, by omega, by omega, by omega, htt5⟩ ?_ ?_⟩
      · rintro i σ' G' hi ⟨lns', outs', v11, rfl, P1, kk6, c1, c2, c3, htt6⟩
        refine ⟨_, rfl, _, rfl, _, rfl, _, rfl, _, rfl, _, rfl, _, rfl, _, _, rfl, rfl, l, ll, ro, oo, n, r, _, lns', outs', rfl, P1, ⟨by omega, by omega⟩, by omega, by omega, fun lns'' outs'' G'' k7 P2 d1 d2 d3 => ?_⟩
        exact ⟨lns'', outs'', _, rfl, P2, kk6.trans k7, by omega, by omega, by omega, k7.tup htt6⟩
      · rintro σ' G' ⟨lns', outs', v11, rfl, P1, kk6, c1, c2, c3, htt6⟩
        exact ⟨lns', outs', v11, rfl, P1, kk6, c1, by omega, by omega, htt6⟩
    rintro σ' G6 ⟨lns6, outs6, v11, rfl, P6, kk6, c1, c2, c3, htt6⟩
    clear P0 kk5 htt5
    -- the step
    refine ⟨_, _, rfl, rfl, _, rfl, _, _, rfl, rfl, ⟨by decide, by decide⟩, _, _, rfl, rfl, (by show (0 : Int) < _; decide), _, _, rfl, rfl, _, rfl, _, _, rfl, rfl, ⟨by decide, by decide⟩, _, _, rfl, rfl, (by show (0 : Int) < _; decide), _, _, rfl, rfl, (by show 2 ≤ sizeLine; decide), fun q nq => ?_⟩
    have kq := (Kp.refl (F := []) (H := G6)).new (o := .lst [.int (0 - 1 - v / 32768 % 2), .int (1 + v / 32768 % 2)]) nq
    obtain ⟨sz, esz⟩ : ∃ sz : Int, atI [V.int (0 - 1 - v / 32768 % 2), .int (1 + v / 32768 % 2)] (if decide (0 < v % 4) = true then 1 else 0) = some (.int sz) := by
      cases decide (0 < v % 4) with
      | true => exact ⟨_, rfl⟩
      | false => exact ⟨_, rfl⟩
    refine ⟨_, rfl, _, _, rfl, rfl, (by show (0 : Int) < _; decide), _, _, rfl, rfl, .inr ⟨_, rfl, _, _, _, .int sz, rfl, rfl, SqL.of upd_same, esz, ?_⟩⟩
    have P7 := P6.m.ext kq
    have kk7 := kk6.ext kq
    have htt7 := kq.tup htt6
    have kG : upd G6 q (.lst [.int (0 - 1 - v / 32768 % 2), .int (1 + v / 32768 % 2)]) = upd G6 q (.lst [.int (0 - 1 - v / 32768 % 2), .int (1 + v / 32768 % 2)]) := rfl
    generalize upd G6 q (.lst [.int (0 - 1 - v / 32768 % 2), .int (1 + v / 32768 % 2)]) = G7 at P7 kk7 htt7 ⊢
    obtain ⟨as7, hll7, hal7⟩ := P7.lin
    -- lines.append(('set', i, i, step, ..))
    refine ⟨_, rfl, .inl ⟨rfl, _, SqL.of hll7⟩, ?_⟩
    refine ⟨_, rfl, _, rfl, _, rfl, _, rfl, _, _, rfl, rfl, _, rfl, _, _, rfl, .inl (SqL.of hll7), _, _, rfl, rfl, (by show 2 ≤ sizeLine; decide), fun q2 nq2 => ?_⟩
    have len7 : (as7.map V.ref).length = lns6.length := by rw [List.length_map, hal7.len]
    have kq2 := (Kp.refl (F := []) (H := G7)).new (o := .lst [.int ((lns1.length : Int) + 1), .int (((as7.map V.ref).length : Int) + 1)]) nq2
    obtain ⟨tgt, etg, ht0, ht1⟩ : ∃ t : Int, atI [V.int ((lns1.length : Int) + 1), .int (((as7.map V.ref).length : Int) + 1)] (if late = true then 1 else 0) = some (.int t) ∧ 0 ≤ t ∧ t ≤ (lns6.length : Int) + 1 := by
      cases late with
      | true => exact ⟨_, rfl, by omega, by rw [len7]; omega⟩
      | false => exact ⟨_, rfl, by omega, by omega⟩
    refine ⟨_, rfl, .inr ⟨late, rfl, _, _, _, .int tgt, rfl, rfl, SqL.of upd_same, etg, ?_⟩⟩
    refine ⟨(by show 5 ≤ sizeLine; decide), fun p3 np3 => ?_⟩
    have kp3 := kq2.new (o := .tup (lnB (.ref p3) (.set x0 (some x0) sz tgt))) np3
    have hll8 := kp3.at0 hll7
    have hal8 := lns_mono kp3.tk hal7
    refine ⟨ll, _, _, rfl, rfl, hll8, big (by rw [len7]; omega), ?_⟩
    have hln8 := flat_new (ln := .set x0 (some x0) sz tgt) np3 rfl
    have M8 := (P7.ext kp3).app hll8 hal8 hln8
    have kk8 := (kk7.ext kp3).put (o' := .lst (as7.map V.ref ++ [.ref p3])) hll8 (.inl (L3 (.inr (.inl rfl))))
    have htt8 := (tk_upd (o' := .lst (as7.map V.ref ++ [.ref p3])) hll8) tt _ (kp3.tup htt7)
    have len8 : (lns6 ++ [Ln.set x0 (some x0) sz tgt]).length = lns6.length + 1 := by rw [List.length_append, List.length_singleton]
    have g8 := (P6.gen.app (ln := .set x0 (some x0) sz tgt) (B' := (lns6.length : Int) + 1) ⟨in0, InO.some in0⟩ rfl (fun t h => by
      rw [List.mem_singleton.mp h]; omega) (by omega)).up (A' := (lns6.length : Int) + 1) (by omega) (Int.le_refl _)
    have o8 := P6.outs.app (ln := .set x0 (some x0) sz tgt)
    have eG8 : upd (upd (upd G7 q2 (.lst [.int ((lns1.length : Int) + 1), .int (((as7.map V.ref).length : Int) + 1)])) p3 (.tup (lnB (.ref p3) (.set x0 (some x0) sz tgt)))) ll (.lst (as7.map V.ref ++ [.ref p3])) = upd (upd (upd G7 q2 (.lst [.int ((lns1.length : Int) + 1), .int (((as7.map V.ref).length : Int) + 1)])) p3 (.tup [.str "set", .int x0, .int x0, .int sz, .int tgt])) ll (.lst (as7.map V.ref ++ [.ref p3])) := rfl
    rw [eG8] at M8 kk8 htt8
    clear eG8 hln8 kp3 hll8 hal8 etg
    generalize upd (upd (upd G7 q2 (.lst [.int ((lns1.length : Int) + 1), .int (((as7.map V.ref).length : Int) + 1)])) p3 (.tup [.str "set", .int x0, .int x0, .int sz, .int tgt])) ll (.lst (as7.map V.ref ++ [.ref p3])) = G8 at M8 kk8 htt8 ⊢
    generalize lns6 ++ [Ln.set x0 (some x0) sz tgt] = lns8 at M8 g8 o8 len8
    clear hll7 hal7 P7 kk7 htt7 kq2 len7 P6 kk6 htt6
    -- the test's place
    obtain ⟨as8, hll8, hal8⟩ := M8.lin
    have len8' : (as8.map V.ref).length = lns8.length := by rw [List.length_map, hal8.len]
    refine ⟨fun σ' G' => ∃ lns' v10 v11 v12, σ' = [some (.ref l), some (.ref ll), some (.int n), some (.int r), some (.ref ro), some (.ref oo), some (.int v), some (.int x0), some (.int (lns1.length : Int)), some (.bl late), v10, v11, v12] ∧ Mk0 G' l ll ro oo n r lns' outs6 ∧ Kp [l, ll, oo] H G' ∧ lns1.length + 2 ≤ lns'.length ∧ lns'.length ≤ lns.length + 20, ?_, ?_⟩
    · refine ⟨_, rfl, late, rfl, ifB (fun h => ?_) fun h => ?_⟩
      · refine ⟨_, rfl, .inl ⟨rfl, _, SqL.of hll8⟩, ?_⟩
        refine ⟨_, rfl, _, rfl, _, _, rfl, rfl, _, rfl, _, _, rfl, .inl (SqL.of hll8), _, _, rfl, rfl, (by show 2 ≤ sizeLine; decide), fun q4 nq4 => ?_⟩
        have k4 := (Kp.refl (F := []) (H := G8)).new (o := .tup [.int ((lns1.length : Int) + 1), .int (((as8.map V.ref).length : Int) + 1)]) nq4
        refine ⟨tt, q4, _, _, rfl, rfl, SqT.of (k4.tup htt8), SqT.of upd_same, (by show 6 ≤ sizeLine; decide), (fun z => by cases z), (fun _ z => by cases z), fun _ _ p np => ?_⟩
        have k5 := k4.new (o := .tup (lnB (.ref p) (.test y w' c ((lns1.length : Int) + 1) (((as8.map V.ref).length : Int) + 1)))) np
        have hln := flat_new (ln := .test y w' c ((lns1.length : Int) + 1) (((as8.map V.ref).length : Int) + 1)) np rfl
        refine ⟨ll, _, _, rfl, rfl, k5.at0 hll8, big (by rw [len8']; omega), ?_⟩
        have M9 := (M8.ext k5).app (k5.at0 hll8) (lns_mono k5.tk hal8) hln
        refine ⟨_, _, _, _, rfl, ⟨M9, n3, r1, ?_, o8.app⟩, (kk8.ext k5).put (k5.at0 hll8) (.inl (L3 (.inr (.inl rfl)))), ?_, ?_⟩
        · have g := g8.app (ln := .test y w' c ((lns1.length : Int) + 1) (((as8.map V.ref).length : Int) + 1)) (B' := (lns8.length : Int) + 1) ⟨hy, hw⟩ rfl (fun t h => by
            rw [len8'] at h
            rcases List.mem_cons.mp h with e | e
            · rw [e]; omega
            · rw [List.mem_singleton.mp e]; omega) (by omega)
          refine g.up ?_ ?_ <;> (rw [List.length_append, List.length_singleton]; omega)
        · rw [List.length_append]; omega
        · rw [List.length_append, List.length_singleton]; omega
      · refine ⟨_, rfl, _, rfl, _, _, rfl, rfl, _, rfl, _, _, rfl, .inl (SqL.of hll8), (by show 2 ≤ sizeLine; decide), fun q4 nq4 => ?_⟩
        have k4 := (Kp.refl (F := []) (H := G8)).new (o := .tup [.int ((lns1.length : Int) + 2), .int ((as8.map V.ref).length : Int)]) nq4
        refine ⟨tt, q4, _, _, rfl, rfl, SqT.of (k4.tup htt8), SqT.of upd_same, (by show 6 ≤ sizeLine; decide), (fun z => by cases z), (fun _ z => by cases z), fun _ _ p np => ?_⟩
        have k5 := k4.new (o := .tup (lnB (.ref p) (.test y w' c ((lns1.length : Int) + 2) ((as8.map V.ref).length : Int)))) np
        have hln := flat_new (ln := .test y w' c ((lns1.length : Int) + 2) ((as8.map V.ref).length : Int)) np rfl
        refine ⟨_, rfl, _, rfl, _, _, rfl, rfl, ll, _, _, ((lns1.length : Int) + 1).toNat, rfl, rfl, k5.at0 hll8, ixN_in (by omega) (by rw [len8']; omega), ?_⟩
        have M9 := (M8.ext k5).lined (Kp.refl.put (k5.at0 hll8) (.inl in1)) (LinesAt.set (k5.at0 hll8) (lns_mono k5.tk hal8) hln ((lns1.length : Int) + 1).toNat)
        refine ⟨_, _, _, _, rfl, ⟨M9, n3, r1, ?_, o8.set _⟩, (kk8.ext k5).put (k5.at0 hll8) (.inl (L3 (.inr (.inl rfl)))), ?_, ?_⟩
        · have g := g8.set (ln := .test y w' c ((lns1.length : Int) + 2) ((as8.map V.ref).length : Int)) ((lns1.length : Int) + 1).toNat (B' := (lns8.length : Int)) ⟨hy, hw⟩ rfl (fun t h => by
            rw [len8'] at h
            rcases List.mem_cons.mp h with e | e
            · rw [e]; omega
            · rw [List.mem_singleton.mp e]; omega) (by omega)
          refine g.up ?_ ?_ <;> (rw [List.length_set]; omega)
        · rw [List.length_set]; omega
        · rw [List.length_set]; omega
    rintro σ' G9 ⟨lns9, v10, v11', v12, rfl, P9, kk9, d1, d2⟩
    clear M8 kk8 htt8 hll8 hal8 len8' g8 o8
    obtain ⟨as9, hll9, hal9⟩ := P9.m.lin
    have len9 : (as9.map V.ref).length = lns9.length := by rw [List.length_map, hal9.len]
    refine ⟨_, rfl, _, _, rfl, rfl, _, rfl, _, _, rfl, rfl, _, rfl, _, _, rfl, .inl (SqL.of hll9), _, _, rfl, rfl, RgOk.of_le (by omega) (by rw [len9]; omega) (by omega) (by omega), fun lp nlp => ?_⟩
    refine ⟨(by show 2 ≤ sizeLine; decide), fun p np => ?_⟩
    have erg : rgV ((lns1.length : Int) + 1) ((as9.map V.ref).length : Int) = ((List.range (((as9.map V.ref).length : Int) - ((lns1.length : Int) + 1)).toNat).map fun (i : Nat) => ((lns1.length : Int) + 1) + (i : Int)).map V.int := by
      unfold rgV
      rw [List.map_map]; rfl
    have klp := (Kp.refl (F := []) (H := G9)).new (o := .lst (rgV ((lns1.length : Int) + 1) ((as9.map V.ref).length : Int))) nlp
    have kpp := (Kp.refl (F := []) (H := upd G9 lp (.lst (rgV ((lns1.length : Int) + 1) ((as9.map V.ref).length : Int))))).new (o := .tup [.int ((lns1.length : Int) + 1), .ref lp]) np
    have klast := klp.ext kpp
    have flp : H lp = none := kk9.free nlp fun hq => by
      have hq' : lp = l ∨ lp = ll ∨ lp = oo := by simpa using hq
      rcases hq' with e | e | e
      · obtain ⟨s, rest, z, _⟩ := P9.m.src
        have z' : G9 l = _ := z
        rw [← e, nlp] at z'; cases z'
      · rw [← e, nlp] at hll9; cases hll9
      · have z' : G9 oo = _ := P9.m.out
        rw [← e, nlp] at z'; cases z'
    refine k p ((lns1.length : Int) + 1) lp ((List.range (((as9.map V.ref).length : Int) - ((lns1.length : Int) + 1)).toNat).map fun (i : Nat) => ((lns1.length : Int) + 1) + (i : Int)) lns9 outs6 _ (kk9.ext klast) ⟨P9.m.ext klast, n3, r1, P9.gen, P9.outs⟩ (by omega) c3 (by omega) upd_same ?_ (by rw [List.length_map, List.length_range, len9]; omega) flp ⟨by omega, by omega⟩ ?_
    · show _ = some (HO.lst _)
      rw [← erg]
      exact kpp.at0 upd_same
    · intro x hx
      obtain ⟨i, hi, e⟩ := List.mem_map.mp hx
      have hi' := List.mem_range.mp hi
      rw [len9] at hi'
      subst e
      exact ⟨by omega, by omega⟩
end
end Lk
namespace Lk
open PySem L2
section
variable {P : Program} {w : World} {K : PySem.W.Frag} {mg : Str → Option Value} {base : Heap} {C1 aP : Addr}
theorem op_addk {X : Cx} : OpR X (binaryOp .Add) (fun x y H Q => ∃ i j k : Int, x = .int i ∧ y = .int j ∧ i + j = k ∧ Q (.int k) H) := by
  intro pins s σ H x y v u Q I rx ry h
  obtain ⟨i, j, k, e1, e2, rfl, q⟩ := h
  exact op_add pins s σ H x y v u Q I rx ry ⟨i, j, e1, e2, q⟩
theorem lnB_led (v : V) (g : Int → Int) (ln : Ln) : lnB v (ledL g ln) = .str (hd ln) :: (md v ln ++ (tg ln).map fun t => .int (g t)) := by cases ln <;> rfl
def ManyS (h : Str) (n : Int) : Prop := (if (!decide (V.str h = V.str "end")) = true then (1 : Int) else 0) + (if (decide (h = "test") || decide (h = "ask")) = true then 1 else 0) = n
instance (h : Str) (n : Int) : Decidable (ManyS h n) := by unfold ManyS; infer_instance
theorem many_tg (ln : Ln) : (if (!decide (V.str (hd ln) = V.str "end")) = true then (1 : Int) else 0) + (if inV (.str (hd ln)) [.str "test", .str "ask"] = true then 1 else 0) = ((tg ln).length : Int) := by
  rw [in2]
  show ManyS (hd ln) ((tg ln).length : Int)
  cases ln with
  | set x y c k => exact (by decide +kernel : ManyS "set" 1)
  | sum x z w k => exact (by decide +kernel : ManyS "sum" 1)
  | len x r k => exact (by decide +kernel : ManyS "len" 1)
  | take x k => exact (by decide +kernel : ManyS "take" 1)
  | get x r y c k => exact (by decide +kernel : ManyS "get" 1)
  | put r y c z k => exact (by decide +kernel : ManyS "put" 1)
  | tell x k => exact (by decide +kernel : ManyS "tell" 1)
  | test y w c k m => exact (by decide +kernel : ManyS "test" 2)
  | ask bs k m => exact (by decide +kernel : ManyS "ask" 2)
  | fin => exact (by decide +kernel : ManyS "end" 0)
theorem cut_hi {xs ys : List V} {k : Int} (h : k = (xs.length : Int)) : cutV (xs ++ ys) none (some k) = xs := by
  have e : HT.sIx (xs ++ ys).length (xs ++ ys).length (some k) = xs.length := by
    rw [h, HT.sIx_nat, List.length_append]; omega
  unfold cutV
  rw [e]
  show (List.drop 0 (xs ++ ys)).take (xs.length - 0) = xs
  rw [List.drop_zero, Nat.sub_zero, List.take_left']
  rfl
theorem cut_lo {xs ys : List V} {k : Int} (h : k = (xs.length : Int)) : cutV (xs ++ ys) (some k) none = ys := by
  have e : HT.sIx (xs ++ ys).length 0 (some k) = xs.length := by
    rw [h, HT.sIx_nat, List.length_append]; omega
  unfold cutV
  rw [e]
  show (List.drop xs.length (xs ++ ys)).take ((xs ++ ys).length - xs.length) = ys
  rw [List.drop_left' rfl, List.length_append, Nat.add_sub_cancel_left, List.take_length]
theorem sc_law_led : FnScope ["_law_line", "_law_goals", "_law_many", "_law_found", "_law_goal"] ["_law_line", "_law_goals"] (defScope s_law_led) := ⟨rfl, rfl, rfl, by decide +kernel, rfl, by decide +kernel, by decide +kernel⟩
theorem ok_law_led {f : Addr} {fd : FuncData} (F : Fun K "_law_led" "_law_led" s_law_led f fd) (T : Txt K mg C1 aP) : FnOk P w K mg base CX0 1 f fd ["_law_line", "_law_goals"] spLed := by
  refine F.ok sc_law_led (fun vs H Q E h => ?_) (fun cdv Ar outer sh H vs Q E hr h => ?_)
  · obtain ⟨a, ln, d, g, many, rfl, _⟩ := h
    rfl
  · obtain ⟨a, ln, d, g, many, rfl, ⟨b, ha, hb⟩, ⟨kvs, hd', hg⟩, ht, k⟩ := h
    refine ⟨_, (pss_cons
    (ps_set (i := 2) sc_law_led.nd rfl (Or.inl rfl) (pe_op op_addk (pe_callTy call_int1 (by rfl) T.b_int (by decide +kernel) (pa_cons (pe_cmpR op_ne (pe_ix ix_tup (pv 0) pe_int (fun _ _ => rfl)) pe_str (nomark _)) pa_nil)) (pe_callTy call_int1 (by rfl) T.b_int (by decide +kernel) (pa_cons (pe_cmpR op_in_seq (pe_ix ix_tup (pv 0) pe_int (fun _ _ => rfl)) (pe_lst (pa_cons pe_str (pa_cons pe_str pa_nil))) (by rfl)) pa_nil))))
    (pss_cons
    (ps_set (i := 3) sc_law_led.nd rfl (Or.inl rfl) (pe_slice sl_tupA (pv 0) po_none (po_some (pe_op op_sub (pe_callB call_len_seq (by rfl) T.b_len (by decide +kernel) (pa_cons (pv 0) pa_nil)) (pv 2)))))
    (pss_cons
    (ps_for PassesOwn.never rfl (pi_tup (pe_slice sl_tupA (pv 0) (po_some (pe_op op_sub (pe_callB call_len_seq (by rfl) T.b_len (by decide +kernel) (pa_cons (pv 0) pa_nil)) (pv 2))) po_none)) (pg_name (i := 4) sc_law_led.nd rfl (Or.inl rfl))
      (pss_one
      (ps_set (i := 3) sc_law_led.nd rfl (Or.inl rfl) (pe_op op_catA (pv 3) (pe_tup (pa_cons (pe_dget (hu_of hr) (pv 1) (pv 4) (fun _ _ => rfl)) pa_nil))))))
    (pss_one
    (ps_ret (pv 3)))))), ?_⟩
    rw [lnB_eq] at ha
    have esp : V.str (hd ln) :: (md (.ref b) ln ++ (tg ln).map V.int) = (V.str (hd ln) :: md (.ref b) ln) ++ (tg ln).map V.int := rfl
    rw [esp] at ha
    refine ⟨_, rfl, _, _, _, .str (hd ln), rfl, rfl, SqT.of ha, atI0, rfl, .inr ⟨_, rfl, ?_⟩⟩
    refine ⟨_, rfl, _, _, _, .str (hd ln), rfl, rfl, SqT.of ha, atI0, (by show 2 ≤ sizeLine; decide), fun p np => ?_⟩
    have k1 := (Kp.refl (F := []) (H := H)).new (o := .lst [.str "test", .str "ask"]) np
    refine ⟨p, _, rfl, .inl (SqL.of upd_same), rfl, rfl, .inr ⟨_, rfl, _, _, ((tg ln).length : Int), rfl, rfl, (by rw [if_neg Bool.false_ne_true]; exact many_tg ln), ?_⟩⟩
    have ha1 := k1.tup ha
    have hd1 := k1.at0 hd'
    have hlen : ((((V.str (hd ln) :: md (.ref b) ln) ++ (tg ln).map V.int).length : Nat) : Int) - ((tg ln).length : Int) = (((V.str (hd ln) :: md (.ref b) ln).length : Nat) : Int) := by
      rw [List.length_append, List.length_map]; omega
    generalize upd H p (.lst [.str "test", .str "ask"]) = H1 at k1 ha1 hd1 ⊢
    -- what follows the first slice
    have rest : ∀ fa H2, Kp [] H1 H2 → H2 fa = some (.tup (V.str (hd ln) :: md (.ref b) ln)) →
        tSeq (tFor (iTup K (tSl (rSlA K) (tVar 0) (tPart (tOp (rI0 fun i j => .int (i - j)) (tCB (fun xs H Q => ∃ p ys, xs = [.ref p] ∧ (SqL K H p ys ∨ SqT K H p ys) ∧ Q (.int ys.length) H) (tCons (tVar 0) tNil)) (tVar 2))) tNoPart)) (gName 4)
            (tAsg (tOp (rCatA K) (tVar 3) (tTup (tCons (tDGet (tVar 1) (tVar 4)) tNil))) (gName 3))) (tRet (tVar 3))
          { nx := fun _ H' => Q .non H', rt := Q } [some (.ref a), some (.ref d), some (.int ((tg ln).length : Int)), some (.ref fa), none] H2 := fun fa H2 k2 hfa => by
      have ha2 := k2.tup ha1
      refine ⟨_, rfl, _, rfl, _, _, rfl, .inr (SqT.of ha2), _, rfl, _, _, rfl, rfl, _, rfl, a, _, rfl, SqT.of ha2, ?_, ?_⟩
      · intro z
        rw [hlen] at z
        have z' : HT.sIx ((V.str (hd ln) :: md (.ref b) ln) ++ (tg ln).map V.int).length 0 (some (((V.str (hd ln) :: md (.ref b) ln).length : Nat) : Int)) = 0 := z.1
        rw [HT.sIx_nat, List.length_append, List.length_cons] at z'
        omega
      · intro _ ta nta
        rw [cut_lo hlen]
        have k3 := (Kp.refl (F := []) (H := H2)).new (o := .tup ((tg ln).map V.int)) nta
        refine ⟨ta, rfl, ⟨_, SqT.of upd_same⟩, for_tup (K := K) (a := ta) (xs := (tg ln).map V.int) (fun i σ' H' => ∃ fa' v4, σ' = [some (.ref a), some (.ref d), some (.int ((tg ln).length : Int)), some (.ref fa'), v4] ∧ Kp [] (upd H2 ta (.tup ((tg ln).map V.int))) H' ∧ H' fa' = some (.tup ((V.str (hd ln) :: md (.ref b) ln) ++ ((tg ln).take i).map fun t => V.int (g t))))
          ⟨fa, none, rfl, Kp.refl, by rw [List.take_zero, List.map_nil, List.append_nil]; exact k3.tup hfa⟩ (fun i σ' H' _ p => by obtain ⟨_, _, _, kp, _⟩ := p; exact SqT.of (kp.tup upd_same)) ?_ ?_⟩
        · rintro i y σ' H' hi ⟨fa', v4, rfl, kp, hf'⟩
          rw [List.getElem?_map] at hi
          obtain ⟨t, htg, e⟩ := Option.map_eq_some_iff.mp hi
          subst e
          have tin := ht t (List.mem_of_getElem? htg)
          have hd2 : H' d = some (.dK kvs) := kp.at0 (k3.at0 (k2.at0 hd1))
          refine ⟨_, rfl, _, rfl, _, rfl, d, .int (g t), rfl, (by rw [← hg t tin.1 tin.2]; exact DGet.k (k := Sum.inl t) hd2), (by show 1 ≤ sizeLine; decide), fun q nq => ?_⟩
          have k4 := (Kp.refl (F := []) (H := H')).new (o := .tup [.int (g t)]) nq
          refine ⟨fa', q, _, _, rfl, rfl, SqT.of (k4.tup hf'), SqT.of upd_same, ?_, (fun z => by cases z), (fun _ z => by cases z), fun _ _ r nr => ?_⟩
          · have l2 : (tg ln).length ≤ 2 := by cases ln <;> (show _ ≤ 2; first | exact (by decide : 1 ≤ 2) | exact (by decide : 2 ≤ 2) | exact (by decide : 0 ≤ 2))
            have l3 : (md (.ref b) ln).length ≤ 4 := by cases ln <;> (show _ ≤ 4; first | exact Nat.le_refl 4 | exact (by decide : 0 ≤ 4) | exact (by decide : 1 ≤ 4) | exact (by decide : 2 ≤ 4) | exact (by decide : 3 ≤ 4))
            have : sizeLine = 16777216 := sizeLine_eq
            rw [List.length_append, List.length_map, List.length_take, List.length_cons]
            show _ + 1 ≤ sizeLine
            omega
          · refine ⟨r, _, rfl, kp.ext (k4.new nr), ?_⟩
            rw [List.take_add_one, htg, List.map_append, ← List.append_assoc]
            exact upd_same
        · rintro σ' H' ⟨fa', v4, rfl, kp, hf'⟩
          rw [List.length_map, List.take_length] at hf'
          have kk := ((k1.ext k2).ext k3).ext kp
          refine ⟨_, rfl, k fa' H' kk ⟨b, ?_, fun bs x y e => ?_⟩⟩
          · rw [lnB_led]; exact hf'
          · cases ln with
            | ask bs' k' m' =>
              cases e
              exact (hb _ _ _ rfl).mono kk.tk
            | _ => cases e
    refine ⟨_, rfl, _, rfl, _, _, rfl, .inr (SqT.of ha1), _, rfl, _, _, rfl, rfl, _, rfl, a, _, rfl, SqT.of ha1, ?_, ?_⟩
    · intro z
      rw [hlen] at z
      have z' : HT.sIx ((V.str (hd ln) :: md (.ref b) ln) ++ (tg ln).map V.int).length _ (some (((V.str (hd ln) :: md (.ref b) ln).length : Nat) : Int)) = ((V.str (hd ln) :: md (.ref b) ln) ++ (tg ln).map V.int).length := z.2
      rw [HT.sIx_nat, List.length_append, List.length_map] at z'
      have e0 : tg ln = [] := List.eq_nil_of_length_eq_zero (by omega)
      refine rest a H1 Kp.refl ?_
      rw [e0, List.map_nil, List.append_nil] at ha1
      exact ha1
    · intro _ fa nfa
      rw [cut_hi hlen]
      exact rest fa _ (Kp.refl.new nfa) upd_same
end
end Lk
namespace Lk
open PySem L2
section
variable {P : Program} {w : World} {K : PySem.W.Frag} {mg : Str → Option Value} {base : Heap} {C1 aP : Addr}
/-! ### turning about: a permutation of the lines -/
def gT (st c m : Int) (k : Int) : Int := if k = 0 then 0 else 1 + (k * st + c) % m
def StepOk (m st : Int) : Prop := st ∈ ([1, 2, 3, 5, 7, 11, 13] : List Int) ∧ (st = 1 ∨ 0 < m % st)
theorem small_gcd : ∀ s ∈ ([2, 3, 5, 7, 11, 13] : List Nat), ∀ r ∈ List.range s, r = 0 ∨ Nat.gcd r s = 1 := by decide +kernel
theorem step_coprime {m st : Int} (hm : 0 < m) (h : StepOk m st) : Nat.Coprime m.natAbs st.natAbs := by
  obtain ⟨h1, h2⟩ := h
  by_cases e : st = 1
  · subst e; exact Nat.gcd_one_right _
  · have h2 := h2.resolve_left e
    have hs : st.natAbs ∈ ([2, 3, 5, 7, 11, 13] : List Nat) ∧ 0 < st := by
      simp only [List.mem_cons, List.not_mem_nil, or_false] at h1 ⊢
      omega
    have hr : m.natAbs % st.natAbs ∈ List.range st.natAbs := List.mem_range.mpr (Nat.mod_lt _ (by omega))
    have q := small_gcd _ hs.1 _ hr
    have hne : m.natAbs % st.natAbs ≠ 0 := fun z => by
      have e1 : ((m.natAbs % st.natAbs : Nat) : Int) = m % st := by
        rw [Int.natCast_emod, Int.natAbs_of_nonneg (by omega), Int.natAbs_of_nonneg (by omega)]
      rw [z] at e1
      omega
    have q := q.resolve_left hne
    show Nat.gcd m.natAbs st.natAbs = 1
    rw [Nat.gcd_comm, Nat.gcd_rec]
    exact q
theorem gT_range {st c m k : Int} (hm : 0 < m) (h : 0 ≤ k) : 0 ≤ gT st c m k ∧ gT st c m k ≤ m := by
  unfold gT
  split
  · omega
  · have := Int.emod_nonneg (k * st + c) (show m ≠ 0 by omega)
    have := Int.emod_lt_of_pos (k * st + c) hm
    omega
theorem gT_inj {st c m : Int} (hm : 0 < m) (hs : StepOk m st) {i j : Int} (hi : 0 ≤ i) (hi2 : i ≤ m) (hj : 0 ≤ j) (hj2 : j ≤ m) (e : gT st c m i = gT st c m j) : i = j := by
  have nn' : ∀ k : Int, 0 ≤ (k * st + c) % m := fun k => Int.emod_nonneg _ (by omega)
  unfold gT at e
  by_cases zi : i = 0
  · by_cases zj : j = 0
    · omega
    · rw [if_pos zi, if_neg zj] at e
      have := nn' j; omega
  · by_cases zj : j = 0
    · rw [if_neg zi, if_pos zj] at e
      have := nn' i; omega
    · rw [if_neg zi, if_neg zj] at e
      have e1 : (i * st + c) % m = (j * st + c) % m := by omega
      have e2 := Int.emod_eq_emod_iff_emod_sub_eq_zero.mp e1
      have e3 : i * st + c - (j * st + c) = (i - j) * st := by rw [Int.sub_mul]; omega
      rw [e3] at e2
      have d := Int.dvd_of_emod_eq_zero e2
      have d2 : m.natAbs ∣ (i - j).natAbs * st.natAbs := by rw [← Int.natAbs_mul]; exact Int.natAbs_dvd_natAbs.mpr d
      have d3 := Nat.Coprime.dvd_of_dvd_mul_right (step_coprime hm hs) d2
      have d4 : (i - j).natAbs = 0 := Nat.eq_zero_of_dvd_of_lt d3 (by omega)
      omega
/-- pigeons -/
theorem nodup_len : ∀ (m : Nat) (l : List Nat), l.Nodup → (∀ x ∈ l, x < m) → l.length ≤ m
  | 0, l, _, h => by
    cases l with
    | nil => exact Nat.le_refl 0
    | cons x r => exact absurd (h x List.mem_cons_self) (Nat.not_lt_zero _)
  | m + 1, l, hn, h => by
    by_cases hm : m ∈ l
    · have h1 := nodup_len m (l.erase m) (hn.erase m) fun x hx => by
        have q := (List.Nodup.mem_erase_iff hn).mp hx
        have := h x q.2
        omega
      rw [List.length_erase_of_mem hm] at h1
      omega
    · have h1 := nodup_len m l hn fun x hx => by
        have := h x hx
        have : x ≠ m := fun e => hm (e ▸ hx)
        omega
      omega
theorem surj_of {m : Nat} {g : Nat → Nat} (hr : ∀ k, k < m → g k < m) (hi : ∀ i j, i < m → j < m → g i = g j → i = j) : ∀ j, j < m → ∃ k, k < m ∧ g k = j := by
  intro j hj
  by_cases h : j ∈ (List.range m).map g
  · obtain ⟨k, hk, e⟩ := List.mem_map.mp h
    exact ⟨k, List.mem_range.mp hk, e⟩
  · have nd : ((List.range m).map g).Nodup := by
      rw [List.Nodup, List.pairwise_map]
      refine List.Pairwise.imp_of_mem ?_ List.nodup_range
      intro a b ha hb ne e
      exact ne (hi a b (List.mem_range.mp ha) (List.mem_range.mp hb) e)
    have q := nodup_len m (j :: (List.range m).map g) (List.nodup_cons.mpr ⟨h, nd⟩) fun x hx => by
      rcases List.mem_cons.mp hx with e | e
      · rw [e]; exact hj
      · obtain ⟨k, hk, e2⟩ := List.mem_map.mp e
        rw [← e2]; exact hr k (List.mem_range.mp hk)
    rw [List.length_cons, List.length_map, List.length_range] at q
    omega
theorem fld_led {n r : Int} {g : Int → Int} {ln : Ln} (h : Fld n r ln) : Fld n r (ledL g ln) := by cases ln <;> exact h
theorem ask_led {g : Int → Int} {ln : Ln} : isAsk (ledL g ln) = isAsk ln := by cases ln <;> rfl
theorem tg_led {g : Int → Int} {ln : Ln} : tg (ledL g ln) = (tg ln).map g := by cases ln <;> rfl
/-- the lines turned about are right -/
theorem good_turned {n r : Int} {lns fl : List Ln} {g : Int → Int} (G : Good n r lns) (hl : fl.length = lns.length) (hr : ∀ k, 0 ≤ k → k < (lns.length : Int) → 0 ≤ g k ∧ g k < (lns.length : Int))
    (hi : ∀ i j, 0 ≤ i → i < (lns.length : Int) → 0 ≤ j → j < (lns.length : Int) → g i = g j → i = j) (hf : ∀ k, 0 ≤ k → k < (lns.length : Int) → fl[(g k).toNat]? = some (ledL g (lnAt lns k))) : Good n r fl := by
  have sur : ∀ j, j < lns.length → ∃ k, k < lns.length ∧ (g (k : Int)).toNat = j := surj_of (g := fun k => (g (k : Int)).toNat) (fun k hk => by have := hr k (by omega) (by omega); omega) (fun i j h1 h2 e => by
    have q1 := hr i (by omega) (by omega)
    have q2 := hr j (by omega) (by omega)
    have e' : (g (i : Int)).toNat = (g (j : Int)).toNat := e
    have := hi i j (by omega) (by omega) (by omega) (by omega) (by omega)
    omega)
  have ent : ∀ ln ∈ fl, ∃ k, 0 ≤ k ∧ k < (lns.length : Int) ∧ ln = ledL g (lnAt lns k) := fun ln h => by
    obtain ⟨j, hj⟩ := List.getElem?_of_mem h
    have lj := (List.getElem?_eq_some_iff.mp hj).1
    obtain ⟨k, hk, e⟩ := sur j (by omega)
    have q := hf k (by omega) (by omega)
    rw [e, hj] at q
    exact ⟨k, by omega, by omega, Option.some.inj q⟩
  have tgk : ∀ k, 0 ≤ k → k < (lns.length : Int) → ∀ t ∈ tg (lnAt lns k), 0 ≤ t ∧ t < (lns.length : Int) := fun k h0 h1 t ht => by
    have := G.gen.tgs _ (lnAt_mem h0 h1) t ht
    omega
  refine ⟨by rw [hl]; exact G.pos, ⟨fun ln h => ?_, fun ln h t ht => ?_, fun ln h ha t ht => ?_⟩⟩
  · obtain ⟨k, h0, h1, rfl⟩ := ent ln h
    exact fld_led (G.gen.fld _ (lnAt_mem h0 h1))
  · obtain ⟨k, h0, h1, rfl⟩ := ent ln h
    rw [tg_led] at ht
    obtain ⟨u, hu, e⟩ := List.mem_map.mp ht
    have q := tgk k h0 h1 u hu
    have := hr u q.1 q.2
    rw [hl]
    omega
  · obtain ⟨k, h0, h1, rfl⟩ := ent ln h
    rw [tg_led] at ht
    rw [ask_led] at ha
    obtain ⟨u, hu, e⟩ := List.mem_map.mp ht
    have q := tgk k h0 h1 u hu
    have q2 := hr u q.1 q.2
    refine ⟨by rw [hl]; omega, fun l2 h2 => ?_⟩
    rw [← e, hf u q.1 q.2] at h2
    cases h2
    rw [ask_led]
    exact (G.gen.ask _ (lnAt_mem h0 h1) ha u hu).2 _ (lnAt_get q.1 q.2)
end
end Lk
namespace Lk
open PySem L2
section
variable {P : Program} {w : World} {K : PySem.W.Frag} {mg : Str → Option Value} {base : Heap} {C1 aP : Addr}
/-- the scope of the comprehension that a def's last row returns as the second of two -/
def lcScope : Scope := { kind := .function, names := [(".0", .local), ("_law_head", .local), ("_law_loop_here", .local), ("sorted", .globalImplicit), ("_law_goals", .cell)], isGenerator := false, isCoroutine := false }
theorem sc_law_turned_about : FnScope ["_law_lines", "_law_loops", "_law_cell", "_law_many", "_law_steps_here", "_law_step", "_law_goals", "_law_k", "_law_found", "_law_head", "_law_loop_here", "_law_line"] ["_law_lines", "_law_loops", "_law_cell"] (defScope s_law_turned_about) := ⟨rfl, rfl, rfl, by decide +kernel, rfl, by decide +kernel, by decide +kernel⟩
theorem ok_law_turned_about {f : Addr} {fd : FuncData} (F : Fun K "_law_turned_about" "_law_turned_about" s_law_turned_about f fd) (T : Txt K mg C1 aP) (G_law_led : Fo P w K mg base 1 "_law_led" ["_law_line", "_law_goals"] spLed) : FnOk P w K mg base CX0 2 f fd ["_law_lines", "_law_loops", "_law_cell"] spTurned := by
  refine F.ok sc_law_turned_about (fun vs H Q E h => ?_) (fun cdv Ar outer sh H vs Q E hr h => ?_)
  · obtain ⟨ll, lo, c, lns, n, r, rfl, _⟩ := h
    rfl
  · obtain ⟨ll, lo, c, lns, n, r, rfl, ⟨as, hll, hal⟩, good, L2, L1000, ⟨ps, hlo, hps, hloops⟩, k⟩ := h
    refine ⟨_, (pss_cons
    (ps_set (i := 3) sc_law_turned_about.nd rfl (Or.inr rfl) (pe_op op_sub (pe_callB call_len_seq (by rfl) T.b_len (by decide +kernel) (pa_cons (pv 0) pa_nil)) pe_int))
    (C8.pss_cut
    (ps_setLc (i := 4) rfl sc_law_turned_about.nd rfl rfl (sw_true rfl rfl rfl (by decide +kernel)) (own := [("_law_step", 5)]) (pi_list (pe_lst (pa_cons pe_int (pa_cons pe_int (pa_cons pe_int (pa_cons pe_int (pa_cons pe_int (pa_cons pe_int (pa_cons pe_int pa_nil))))))))) (blkOk_by (N := ["_law_lines", "_law_loops", "_law_cell", "_law_many", "_law_steps_here", "_law_step", "_law_goals", "_law_k", "_law_found", "_law_head", "_law_loop_here", "_law_line"]) (sc := defScope s_law_turned_about) (by decide +kernel)) (fun _ _ _ _ _ => (pg_name (i := 5) sc_law_turned_about.nd rfl (Or.inl rfl))) (fun _ _ _ _ _ => (pts_one ((pw_or (pt_cmpR op_eq (pv 5) pe_int (nomark _)) (pw_or1 (pt_cmpR op_gt (pe_op op_mod (pv 3) (pv 5)) pe_int (nomark _))))).pt)) (fun _ _ _ _ _ => (pv 5)))
    (pss_cons
    (ps_set (i := 5) sc_law_turned_about.nd rfl (Or.inl rfl) (pe_ix ix_list (pv 4) (pe_op op_mod (pv 2) (pe_callB call_len_seq (by rfl) T.b_len (by decide +kernel) (pa_cons (pv 4) pa_nil))) (fun _ _ => rfl)))
    (pss_cons
    (ps_set (i := 6) sc_law_turned_about.nd rfl (Or.inr rfl) (pe_disp (pps_cons pe_int pe_int pps_nil) rfl rfl (by simp) (by decide)))
    (pss_cons
    (ps_for PassesOwn.never rfl (pi_range2 rfl T.b_range (pa_cons pe_int (pa_cons (pe_op op_add (pv 3) pe_int) pa_nil))) (pg_name (i := 7) sc_law_turned_about.nd rfl (Or.inl rfl))
      (pss_one
      (ps_dput (hu_of hr) (pv 6) (pv 7) (pe_op op_add pe_int (pe_op op_mod (pe_op op_add (pe_op op_mul (pv 7) (pv 5)) (pe_op op_fdiv (pv 2) pe_int)) (pv 3))) rfl)))
    (pss_cons
    (ps_set (i := 8) sc_law_turned_about.nd rfl (Or.inl rfl) (pe_callTy call_list_of (by rfl) T.b_list (by decide +kernel) (pa_cons (pv 0) pa_nil)))
    (pss_cons
    (ps_for PassesOwn.never rfl (pi_range1 rfl T.b_range (pa_cons (pe_op op_add (pv 3) pe_int) pa_nil)) (pg_name (i := 7) sc_law_turned_about.nd rfl (Or.inl rfl))
      (pss_one
      (ps_asg (pe_fo G_law_led (hr.mono (by decide)) rfl (pa_cons (pe_ix ix_list (pv 0) (pv 7) (fun _ _ => rfl)) (pa_cons (pv 6) pa_nil))) (pg_sub (pv 8) (pe_dget (hu_of hr) (pv 6) (pv 7) (fun _ _ => rfl)) set_list))))
    (pss_one
    (ps_ret (pe_tup (pa_cons (pv 8) (pa_cons (pe_lc (g := gTup K 2 (gCons (gName 9) (gCons (gName 10) gNil))) (own := [("_law_head", 9), ("_law_loop_here", 10)]) rfl sc_law_turned_about.nd (pi_list (pv 1)) (blkOk_by (N := ["_law_lines", "_law_loops", "_law_cell", "_law_many", "_law_steps_here", "_law_step", "_law_goals", "_law_k", "_law_found", "_law_head", "_law_loop_here", "_law_line"]) (sc := defScope s_law_turned_about) (by decide +kernel)) (fun _ _ _ _ _ => (pg_tup rfl (pgs_cons (pg_name (i := 9) sc_law_turned_about.nd rfl (Or.inl rfl)) (pgs_cons (pg_name (i := 10) sc_law_turned_about.nd rfl (Or.inl rfl)) pgs_nil)))) (fun _ _ _ _ _ => pts_nil) (fun _ _ _ _ _ => (pe_tup (pa_cons (pe_dget (hu_of hr) (pv 6) (pv 9) (fun _ _ => rfl)) (pa_cons (pe_callB (id := "sorted") (r := rSortedI K) cr_sortedI (by rfl) T.b_sorted (by decide +kernel) (pa_cons (pe_lc (wi := iList K (tVar 10)) (own := [("_law_line", 11)]) rfl sc_law_turned_about.nd (pi_list (pv 10)) (blkOk_by (N := ["_law_lines", "_law_loops", "_law_cell", "_law_many", "_law_steps_here", "_law_step", "_law_goals", "_law_k", "_law_found", "_law_head", "_law_loop_here", "_law_line"]) (sc := lcScope) (by decide +kernel)) (fun _ _ _ _ _ => (pg_name (i := 11) sc_law_turned_about.nd rfl (Or.inl rfl))) (fun _ _ _ _ _ => pts_nil) (fun _ _ _ _ _ => (pe_dget (hu_of hr) (pv 6) (pv 11) (fun _ _ => rfl)))) pa_nil)) pa_nil))))) pa_nil)))))))))))), ?_⟩
    have sz : sizeLine = 16777216 := sizeLine_eq
    obtain ⟨m, hm⟩ : ∃ m : Int, m = (lns.length : Int) - 1 := ⟨_, rfl⟩
    have m0 : 0 < m := by omega
    refine ⟨_, rfl, _, _, rfl, .inl (SqL.of hll), _, _, rfl, rfl, ?_⟩
    rw [List.length_map, hal.len]
    show C8.tCut _ _ _ [some (.ref ll), some (.ref lo), some (.int c), some (.int ((lns.length : Int) - 1)), none, none, none, none, none, none, none, none] H
    rw [← hm]
    -- the steps
    refine ⟨fun σ' G => ∃ D st5, σ' = [some (.ref ll), some (.ref lo), some (.int c), some (.int m), some (.ref D), st5, none, none, none, none, none, none] ∧ Kp [] H G ∧ ∃ acc : List Int, G D = some (.lst (acc.map V.int)) ∧ (∀ s ∈ acc, StepOk m s) ∧ acc ≠ [], ?_, ?_⟩
    · refine ⟨(by show 7 ≤ sizeLine; decide), fun q nq => ?_⟩
      have kq := (Kp.refl (F := []) (H := H)).new (o := .lst [.int 1, .int 2, .int 3, .int 5, .int 7, .int 11, .int 13]) nq
      refine ⟨q, rfl, ⟨_, SqL.of upd_same⟩, fun D hD => lc_list (K := K) (a := q) (xs := ([1, 2, 3, 5, 7, 11, 13] : List Int).map V.int) (fun i H' => Kp [] (upd H q (.lst [.int 1, .int 2, .int 3, .int 5, .int 7, .int 11, .int 13])) H' ∧ ∃ acc : List Int, H' D = some (.lst (acc.map V.int)) ∧ acc.length ≤ i ∧ (∀ s ∈ acc, StepOk m s) ∧ (0 < i → acc ≠ []))
        ⟨Kp.refl.new hD, [], upd_same, Nat.le_refl 0, fun _ h => absurd h List.not_mem_nil, fun h => absurd h (Nat.lt_irrefl 0)⟩ (fun i H' _ p => SqL.of (p.1.at0 upd_same)) ?_ ?_⟩
      · rintro i x H' hi ⟨kp, acc, hD', hlen, hall, hne⟩
        rw [List.getElem?_map] at hi
        obtain ⟨s, hs, e⟩ := Option.map_eq_some_iff.mp hi
        subst e
        have hmem := List.mem_of_getElem? hs
        have i7 : i < 7 := (List.getElem?_eq_some_iff.mp hs).1
        have s0 : (0 : Int) < s := by
          simp only [List.mem_cons, List.not_mem_nil, or_false] at hmem
          omega
        have put : StepOk m s → ∃ acc' : List V, H' D = some (.lst acc') ∧ acc'.length < sizeLine ∧ (Kp [] (upd H q (.lst [.int 1, .int 2, .int 3, .int 5, .int 7, .int 11, .int 13])) (upd H' D (.lst (acc' ++ [V.int s]))) ∧ ∃ acc2 : List Int, upd H' D (.lst (acc' ++ [V.int s])) D = some (.lst (acc2.map V.int)) ∧ acc2.length ≤ i + 1 ∧ (∀ s ∈ acc2, StepOk m s) ∧ (0 < i + 1 → acc2 ≠ [])) := fun hs => by
          refine ⟨_, hD', by rw [List.length_map]; omega, kp.put hD' (.inr hD), acc ++ [s], by rw [List.map_append]; exact upd_same, by rw [List.length_append, List.length_singleton]; omega, fun t ht => ?_, fun _ => by simp⟩
          rcases mem_snoc ht with e | e
          · exact hall t e
          · rw [e]; exact hs
        refine ⟨rfl, ?_⟩
        refine ⟨_, rfl, rfl, _, rfl, ?_⟩
        by_cases h1 : s = 1
        · rw [show decide (V.int s = V.int 1) = true from decide_eq_true (congrArg V.int h1)]
          exact ⟨_, rfl, put ⟨hmem, .inl h1⟩⟩
        · rw [show decide (V.int s = V.int 1) = false from decide_eq_false fun z => h1 (V.int.inj z)]
          refine ⟨_, rfl, _, rfl, _, _, rfl, rfl, s0, _, _, rfl, rfl, _, rfl, ?_⟩
          by_cases h2 : 0 < m % s
          · rw [show decide (0 < m % s) = true from decide_eq_true h2]
            exact ⟨_, rfl, put ⟨hmem, .inr h2⟩⟩
          · rw [show decide (0 < m % s) = false from decide_eq_false h2]
            refine ⟨kp, acc, hD', by omega, hall, fun _ => hne ?_⟩
            cases i with
            | zero => exact absurd (Option.some.inj hs).symm h1
            | succ i => exact Nat.succ_pos i
      · rintro H' ⟨kp, acc, hD', hlen, hall, hne⟩
        exact ⟨D, _, rfl, kq.ext kp, acc, hD', hall, hne (by decide)⟩
    rintro σ' G ⟨D, st5, rfl, k1, acc, hD, hall, hne⟩
    -- the step
    have hpos : 0 < acc.length := List.length_pos_iff.mpr hne
    have md := mod_in c (show (0 : Int) < ((acc.length : Nat) : Int) by omega)
    refine ⟨_, rfl, _, rfl, _, rfl, _, _, rfl, .inl (SqL.of hD), _, _, rfl, rfl, (by show (0 : Int) < ((acc.map V.int).length : Int); rw [List.length_map]; omega), ?_⟩
    rw [List.length_map]
    refine ⟨_, _, _, .int (gi acc (c % (acc.length : Int))), rfl, rfl, SqL.of hD, atI_gi md.1 md.2, ?_⟩
    have hst := hall _ (gi_mem md.1 md.2)
    generalize gi acc (c % (acc.length : Int)) = st at hst ⊢
    have st13 : 0 < st ∧ st ≤ 13 := by
      have := hst.1
      simp only [List.mem_cons, List.not_mem_nil, or_false] at this
      omega
    -- goals = {0: 0}
    refine fun d nd => ⟨upd_same, [(Sum.inl 0, .int 0)], rfl, (by decide), ?_⟩
    rw [upd_upd]
    have k2 : Kp [] H (upd G d (.dK (mergeK [] [(Sum.inl 0, .int 0)]))) := k1.new nd
    have hd0 : upd G d (.dK (mergeK [] [(Sum.inl 0, .int 0)])) d = some (.dK [(Sum.inl 0, .int 0)]) := upd_same
    have fd : H d = none := k1.free0 nd
    generalize upd G d (.dK (mergeK [] [(Sum.inl 0, .int 0)])) = G2 at k2 hd0 ⊢
    have m1000 : m ≤ 1000 := by omega
    refine ⟨_, rfl, _, _, rfl, rfl, _, _, rfl, ⟨by decide, by decide, by omega, by omega⟩, for_range (lo := 1) (n := (m + 1 - 1).toNat) (fun i σ' H' => (∃ v7, σ' = [some (.ref ll), some (.ref lo), some (.int c), some (.int m), some (.ref D), some (.int st), some (.ref d), v7, none, none, none, none]) ∧ Kp [] H H' ∧ ∃ kvs, H' d = some (.dK kvs) ∧ kvs.length ≤ i + 1 ∧ ∀ k : Int, 0 ≤ k → k ≤ i → valV kvs (Sum.inl k) = some (.int (gT st (c / 16) m k)))
      ⟨⟨none, rfl⟩, k2, _, hd0, Nat.le_refl 1, fun k h0 h1 => ?_⟩ ?_ ?_⟩
    · have e : k = 0 := by omega
      subst e
      unfold gT
      rw [if_pos rfl]
      rfl
    · rintro i σ' H' hi ⟨⟨v7, rfl⟩, kp, kvs, hkv, hlen, hval⟩
      refine ⟨_, rfl, _, rfl, _, _, rfl, rfl, .inr ⟨by omega, by omega⟩, _, rfl, _, _, rfl, rfl, ⟨by decide, by decide⟩, _, _, rfl, rfl, _, rfl, _, _, rfl, rfl, m0, _, _, rfl, rfl, _, rfl, _, rfl, d, _, rfl, DPut.k (k := Sum.inl ((1 : Int) + (i : Int))) hkv (by omega), ?_⟩
      refine ⟨⟨_, rfl⟩, kp.put hkv (.inr fd), _, upd_same, Nat.le_trans (length_putK _ _ _) (by omega), fun k h0 h1 => ?_⟩
      rw [valV_put]
      by_cases e : k = 1 + (i : Int)
      · rw [if_pos (by rw [e]), e]
        unfold gT
        rw [if_neg (by omega)]
      · rw [if_neg (fun z => e (Sum.inl.inj z))]
        exact hval k h0 (by omega)
    rintro σ' G3 ⟨⟨v7, rfl⟩, k3, kvs, hkv, _, hval⟩
    have GA : ∀ {G' : Hp}, Kp [] G3 G' → GoalsAt G' d (gT st (c / 16) m) m := fun kp => ⟨kvs, kp.at0 hkv, fun k h0 h1 => hval k h0 (by omega)⟩
    -- found = list(lines)
    have hll3 := k3.at0 hll
    have hal3 := lns_mono k3.tk hal
    refine ⟨_, rfl, _, _, rfl, .inl (SqL.of hll3), fun fo nfo => ?_⟩
    have k4 : Kp [] G3 (upd G3 fo (.lst (as.map V.ref))) := Kp.refl.new nfo
    have hfo : upd G3 fo (.lst (as.map V.ref)) fo = some (.lst (as.map V.ref)) := upd_same
    have ffo : H fo = none := k3.free0 nfo
    generalize upd G3 fo (.lst (as.map V.ref)) = G4 at k4 hfo ⊢
    have inj : ∀ i j : Int, 0 ≤ i → i ≤ m → 0 ≤ j → j ≤ m → gT st (c / 16) m i = gT st (c / 16) m j → i = j := fun i j h1 h2 h3 h4 => gT_inj m0 hst h1 h2 h3 h4
    have rng : ∀ k : Int, 0 ≤ k → k ≤ m → 0 ≤ gT st (c / 16) m k ∧ gT st (c / 16) m k ≤ m := fun k h _ => gT_range m0 h
    refine ⟨_, rfl, _, _, rfl, rfl, _, rfl, by omega, by omega, for_range (lo := 0) (n := (m + 1).toNat) (fun i σ' H' => (∃ v7, σ' = [some (.ref ll), some (.ref lo), some (.int c), some (.int m), some (.ref D), some (.int st), some (.ref d), v7, some (.ref fo), none, none, none]) ∧ Kp [] G3 H' ∧ ∃ fas fl, H' fo = some (.lst ((fas : List Addr).map V.ref)) ∧ All2 (LnAt H') fas fl ∧ fl.length = lns.length ∧ ∀ k : Int, 0 ≤ k → k < i → fl[(gT st (c / 16) m k).toNat]? = some (ledL (gT st (c / 16) m) (lnAt lns k)))
      ⟨⟨_, rfl⟩, k4, as, lns, hfo, lns_mono k4.tk hal3, rfl, fun k h0 h1 => absurd h1 (by omega)⟩ ?_ ?_⟩
    · rintro i σ' H' hi ⟨⟨v7, rfl⟩, kp, fas, fl, hfo', hfl, hlen, hdone⟩
      have im : ((0 : Int) + (i : Int)) = (i : Int) := Int.zero_add _
      have i1 : (i : Int) ≤ m := by omega
      obtain ⟨la, hla, hln⟩ := hal3.get (lnAt_get (lns := lns) (i := (i : Int)) (by omega) (by omega))
      have hlaI : atI (as.map V.ref) ((0 : Int) + (i : Int)) = some (.ref la) := by
        rw [im]
        exact atI_some (by omega) (by rw [List.getElem?_map, hla]; rfl)
      have tgi : ∀ t ∈ tg (lnAt lns (i : Int)), 0 ≤ t ∧ t ≤ m := fun t ht => by
        have := good.gen.tgs _ (lnAt_mem (by omega) (by omega)) t ht
        omega
      refine ⟨_, rfl, _, rfl, _, _, _, .ref la, rfl, rfl, SqL.of (kp.at0 hll3), hlaI, _, rfl, la, _, d, _, m, rfl, hln.mono kp.tk, GA kp, tgi, fun p H2 k5 hp => ?_⟩
      have kp2 := kp.ext k5
      have hkv2 := kp2.at0 hkv
      have rg := rng (i : Int) (by omega) i1
      refine ⟨_, rfl, _, rfl, _, rfl, d, .int (gT st (c / 16) m (i : Int)), rfl, (by have q := DGet.k (k := Sum.inl (i : Int)) hkv2; rw [hval (i : Int) (by omega) (by omega)] at q; rw [im]; exact q), fo, _, _, (gT st (c / 16) m (i : Int)).toNat, rfl, rfl, k5.at0 hfo', ixN_in rg.1 (by rw [List.length_map, hfl.len, hlen]; omega), ?_⟩
      have t := tk_upd (o' := .lst ((fas.map V.ref).set (gT st (c / 16) m (i : Int)).toNat (V.ref p))) (k5.at0 hfo')
      refine ⟨⟨_, rfl⟩, kp2.put (k5.at0 hfo') (.inr nfo), fas.set (gT st (c / 16) m (i : Int)).toNat p, fl.set (gT st (c / 16) m (i : Int)).toNat (ledL (gT st (c / 16) m) (lnAt lns (i : Int))), by rw [List.map_set]; exact upd_same, ((lns_mono t (lns_mono k5.tk hfl)).set _ (hp.mono t)), by rw [List.length_set]; exact hlen, fun k h0 h1 => ?_⟩
      by_cases e : k = (i : Int)
      · subst e
        rw [List.getElem?_set_self (by rw [hlen]; omega)]
      · have rk := rng k h0 (by omega)
        rw [List.getElem?_set_ne (fun z => e (inj k (i : Int) h0 (by omega) (by omega) i1 (by omega)))]
        exact hdone k h0 (by omega)
    rintro σ' G5 ⟨⟨v7', rfl⟩, k5, fas, fl, hfo5, hfl, hlen, hdone⟩
    have good' : Good n r fl := good_turned good hlen (fun k h0 h1 => by have := rng k h0 (by omega); omega) (fun i j a1 a2 a3 a4 e => inj i j a1 (by omega) a3 (by omega) e) (fun k h0 h1 => hdone k h0 (by omega))
    have k35 := k3.ext k5
    have hlo5 := k35.at0 hlo
    -- the result
    refine ⟨_, rfl, _, rfl, lo, rfl, ⟨_, SqL.of hlo5⟩, fun D2 hD2 => lc_list (K := K) (a := lo) (xs := ps.map V.ref) (fun i H' => Kp [] G5 H' ∧ ∃ acc, H' D2 = some (.lst acc) ∧ acc.length ≤ i)
      ⟨Kp.refl.new hD2, [], upd_same, Nat.le_refl 0⟩ (fun i H' _ p => SqL.of (p.1.at0 hlo5)) ?_ ?_⟩
    · rintro i x H' hi ⟨kp, acc2, hD2', hl2⟩
      rw [List.getElem?_map] at hi
      obtain ⟨p, hp, e⟩ := Option.map_eq_some_iff.mp hi
      subst e
      have ip : i < ps.length := (List.getElem?_eq_some_iff.mp hp).1
      obtain ⟨head, lp, xs, h1, h2, h3, h4, h5⟩ := hloops p (List.mem_of_getElem? hp)
      have kk := k35.ext kp
      have hkvH : H' d = some (.dK kvs) := (k5.ext kp).at0 hkv
      refine ⟨p, _, rfl, SqT.of (kk.tup h1), rfl, _, _, rfl, _, _, rfl, rfl, rfl, ?_⟩
      refine ⟨_, rfl, _, rfl, d, .int (gT st (c / 16) m head), rfl, (by rw [← hval head h4.1 (by have := h4.2; omega)]; exact DGet.k (k := Sum.inl head) hkvH), ?_⟩
      have hlp := kk.at0 h2
      refine ⟨_, rfl, lp, rfl, ⟨_, SqL.of hlp⟩, fun D3 hD3 => lc_list (K := K) (a := lp) (xs := xs.map V.int) (fun i H'' => Kp [] H' H'' ∧ ∃ acc3 : List Int, H'' D3 = some (.lst (acc3.map V.int)) ∧ acc3.length ≤ i)
        ⟨Kp.refl.new hD3, [], upd_same, Nat.le_refl 0⟩ (fun i H'' _ p => SqL.of (p.1.at0 hlp)) ?_ ?_⟩
      · rintro j y H'' hj ⟨kp3, acc3, hD3', hl3⟩
        rw [List.getElem?_map] at hj
        obtain ⟨u, hu, e⟩ := Option.map_eq_some_iff.mp hj
        subst e
        have ju : j < xs.length := (List.getElem?_eq_some_iff.mp hu).1
        have uin := h5 u (List.mem_of_getElem? hu)
        refine ⟨rfl, ?_⟩
        refine ⟨_, rfl, _, rfl, d, .int (gT st (c / 16) m u), rfl, (by rw [← hval u uin.1 (by have := uin.2; omega)]; exact DGet.k (k := Sum.inl u) (kp3.at0 hkvH)), _, hD3', by rw [List.length_map]; omega, kp3.put hD3' (.inr hD3), acc3 ++ [gT st (c / 16) m u], by rw [List.map_append]; exact upd_same, by rw [List.length_append, List.length_singleton]; omega⟩
      · rintro H'' ⟨kp3, acc3, hD3', hl3⟩
        refine ⟨D3, acc3, rfl, SqL.of hD3', fun ns' p2 _ _ np2 => ⟨(by show 2 ≤ sizeLine; decide), fun p3 np3 => ?_⟩⟩
        have kz := (kp3.new (o := .lst (ns'.map V.int)) np2).new (o := .tup [.int (gT st (c / 16) m head), .ref p2]) np3
        have kpz := kp.ext kz
        have hz := kz.at0 hD2'
        exact ⟨acc2, hz, by omega, kpz.put hz (.inr hD2), acc2 ++ [.ref p3], upd_same, by rw [List.length_append, List.length_singleton]; omega⟩
    · rintro H' ⟨kp, acc2, hD2', hl2⟩
      refine ⟨(by show 2 ≤ sizeLine; decide), fun p np => ?_⟩
      have k6 := kp.new (o := .tup [.ref fo, .ref D2]) np
      exact k p fo D2 fl _ (k35.ext k6) ffo upd_same ⟨fas, k6.at0 hfo5, lns_mono k6.tk hfl⟩ good' hlen
end
end Lk
namespace Lk
open PySem L2
section
variable {P : Program} {w : World} {K : PySem.W.Frag} {mg : Str → Option Value} {base : Heap} {C1 aP : Addr}
/-- the loops on the way: their lists of lines stand elsewhere -/
def LoopsF (H : Hp) (lo : Addr) (L : Int) (F : List Addr) (m : Nat) : Prop := ∃ ps : List Addr, H lo = some (.lst (ps.map V.ref)) ∧ ps.length = m ∧ ∀ p ∈ ps, ∃ (head : Int) (lp : Addr) (xs : List Int), H p = some (.tup [.int head, .ref lp]) ∧ IsL H lp xs ∧ xs.length ≤ 1000 ∧ In head L ∧ (∀ x ∈ xs, In x L) ∧ lp ∉ F
structure PSt (H0 G : Hp) (l ll ro oo lo : Addr) (n r : Int) (lns : List Ln) (outs : List Int) (m : Nat) : Prop where
  M : Mk0 G l ll ro oo n r lns outs
  lps : LoopsF G lo (lns.length : Int) [l, ll, oo, lo] m
  lon : lo ∉ [l, ll, ro, oo]
  kp : Kp [l] H0 G
  fl : H0 ll = none
  fo : H0 oo = none
  fp : H0 lo = none
section
variable {H0 G G' : Hp} {l ll ro oo lo p lp : Addr} {n r head : Int} {lns lns' : List Ln} {outs outs' : List Int} {m : Nat} {ln : Ln} {as ps : List Addr} {xs : List Int}
theorem LoopsF.keep {L L' : Int} {F F' : List Addr} (h : LoopsF G lo L F m) (k : Kp F' G G') (h1 : lo ∉ F') (h2 : ∀ q ∈ F', q ∈ F) (hL : L ≤ L') : LoopsF G' lo L' F m := by
  obtain ⟨ps, e, el, q⟩ := h
  refine ⟨ps, k.at e h1, el, fun p hp => ?_⟩
  obtain ⟨head, lp, xs, e1, e2, e3, e4, e5, e6⟩ := q p hp
  exact ⟨head, lp, xs, k.tup e1, k.at e2 fun z => e6 (h2 _ z), e3, ⟨e4.1, Int.lt_of_lt_of_le e4.2 hL⟩, fun x hx => ⟨(e5 x hx).1, Int.lt_of_lt_of_le (e5 x hx).2 hL⟩, e6⟩
theorem PSt.step (S : PSt H0 G l ll ro oo lo n r lns outs m) (k : Kp [l, ll, oo] G G') (M' : Mk0 G' l ll ro oo n r lns' outs') (hl : lns.length ≤ lns'.length) : PSt H0 G' l ll ro oo lo n r lns' outs' m := by
  have hlo := S.lon
  simp only [List.mem_cons, not_or, List.not_mem_nil, not_false_eq_true, and_true] at hlo
  refine ⟨M', S.lps.keep k ?_ ?_ (by omega), S.lon, S.kp.step k ?_, S.fl, S.fo, S.fp⟩
  · simp only [List.mem_cons, not_or, List.not_mem_nil, not_false_eq_true, and_true]
    exact ⟨hlo.1, hlo.2.1, hlo.2.2.2⟩
  · intro q hq
    simp only [List.mem_cons, List.not_mem_nil, or_false] at hq ⊢
    rcases hq with e | e | e
    · exact .inl e
    · exact .inr (.inl e)
    · exact .inr (.inr (.inl e))
  · intro q hq
    simp only [List.mem_cons, List.not_mem_nil, or_false] at hq ⊢
    rcases hq with e | e | e
    · exact .inl e
    · rw [e]; exact .inr S.fl
    · rw [e]; exact .inr S.fo
theorem PSt.ext (S : PSt H0 G l ll ro oo lo n r lns outs m) (k : Kp [] G G') : PSt H0 G' l ll ro oo lo n r lns outs m := S.step k.nil ⟨S.M.m.ext k, S.M.n3, S.M.r1, S.M.gen, S.M.outs⟩ (Nat.le_refl _)
theorem PSt.srcd (S : PSt H0 G l ll ro oo lo n r lns outs m) (k : Kp [l] G G') (s : SrcAt G' l) : PSt H0 G' l ll ro oo lo n r lns outs m := S.step (k.mono fun q hq => L3 (.inl (List.mem_singleton.mp hq))) ⟨S.M.m.srcd k s, S.M.n3, S.M.r1, S.M.gen, S.M.outs⟩ (Nat.le_refl _)
theorem PSt.app (S : PSt H0 G l ll ro oo lo n r lns outs m) (h : G ll = some (.lst (as.map V.ref))) (ha : All2 (LnAt G) as lns) (hp : LnAt G p ln) (f : Fld n r ln) (a : isAsk ln = false) (t : ∀ t ∈ tg ln, 0 ≤ t ∧ t ≤ (lns.length : Int) + 1) : PSt H0 (upd G ll (.lst (as.map V.ref ++ [.ref p]))) l ll ro oo lo n r (lns ++ [ln]) outs m := by
  have len : (lns ++ [ln]).length = lns.length + 1 := by rw [List.length_append, List.length_singleton]
  refine S.step (Kp.refl.put h (.inl (L3 (.inr (.inl rfl))))) ⟨S.M.m.app h ha hp, S.M.n3, S.M.r1, ?_, S.M.outs.app⟩ (by omega)
  have g := S.M.gen.app (B' := (lns.length : Int) + 1) f a t (by omega)
  exact g.up (by omega) (by omega)
theorem PSt.loop (S : PSt H0 G l ll ro oo lo n r lns outs m) (h : G lo = some (.lst (ps.map V.ref))) (hp : G p = some (.tup [.int head, .ref lp])) (hx : IsL G lp xs) (hl : xs.length ≤ 1000) (hh : In head (lns.length : Int)) (ha : ∀ x ∈ xs, In x (lns.length : Int)) (hn : lp ∉ [l, ll, oo, lo]) :
    PSt H0 (upd G lo (.lst (ps.map V.ref ++ [.ref p]))) l ll ro oo lo n r lns outs (m + 1) := by
  have hlo := S.lon
  simp only [List.mem_cons, not_or, List.not_mem_nil, not_false_eq_true, and_true] at hlo
  have k : Kp [lo] G (upd G lo (.lst (ps.map V.ref ++ [.ref p]))) := Kp.refl.put h (.inl in1)
  have M := S.M.m
  have lpn : lp ≠ lo := fun e => hn (by rw [e]; simp)
  refine ⟨⟨⟨M.src.keep k (nin1 fun e => hlo.1 e.symm), M.lin.keep k (nin1 fun e => hlo.2.1 e.symm), M.rol.keep k (nin1 fun e => hlo.2.2.1 e.symm), k.at M.out (nin1 fun e => hlo.2.2.2 e.symm), M.nd⟩, S.M.n3, S.M.r1, S.M.gen, S.M.outs⟩, ?_, S.lon, S.kp.step k (fun q hq => .inr (by rw [List.mem_singleton.mp hq]; exact S.fp)), S.fl, S.fo, S.fp⟩
  obtain ⟨ps', e, el, q⟩ := S.lps
  have eps : ps' = ps := by
    rw [h] at e
    have e1 : ps.map V.ref = ps'.map V.ref := by injection e with e; injection e
    exact ((List.map_inj_right fun x y z => by injection z).mp e1).symm
  subst eps
  refine ⟨ps' ++ [p], by rw [List.map_append]; exact upd_same, by rw [List.length_append, List.length_singleton, el], fun p' hp' => ?_⟩
  rcases mem_snoc hp' with z | z
  · obtain ⟨h', lp', xs', e1, e2, e3, e4, e5, e6⟩ := q p' z
    exact ⟨h', lp', xs', k.tup e1, k.at e2 (nin1 fun e => e6 (by rw [e]; simp)), e3, e4, e5, e6⟩
  · rw [z]
    exact ⟨head, lp, xs, k.tup hp, k.at hx (nin1 lpn), hl, hh, ha, hn⟩
theorem LoopsF.at_ {L : Int} {F : List Addr} (h : LoopsF G lo L F m) (hm : m ≤ 1000) : LoopsAt G lo L := by
  obtain ⟨ps, e, el, q⟩ := h
  refine ⟨ps, e, by omega, fun p hp => ?_⟩
  obtain ⟨head, lp, xs, e1, e2, e3, e4, e5, e6⟩ := q p hp
  exact ⟨head, lp, xs, e1, e2, e3, e4, e5⟩
end
theorem Good.app {n r : Int} {lns : List Ln} {ln : Ln} (g : Good n r lns) (f : Fld n r ln) (a : isAsk ln = false) (t : ∀ t ∈ tg ln, 0 ≤ t ∧ t ≤ (lns.length : Int)) : Good n r (lns ++ [ln]) := by
  have len : (lns ++ [ln]).length = lns.length + 1 := by rw [List.length_append, List.length_singleton]
  have q := g.gen.app f a t (by omega)
  exact ⟨by omega, q.up (by omega) (by omega)⟩
theorem good_patch {n r : Int} {lns : List Ln} {ln : Ln} {i : Nat} {y w : Option Int} {c k m : Int} (g : Good n r lns) (e : lns[i]? = some (.test y w c k m)) (f : Fld n r ln) (a : isAsk ln = false) (t : ∀ t ∈ tg ln, 0 ≤ t ∧ t ≤ (lns.length : Int)) : Good n r (lns.set i (.test y w c (lns.length : Int) m) ++ [ln]) := by
  have len0 : (lns.set i (.test y w c (lns.length : Int) m)).length = lns.length := List.length_set
  have len : (lns.set i (.test y w c (lns.length : Int) m) ++ [ln]).length = lns.length + 1 := by rw [List.length_append, List.length_singleton, len0]
  have hm := List.mem_of_getElem? e
  have f0 : Fld n r (.test y w c (lns.length : Int) m) := by have q := g.gen.fld _ hm; exact q
  have tm := g.gen.tgs _ hm m (by simp [tg])
  have g1 := g.gen.set i (ln := .test y w c (lns.length : Int) m) (B' := (lns.length : Int)) f0 rfl (fun t h => by
    rcases List.mem_cons.mp h with e | e
    · rw [e]; omega
    · rw [List.mem_singleton.mp e]; omega) (by omega)
  have q := g1.app f a t (Int.le_refl _)
  exact ⟨by omega, q.up (by omega) (by omega)⟩
theorem sc_law_program : FnScope ["_law_source_here", "_law_cell", "_law_names", "_law_rows", "_law_roles", "_law_lines", "_law_loops", "_law_outs", "_law_k", "_law_last", "_law_at", "_law_head"] ["_law_source_here"] (defScope s_law_program) := ⟨rfl, rfl, rfl, by decide +kernel, rfl, by decide +kernel, by decide +kernel⟩
theorem ok_law_program {f : Addr} {fd : FuncData} (F : Fun K "_law_program" "_law_program" s_law_program f fd) (T : Txt K mg C1 aP) (G_law_next : Fo P w K mg base 1 "_law_next" ["_law_source_here", "_law_many"] spNext)
    (G_law_straight : Fo P w K mg base 2 "_law_straight" ["_law_source_here", "_law_at", "_law_names", "_law_rows", "_law_roles"] spStraight)
    (G_law_loop : Fo P w K mg base 4 "_law_loop" ["_law_source_here", "_law_lines", "_law_names", "_law_rows", "_law_roles", "_law_outs"] spLoop)
    (G_law_turned_about : Fo P w K mg base 2 "_law_turned_about" ["_law_lines", "_law_loops", "_law_cell"] spTurned) : FnOk P w K mg base CX0 5 f fd ["_law_source_here"] spProgram := by
  refine F.ok sc_law_program (fun vs H Q E h => ?_) (fun cdv Ar outer sh H vs Q E hr h => ?_)
  · obtain ⟨l, rfl, _⟩ := h
    rfl
  · obtain ⟨l, rfl, hs, k⟩ := h
    refine ⟨_, (pss_cons
    (ps_set (i := 1) sc_law_program.nd rfl (Or.inr rfl) (pe_fo G_law_next (hr.mono (by decide)) rfl (pa_cons (pv 0) (pa_cons (pe_op op_pow pe_int pe_int) pa_nil))))
    (pss_cons
    (ps_set (i := 2) sc_law_program.nd rfl (Or.inr rfl) (pe_op op_addk pe_int (pe_op op_mod (pv 1) pe_int)))
    (pss_cons
    (ps_set (i := 3) sc_law_program.nd rfl (Or.inl rfl) (pe_op op_addk pe_int (pe_op op_mod (pe_op op_fdiv (pv 1) pe_int) pe_int)))
    (pss_cons
    (ps_setLc (i := 4) rfl sc_law_program.nd rfl rfl (sw_true rfl rfl rfl (by decide +kernel)) (own := [("_law_k", 8)]) (pi_range1 rfl T.b_range (pa_cons (pv 2) pa_nil)) (blkOk_by (N := ["_law_source_here", "_law_cell", "_law_names", "_law_rows", "_law_roles", "_law_lines", "_law_loops", "_law_outs", "_law_k", "_law_last", "_law_at", "_law_head"]) (sc := defScope s_law_program) (by decide +kernel)) (fun _ _ _ _ _ => (pg_name (i := 8) sc_law_program.nd rfl (Or.inl rfl))) (fun _ _ _ _ _ => pts_nil) (fun _ _ _ _ _ => (pe_op op_mod (pe_op op_add (pv 8) (pe_op op_mod (pe_op op_fdiv (pv 1) pe_int) (pv 2))) (pv 2))))
    (pss_cons
    (ps_set (i := 5) sc_law_program.nd rfl (Or.inl rfl) (pe_lst pa_nil))
    (pss_cons
    (ps_set (i := 6) sc_law_program.nd rfl (Or.inl rfl) (pe_lst pa_nil))
    (pss_cons
    (ps_set (i := 7) sc_law_program.nd rfl (Or.inl rfl) (pe_lst pa_nil))
    (pss_cons
    (ps_for PassesOwn.never rfl (pi_range1 rfl T.b_range (pa_cons (pe_op op_mod (pe_op op_fdiv (pv 1) pe_int) pe_int) pa_nil)) (pg_name (i := 8) sc_law_program.nd rfl (Or.inl rfl))
      (pss_one
      (ps_expr (pe_bm PySem.F.plainAttrs_list PySem.F.slot_list_append PySem.F.type_list_append mt_append (pv 5) (pa_cons (pe_fo G_law_straight (hr.mono (by decide)) rfl (pa_cons (pv 0) (pa_cons (pe_callB call_len_seq (by rfl) T.b_len (by decide +kernel) (pa_cons (pv 5) pa_nil)) (pa_cons (pv 2) (pa_cons (pv 3) (pa_cons (pv 4) pa_nil)))))) pa_nil)))))
    (pss_cons
    (ps_expr (pe_bm PySem.F.plainAttrs_list PySem.F.slot_list_append PySem.F.type_list_append mt_append (pv 6) (pa_cons (pe_fo G_law_loop (hr.mono (by decide)) rfl (pa_cons (pv 0) (pa_cons (pv 5) (pa_cons (pv 2) (pa_cons (pv 3) (pa_cons (pv 4) (pa_cons (pv 7) pa_nil))))))) pa_nil)))
    (C8.pss_cut
    (ps_if (pt_cmpR op_eq (pe_op op_mod (pe_op op_fdiv (pv 1) pe_int) pe_int) pe_int (nomark _))
      (pss_one
      (ps_expr (pe_bm PySem.F.plainAttrs_list PySem.F.slot_list_append PySem.F.type_list_append mt_append (pv 6) (pa_cons (pe_fo G_law_loop (hr.mono (by decide)) rfl (pa_cons (pv 0) (pa_cons (pv 5) (pa_cons (pv 2) (pa_cons (pv 3) (pa_cons (pv 4) (pa_cons (pv 7) pa_nil))))))) pa_nil))))
      pss_nil)
    (pss_cons
    (ps_for PassesOwn.never rfl (pi_range1 rfl T.b_range (pa_cons (pe_op op_mod (pe_op op_fdiv (pv 1) pe_int) pe_int) pa_nil)) (pg_name (i := 8) sc_law_program.nd rfl (Or.inl rfl))
      (pss_one
      (ps_expr (pe_bm PySem.F.plainAttrs_list PySem.F.slot_list_append PySem.F.type_list_append mt_append (pv 5) (pa_cons (pe_fo G_law_straight (hr.mono (by decide)) rfl (pa_cons (pv 0) (pa_cons (pe_callB call_len_seq (by rfl) T.b_len (by decide +kernel) (pa_cons (pv 5) pa_nil)) (pa_cons (pv 2) (pa_cons (pv 3) (pa_cons (pv 4) pa_nil)))))) pa_nil)))))
    (pss_cons
    (ps_set (i := 9) sc_law_program.nd rfl (Or.inl rfl) (pe_callB call_len_seq (by rfl) T.b_len (by decide +kernel) (pa_cons (pv 5) pa_nil)))
    (pss_cons
    (ps_expr (pe_bm PySem.F.plainAttrs_list PySem.F.slot_list_append PySem.F.type_list_append mt_append (pv 5) (pa_cons (pe_tup (pa_cons pe_str pa_nil)) pa_nil)))
    (pss_cons
    (ps_for PassesOwn.never rfl (pi_list (pv 7)) (pg_name (i := 10) sc_law_program.nd rfl (Or.inl rfl))
      (pss_cons
      (ps_asg (pe_op op_catA (pe_slice sl_tupA (pe_ix ix_list (pv 5) (pv 10) (fun _ _ => rfl)) po_none (po_some pe_int)) (pe_tup (pa_cons (pe_callB call_len_seq (by rfl) T.b_len (by decide +kernel) (pa_cons (pv 5) pa_nil)) (pa_cons (pe_ix ix_tup (pe_ix ix_list (pv 5) (pv 10) (fun _ _ => rfl)) pe_int (fun _ _ => rfl)) pa_nil)))) (pg_sub (pv 5) (pv 10) set_list))
      (pss_one
      (ps_expr (pe_bm PySem.F.plainAttrs_list PySem.F.slot_list_append PySem.F.type_list_append mt_append (pv 5) (pa_cons (pe_ix ix_list (pe_lst (pa_cons (pe_tup (pa_cons pe_str (pa_cons (pe_ix ix_list (pv 4) pe_int (fun _ _ => rfl)) (pa_cons (pv 9) pa_nil)))) (pa_cons (pe_tup (pa_cons pe_str (pa_cons (pe_ix ix_list (pv 4) pe_int (fun _ _ => rfl)) (pa_cons pe_int (pa_cons (pe_ix ix_list (pv 4) pe_int (fun _ _ => rfl)) (pa_cons (pe_op op_sub (pe_op op_mod (pv 10) pe_int) pe_int) (pa_cons (pv 9) pa_nil))))))) pa_nil))) (pe_op op_mod (pv 10) pe_int) (fun _ _ => rfl)) pa_nil))))))
    (pss_cons
    (ps_set (i := 11) sc_law_program.nd rfl (Or.inl rfl) (pe_ix ix_tup (pe_ix ix_list (pv 6) (pe_op op_mod (pe_op op_fdiv (pv 1) pe_int) (pe_callB call_len_seq (by rfl) T.b_len (by decide +kernel) (pa_cons (pv 6) pa_nil))) (fun _ _ => rfl)) pe_int (fun _ _ => rfl)))
    (C8.pss_cut
    (ps_if (pt_cmpR op_eq (pe_op op_mod (pe_op op_fdiv (pv 1) pe_int) pe_int) pe_int (nomark _))
      (pss_one
      (ps_expr (pe_bm PySem.F.plainAttrs_list PySem.F.slot_list_append PySem.F.type_list_append mt_append (pv 5) (pa_cons (pe_ix ix_list (pe_lst (pa_cons (pe_tup (pa_cons pe_str (pa_cons (pe_ix ix_list (pv 4) pe_int (fun _ _ => rfl)) (pa_cons (pv 11) pa_nil)))) (pa_cons (pe_tup (pa_cons pe_str (pa_cons pe_non (pa_cons pe_non (pa_cons pe_int (pa_cons (pv 9) (pa_cons (pv 11) pa_nil))))))) pa_nil))) (pe_op op_mod (pe_op op_fdiv (pv 1) pe_int) pe_int) (fun _ _ => rfl)) pa_nil))))
      pss_nil)
    (pss_cons
    (ps_set (i := 1) sc_law_program.nd rfl (Or.inr rfl) (pe_fo G_law_next (hr.mono (by decide)) rfl (pa_cons (pv 0) (pa_cons (pe_op op_pow pe_int pe_int) pa_nil))))
    (C8.pss_cut
    (ps_if (pt_cmpR op_eq (pe_op op_mod (pv 1) pe_int) pe_int (nomark _))
      (pss_one
      (ps_asg (pe_fo G_law_turned_about (hr.mono (by decide)) rfl (pa_cons (pv 5) (pa_cons (pv 6) (pa_cons (pe_op op_fdiv (pv 1) pe_int) pa_nil)))) (pg_tup rfl (pgs_cons (pg_name (i := 5) sc_law_program.nd rfl (Or.inl rfl)) (pgs_cons (pg_name (i := 6) sc_law_program.nd rfl (Or.inl rfl)) pgs_nil)))))
      pss_nil)
    (pss_one
    (ps_ret (pe_tup (pa_cons (pe_tup (pa_cons (pv 2) (pa_cons (pv 3) (pa_cons (pv 5) pa_nil)))) (pa_cons (pv 6) (pa_cons (pv 4) pa_nil)))))))))))))))))))))))), ?_⟩
    have big : ∀ {m : Nat}, m ≤ 1000 → m < sizeLine := fun {m} h => by have : sizeLine = 16777216 := sizeLine_eq; omega
    refine ⟨_, rfl, _, _, rfl, rfl, ⟨by decide, by decide, by decide⟩, l, _, rfl, hs, (by decide), fun v H1 v0 v1 k1 hs1 => ?_⟩
    obtain ⟨n, hn⟩ : ∃ n : Int, n = 3 + v % 2 := ⟨_, rfl⟩
    obtain ⟨r, hr'⟩ : ∃ r : Int, r = 1 + v / 2 % 2 := ⟨_, rfl⟩
    have n3 : 3 ≤ n := by omega
    have n4 : n ≤ 4 := by omega
    have r1 : 1 ≤ r := by omega
    have r2 : r ≤ 2 := by omega
    refine ⟨_, rfl, _, _, rfl, rfl, (by show (0 : Int) < _; decide), _, _, n, rfl, rfl, hn.symm, _, rfl, _, _, rfl, rfl, ⟨by decide, by decide⟩, _, _, rfl, rfl, (by show (0 : Int) < _; decide), _, _, r, rfl, rfl, hr'.symm, ?_⟩
    refine ⟨_, rfl, _, rfl, by omega, by omega, fun ro nro => lc_range (lo := 0) (n := n.toNat) (fun i G => Kp [] H1 G ∧ ∃ acc : List Int, G ro = some (.lst (acc.map V.int)) ∧ acc.length = i ∧ ∀ x ∈ acc, In x n)
      ⟨Kp.refl.new nro, [], upd_same, rfl, fun _ h => absurd h List.not_mem_nil⟩ ?_ ?_⟩
    · rintro i G hi ⟨kp, acc, hro, hlen, hall⟩
      refine ⟨rfl, ?_⟩
      refine ⟨_, rfl, _, rfl, _, _, rfl, rfl, ⟨by decide, by decide⟩, _, rfl, _, _, rfl, rfl, (by show (0 : Int) < n; omega), _, _, rfl, rfl, _, rfl, _, _, rfl, rfl, (by show (0 : Int) < n; omega), ?_⟩
      have md := mod_in ((0 + (i : Int)) + v / 4 % n) (show 0 < n by omega)
      refine ⟨_, hro, by rw [List.length_map]; have := sizeLine_eq; omega, kp.put hro (.inr nro), acc ++ [((0 + (i : Int)) + v / 4 % n) % n], by rw [List.map_append]; exact upd_same, by rw [List.length_append, List.length_singleton, hlen], fun x hx => ?_⟩
      rcases mem_snoc hx with e | e
      · exact hall x e
      · rw [e]; exact md
    rintro G ⟨kp, acc, hro, hlen, hall⟩
    have k2 := k1.ext kp
    refine ⟨(by show 0 ≤ sizeLine; omega), fun ll nll => ⟨(by show 0 ≤ sizeLine; omega), fun lo nlo => ⟨(by show 0 ≤ sizeLine; omega), fun oo noo => ?_⟩⟩⟩
    have hG1 : (upd G ll (.lst [])) lo = none := nlo
    have lol : lo ≠ ll := fun e => by rw [e, upd_same] at nlo; cases nlo
    have nlo' : G lo = none := by rw [upd_ne lol] at nlo; exact nlo
    have ool : oo ≠ lo := fun e => by rw [e, upd_same] at noo; cases noo
    rw [upd_ne ool] at noo
    have oll : oo ≠ ll := fun e => by rw [e, upd_same] at noo; cases noo
    have noo' : G oo = none := by rw [upd_ne oll] at noo; exact noo
    have ksrc := hs1
    obtain ⟨s0, srest, hsl, _⟩ := hs1
    have hsG := kp.at0 hsl
    have n_l : ∀ {q}, G q = none → q ≠ l := fun h e => by rw [e, hsG] at h; cases h
    have n_r : ∀ {q}, G q = none → q ≠ ro := fun h e => by rw [e, hro] at h; cases h
    have lro : l ≠ ro := ne_of_none hsl nro
    have k3 : Kp [] G (upd (upd (upd G ll (.lst [])) lo (.lst [])) oo (.lst [])) := ((Kp.refl.new nll).new hG1).new (by rw [upd_ne ool, upd_ne oll]; exact noo')
    have S0 : PSt H (upd (upd (upd G ll (.lst [])) lo (.lst [])) oo (.lst [])) l ll ro oo lo n r [] [] 0 := by
      refine ⟨⟨⟨(ksrc.keep kp nn).keep k3 nn, ⟨[], by rw [upd_ne oll.symm, upd_ne lol.symm, upd_same]; rfl, All2.nil⟩, ⟨acc, k3.at0 hro, by omega, hall⟩, upd_same, ?_⟩, n3, r1, Gen.nil, fun _ h => absurd h List.not_mem_nil⟩, ⟨[], by rw [upd_ne ool.symm, upd_same]; rfl, rfl, fun _ h => absurd h List.not_mem_nil⟩, ?_, k2.ext k3, (k2.free nll (nin1 (n_l nll))), (k2.free noo' (nin1 (n_l noo'))), (k2.free nlo' (nin1 (n_l nlo')))⟩
      · simp only [List.nodup_cons, List.mem_cons, not_or, List.not_mem_nil, not_false_eq_true, and_true, List.nodup_nil]
        exact ⟨⟨(n_l nll).symm, lro, (n_l noo').symm⟩, ⟨n_r nll, oll.symm⟩, (n_r noo').symm⟩
      · simp only [List.mem_cons, not_or, List.not_mem_nil, not_false_eq_true, and_true]
        exact ⟨n_l nlo', lol, n_r nlo', ool.symm⟩
    generalize upd (upd (upd G ll (.lst [])) lo (.lst [])) oo (.lst []) = G0 at S0 ⊢
    clear k3 hsG n_l n_r hsl ksrc noo' noo nlo' nlo hG1 nll hro hall kp k2 k1
    have lr := nd4 S0.M.m.nd
    -- straight lines
    refine ⟨_, rfl, _, _, rfl, rfl, ⟨by decide, by decide⟩, _, _, rfl, rfl, (by show (0 : Int) < _; decide), _, rfl, by omega, by omega, for_range (lo := 0) (n := (v / 16 % 3).toNat) (fun i σ' G => ∃ lns v8, σ' = [some (.ref l), some (.int v), some (.int n), some (.int r), some (.ref ro), some (.ref ll), some (.ref lo), some (.ref oo), v8, none, none, none] ∧ PSt H G l ll ro oo lo n r lns [] 0 ∧ lns.length ≤ i)
      ⟨[], none, rfl, S0, Nat.le_refl 0⟩ ?_ ?_⟩
    · rintro i σ' G hi ⟨lns, v8, rfl, S, hlen⟩
      obtain ⟨as, hll, hal⟩ := S.M.m.lin
      refine ⟨_, rfl, .inl ⟨rfl, _, SqL.of hll⟩, ?_⟩
      refine ⟨_, rfl, _, rfl, _, _, rfl, .inl (SqL.of hll), _, rfl, _, rfl, _, rfl, ?_⟩
      rw [List.length_map, hal.len]
      refine ⟨l, _, n, r, ro, rfl, S.M.m.src, S.M.m.rol, lr.2.1, n3, r1, fun p ln G4 k4 hs4 hln hf ha ht => ?_⟩
      have hll4 := k4.at hll (nin1 lr.1.symm)
      have hal4 := lns_mono k4.tk hal
      refine ⟨ll, _, _, rfl, rfl, hll4, big (by rw [List.length_map, hal4.len]; omega), ?_⟩
      exact ⟨_, _, rfl, (S.srcd k4 hs4).app hll4 hal4 hln hf ha (fun t h => by rw [ht] at h; rw [List.mem_singleton.mp h]; omega), by rw [List.length_append, List.length_singleton]; omega⟩
    rintro σ' G ⟨lns, v8, rfl, S, hlen⟩
    have hl2 : lns.length ≤ 2 := by omega
    clear S0 hlen
    -- the first loop
    have looped : ∀ {G G' : Hp} {lns lns' : List Ln} {outs outs' : List Int} {m : Nat} {p lp : Addr} {head : Int} {xs : List Int} {ps : List Addr}, PSt H G l ll ro oo lo n r lns outs m → G lo = some (.lst (ps.map V.ref)) → Kp [l, ll, oo] G G' → Mk0 G' l ll ro oo n r lns' outs' → lns.length < lns'.length → G' p = some (.tup [.int head, .ref lp]) → IsL G' lp xs → xs.length ≤ 1000 → G lp = none → In head (lns'.length : Int) → (∀ x ∈ xs, In x (lns'.length : Int)) →
        G' lo = some (.lst (ps.map V.ref)) ∧ PSt H (upd G' lo (.lst (ps.map V.ref ++ [.ref p]))) l ll ro oo lo n r lns' outs' (m + 1) := fun {G G' lns lns' outs outs' m p lp head xs ps} S hlo kg M' hl e1 e2 e3 e4 e5 e6 => by
      have hlon := S.lon
      simp only [List.mem_cons, not_or, List.not_mem_nil, not_false_eq_true, and_true] at hlon
      have hlo' : G' lo = some (.lst (ps.map V.ref)) := kg.at hlo (by
        simp only [List.mem_cons, not_or, List.not_mem_nil, not_false_eq_true, and_true]
        exact ⟨hlon.1, hlon.2.1, hlon.2.2.2⟩)
      refine ⟨hlo', (S.step kg M' (by omega)).loop hlo' e1 e2 e3 e5 e6 ?_⟩
      obtain ⟨_, _, hsl, _⟩ := S.M.m.src
      obtain ⟨_, hll, _⟩ := S.M.m.lin
      simp only [List.mem_cons, not_or, List.not_mem_nil, not_false_eq_true, and_true]
      have no : ∀ {q : Addr} {o : HO}, G q = some o → lp ≠ q := fun h e => by rw [e, h] at e4; cases e4
      exact ⟨no hsl, no hll, no S.M.m.out, no hlo⟩
    obtain ⟨ps, hlo, hps, hloops⟩ := S.lps
    refine ⟨_, rfl, .inl ⟨rfl, _, SqL.of hlo⟩, ?_⟩
    refine ⟨_, rfl, _, rfl, _, rfl, _, rfl, _, rfl, _, rfl, l, ll, ro, oo, n, r, lns, [], rfl, S.M, by omega, by decide, fun p head lp xs lns1 outs1 G1 kg M1 b1 b2 b3 e1 e2 e3 e4 e5 e6 => ?_⟩
    obtain ⟨hlo1, S1⟩ := looped S hlo kg M1 b3 e1 e2 e3 e4 e5 e6
    refine ⟨lo, _, _, rfl, rfl, hlo1, big (by rw [List.length_map]; omega), ?_⟩
    generalize upd G1 lo (.lst (ps.map V.ref ++ [.ref p])) = G1' at S1 ⊢
    clear S hlo hloops hps kg M1 hlo1 e1 e2 e3 e4 e5 e6
    have c0 : 1 ≤ lns1.length := by omega
    have c1 : lns1.length ≤ 22 := by omega
    have c2 : outs1.length ≤ 2 := by simpa using b2
    -- perhaps a second
    refine ⟨fun σ' G => ∃ lns outs m, σ' = [some (.ref l), some (.int v), some (.int n), some (.int r), some (.ref ro), some (.ref ll), some (.ref lo), some (.ref oo), v8, none, none, none] ∧ PSt H G l ll ro oo lo n r lns outs m ∧ lns.length ≤ 42 ∧ outs.length ≤ 4 ∧ 1 ≤ m ∧ m ≤ 2 ∧ 1 ≤ lns.length, ?_, ?_⟩
    · refine ⟨_, rfl, _, _, rfl, rfl, ⟨by decide, by decide⟩, _, _, rfl, rfl, (by show (0 : Int) < _; decide), rfl, _, rfl, if2 (fun h => ?_) fun h => ?_⟩
      · obtain ⟨ps, hlo, hps, hloops⟩ := S1.lps
        refine ⟨_, rfl, .inl ⟨rfl, _, SqL.of hlo⟩, ?_⟩
        refine ⟨_, rfl, _, rfl, _, rfl, _, rfl, _, rfl, _, rfl, l, ll, ro, oo, n, r, lns1, outs1, rfl, S1.M, by omega, by omega, fun p head lp xs lns2 outs2 G2 kg M2 b1' b2' b3' e1 e2 e3 e4 e5 e6 => ?_⟩
        obtain ⟨hlo2, S2⟩ := looped S1 hlo kg M2 b3' e1 e2 e3 e4 e5 e6
        refine ⟨lo, _, _, rfl, rfl, hlo2, big (by rw [List.length_map]; omega), ?_⟩
        exact ⟨lns2, outs2, _, rfl, S2, by omega, by omega, by decide, by decide, by omega⟩
      · exact ⟨lns1, outs1, _, rfl, S1, by omega, by omega, by decide, by decide, c0⟩
    rintro σ' G ⟨lns2, outs2, m, rfl, S2, d1, d2, m1, m2, d0⟩
    clear S1 c1 c2 b1 b2 b3 hl2 looped
    -- straight lines
    refine ⟨_, rfl, _, _, rfl, rfl, ⟨by decide, by decide⟩, _, _, rfl, rfl, (by show (0 : Int) < _; decide), _, rfl, by omega, by omega, for_range (lo := 0) (n := (v / 240 % 3).toNat) (fun i σ' G => ∃ lns v8, σ' = [some (.ref l), some (.int v), some (.int n), some (.int r), some (.ref ro), some (.ref ll), some (.ref lo), some (.ref oo), v8, none, none, none] ∧ PSt H G l ll ro oo lo n r lns outs2 m ∧ lns.length ≤ lns2.length + i ∧ 1 ≤ lns.length)
      ⟨lns2, v8, rfl, S2, Nat.le_refl _, d0⟩ ?_ ?_⟩
    · rintro i σ' G hi ⟨lns, v8, rfl, S, hlen, d0'⟩
      obtain ⟨as, hll, hal⟩ := S.M.m.lin
      refine ⟨_, rfl, .inl ⟨rfl, _, SqL.of hll⟩, ?_⟩
      refine ⟨_, rfl, _, rfl, _, _, rfl, .inl (SqL.of hll), _, rfl, _, rfl, _, rfl, ?_⟩
      rw [List.length_map, hal.len]
      refine ⟨l, _, n, r, ro, rfl, S.M.m.src, S.M.m.rol, lr.2.1, n3, r1, fun p ln G4 k4 hs4 hln hf ha ht => ?_⟩
      have hll4 := k4.at hll (nin1 lr.1.symm)
      have hal4 := lns_mono k4.tk hal
      refine ⟨ll, _, _, rfl, rfl, hll4, big (by rw [List.length_map, hal4.len]; omega), ?_⟩
      exact ⟨_, _, rfl, (S.srcd k4 hs4).app hll4 hal4 hln hf ha (fun t h => by rw [ht] at h; rw [List.mem_singleton.mp h]; omega), by rw [List.length_append, List.length_singleton]; omega, by rw [List.length_append, List.length_singleton]; omega⟩
    rintro σ' G ⟨lns3, v8', rfl, S3, hlen, d0'⟩
    have d3 : lns3.length ≤ 44 := by omega
    clear S2 hlen d1 v8
    -- last, and the end
    obtain ⟨as, hll, hal⟩ := S3.M.m.lin
    refine ⟨_, rfl, _, _, rfl, .inl (SqL.of hll), ?_⟩
    rw [List.length_map, hal.len]
    refine ⟨_, rfl, .inl ⟨rfl, _, SqL.of hll⟩, ?_⟩
    refine ⟨(by show 1 ≤ sizeLine; decide), fun p np => ?_⟩
    have kp := (Kp.refl (F := []) (H := G)).new (o := .tup (lnB (.ref p) .fin)) np
    refine ⟨ll, _, _, rfl, rfl, kp.at0 hll, big (by rw [List.length_map, hal.len]; omega), ?_⟩
    have S4 : PSt H (upd (upd G p (.tup [.str "end"])) ll (.lst (as.map V.ref ++ [.ref p]))) l ll ro oo lo n r (lns3 ++ [Ln.fin]) outs2 m := (S3.ext kp).app (kp.at0 hll) (lns_mono kp.tk hal) (flat_new (ln := .fin) np rfl) True.intro rfl (fun t h => absurd h List.not_mem_nil)
    have len4 : (lns3 ++ [Ln.fin]).length = lns3.length + 1 := by rw [List.length_append, List.length_singleton]
    have good4 : Good n r (lns3 ++ [Ln.fin]) := by
      have g := S3.M.gen.app (ln := .fin) (B' := (lns3.length : Int)) True.intro rfl (fun t h => absurd h List.not_mem_nil) (Int.le_refl _)
      exact ⟨by omega, g.up (by omega) (by omega)⟩
    generalize upd (upd G p (.tup [.str "end"])) ll (.lst (as.map V.ref ++ [.ref p])) = G4 at S4 ⊢
    generalize lns3 ++ [Ln.fin] = lns4 at S4 len4 good4
    clear S3 kp hll hal np
    obtain ⟨last, hlast⟩ : ∃ last : Int, last = (lns3.length : Int) := ⟨_, rfl⟩
    show tSeq _ _ _ [some (.ref l), some (.int v), some (.int n), some (.int r), some (.ref ro), some (.ref ll), some (.ref lo), some (.ref oo), v8', some (.int (lns3.length : Int)), none, none] G4
    rw [← hlast]
    -- the outs
    refine ⟨_, rfl, oo, rfl, ⟨_, SqL.of S4.M.m.out⟩, for_list (K := K) (a := oo) (xs := outs2.map V.int) (fun i σ' G => ∃ lns v10, σ' = [some (.ref l), some (.int v), some (.int n), some (.int r), some (.ref ro), some (.ref ll), some (.ref lo), some (.ref oo), v8', some (.int last), v10, none] ∧ PSt H G l ll ro oo lo n r lns outs2 m ∧ Good n r lns ∧ lns3.length + 1 ≤ lns.length ∧ lns.length ≤ lns3.length + 1 + i)
      ⟨lns4, none, rfl, S4, good4, by omega, by omega⟩ (fun i σ G _ p => by obtain ⟨_, _, _, S, _⟩ := p; exact SqL.of S.M.m.out) ?_ ?_⟩
    · rintro i x σ' G hi ⟨lns, v10, rfl, S, good, b1, b2⟩
      rw [List.getElem?_map] at hi
      obtain ⟨o, ho, e⟩ := Option.map_eq_some_iff.mp hi
      subst e
      have io : i < outs2.length := (List.getElem?_eq_some_iff.mp ho).1
      obtain ⟨o0, y, w', c, k0, m0, et⟩ := S.M.outs o (List.mem_of_getElem? ho)
      obtain ⟨as, hll, hal⟩ := S.M.m.lin
      have oin := (List.getElem?_eq_some_iff.mp et).1
      obtain ⟨la, ela, b, hla, _⟩ := hal.get et
      have ela' : atI (as.map V.ref) o = some (.ref la) := atI_some o0 (by rw [List.getElem?_map, ela]; rfl)
      have hla' : G la = some (.tup [.str "test", oV y, oV w', .int c, .int k0, .int m0]) := hla
      refine ⟨_, rfl, _, rfl, _, _, _, .ref la, rfl, rfl, SqL.of hll, ela', 4, rfl, la, _, rfl, SqT.of hla', fun z => absurd z.2 (by show ¬ (4 : Nat) = 6; decide), fun _ p1 np1 => ?_⟩
      have k1 := (Kp.refl (F := []) (H := G)).new (o := .tup [.str "test", oV y, oV w', .int c]) np1
      have hp1 : upd G p1 (.tup [.str "test", oV y, oV w', .int c]) p1 = some (.tup [.str "test", oV y, oV w', .int c]) := upd_same
      have e1 : upd G p1 (.tup (cutV [.str "test", oV y, oV w', .int c, .int k0, .int m0] none (some 4))) = upd G p1 (.tup [.str "test", oV y, oV w', .int c]) := rfl
      rw [e1]
      refine ⟨_, rfl, _, _, rfl, .inl (SqL.of (k1.at0 hll)), _, rfl, _, rfl, _, _, _, .ref la, rfl, rfl, SqL.of (k1.at0 hll), ela', _, _, _, .int m0, rfl, rfl, SqT.of (k1.tup hla'), (by rfl), (by show 2 ≤ sizeLine; decide), fun p2 np2 => ?_⟩
      rw [List.length_map, hal.len]
      have k2 := k1.new (o := .tup [.int (lns.length : Int), .int m0]) np2
      refine ⟨p1, p2, _, _, rfl, rfl, SqT.of (((Kp.refl (F := [])).new np2).tup hp1), SqT.of upd_same, (by show 6 ≤ sizeLine; decide), (fun z => by cases z), (fun _ z => by cases z), fun _ _ p3 np3 => ?_⟩
      have e3 : upd (upd (upd G p1 (.tup [.str "test", oV y, oV w', .int c])) p2 (.tup [.int (lns.length : Int), .int m0])) p3 (.tup ([.str "test", oV y, oV w', .int c] ++ [.int (lns.length : Int), .int m0])) = upd (upd (upd G p1 (.tup [.str "test", oV y, oV w', .int c])) p2 (.tup [.int (lns.length : Int), .int m0])) p3 (.tup (lnB (.ref p3) (.test y w' c (lns.length : Int) m0))) := rfl
      rw [e3]
      have kz := k2.new (o := .tup (lnB (.ref p3) (.test y w' c (lns.length : Int) m0))) np3
      have hln3 : LnAt (upd (upd (upd G p1 (.tup [.str "test", oV y, oV w', .int c])) p2 (.tup [.int (lns.length : Int), .int m0])) p3 (.tup (lnB (.ref p3) (.test y w' c (lns.length : Int) m0)))) p3 (.test y w' c (lns.length : Int) m0) := LnAt.flat upd_same rfl
      refine ⟨_, rfl, _, rfl, ll, _, _, o.toNat, rfl, rfl, kz.at0 hll, ixN_in o0 (by rw [List.length_map, hal.len]; omega), ?_⟩
      have LA := LinesAt.set (kz.at0 hll) (lns_mono kz.tk hal) hln3 o.toNat
      have kS := (kz.nil (F := [l, ll, oo])).put (o' := .lst ((as.map V.ref).set o.toNat (.ref p3))) (kz.at0 hll) (.inl (L3 (.inr (.inl rfl))))
      have f0 : Fld n r (.test y w' c (lns.length : Int) m0) := by have q := good.gen.fld _ (List.mem_of_getElem? et); exact q
      have tm := good.gen.tgs _ (List.mem_of_getElem? et) m0 (by simp [tg])
      have g5 := S.M.gen.set o.toNat (ln := .test y w' c (lns.length : Int) m0) (B' := (lns.length : Int)) f0 rfl (fun t h => by
        rcases List.mem_cons.mp h with e | e
        · rw [e]; omega
        · rw [List.mem_singleton.mp e]; omega) (by omega)
      have len5 : (lns.set o.toNat (.test y w' c (lns.length : Int) m0)).length = lns.length := List.length_set
      have S5 := S.step kS ⟨(S.M.m.ext kz).lined (Kp.refl.put (kz.at0 hll) (.inl in1)) LA, n3, r1, by rw [len5]; exact g5, S.M.outs.set _⟩ (by rw [len5]; omega)
      have gp : ∀ ln : Ln, Fld n r ln → isAsk ln = false → (∀ t ∈ tg ln, t = last) → Good n r (lns.set o.toNat (.test y w' c (lns.length : Int) m0) ++ [ln]) := fun ln f a t => good_patch good et f a fun x hx => by rw [t x hx]; omega
      generalize upd (upd (upd (upd G p1 (.tup [.str "test", oV y, oV w', .int c])) p2 (.tup [.int (lns.length : Int), .int m0])) p3 (.tup (lnB (.ref p3) (.test y w' c (lns.length : Int) m0)))) ll (.lst ((as.map V.ref).set o.toNat (.ref p3))) = G5 at S5 ⊢
      generalize lns.set o.toNat (.test y w' c (lns.length : Int) m0) = lns5 at S5 len5 gp
      clear LA kS g5 hln3 kz k2 np3 hp1 k1 np2 np1 hll hal S et ela ela' hla hla' oin
      -- and the line it goes to
      obtain ⟨as, hll, hal⟩ := S5.M.m.lin
      obtain ⟨xs, hxr, hxl, hxa⟩ := S5.M.m.rol
      have e0 := atI_gi (xs := xs) (i := 0) (by decide) (by omega)
      have e2 := atI_gi (xs := xs) (i := 2) (by decide) (by omega)
      have in0 := hxa _ (gi_mem (xs := xs) (i := 0) (by decide) (by omega))
      have in2' := hxa _ (gi_mem (xs := xs) (i := 2) (by decide) (by omega))
      generalize gi xs 0 = x0 at e0 in0
      generalize gi xs 2 = x2 at e2 in2'
      have hxr' : G5 ro = some (.lst (xs.map V.int)) := hxr
      refine ⟨_, rfl, .inl ⟨rfl, _, SqL.of hll⟩, ?_⟩
      refine ⟨_, rfl, _, _, _, _, rfl, rfl, SqL.of hxr', e0, _, rfl, (by show 3 ≤ sizeLine; decide), fun q1 nq1 => ?_⟩
      have kq1 := (Kp.refl (F := []) (H := G5)).new (o := .tup (lnB (.ref q1) (.tell x0 last))) nq1
      refine ⟨_, rfl, _, _, _, _, rfl, rfl, SqL.of (kq1.at0 hxr'), e2, _, rfl, _, _, _, _, rfl, rfl, SqL.of (kq1.at0 hxr'), e0, _, rfl, _, _, rfl, rfl, (by show (0 : Int) < _; decide), _, _, rfl, rfl, _, rfl, (by show 6 ≤ sizeLine; decide), fun q2 nq2 => ?_⟩
      have kq2 := kq1.new (o := .tup (lnB (.ref q2) (.get x2 0 (some x0) (o % 3 - 1) last))) nq2
      refine ⟨(by show 2 ≤ sizeLine; decide), fun q3 nq3 => ?_⟩
      have kq3 := kq2.new (o := .lst [.ref q1, .ref q2]) nq3
      have hl1 : LnAt (upd G5 q1 (.tup (lnB (.ref q1) (.tell x0 last)))) q1 (.tell x0 last) := LnAt.flat upd_same rfl
      have hl2' : LnAt (upd (upd G5 q1 (.tup (lnB (.ref q1) (.tell x0 last)))) q2 (.tup (lnB (.ref q2) (.get x2 0 (some x0) (o % 3 - 1) last)))) q2 (.get x2 0 (some x0) (o % 3 - 1) last) := LnAt.flat upd_same rfl
      obtain ⟨pl, ln, epl, hln, hf, ha, ht⟩ : ∃ pl ln, atI [V.ref q1, .ref q2] (o % 2) = some (.ref pl) ∧ LnAt (upd (upd (upd G5 q1 (.tup (lnB (.ref q1) (.tell x0 last)))) q2 (.tup (lnB (.ref q2) (.get x2 0 (some x0) (o % 3 - 1) last)))) q3 (.lst [.ref q1, .ref q2])) pl ln ∧ Fld n r ln ∧ isAsk ln = false ∧ ∀ t ∈ tg ln, t = last := by
        have hc : o % 2 = 0 ∨ o % 2 = 1 := by omega
        rcases hc with e | e <;> rw [e]
        · exact ⟨q1, _, rfl, hl1.mono ((((Kp.refl (F := [])).new nq2).new nq3).tk), in0, rfl, fun t h => List.mem_singleton.mp h⟩
        · exact ⟨q2, _, rfl, hl2'.mono (((Kp.refl (F := [])).new nq3).tk), ⟨in2', ⟨Int.le_refl 0, by omega⟩, InO.some in0⟩, rfl, fun t h => List.mem_singleton.mp h⟩
      refine ⟨_, rfl, _, _, rfl, rfl, (by show (0 : Int) < _; decide), _, _, _, _, rfl, rfl, SqL.of upd_same, epl, ?_⟩
      refine ⟨ll, _, _, rfl, rfl, kq3.at0 hll, big (by rw [List.length_map, hal.len]; omega), ?_⟩
      have len6 : (lns5 ++ [ln]).length = lns.length + 1 := by rw [List.length_append, List.length_singleton, len5]
      exact ⟨lns5 ++ [ln], _, rfl, (S5.ext kq3).app (kq3.at0 hll) (lns_mono kq3.tk hal) hln hf ha (fun t h => by rw [ht t h]; omega), gp ln hf ha ht, by omega, by omega⟩
    rintro σ' G ⟨lns5, v10, rfl, S5, good5, b1, b2⟩
    rw [List.length_map] at b2
    clear S4 good4 len4
    have L5 : lns5.length ≤ 49 := by omega
    -- the head
    obtain ⟨ps, hlo, hps, hloops⟩ := S5.lps
    have hpl : ((ps.map V.ref).length : Int) = (m : Int) := by rw [List.length_map, hps]
    refine ⟨_, rfl, _, rfl, _, _, rfl, rfl, ⟨by decide, by decide⟩, _, rfl, _, _, rfl, .inl (SqL.of hlo), _, _, rfl, rfl, (by show (0 : Int) < _; omega), ?_⟩
    rw [hpl]
    have md := mod_in (v / 720) (show (0 : Int) < (m : Int) by omega)
    have hi : ((v / 720) % (m : Int)).toNat < ps.length := by omega
    obtain ⟨head, lp, xs, e1, e2, e3, e4, e5, e6⟩ := hloops _ (List.getElem_mem hi)
    refine ⟨_, _, _, .ref (ps[((v / 720) % (m : Int)).toNat]), rfl, rfl, SqL.of hlo, atI_some md.1 (by rw [List.getElem?_map, List.getElem?_eq_getElem hi]; rfl), _, _, _, _, rfl, rfl, SqT.of e1, atI0, ?_⟩
    -- perhaps a last line
    refine ⟨fun σ' G => ∃ lns, σ' = [some (.ref l), some (.int v), some (.int n), some (.int r), some (.ref ro), some (.ref ll), some (.ref lo), some (.ref oo), v8', some (.int last), v10, some (.int head)] ∧ PSt H G l ll ro oo lo n r lns outs2 m ∧ Good n r lns ∧ 2 ≤ lns.length ∧ lns.length ≤ 50, ?_, ?_⟩
    · refine ⟨_, rfl, _, _, rfl, rfl, ⟨by decide, by decide⟩, _, _, rfl, rfl, (by show (0 : Int) < _; decide), rfl, _, rfl, if2 (fun h => ?_) fun h => ?_⟩
      · obtain ⟨as, hll, hal⟩ := S5.M.m.lin
        obtain ⟨xs, hxr, hxl, hxa⟩ := S5.M.m.rol
        have e0 := atI_gi (xs := xs) (i := 0) (by decide) (by omega)
        have in0 := hxa _ (gi_mem (xs := xs) (i := 0) (by decide) (by omega))
        generalize gi xs 0 = x0 at e0 in0
        have hxr' : G ro = some (.lst (xs.map V.int)) := hxr
        refine ⟨_, rfl, .inl ⟨rfl, _, SqL.of hll⟩, ?_⟩
        refine ⟨_, rfl, _, _, _, _, rfl, rfl, SqL.of hxr', e0, _, rfl, (by show 3 ≤ sizeLine; decide), fun q1 nq1 => ?_⟩
        have kq1 := (Kp.refl (F := []) (H := G)).new (o := .tup (lnB (.ref q1) (.tell x0 head))) nq1
        refine ⟨_, rfl, _, rfl, (by show 6 ≤ sizeLine; decide), fun q2 nq2 => ?_⟩
        have kq2 := kq1.new (o := .tup (lnB (.ref q2) (.test none none 0 last head))) nq2
        refine ⟨(by show 2 ≤ sizeLine; decide), fun q3 nq3 => ?_⟩
        have kq3 := kq2.new (o := .lst [.ref q1, .ref q2]) nq3
        have hl1 : LnAt (upd G q1 (.tup (lnB (.ref q1) (.tell x0 head)))) q1 (.tell x0 head) := LnAt.flat upd_same rfl
        have hl2' : LnAt (upd (upd G q1 (.tup (lnB (.ref q1) (.tell x0 head)))) q2 (.tup (lnB (.ref q2) (.test none none 0 last head)))) q2 (.test none none 0 last head) := LnAt.flat upd_same rfl
        obtain ⟨pl, ln, epl, hln, hf, ha, ht⟩ : ∃ pl ln, atI [V.ref q1, .ref q2] (v / 3600 % 2) = some (.ref pl) ∧ LnAt (upd (upd (upd G q1 (.tup (lnB (.ref q1) (.tell x0 head)))) q2 (.tup (lnB (.ref q2) (.test none none 0 last head)))) q3 (.lst [.ref q1, .ref q2])) pl ln ∧ Fld n r ln ∧ isAsk ln = false ∧ ∀ t ∈ tg ln, t = last ∨ t = head := by
          have hc : v / 3600 % 2 = 0 ∨ v / 3600 % 2 = 1 := by omega
          rcases hc with e | e <;> rw [e]
          · exact ⟨q1, _, rfl, hl1.mono ((((Kp.refl (F := [])).new nq2).new nq3).tk), in0, rfl, fun t h => .inr (List.mem_singleton.mp h)⟩
          · refine ⟨q2, _, rfl, hl2'.mono (((Kp.refl (F := [])).new nq3).tk), ⟨InO.none, InO.none⟩, rfl, fun t h => ?_⟩
            rcases List.mem_cons.mp h with e | e
            · exact .inl e
            · exact .inr (List.mem_singleton.mp e)
        refine ⟨_, rfl, _, _, rfl, rfl, ⟨by decide, by decide⟩, _, _, rfl, rfl, (by show (0 : Int) < _; decide), _, _, _, _, rfl, rfl, SqL.of upd_same, epl, ?_⟩
        refine ⟨ll, _, _, rfl, rfl, kq3.at0 hll, big (by rw [List.length_map, hal.len]; omega), ?_⟩
        have len6 : (lns5 ++ [ln]).length = lns5.length + 1 := by rw [List.length_append, List.length_singleton]
        have tt : ∀ t ∈ tg ln, 0 ≤ t ∧ t ≤ (lns5.length : Int) := fun t h => by
          have := e4.1
          have := e4.2
          rcases ht t h with e | e <;> (rw [e]; omega)
        exact ⟨lns5 ++ [ln], rfl, (S5.ext kq3).app (kq3.at0 hll) (lns_mono kq3.tk hal) hln hf ha (fun t h => by have := tt t h; omega), good5.app hf ha tt, by omega, by omega⟩
      · exact ⟨lns5, rfl, S5, good5, by omega, by omega⟩
    rintro σ' G ⟨lns6, rfl, S6, good6, f1, f2⟩
    clear S5 good5 hlo hloops e1 e2 e3 e4 e5 e6
    -- turned about?
    refine ⟨_, rfl, _, _, rfl, rfl, ⟨by decide, by decide, by decide⟩, l, _, rfl, S6.M.m.src, (by decide), fun v2 G2 v20 v21 k2 hs2 => ?_⟩
    have S7 := S6.srcd k2 hs2
    clear S6 k2
    refine ⟨fun σ' G => ∃ ll lo lns, σ' = [some (.ref l), some (.int v2), some (.int n), some (.int r), some (.ref ro), some (.ref ll), some (.ref lo), some (.ref oo), v8', some (.int last), v10, some (.int head)] ∧ Kp [l] H G ∧ SrcAt G l ∧ LinesAt G ll lns ∧ Good n r lns ∧ lns.length ≤ 1000 ∧ H ll = none, ?_, ?_⟩
    · refine ⟨_, rfl, _, _, rfl, rfl, (by show (0 : Int) < _; decide), rfl, _, rfl, if2 (fun h => ?_) fun h => ?_⟩
      · refine ⟨_, rfl, _, rfl, _, rfl, _, _, rfl, rfl, ⟨by decide, by decide⟩, ll, lo, _, lns6, n, r, rfl, S7.M.m.lin, good6, by omega, by omega, S7.lps.at_ (by omega), fun p ll' lo' lns' G3 k3 h3 hp3 hl3 g3 len3 => ?_⟩
        exact ⟨p, _, rfl, SqT.of hp3, rfl, _, _, rfl, _, _, rfl, rfl, ll', lo', lns', rfl, S7.kp.ext k3, S7.M.m.src.keep k3 nn, hl3, g3, by omega, S7.kp.free h3 (nin1 fun e => by
          obtain ⟨_, _, z, _⟩ := S7.M.m.src
          rw [e] at h3
          have z' : G2 l = _ := z
          rw [h3] at z'; cases z')⟩
      · exact ⟨ll, lo, lns6, rfl, S7.kp, S7.M.m.src, S7.M.m.lin, good6, by omega, S7.fl⟩
    rintro σ' G ⟨ll', lo', lns', rfl, k8, hs8, hl8, g8, len8, fl8⟩
    refine ⟨_, rfl, _, rfl, _, rfl, (by show 3 ≤ sizeLine; decide), fun p1 np1 => ⟨_, rfl, _, rfl, (by show 3 ≤ sizeLine; decide), fun p2 np2 => ?_⟩⟩
    have ka := (Kp.refl (F := []) (H := G)).new (o := .tup [.int n, .int r, .ref ll']) np1
    have kb := ka.new (o := .tup [.ref p1, .ref lo', .ref ro]) np2
    exact k p2 p1 lo' ro n r ll' lns' _ (k8.ext kb) (hs8.keep kb nn) upd_same (((Kp.refl (F := [])).new np2).at0 upd_same) (hl8.keep kb nn) g8 n3 n4 r1 r2 len8 fl8
end
end Lk
namespace Lk
open PySem L2
section
variable {P : Program} {w : World} {K : PySem.W.Frag} {mg : Str → Option Value} {base : Heap} {C1 aP : Addr}
theorem ToldAt.mono {H H' : Hp} {p : Addr} {s : WSt} (h : ToldAt H p s) (k : Kp [] H H') : ToldAt H' p s := by
  obtain ⟨ev, wo, rr, ras, e1, e2, e3, e4, e5⟩ := h
  exact ⟨ev, wo, rr, ras, k.tup e1, e2.mono k.tk, k.at0 e3, k.at0 e4, e5.mono fun _ _ z => k.at0 z⟩
theorem sc_law_due : FnScope ["_law_told_here", "_law_out_here", "_law_end", "_law_words", "_law_steps_here", "_law_rows"] ["_law_told_here", "_law_out_here"] (defScope s_law_due) := ⟨rfl, rfl, rfl, by decide +kernel, rfl, by decide +kernel, by decide +kernel⟩
theorem ok_law_due {f : Addr} {fd : FuncData} (F : Fun K "_law_due" "_law_due" s_law_due f fd) (T : Txt K mg C1 aP) : FnOk P w K mg base CX0 1 f fd ["_law_told_here", "_law_out_here"] spDue := by
  refine F.ok sc_law_due (fun vs H Q E h => ?_) (fun cdv Ar outer sh H vs Q E hr h => ?_)
  · obtain ⟨p, o, s, out, rfl, _⟩ := h
    rfl
  · obtain ⟨p, o, s, out, rfl, ⟨ev, wo, rr, ras, hp, hev, hwo, hrr, hras⟩, hf, ho, k⟩ := h
    refine ⟨_, (pss_cons
    (ps_asg (pv 0) (pg_tup rfl (pgs_cons (pg_name (i := 2) sc_law_due.nd rfl (Or.inl rfl)) (pgs_cons (pg_name (i := 3) sc_law_due.nd rfl (Or.inl rfl)) (pgs_cons (pg_name (i := 4) sc_law_due.nd rfl (Or.inl rfl)) (pgs_cons (pg_name (i := 5) sc_law_due.nd rfl (Or.inl rfl)) pgs_nil))))))
    (pss_cons
    (ps_if ((pw_and (pt_cmpR op_in_seq (pe_ix ix_tup (pv 2) pe_int (fun _ _ => rfl)) (pe_lst (pa_cons pe_str (pa_cons pe_str pa_nil))) (by rfl)) (pw_and1 (pt_cmpR (op_inD (hu65_of hr)) (pe_tup (pa_cons (pe_ix ix_tup (pv 2) pe_int (fun _ _ => rfl)) (pa_cons (pe_ix ix_tup (pv 2) pe_int (fun _ _ => rfl)) pa_nil))) (pv 1) (by rfl))))).pt
      (pss_one
      (ps_set (i := 2) sc_law_due.nd rfl (Or.inl rfl) (pe_tup (pa_cons pe_str (pa_cons (pe_ix ix_tup (pv 2) pe_int (fun _ _ => rfl)) pa_nil)))))
      pss_nil)
    (pss_one
    (ps_ret (pe_tup (pa_cons (pv 2) (pa_cons (pv 3) (pa_cons (pv 4) (pa_cons (pv 5) pa_nil))))))))), ?_⟩
    cases hfin : s.fin with
    | none => rw [hfin] at hf; cases hf
    | some x =>
    rw [hfin] at hev
    obtain ⟨q, rfl, hq⟩ := hev
    have so := shaped_out ho.choose_spec.2.2
    refine ⟨_, rfl, p, _, rfl, SqT.of hp, rfl, _, _, rfl, _, _, rfl, _, _, rfl, _, _, rfl, rfl, ?_⟩
    -- the answer, from what the end is
    have last : ∀ (e : Addr) (H' : Hp), Kp [] H H' → H' e = some (.tup [.str (dueW out x).1, .int (dueW out x).2]) →
        tRet (tTup (tCons (tVar 2) (tCons (tVar 3) (tCons (tVar 4) (tCons (tVar 5) tNil))))) { nx := fun _ H' => Q .non H', rt := Q } [some (.ref p), some (.ref o), some (.ref e), some (.ref wo), some (.int s.steps), some (.ref rr)] H' := fun e H' kp he => by
      refine ⟨_, rfl, _, rfl, _, rfl, _, rfl, (by show 4 ≤ sizeLine; decide), fun p' np => ?_⟩
      have k2 := kp.new (o := .tup [.ref e, .ref wo, .int s.steps, .ref rr]) np
      refine k p' _ k2 ⟨.ref e, wo, rr, ras, upd_same, ?_, k2.at0 hwo, k2.at0 hrr, hras.mono fun _ _ z => k2.at0 z⟩
      show FinAt _ _ (s.fin.map (dueW out))
      rw [hfin]
      exact ⟨e, rfl, ((Kp.refl (F := [])).new np).at0 he⟩
    refine ⟨_, rfl, _, _, _, _, rfl, rfl, SqT.of hq, atI0, ?_⟩
    refine ⟨(by show 2 ≤ sizeLine; decide), fun l nl => ?_⟩
    have k1 := (Kp.refl (F := []) (H := H)).new (o := .lst [.str "low", .str "high"]) nl
    refine ⟨l, _, rfl, .inl (SqL.of upd_same), rfl, rfl, ?_⟩
    rw [show (if false = true then !inV (.str x.1) [.str "low", .str "high"] else inV (.str x.1) [.str "low", .str "high"]) = (decide (x.1 = "low") || decide (x.1 = "high")) from in2 _ _ _, ← Bool.decide_or]
    have dn : ∀ H', Kp [] H H' → ¬ ((x.1 = "low" ∨ x.1 = "high") ∧ (x.2, x.1) ∈ out) → tRet (tTup (tCons (tVar 2) (tCons (tVar 3) (tCons (tVar 4) (tCons (tVar 5) tNil))))) { nx := fun _ H' => Q .non H', rt := Q } [some (.ref p), some (.ref o), some (.ref q), some (.ref wo), some (.int s.steps), some (.ref rr)] H' := fun H' kp h => by
      refine last q H' kp ?_
      rw [show dueW out x = x from if_neg h]
      exact kp.tup hq
    refine ⟨_, rfl, if2 (fun h => ?_) fun h => ?_⟩
    · refine ⟨_, rfl, _, _, _, _, rfl, rfl, SqT.of (k1.tup hq), (by rfl), _, rfl, _, _, _, _, rfl, rfl, SqT.of (k1.tup hq), atI0, (by show 2 ≤ sizeLine; decide), fun c nc => ?_⟩
      have k2 := k1.new (o := .tup [.int x.2, .str x.1]) nc
      refine ⟨_, rfl, _, _, dp_od (x := (x.2, x.1)) upd_same, dp_out (OutAt.keep k2.tk (fun xs z => k2.at0 z) ho), shaped_od h, so, ?_⟩
      rw [out_any]
      refine ⟨_, rfl, if2 (fun h3 => ?_) fun h3 => ?_⟩
      · refine ⟨_, rfl, _, _, _, _, rfl, rfl, SqT.of (k2.tup hq), (by rfl), (by show 2 ≤ sizeLine; decide), fun e ne => ?_⟩
        refine last e _ (k2.new ne) ?_
        rw [show dueW out x = ((("beyond" : Str), x.2) : Str × Int) from if_pos ⟨h, h3⟩]
        exact upd_same
      · exact dn _ k2 fun z => h3 z.2
    · exact dn _ k1 fun z => h z.1
theorem sc_law_told : FnScope ["_law_walk", "_law_out_here", "_law_told_here"] ["_law_walk", "_law_out_here"] (defScope s_law_told) := ⟨rfl, rfl, rfl, by decide +kernel, rfl, by decide +kernel, by decide +kernel⟩
theorem ok_law_told {f : Addr} {fd : FuncData} (F : Fun K "_law_told" "_law_told" s_law_told f fd) (T : Txt K mg C1 aP) (B : CF K C1) (M_told : Mo P w K mg base 1 C1 "told" ["self"] (spTold C1 false)) (G_law_due : Fo P w K mg base 1 "_law_due" ["_law_told_here", "_law_out_here"] spDue) : FnOk P w K mg base CX0 2 f fd ["_law_walk", "_law_out_here"] (spLTold C1) := by
  refine F.ok sc_law_told (fun vs H Q E h => ?_) (fun cdv Ar outer sh H vs Q E hr h => ?_)
  · obtain ⟨A, n, r, b, lns, ou, s, o, out, rfl, _⟩ := h
    rfl
  · obtain ⟨A, n, r, b, lns, ou, s, o, out, rfl, W, hr', ho, k⟩ := h
    refine ⟨_, (pss_cons
    (ps_set (i := 2) sc_law_told.nd rfl (Or.inl rfl) (pe_mo0 (pv 0) B.cl M_told (hr.mono (by decide))))
    (pss_cons
    (ps_if (pt_cmpR op_isN (pe_ix ix_tup (pv 2) pe_int (fun _ _ => rfl)) pe_non (nomark _))
      (pss_one
      (ps_ret (pv 2)))
      pss_nil)
    (pss_one
    (ps_ret (pe_fo G_law_due (hr.mono (by decide)) rfl (pa_cons (pv 2) (pa_cons (pv 1) pa_nil))))))), ?_⟩
    obtain ⟨dx, fs, ev, hp, Fl, _⟩ := W.ins
    refine ⟨_, rfl, _, _, _, rfl, hp, Fl.no _ (by decide +kernel), A, n, r, b, lns, ou, s, rfl, W, hr', fun p H1 k1 ht => ?_⟩
    have ht' := ht
    obtain ⟨ev, wo, rr, ras, hp, hev, hwo, hrr, hras⟩ := ht'
    refine ⟨_, rfl, _, _, _, _, rfl, rfl, SqT.of hp, atI0, rfl, _, rfl, if2 (fun h => ?_) fun h => ?_⟩
    · have hn : s.fin = none := by
        cases e : s.fin with
        | none => rfl
        | some x =>
          rw [e] at hev
          obtain ⟨q, e2, _⟩ := hev
          rw [e2] at h; cases h
      refine ⟨_, rfl, k p _ k1 ?_⟩
      have e : thin out s = s := by
        unfold thin
        rw [hn]
        show ({ s with fin := none } : WSt) = s
        rw [← hn]
      rw [e]
      exact ht
    · have hs : s.fin.isSome = true := by
        cases e : s.fin with
        | none => rw [e] at hev; exact absurd hev h
        | some x => rfl
      refine ⟨_, rfl, _, rfl, p, o, s, out, rfl, ht, hs, OutAt.keep k1.tk (fun xs z => k1.at0 z) ho, fun p' H2 k2 ht2 => ?_⟩
      exact k p' _ (k1.ext k2) ht2
theorem out_app {G : Hp} {o p : Addr} {as : List Addr} {out : List (Int × Str)} {a : Int} {u : Str} (h : G o = some (.lst (as.map V.ref))) (ha : All2 (fun a (x : Int × Str) => G a = some (.tup [.int x.1, .str x.2])) as out) (hw : ∀ x ∈ out, x.2 = "low" ∨ x.2 = "high") (hp : G p = some (.tup [.int a, .str u])) (hx : u = "low" ∨ u = "high") :
    OutAt (upd G o (.lst (as.map V.ref ++ [.ref p]))) o (out ++ [(a, u)]) := by
  have t : TupK G (upd G o (.lst (as.map V.ref ++ [.ref p]))) := tk_upd h
  refine ⟨as ++ [p], by rw [List.map_append]; exact upd_same, (ha.mono fun _ _ z => t _ _ z).snoc (t _ _ hp), fun x hx' => ?_⟩
  rcases mem_snoc hx' with e | e
  · exact hw x e
  · rw [e]; exact hx
theorem out_ins {G : Hp} {o p : Addr} {as : List Addr} {out : List (Int × Str)} {a : Int} {u : Str} (h : G o = some (.lst (as.map V.ref))) (ha : All2 (fun a (x : Int × Str) => G a = some (.tup [.int x.1, .str x.2])) as out) (hw : ∀ x ∈ out, x.2 = "low" ∨ x.2 = "high") (hp : G p = some (.tup [.int a, .str u])) (hx : u = "low" ∨ u = "high") :
    OutAt (upd G o (.lst ((as.map V.ref).take (0 : Int).toNat ++ [.ref p] ++ (as.map V.ref).drop (0 : Int).toNat))) o ((a, u) :: out) := by
  have t : TupK G (upd G o (.lst ((as.map V.ref).take (0 : Int).toNat ++ [.ref p] ++ (as.map V.ref).drop (0 : Int).toNat))) := tk_upd h
  refine ⟨p :: as, upd_same, (ha.mono fun _ _ z => t _ _ z).cons (t _ _ hp), fun x hx' => ?_⟩
  rcases List.mem_cons.mp hx' with e | e
  · rw [e]; exact hx
  · exact hw x e
theorem two_pow_log (k : Nat) (h : k ≤ 5000) : CDivW i (2 ^ k : Int) := by
  have e : ((2 : Int) ^ k).natAbs = 2 ^ k := by rw [Int.natAbs_pow]; rfl
  refine ⟨Int.pow_pos (by decide), ?_⟩
  rw [e, Nat.log2_two_pow]
  omega
theorem sc_law_out : FnScope ["_law_program_here", "_law_cell", "_law_found", "_law_at", "_law_line"] ["_law_program_here", "_law_cell"] (defScope s_law_out) := ⟨rfl, rfl, rfl, by decide +kernel, rfl, by decide +kernel, by decide +kernel⟩
theorem ok_law_out {f : Addr} {fd : FuncData} (F : Fun K "_law_out" "_law_out" s_law_out f fd) (T : Txt K mg C1 aP) : FnOk P w K mg base CX0 1 f fd ["_law_program_here", "_law_cell"] spOut := by
  refine F.ok sc_law_out (fun vs H Q E h => ?_) (fun cdv Ar outer sh H vs Q E hr h => ?_)
  · obtain ⟨pr, c, n, r, ll, lns, rfl, _⟩ := h
    rfl
  · obtain ⟨pr, c, n, r, ll, lns, rfl, hpr, ⟨as, hll, hal⟩, L1000, c0, c1, k⟩ := h
    refine ⟨_, (pss_cons
    (ps_set (i := 2) sc_law_out.nd rfl (Or.inl rfl) (pe_lst pa_nil))
    (pss_cons
    (ps_set (i := 1) sc_law_out.nd rfl (Or.inl rfl) (pe_op op_mod (pe_op op_mul (pv 1) pe_int) pe_int))
    (pss_cons
    (ps_for PassesOwn.never rfl (pi_enum rfl T.b_enumerate (pa_cons (pe_ix ix_tup (pv 0) pe_int (fun _ _ => rfl)) pa_nil)) (pg_tup rfl (pgs_cons (pg_name (i := 3) sc_law_out.nd rfl (Or.inl rfl)) (pgs_cons (pg_name (i := 4) sc_law_out.nd rfl (Or.inl rfl)) pgs_nil)))
      (pss_one
      (ps_if ((pw_or (pt_cmpR op_eq (pe_ix ix_tup (pv 4) pe_int (fun _ _ => rfl)) pe_str (nomark _)) (pw_or1 (pt_cmpR op_eq (pe_ix ix_tup (pv 4) pe_int (fun _ _ => rfl)) pe_str (nomark _))))).pt
        (C8.pss_cut
        (ps_if (pt_cmpR op_eq (pe_op op_mod (pe_op op_fdivW (pv 1) (pe_op op_oneShl pe_int (pe_op op_mul pe_int (pv 3)))) pe_int) pe_int (nomark _))
          (pss_one
          (ps_expr (pe_bm PySem.F.plainAttrs_list PySem.F.slot_list_append PySem.F.type_list_append mt_append (pv 2) (pa_cons (pe_tup (pa_cons (pv 3) (pa_cons pe_str pa_nil))) pa_nil))))
          pss_nil)
        (pss_one
        (ps_if (pt_cmpR op_eq (pe_op op_mod (pe_op op_fdivW (pv 1) (pe_op op_oneShl pe_int (pe_op op_add (pe_op op_mul pe_int (pv 3)) pe_int))) pe_int) pe_int (nomark _))
          (pss_one
          (ps_expr (pe_bm PySem.F.plainAttrs_list PySem.F.slot_list_insert PySem.F.type_list_insert mt_insert (pv 2) (pa_cons pe_int (pa_cons (pe_tup (pa_cons (pv 3) (pa_cons pe_str pa_nil))) pa_nil)))))
          pss_nil)))
        (pss_one
        (ps_if (pt_cmpR op_eq (pe_op op_mod (pv 1) (pe_op op_add (pv 3) pe_int)) pe_int (nomark _))
          (pss_one
          (ps_expr (pe_bm PySem.F.plainAttrs_list PySem.F.slot_list_append PySem.F.type_list_append mt_append (pv 2) (pa_cons (pe_tup (pa_cons (pv 3) (pa_cons (pe_ix ix_list (pe_lst (pa_cons pe_str (pa_cons pe_str pa_nil))) (pe_op op_mod (pv 3) pe_int) (fun _ _ => rfl)) pa_nil))) pa_nil))))
          pss_nil)))))
    (pss_one
    (ps_ret (pe_op op_cat (pe_op op_cat (pv 2) (pe_lst (pa_cons (pe_tup (pa_cons (pe_callB call_len_seq (by rfl) T.b_len (by decide +kernel) (pa_cons (pe_ix ix_tup (pv 0) pe_int (fun _ _ => rfl)) pa_nil)) (pa_cons pe_str pa_nil))) pa_nil))) (pe_slice sl_list (pv 2) po_none (po_some pe_int)))))))), ?_⟩
    have big : ∀ {m : Nat}, m ≤ 10000 → m < sizeLine := fun {m} h => by have : sizeLine = 16777216 := sizeLine_eq; omega
    refine ⟨(by show 0 ≤ sizeLine; omega), fun fo nfo => ?_⟩
    have k0 := (Kp.refl (F := []) (H := H)).new (o := .lst []) nfo
    have h0 : OutAt (upd H fo (.lst [])) fo [] := ⟨[], upd_same, All2.nil, fun _ h => absurd h List.not_mem_nil⟩
    generalize upd H fo (.lst []) = H1 at k0 h0 ⊢
    refine ⟨_, rfl, _, _, rfl, rfl, .inr ⟨by decide, by decide⟩, _, _, rfl, rfl, (by show (0 : Int) < _; decide), ?_⟩
    refine ⟨_, rfl, _, _, _, _, rfl, rfl, SqT.of (k0.tup hpr), (by rfl), ll, _, rfl, SqL.of (k0.at0 hll), for_it (walk_enum (xs := as.map V.ref)) (fun i σ' G => ∃ v3 v4 out, σ' = [some (.ref pr), some (.int (c * 6364136223846793005 % 4611686018427387847)), some (.ref fo), v3, v4] ∧ Kp [] H G ∧ OutAt G fo out ∧ out.length ≤ 2 * i)
      ⟨none, none, [], rfl, k0, h0, Nat.zero_le _⟩ (fun i σ G _ p => by obtain ⟨_, _, _, _, kp, _⟩ := p; exact SqL.of (kp.at0 hll)) ?_ ?_⟩
    · rintro i x σ' G G1 hi ⟨v3, v4, out, rfl, kp, ho, hlen⟩ ⟨t, x, y, rfl, nt, rfl, e1, e2⟩
      cases e1
      have e2' : (as.map V.ref)[i]? = some y := e2
      rw [List.getElem?_map] at e2'
      obtain ⟨la, hla, e⟩ := Option.map_eq_some_iff.mp e2'
      subst e
      rw [List.length_map] at hi
      obtain ⟨ln, hln, bb, hb, _⟩ := hal.getL hla
      have kt := kp.new (o := .tup [.int (i : Nat), .ref la]) nt
      have ho1 : OutAt (upd G t (.tup [.int (i : Nat), .ref la])) fo out := OutAt.keep ((Kp.refl (F := [])).new nt).tk (fun xs z => ((Kp.refl (F := [])).new nt).at0 z) ho
      have hb' : upd G t (.tup [.int (i : Nat), .ref la]) la = some (.tup (lnB (.ref bb) ln)) := kt.tup hb
      rw [lnB_eq] at hb'
      refine ⟨t, _, rfl, SqT.of upd_same, rfl, _, _, rfl, _, _, rfl, rfl, ?_⟩
      generalize upd G t (.tup [.int (i : Nat), .ref la]) = G1 at kt ho1 hb' ⊢
      clear kp ho hb
      have lal := hal.len
      -- the two words
      have cw : ∀ {m : Nat}, m ≤ 2 * i + 1 → m < sizeLine := fun {m} h => by have : sizeLine = 16777216 := sizeLine_eq; omega
      have dbl : (2 : Int) * ((i : Nat) : Int) = ((2 * i : Nat) : Int) := by omega
      have dbl1 : (2 : Int) * ((i : Nat) : Int) + 1 = ((2 * i + 1 : Nat) : Int) := by omega
      refine ⟨_, rfl, _, _, _, _, rfl, rfl, SqT.of hb', atI0, rfl, _, rfl, ?_⟩
      refine if2 (fun h => ?_) fun h => ?_
      rotate_left
      refine ⟨_, rfl, _, _, _, _, rfl, rfl, SqT.of hb', atI0, rfl, _, rfl, if2 (fun h => ?_) fun h => ?_⟩
      rotate_left
      · obtain ⟨os, hfo, hos, how⟩ := ho1
        refine ⟨_, rfl, _, rfl, _, _, rfl, rfl, _, _, rfl, rfl, (by show (0 : Int) < (i : Int) + 5; omega), rfl, _, rfl, if2 (fun h => ?_) fun h => ?_⟩
        · refine ⟨_, rfl, .inl ⟨rfl, _, SqL.of hfo⟩, ?_⟩
          refine ⟨_, rfl, (by show 2 ≤ sizeLine; decide), fun q nq => ?_⟩
          have kq := (Kp.refl (F := []) (H := G1)).new (o := .lst [.str "low", .str "high"]) nq
          obtain ⟨u, eu, hu⟩ : ∃ u, atI [V.str "low", .str "high"] ((i : Int) % 2) = some (.str u) ∧ (u = "low" ∨ u = "high") := by
            have hc : (i : Int) % 2 = 0 ∨ (i : Int) % 2 = 1 := by omega
            rcases hc with e | e <;> rw [e]
            · exact ⟨_, rfl, .inl rfl⟩
            · exact ⟨_, rfl, .inr rfl⟩
          refine ⟨_, rfl, _, _, rfl, rfl, (by show (0 : Int) < _; decide), _, _, _, _, rfl, rfl, SqL.of upd_same, eu, (by show 2 ≤ sizeLine; decide), fun p np => ?_⟩
          have k2 := kq.new (o := .tup [.int (i : Int), .str u]) np
          refine ⟨fo, _, _, rfl, rfl, k2.at0 hfo, cw (by rw [List.length_map, hos.len]; omega), ?_⟩
          exact ⟨_, _, _, rfl, (kt.ext k2).put (k2.at0 hfo) (.inr nfo), out_app (k2.at0 hfo) (hos.mono fun _ _ z => k2.tup z) how upd_same hu, by rw [List.length_append, List.length_singleton]; omega⟩
        · exact ⟨_, _, out, rfl, kt, ⟨os, hfo, hos, how⟩, by omega⟩
      all_goals
        obtain ⟨os, hfo, hos, how⟩ := ho1
        refine ⟨fun σ' G' => ∃ out', σ' = [some (.ref pr), some (.int (c * 6364136223846793005 % 4611686018427387847)), some (.ref fo), some (.int (i : Nat)), some (.ref la)] ∧ Kp [] H G' ∧ OutAt G' fo out' ∧ out'.length ≤ 2 * i + 1, ?_, ?_⟩
        · refine ⟨_, rfl, _, rfl, _, _, rfl, rfl, .inl ⟨by decide, by decide⟩, 2 * i, rfl, congrArg V.int dbl, by omega, _, _, rfl, rfl, two_pow_log _ (by omega), _, _, rfl, rfl, (by show (0 : Int) < _; decide), rfl, _, rfl, if2 (fun h => ?_) fun h => ?_⟩
          · refine ⟨_, rfl, .inl ⟨rfl, _, SqL.of hfo⟩, ?_⟩
            refine ⟨_, rfl, (by show 2 ≤ sizeLine; decide), fun p np => ?_⟩
            have k2 := (Kp.refl (F := []) (H := G1)).new (o := .tup [.int (i : Int), .str "low"]) np
            refine ⟨fo, _, _, rfl, rfl, k2.at0 hfo, cw (by rw [List.length_map, hos.len]; omega), ?_⟩
            exact ⟨_, rfl, (kt.ext k2).put (k2.at0 hfo) (.inr nfo), out_app (k2.at0 hfo) (hos.mono fun _ _ z => k2.tup z) how upd_same (.inl rfl), by rw [List.length_append, List.length_singleton]; omega⟩
          · exact ⟨out, rfl, kt, ⟨os, hfo, hos, how⟩, by omega⟩
        · rintro σ' G2 ⟨out', rfl, kt2, ho2, hlen2⟩
          obtain ⟨os, hfo, hos, how⟩ := ho2
          refine ⟨_, rfl, _, rfl, _, _, rfl, rfl, .inl ⟨by decide, by decide⟩, _, _, rfl, rfl, 2 * i + 1, rfl, congrArg V.int dbl1, by omega, _, _, rfl, rfl, two_pow_log _ (by omega), _, _, rfl, rfl, (by show (0 : Int) < _; decide), rfl, _, rfl, if2 (fun h => ?_) fun h => ?_⟩
          · refine ⟨_, rfl, .inl ⟨rfl, _, SqL.of hfo⟩, ?_⟩
            refine ⟨_, rfl, (by show 2 ≤ sizeLine; decide), fun p np => ?_⟩
            have k2 := (Kp.refl (F := []) (H := G2)).new (o := .tup [.int (i : Int), .str "high"]) np
            refine ⟨fo, _, 0, .ref p, rfl, rfl, k2.at0 hfo, cw (by rw [List.length_map, hos.len]; omega), by decide, by decide, ?_⟩
            exact ⟨_, _, _, rfl, (kt2.ext k2).put (k2.at0 hfo) (.inr nfo), out_ins (k2.at0 hfo) (hos.mono fun _ _ z => k2.tup z) how upd_same (.inr rfl), by rw [List.length_cons]; omega⟩
          · exact ⟨_, _, out', rfl, kt2, ⟨os, hfo, hos, how⟩, by omega⟩
    · rintro σ' G ⟨v3, v4, out, rfl, kp, ⟨os, hfo, hos, how⟩, hlen⟩
      rw [List.length_map, hal.len] at hlen
      have osl : os.length ≤ 2000 := by have := hos.len; omega
      refine ⟨_, rfl, _, rfl, _, _, _, _, rfl, rfl, SqT.of (kp.tup hpr), (by rfl), _, _, rfl, .inl (SqL.of (kp.at0 hll)), (by show 2 ≤ sizeLine; decide), fun p np => ⟨(by show 1 ≤ sizeLine; decide), fun q nq => ?_⟩⟩
      have k1 := (Kp.refl (F := []) (H := G)).new (o := .tup [.int ((as.map V.ref).length : Int), .str "low"]) np
      have k2 := k1.new (o := .lst [.ref p]) nq
      refine ⟨fo, q, _, _, rfl, rfl, k2.at0 hfo, upd_same, (by rw [List.length_map]; have : sizeLine = 16777216 := sizeLine_eq; show os.length + 1 ≤ sizeLine; omega), fun z nz => ?_⟩
      have k3 := k2.new (o := .lst (os.map V.ref ++ [.ref p])) nz
      refine ⟨_, rfl, 1, rfl, fo, _, rfl, SqL.of (k3.at0 hfo), fun y ny => ?_⟩
      have k4 := k3.new (o := .lst (cutV (os.map V.ref) none (some 1))) ny
      refine ⟨z, y, _, _, rfl, rfl, ((Kp.refl (F := [])).new ny).at0 upd_same, upd_same, (by
        have q := cutV_length (os.map V.ref) none (some 1)
        rw [List.length_append, List.length_map]
        rw [List.length_map] at q
        have : sizeLine = 16777216 := sizeLine_eq
        show os.length + 1 + _ ≤ sizeLine; omega), fun x nx => ?_⟩
      have k5 := k4.new (o := .lst (os.map V.ref ++ [.ref p] ++ cutV (os.map V.ref) none (some 1))) nx
      obtain ⟨cs, ds, ec, hcd, hds⟩ : ∃ (cs : List Addr) (ds : List (Int × Str)), cutV (os.map V.ref) none (some 1) = cs.map V.ref ∧ All2 (fun a (x : Int × Str) => G a = some (.tup [.int x.1, .str x.2])) cs ds ∧ ∀ x ∈ ds, x ∈ out := by
        cases os with
        | nil => exact ⟨[], [], rfl, All2.nil, fun _ h => absurd h List.not_mem_nil⟩
        | cons o1 os =>
          cases out with
          | nil => exact absurd hos.len (by simp)
          | cons x1 out => exact ⟨[o1], [x1], cut_hi (xs := [V.ref o1]) (ys := os.map V.ref) rfl, All2.one hos.uncons.1, fun x h => by rw [List.mem_singleton.mp h]; exact List.mem_cons_self⟩
      rw [ec] at k5 ⊢
      have hp5 := (((((Kp.refl (F := []) (H := upd G p (.tup [.int ((as.map V.ref).length : Int), .str "low"]))).new (o := .lst [.ref p]) nq).new (o := .lst (os.map V.ref ++ [.ref p])) nz).new (o := .lst (cutV (os.map V.ref) none (some 1))) ny).new (o := .lst (os.map V.ref ++ [.ref p] ++ cs.map V.ref)) nx).tup upd_same
      rw [ec] at hp5
      refine k x (out ++ [(((as.map V.ref).length : Int), ("low" : Str))] ++ ds) _ (kp.ext k5) ⟨os ++ [p] ++ cs, by rw [List.map_append, List.map_append]; exact upd_same, ((hos.mono fun _ _ z => k5.tup z).snoc hp5).app (hcd.mono fun _ _ z => k5.tup z), fun x hx => ?_⟩
      rcases List.mem_append.mp hx with h | h
      · rcases mem_snoc h with h | h
        · exact how x h
        · rw [h]; exact .inl rfl
      · exact how x (hds x h)
end
section
variable {P : Program} {w : World} {K : PySem.W.Frag} {mg : Str → Option Value} {base : Heap} {C1 aP : Addr}
theorem sc_law_input : FnScope ["_law_source_here", "_law_rows", "_law_cell", "_law_found", "_law_r", "_law_many", "_law_word", "_law_taken", "_law_k"] ["_law_source_here", "_law_rows"] (defScope s_law_input) := ⟨rfl, rfl, rfl, by decide +kernel, rfl, by decide +kernel, by decide +kernel⟩
theorem ok_law_input {f : Addr} {fd : FuncData} (F : Fun K "_law_input" "_law_input" s_law_input f fd) (T : Txt K mg C1 aP) (G_law_next : Fo P w K mg base 1 "_law_next" ["_law_source_here", "_law_many"] spNext) (G_law_value : Fo P w K mg base 1 "_law_value" ["_law_cell"] spLValue) : FnOk P w K mg base CX0 2 f fd ["_law_source_here", "_law_rows"] spInput := by
  refine F.ok sc_law_input (fun vs H Q E h => ?_) (fun cdv Ar outer sh H vs Q E hr h => ?_)
  · obtain ⟨l, r, rfl, _⟩ := h
    rfl
  · obtain ⟨l, r, rfl, hs, r0, r2, k⟩ := h
    refine ⟨_, (pss_cons
    (ps_set (i := 2) sc_law_input.nd rfl (Or.inl rfl) (pe_fo G_law_next (hr.mono (by decide)) rfl (pa_cons (pv 0) (pa_cons (pe_op op_pow pe_int pe_int) pa_nil))))
    (pss_cons
    (ps_set (i := 3) sc_law_input.nd rfl (Or.inl rfl) (pe_lst pa_nil))
    (pss_cons
    (ps_for PassesOwn.never rfl (pi_range1 rfl T.b_range (pa_cons (pv 1) pa_nil)) (pg_name (i := 4) sc_law_input.nd rfl (Or.inl rfl))
      (pss_cons
      (ps_set (i := 5) sc_law_input.nd rfl (Or.inl rfl) (pe_op op_mod (pe_op op_fdivW (pv 2) (pe_op op_add (pv 4) pe_int)) pe_int))
      (C8.pss_cut
      (ps_if (pt_cmpR op_eq (pe_op op_mod (pe_op op_fdiv (pv 2) pe_int) pe_int) (pe_op op_add (pv 4) pe_int) (nomark _))
        (pss_one
        (ps_set (i := 5) sc_law_input.nd rfl (Or.inl rfl) (pe_op op_mod (pe_op op_fdiv (pv 2) pe_int) pe_int)))
        pss_nil)
      (pss_cons
      (ps_set (i := 6) sc_law_input.nd rfl (Or.inr rfl) (pe_fo G_law_next (hr.mono (by decide)) rfl (pa_cons (pv 0) (pa_cons (pe_op op_pow pe_int pe_int) pa_nil))))
      (pss_one
      (ps_expr (pe_bm PySem.F.plainAttrs_list PySem.F.slot_list_append PySem.F.type_list_append mt_append (pv 3) (pa_cons (pe_lc (own := [("_law_k", 8)]) rfl sc_law_input.nd (pi_range1 rfl T.b_range (pa_cons (pv 5) pa_nil)) (blkOk_by (N := ["_law_source_here", "_law_rows", "_law_cell", "_law_found", "_law_r", "_law_many", "_law_word", "_law_taken", "_law_k"]) (sc := defScope s_law_input) (by decide +kernel)) (fun _ _ _ _ _ => (pg_name (i := 8) sc_law_input.nd rfl (Or.inl rfl))) (fun _ _ _ _ _ => pts_nil) (fun _ _ _ _ _ => (pe_fo G_law_value (hr.mono (by decide)) rfl (pa_cons (pe_op op_fdivW (pv 6) (pe_op op_add (pv 8) pe_int)) pa_nil)))) pa_nil))))))))
    (pss_cons
    (ps_setLc (i := 7) rfl sc_law_input.nd rfl rfl (sw_true rfl rfl rfl (by decide +kernel)) (own := [("_law_k", 8)]) (pi_range1 rfl T.b_range (pa_cons (pe_op op_mod (pe_op op_fdiv (pv 2) pe_int) pe_int) pa_nil)) (blkOk_by (N := ["_law_source_here", "_law_rows", "_law_cell", "_law_found", "_law_r", "_law_many", "_law_word", "_law_taken", "_law_k"]) (sc := defScope s_law_input) (by decide +kernel)) (fun _ _ _ _ _ => (pg_name (i := 8) sc_law_input.nd rfl (Or.inl rfl))) (fun _ _ _ _ _ => pts_nil) (fun _ _ _ _ _ => (pe_fo G_law_value (hr.mono (by decide)) rfl (pa_cons (pe_fo G_law_next (hr.mono (by decide)) rfl (pa_cons (pv 0) (pa_cons (pe_op op_pow pe_int pe_int) pa_nil))) pa_nil))))
    (pss_one
    (ps_ret (pe_tup (pa_cons (pv 3) (pa_cons (pv 7) pa_nil))))))))), ?_⟩
    have big : ∀ {m : Nat}, m ≤ 1000 → m < sizeLine := fun {m} h => by have : sizeLine = 16777216 := sizeLine_eq; omega
    refine ⟨_, rfl, _, _, rfl, rfl, ⟨by decide, by decide, by decide⟩, l, _, rfl, hs, (by decide), fun v H1 v0 v1 k1 hs1 => ?_⟩
    obtain ⟨s0, srest, hsl, _⟩ := hs
    have lne : ∀ {q : Addr}, H q = none → q ≠ l := fun h e => by
      have z : H l = _ := hsl
      rw [e, z] at h; cases h
    refine ⟨(by show 0 ≤ sizeLine; omega), fun fo nfo => ?_⟩
    have k2 := k1.new (o := .lst []) nfo
    have hs2 := hs1.keep ((Kp.refl (F := [])).new (o := .lst []) nfo) nn
    have hfo0 : upd H1 fo (.lst []) fo = some (.lst (([] : List Addr).map V.ref)) := upd_same
    have ffo : H fo = none := k1.free nfo (nin1 fun e => by
      obtain ⟨_, _, z, _⟩ := hs1
      have z' : H1 l = _ := z
      rw [← e, nfo] at z'; cases z')
    have fol := lne ffo
    generalize upd H1 fo (.lst []) = H2 at k2 hs2 hfo0 ⊢
    clear k1 hs1 nfo
    -- a fresh place is none of these
    have fr : ∀ {G : Hp} {q : Addr}, Kp [l] H G → SrcAt G l → G q = none → H q = none := fun kp hs n => kp.free n (nin1 fun e => by
      obtain ⟨_, _, z, _⟩ := hs
      have z' : _ = some _ := z
      rw [← e, n] at z'; cases z')
    refine ⟨_, rfl, _, rfl, by omega, by omega, for_range (lo := 0) (n := r.toNat) (fun i σ' G => ∃ v4 v5 v6 ras rows, σ' = [some (.ref l), some (.int r), some (.int v), some (.ref fo), v4, v5, v6, none, none] ∧ Kp [l] H G ∧ SrcAt G l ∧ G fo = some (.lst ((ras : List Addr).map V.ref)) ∧ All2 (IsL G) ras rows ∧ rows.length = i ∧ ∀ q ∈ ras, H q = none ∧ q ≠ fo)
      ⟨none, none, none, [], [], rfl, k2, hs2, hfo0, All2.nil, rfl, fun _ h => absurd h List.not_mem_nil⟩ ?_ ?_⟩
    · rintro i σ' G hi ⟨v4, v5, v6, ras, rows, rfl, kp, hsG, hfo, hrows, hlen, hras⟩
      have wd : ∀ x : Int, CDivW x (0 + (i : Int) + 1) := fun x => ⟨by omega, by
        have h : (0 + (i : Int) + 1).natAbs.log2 ≤ (0 + (i : Int) + 1).natAbs := Nat.log2_le_self _
        omega⟩
      refine ⟨_, rfl, _, rfl, _, _, rfl, rfl, _, _, rfl, rfl, wd _, _, _, rfl, rfl, (by show (0 : Int) < _; decide), ?_⟩
      refine ⟨fun σ' G' => ∃ many : Int, G' = G ∧ σ' = [some (.ref l), some (.int r), some (.int v), some (.ref fo), some (.int (0 + (i : Int))), some (.int many), v6, none, none] ∧ 0 ≤ many ∧ many ≤ 41, ?_, ?_⟩
      · refine ⟨_, rfl, _, _, rfl, rfl, ⟨by decide, by decide⟩, _, _, rfl, rfl, (by show (0 : Int) < _; decide), _, rfl, _, _, rfl, rfl, rfl, _, rfl, if2 (fun h => ?_) fun h => ?_⟩
        · refine ⟨_, rfl, _, _, rfl, rfl, ⟨by decide, by decide⟩, _, _, rfl, rfl, (by show (0 : Int) < _; decide), v / 392 % 41, rfl, rfl, by omega, by omega⟩
        · exact ⟨v / (0 + (i : Int) + 1) % 7, rfl, rfl, by omega, by omega⟩
      rintro σ' G' ⟨many, rfl, rfl, m0, m1⟩
      refine ⟨_, rfl, _, _, rfl, rfl, ⟨by decide, by decide, by decide⟩, l, _, rfl, hsG, (by decide), fun wd' G2 w0 w1 k3 hs3 => ?_⟩
      have hfo2 := k3.at hfo (nin1 fol)
      have hrows2 : All2 (IsL G2) ras rows := by
        refine ⟨hrows.1, fun j a b e1 e2 => k3.at (hrows.2 j a b e1 e2) (nin1 (lne (hras a (List.mem_of_getElem? e1)).1))⟩
      have kp2 := kp.trans k3
      refine ⟨_, rfl, .inl ⟨rfl, _, SqL.of hfo2⟩, ?_⟩
      refine ⟨_, rfl, _, rfl, by omega, by omega, fun D nD => lc_range (lo := 0) (n := many.toNat) (fun j G' => Kp [] G2 G' ∧ ∃ acc : List Int, G' D = some (.lst (acc.map V.int)) ∧ acc.length = j)
        ⟨Kp.refl.new nD, [], upd_same, rfl⟩ ?_ ?_⟩
      · rintro j G' hj ⟨kp3, acc, hD, hlenD⟩
        refine ⟨rfl, ?_⟩
        refine ⟨_, rfl, _, rfl, _, _, rfl, rfl, _, _, rfl, rfl, ⟨by show (0 : Int) < 0 + (j : Int) + 1; omega, ?_⟩, _, rfl, fun y G4 k4 => ?_⟩
        · have h : (0 + (j : Int) + 1).natAbs.log2 ≤ (0 + (j : Int) + 1).natAbs := Nat.log2_le_self _
          show (0 + (j : Int) + 1).natAbs.log2 < 9000
          omega
        · exact ⟨_, k4.at0 hD, by rw [List.length_map]; have := sizeLine_eq; omega, (kp3.ext k4).put (k4.at0 hD) (.inr nD), acc ++ [y], by rw [List.map_append]; exact upd_same, by rw [List.length_append, List.length_singleton, hlenD]⟩
      · rintro G' ⟨kp3, acc, hD, hlenD⟩
        have hfo3 := kp3.at0 hfo2
        have nDfo : D ≠ fo := fun e => by rw [e, hfo2] at nD; cases nD
        refine ⟨fo, _, _, rfl, rfl, hfo3, big (by rw [List.length_map, hrows2.len]; omega), ?_⟩
        have kput : Kp [l] H (upd G' fo (.lst (ras.map V.ref ++ [.ref D]))) := (kp2.ext kp3).put hfo3 (.inr ffo)
        refine ⟨_, _, _, ras ++ [D], rows ++ [acc], rfl, kput, (hs3.keep kp3 nn).keep (F := [fo]) (Kp.refl.put hfo3 (.inl in1)) (nin1 fol.symm), by rw [List.map_append]; exact upd_same, ?_, by rw [List.length_append, List.length_singleton, hlen], fun q hq => ?_⟩
        · refine All2.snoc ⟨hrows2.1, fun j a b e1 e2 => ?_⟩ ?_
          · have q := hrows2.2 j a b e1 e2
            exact IsL.ne (kp3.at0 q) (hras a (List.mem_of_getElem? e1)).2
          · exact IsL.ne hD nDfo
        · rcases mem_snoc hq with e | e
          · exact hras q e
          · rw [e]; exact ⟨fr kp2 hs3 nD, nDfo⟩
    rintro σ' G ⟨v4, v5, v6, ras, rows, rfl, kp, hsG, hfo, hrows, hlen, hras⟩
    refine ⟨_, rfl, _, _, rfl, rfl, ⟨by decide, by decide⟩, _, _, rfl, rfl, (by show (0 : Int) < _; decide), _, rfl, by omega, by omega, fun D nD => lc_range (lo := 0) (n := (v / 7 % 5).toNat) (fun j G' => Kp [l] G G' ∧ SrcAt G' l ∧ ∃ acc : List Int, G' D = some (.lst (acc.map V.int)) ∧ acc.length = j)
      ⟨Kp.refl.new nD, hsG.keep ((Kp.refl (F := [])).new nD) nn, [], upd_same, rfl⟩ ?_ ?_⟩
    · rintro j G' hj ⟨kp3, hs3, acc, hD, hlenD⟩
      have nDl : D ≠ l := lne (fr kp hsG nD)
      refine ⟨rfl, ?_⟩
      refine ⟨_, rfl, _, _, rfl, rfl, ⟨by decide, by decide, by decide⟩, l, _, rfl, hs3, (by decide), fun wd' G4 w0 w1 k4 hs4 => ?_⟩
      refine ⟨_, rfl, fun y G5 k5 => ?_⟩
      have hD5 := k5.at0 (k4.at hD (nin1 nDl))
      exact ⟨_, hD5, by rw [List.length_map]; have := sizeLine_eq; omega, ((kp3.trans k4).ext k5).put hD5 (.inr nD), (hs4.keep k5 nn).keep (F := [D]) (Kp.refl.put hD5 (.inl in1)) (nin1 nDl.symm), acc ++ [y], by rw [List.map_append]; exact upd_same, by rw [List.length_append, List.length_singleton, hlenD]⟩
    · rintro G' ⟨kp3, hs3, acc, hD, hlenD⟩
      have fD := fr kp hsG nD
      refine ⟨_, rfl, _, rfl, (by show 2 ≤ sizeLine; decide), fun p np => ?_⟩
      have kz := (Kp.refl (F := []) (H := G')).new (o := .tup [.ref fo, .ref D]) np
      refine k p fo D ras rows acc _ ((kp.trans kp3).ext kz) (hs3.keep kz nn) upd_same (kz.at0 (kp3.at hfo (nin1 fol))) ⟨hrows.1, fun j a b e1 e2 => kz.at0 (kp3.at (hrows.2 j a b e1 e2) (nin1 (lne (hras a (List.mem_of_getElem? e1)).1)))⟩ (by omega) (kz.at0 hD) fun q hq => ?_
      rcases List.mem_cons.mp hq with e | hq
      · rw [e]; exact ffo
      · rcases List.mem_cons.mp hq with e | hq
        · rw [e]; exact fD
        · exact (hras q hq).1
end
end Lk
namespace Lk
open PySem L2
section
variable {P : Program} {w : World} {K : PySem.W.Frag} {mg : Str → Option Value} {base : Heap} {C1 aP : Addr}
/-- what isinstance asks of the two classes -/
structure Isi (K : PySem.W.Frag) (C2 C1 : Addr) : Prop where
  ha : some (some (.builtin "object.__class__")) = PySem.W.findIn K (.ref C2) "__class__"
  hn : some (some (.builtin "getset_descriptor.__get__")) = PySem.W.specialIn K (.builtin "object.__class__") "__get__"
  htk : some true = PySem.W.takesIn K (.builtin "object.__class__")
  hm : PySem.W.mroIn K C2 (.type "object") = some true
  kit : PySem.W.kitOne K (.ref C2) (.ref C1) = some true
section
variable {C : Addr} {th : Bool} {H : Hp} {A : WA} {n r b : Int} {lns : List Ln} {out : List (Int × Str)} {s : WSt}
theorem WkAt.live (W : WkAt C th H A n r b lns out s) : ∀ q ∈ A.all, ∃ o, H q = some o := fun q hq => by
  have hq' : q = A.p ∨ q = A.ll ∨ q = A.rr ∨ q = A.du ∨ q = A.nu ∨ q = A.wo ∨ q ∈ A.ras ∨ q ∈ A.oo.toList := by
    have : q ∈ A.p :: A.ll :: A.rr :: A.du :: A.nu :: A.wo :: (A.ras ++ A.oo.toList) := hq
    simpa using this
  rcases hq' with e | e | e | e | e | e | e | e
  · obtain ⟨dx, fs, ev, z, _⟩ := W.ins
    exact ⟨_, by rw [e]; exact z⟩
  · exact ⟨_, by rw [e]; exact W.ll⟩
  · exact ⟨_, by rw [e]; exact W.rr⟩
  · exact ⟨_, by rw [e]; exact W.du⟩
  · exact ⟨_, by rw [e]; exact W.nu⟩
  · exact ⟨_, by rw [e]; exact W.wo⟩
  · obtain ⟨i, hi⟩ := List.getElem?_of_mem e
    obtain ⟨y, _, z⟩ := W.rows.getL hi
    exact ⟨_, z⟩
  · have z := W.oo
    cases eo : A.oo with
    | none => rw [eo] at e; exact absurd e List.not_mem_nil
    | some o =>
      rw [eo] at e z
      obtain ⟨as, q1, _⟩ := z
      rw [List.mem_singleton.mp e]
      exact ⟨_, q1⟩
theorem WOk.thin (o : WOk n r b lns s) : WOk n r b lns (Lk.thin out s) := ⟨⟨o.ok.good, o.ok.at0, o.ok.at1, o.ok.nums, o.ok.rows⟩, o.words, o.st0, o.st1, o.b60⟩
theorem thin_w0 {rows : List (List Int)} {due : List Int} : Lk.thin out (w0 n rows due) = w0 n rows due := rfl
def frD (s : WSt) : PyData := .tuple [.int s.at_, iD s.nums]
theorem shaped_fr (s : WSt) : SeqAt.shaped (frD s) = true := by
  unfold SeqAt.shaped
  rw [Bool.and_eq_true]
  refine ⟨?_, decide_eq_true ?_⟩
  · show (true && ((iD s.nums).canLay0 && true)) = true
    rw [(lay_iD _).1]; rfl
  · show max 0 (max (iD s.nums).depth 0) + 1 ≤ 64
    rw [(lay_iD _).2]; decide
theorem dp_fr {p nu : Addr} (h : H p = some (.tup [.int s.at_, .ref nu])) (hn : IsL H nu s.nums) : Dp K H (.ref p) (frD s) := .tup (SqT.of h) (.cons (.int _) (.cons (dp_ints hn) .nil))
theorem FinOk.thin (h : FinOk s.fin) : FinOk (Lk.thin out s).fin := fun x hx => by
  have hx' : s.fin.map (dueW out) = some x := hx
  cases e : s.fin with
  | none => rw [e] at hx'; cases hx'
  | some y =>
    rw [e] at hx'
    have e1 : dueW out y = if (y.1 = "low" ∨ y.1 = "high") ∧ (y.2, y.1) ∈ out then (("beyond", y.2) : Str × Int) else y := rfl
    have e2 : dueW out y = x := Option.some.inj hx'
    rw [← e2, e1]
    by_cases c : (y.1 = "low" ∨ y.1 = "high") ∧ (y.2, y.1) ∈ out
    · rw [if_pos c]
      exact (by decide +kernel : PyData.canLay0 (.str "beyond") = true)
    · rw [if_neg c]
      exact h y e
end
theorem sc_law_steps : FnScope ["_law_program_here", "_law_rows", "_law_taken", "_law_budget", "_law_out_here", "_law_handed", "_law_full", "_law_lines", "_law_thin", "_law_some", "_law_k", "_law_row"] ["_law_program_here", "_law_rows", "_law_taken", "_law_budget", "_law_out_here"] (defScope s_law_steps) := ⟨rfl, rfl, rfl, by decide +kernel, rfl, by decide +kernel, by decide +kernel⟩
theorem ok_law_steps {C2 : Addr} {f : Addr} {fd : FuncData} (F : Fun K "_law_steps" "_law_steps" s_law_steps f fd) (T : Txt K mg C1 aP) (B : CF K C1) (B2 : CF K C2) (J : Isi K C2 C1)
    (G_Walk : Co P w K mg base 1 C1 "Walk" ["self", "program", "rows", "taken", "budget"] (spInit C1)) (G_ThinWalk : Co P w K mg base 2 C2 "ThinWalk" ["self", "program", "rows", "taken", "budget", "out"] (spInit2 C2))
    (M_frame : Mo P w K mg base 1 C1 "frame" ["self"] (spFrame C1 false)) (N_frame : Mo P w K mg base 1 C2 "frame" ["self"] (spFrame C2 true)) (N_told : Mo P w K mg base 1 C2 "told" ["self"] (spTold C2 true))
    (G_law_told : Fo P w K mg base 2 "_law_told" ["_law_walk", "_law_out_here"] (spLTold C1)) (M_step : Mo P w K mg base 4 C1 "step" ["self"] (spStep C1 false)) (N_step : Mo P w K mg base 4 C2 "step" ["self"] (spStep C2 true)) : FnOk P w K mg base CX0 5 f fd ["_law_program_here", "_law_rows", "_law_taken", "_law_budget", "_law_out_here"] spSteps := by
  refine F.ok sc_law_steps (fun vs H Q E h => ?_) (fun cdv Ar outer sh H vs Q E hr h => ?_)
  · obtain ⟨pr, rw_, tk, ou, n, r, b, lns, rows, due, out, rfl, _⟩ := h
    rfl
  · obtain ⟨pr, rw_, tk, ou, n, r, b, lns, rows, due, out, rfl, hand, good, ho, b0, b60, k⟩ := h
    refine ⟨_, (pss_cons
    (ps_set (i := 5) sc_law_steps.nd rfl (Or.inl rfl) (pe_lst (pa_cons (pe_lc (own := [("_law_row", 11)]) rfl sc_law_steps.nd (pi_list (pv 1)) (blkOk_by (N := ["_law_program_here", "_law_rows", "_law_taken", "_law_budget", "_law_out_here", "_law_handed", "_law_full", "_law_lines", "_law_thin", "_law_some", "_law_k", "_law_row"]) (sc := defScope s_law_steps) (by decide +kernel)) (fun _ _ _ _ _ => (pg_name (i := 11) sc_law_steps.nd rfl (Or.inl rfl))) (fun _ _ _ _ _ => pts_nil) (fun _ _ _ _ _ => (pe_callTy (T := "list") (r := rCopy K) call_list_of (by rfl) T.b_list (by decide +kernel) (pa_cons (pv 11) pa_nil)))) (pa_cons (pe_callTy call_list_of (by rfl) T.b_list (by decide +kernel) (pa_cons (pv 2) pa_nil)) (pa_cons (pe_callTy call_list_of (by rfl) T.b_list (by decide +kernel) (pa_cons (pv 4) pa_nil)) pa_nil)))))
    (pss_cons
    (ps_set (i := 6) sc_law_steps.nd rfl (Or.inl rfl) (pe_co G_Walk (hr.mono (by decide)) rfl (pa_cons (pv 0) (pa_cons (pv 1) (pa_cons (pv 2) (pa_cons (pv 3) pa_nil))))))
    (pss_cons
    (ps_set (i := 7) sc_law_steps.nd rfl (Or.inl rfl) (pe_callTy call_list_of (by rfl) T.b_list (by decide +kernel) (pa_cons (pe_ix ix_tup (pv 0) pe_int (fun _ _ => rfl)) pa_nil)))
    (pss_cons
    (ps_set (i := 8) sc_law_steps.nd rfl (Or.inl rfl) (pe_co G_ThinWalk (hr.mono (by decide)) rfl (pa_cons (pe_tup (pa_cons (pe_ix ix_tup (pv 0) pe_int (fun _ _ => rfl)) (pa_cons (pe_ix ix_tup (pv 0) pe_int (fun _ _ => rfl)) (pa_cons (pv 7) pa_nil)))) (pa_cons (pe_ix ix_list (pv 5) pe_int (fun _ _ => rfl)) (pa_cons (pe_ix ix_list (pv 5) pe_int (fun _ _ => rfl)) (pa_cons (pv 3) (pa_cons (pe_ix ix_list (pv 5) pe_int (fun _ _ => rfl)) pa_nil)))))))
    (pss_cons
    (ps_for PassesOwn.never rfl (pi_list (pe_op op_cat (pe_op op_cat (pe_ix ix_list (pv 5) pe_int (fun _ _ => rfl)) (pv 5)) (pe_lst (pa_cons (pv 7) pa_nil)))) (pg_name (i := 9) sc_law_steps.nd rfl (Or.inl rfl))
      (pss_one
      (ps_expr (pe_bm0 PySem.F.plainAttrs_list PySem.F.slot_list_clear PySem.F.type_list_clear mt_clear (pv 9)))))
    (pss_cons
    (ps_if (pt_not (pt_val (pe_callB call_isi (by rfl) T.b_isinstance (by decide +kernel) (pa_cons (pv 8) (pa_cons (pe_glob (v := .ref C1) rfl T.mgW rfl) pa_nil)))))
      (pss_one
      (ps_ret pe_bl))
      pss_nil)
    (pss_cons
    (ps_for PassesOwn.never rfl (pi_range1 rfl T.b_range (pa_cons (pe_op op_add (pv 3) pe_int) pa_nil)) (pg_name (i := 10) sc_law_steps.nd rfl (Or.inl rfl))
      (pss_cons
      (ps_if (PW.pt (pw_or (pt_cmpR (op_neD hr.units) (pe_mo0 (pv 6) B.cl M_frame (hr.mono (by decide))) (pe_mo0 (pv 8) B2.cl N_frame (hr.mono (by decide))) (nomark _)) (pw_or1 (pt_cmpR (op_neD hr.units) (pe_mo0 (pv 8) B2.cl N_told (hr.mono (by decide))) (pe_fo G_law_told (hr.mono (by decide)) rfl (pa_cons (pv 6) (pa_cons (pv 4) pa_nil))) (nomark _)))))
        (pss_one
        (ps_ret pe_bl))
        pss_nil)
      (pss_cons
      (ps_expr (pe_mo0 (pv 6) B.cl M_step (hr.mono (by decide))))
      (pss_one
      (ps_expr (pe_mo0 (pv 8) B2.cl N_step (hr.mono (by decide))))))))
    (pss_one
    (ps_ret pe_bl))))))))), ?_⟩
    obtain ⟨⟨ll, hpr, las, hll, hlns⟩, ⟨ras0, hrw, hrows⟩, htk, rl, rs, n0, n1⟩ := id hand
    obtain ⟨os, hou, hos, how⟩ := id ho
    have big : ∀ {m : Nat}, m ≤ 10000 → m ≤ sizeLine := fun {m} h => by have : sizeLine = 16777216 := sizeLine_eq; omega
    refine ⟨_, rfl, rw_, rfl, ⟨_, SqL.of hrw⟩, copy_rows (j := 11) (σ := [some (.ref pr), some (.ref rw_), some (.ref tk), some (.int b), some (.ref ou), none, none, none, none, none, none, none]) (Nat.lt_succ_self 11) hrw hrows rs fun h0 ras H1 k1 c1 r1 fr1 nd1 => ?_⟩
    refine ⟨_, rfl, _, _, rfl, .inl (SqL.of (k1.at0 htk)), fun h1 n1' => ?_⟩
    have k2 := (Kp.refl (F := []) (H := H1)).new (o := .lst (due.map V.int)) n1'
    refine ⟨_, rfl, _, _, rfl, .inl (SqL.of (k2.at0 (k1.at0 hou))), fun h2 n2' => ?_⟩
    have k3 := k2.new (o := .lst (os.map V.ref)) n2'
    refine ⟨(by show 3 ≤ sizeLine; decide), fun hd nd => ?_⟩
    have k4 := k3.new (o := .lst [.ref h0, .ref h1, .ref h2]) nd
    have hh1 : upd (upd (upd H1 h1 (.lst (due.map V.int))) h2 (.lst (os.map V.ref))) hd (.lst [.ref h0, .ref h1, .ref h2]) h1 = some (.lst (due.map V.int)) := (((Kp.refl (F := [])).new n2').new nd).at0 upd_same
    have hh2 : upd (upd (upd H1 h1 (.lst (due.map V.int))) h2 (.lst (os.map V.ref))) hd (.lst [.ref h0, .ref h1, .ref h2]) h2 = some (.lst (os.map V.ref)) := ((Kp.refl (F := [])).new nd).at0 upd_same
    have hh0 := k4.at0 c1
    have hrr := r1.mono fun _ _ z => k4.at0 z
    have hhd : upd (upd (upd H1 h1 (.lst (due.map V.int))) h2 (.lst (os.map V.ref))) hd (.lst [.ref h0, .ref h1, .ref h2]) hd = some (.lst [.ref h0, .ref h1, .ref h2]) := upd_same
    have f1 : H h1 = none := k1.free0 n1'
    have f2 : H h2 = none := k1.free0 (k2.free0 n2')
    have kH4 := k1.ext k4
    generalize upd (upd (upd H1 h1 (.lst (due.map V.int))) h2 (.lst (os.map V.ref))) hd (.lst [.ref h0, .ref h1, .ref h2]) = H4 at hh0 hh1 hh2 hrr hhd kH4 ⊢
    clear k4 k3 k2 c1 r1 nd n2' n1'
    -- the full walk
    refine ⟨_, rfl, _, rfl, _, rfl, _, rfl, fun x dx nx ndx nex => ?_⟩
    have k0 : Kp [] H4 (upd (upd H4 dx (.own x)) x (.ins C1 dx [])) := (Kp.refl.new ndx).new (by rw [upd_ne (Ne.symm nex)]; exact nx)
    refine ⟨x, dx, pr, rw_, tk, n, r, b, lns, rows, due, rfl, upd_same, (hand.mono kH4).mono k0, good, fun A1 H5 ex eo W1 k1' fr => ⟨rfl, ?_⟩⟩
    have k45 : Kp [] H4 H5 := k0.step k1' fun q hq => .inr (by rw [List.mem_singleton.mp hq]; exact nx)
    have frA1 : ∀ q ∈ A1.all, H4 q = none := fun q hq => by
      rcases List.mem_cons.mp hq with e | e
      · rw [e, ex]; exact nx
      · exact k0.free0 (fr q e)
    subst ex
    clear k0 k1' fr nx ndx nex
    have kH5 := kH4.ext k45
    -- the lines, and the thinned walk
    have hll5 := kH5.at0 hll
    have hpr5 := kH5.tup hpr
    refine ⟨_, rfl, _, _, _, .ref ll, rfl, rfl, SqT.of hpr5, rfl, _, _, rfl, .inl (SqL.of hll5), fun hl nl => ?_⟩
    have k56 := (Kp.refl (F := []) (H := H5)).new (o := .lst (las.map V.ref)) nl
    have hhl : upd H5 hl (.lst (las.map V.ref)) hl = some (.lst (las.map V.ref)) := upd_same
    have fl : H hl = none := kH5.free0 nl
    generalize upd H5 hl (.lst (las.map V.ref)) = H6 at k56 hhl ⊢
    have k46 := k45.ext k56
    have kH6 := kH5.ext k56
    refine ⟨_, rfl, _, _, _, .int n, rfl, rfl, SqT.of (kH6.tup hpr), rfl, _, rfl, _, _, _, .int r, rfl, rfl, SqT.of (kH6.tup hpr), rfl, _, rfl, (by show 3 ≤ sizeLine; decide), fun tp ntp => ?_⟩
    have k67 := (Kp.refl (F := []) (H := H6)).new (o := .tup [.int n, .int r, .ref hl]) ntp
    have htp : upd H6 tp (.tup [.int n, .int r, .ref hl]) tp = some (.tup [.int n, .int r, .ref hl]) := upd_same
    generalize upd H6 tp (.tup [.int n, .int r, .ref hl]) = H7 at k67 htp ⊢
    have k47 := k46.ext k67
    have k57 := k56.ext k67
    have kH7 := kH6.ext k67
    have hhd7 := k47.at0 hhd
    refine ⟨_, rfl, _, _, _, .ref h0, rfl, rfl, SqL.of hhd7, rfl, _, rfl, _, _, _, .ref h1, rfl, rfl, SqL.of hhd7, rfl, _, rfl, _, rfl, _, _, _, .ref h2, rfl, rfl, SqL.of hhd7, rfl, fun x dx nx ndx nex => ?_⟩
    have k0 : Kp [] H7 (upd (upd H7 dx (.own x)) x (.ins C2 dx [])) := (Kp.refl.new ndx).new (by rw [upd_ne (Ne.symm nex)]; exact nx)
    have hand7 : Hand H7 tp h0 h1 n r lns rows due := ⟨⟨hl, htp, las, k67.at0 hhl, lns_mono kH7.tk hlns⟩, ⟨ras, k47.at0 hh0, hrr.mono fun _ _ z => k47.at0 z⟩, k47.at0 hh1, rl, rs, n0, n1⟩
    have out7 : OutAt H7 h2 out := ⟨os, k47.at0 hh2, hos.mono fun _ _ z => kH7.tup z, how⟩
    refine ⟨x, dx, tp, h0, h1, h2, n, r, b, lns, rows, due, out, rfl, upd_same, hand7.mono k0, good, OutAt.keep k0.tk (fun xs z => k0.at0 z) out7, fun A2 H8 ex W2 k1' fr => ⟨rfl, ?_⟩⟩
    have k78 : Kp [] H7 H8 := k0.step k1' fun q hq => .inr (by rw [List.mem_singleton.mp hq]; exact nx)
    have frA2 : ∀ q ∈ A2.all, H7 q = none := fun q hq => by
      rcases List.mem_cons.mp hq with e | e
      · rw [e, ex]; exact nx
      · exact k0.free0 (fr q e)
    subst ex
    clear k0 k1' fr nx ndx nex out7 hand7 htp
    have kH8 := kH7.ext k78
    have k48 := k47.ext k78
    have k58 := k57.ext k78
    have live1 := W1.live
    have W1 := W1.ext k58
    have apart : ∀ q ∈ A1.all, q ∉ A2.all := fun q h1 h2 => by
      obtain ⟨o, z⟩ := live1 q h1
      have n7 := frA2 q h2
      rw [k57.at0 z] at n7; cases n7
    -- what was handed is emptied
    have hhd8 := k48.at0 hhd
    have hh08 := k48.at0 hh0
    have hhl8 : H8 hl = some (.lst (las.map V.ref)) := (k67.ext k78).at0 hhl
    have rl0 : ras.length ≤ 1000 := by rw [hrr.len]; exact rs
    refine ⟨_, rfl, _, _, _, .ref h0, rfl, rfl, SqL.of hhd8, rfl, _, rfl, h0, hd, _, _, rfl, rfl, hh08, hhd8, big (by rw [List.length_map]; show ras.length + 3 ≤ 10000; omega), fun z1 nz1 => ?_⟩
    have e1 := (Kp.refl (F := []) (H := H8)).new (o := .lst (ras.map V.ref ++ [.ref h0, .ref h1, .ref h2])) nz1
    have hz1 : upd H8 z1 (.lst (ras.map V.ref ++ [.ref h0, .ref h1, .ref h2])) z1 = some (.lst (ras.map V.ref ++ [.ref h0, .ref h1, .ref h2])) := upd_same
    refine ⟨_, rfl, (by show 1 ≤ sizeLine; decide), fun z2 nz2 => ?_⟩
    have e2 := e1.new (o := .lst [.ref hl]) nz2
    refine ⟨z1, z2, _, _, rfl, rfl, ((Kp.refl (F := [])).new nz2).at0 hz1, upd_same, big (by rw [List.length_append, List.length_map]; show ras.length + 3 + 1 ≤ 10000; omega), fun z3 nz3 => ?_⟩
    have e3 := e2.new (o := .lst (ras.map V.ref ++ [.ref h0, .ref h1, .ref h2] ++ [.ref hl])) nz3
    have hz3 : upd (upd (upd H8 z1 (.lst (ras.map V.ref ++ [.ref h0, .ref h1, .ref h2]))) z2 (.lst [.ref hl])) z3 (.lst (ras.map V.ref ++ [.ref h0, .ref h1, .ref h2] ++ [.ref hl])) z3 = some (.lst (ras.map V.ref ++ [.ref h0, .ref h1, .ref h2] ++ [.ref hl])) := upd_same
    have f83 : H8 z3 = none := e2.free0 nz3
    generalize upd (upd (upd H8 z1 (.lst (ras.map V.ref ++ [.ref h0, .ref h1, .ref h2]))) z2 (.lst [.ref hl])) z3 (.lst (ras.map V.ref ++ [.ref h0, .ref h1, .ref h2] ++ [.ref hl])) = H9 at e3 hz3 ⊢
    clear e1 e2 nz1 nz2 nz3 hz1
    have exs : ras.map V.ref ++ [.ref h0, .ref h1, .ref h2] ++ [.ref hl] = ((ras ++ [h0, h1, h2]) ++ [hl]).map V.ref := by rw [List.map_append, List.map_append]; rfl
    obtain ⟨D, hD⟩ : ∃ D : List Addr, D = (ras ++ [h0, h1, h2]) ++ [hl] := ⟨_, rfl⟩
    rw [← hD] at exs
    rw [exs] at hz3
    have inD : ∀ q ∈ D, q ∈ ras ∨ q = h0 ∨ q = h1 ∨ q = h2 ∨ q = hl := fun q hq => by
      rw [hD] at hq
      simpa [or_assoc] using hq
    have D4 : ∀ q ∈ D, (∃ xs, H4 q = some (.lst xs)) ∨ q = hl := fun q hq => by
      rcases inD q hq with e | e | e | e | e
      · obtain ⟨i, hi⟩ := List.getElem?_of_mem e
        obtain ⟨y, _, z⟩ := hrr.getL hi
        exact .inl ⟨_, z⟩
      · exact .inl ⟨_, by rw [e]; exact hh0⟩
      · exact .inl ⟨_, by rw [e]; exact hh1⟩
      · exact .inl ⟨_, by rw [e]; exact hh2⟩
      · exact .inr e
    have D1 : ∀ q ∈ D, q ∉ A1.all := fun q hq h => by
      rcases D4 q hq with ⟨xs, e⟩ | e
      · rw [frA1 q h] at e; cases e
      · obtain ⟨o, z⟩ := live1 q h
        rw [e, nl] at z; cases z
    have D7 : ∀ q ∈ D, ∃ xs, H7 q = some (.lst xs) := fun q hq => by
      rcases D4 q hq with ⟨xs, e⟩ | e
      · exact ⟨xs, k47.at0 e⟩
      · exact ⟨_, by rw [e]; exact k67.at0 hhl⟩
    have D2 : ∀ q ∈ D, q ∉ A2.all := fun q hq h => by
      obtain ⟨xs, e⟩ := D7 q hq
      rw [frA2 q h] at e; cases e
    have D9 : ∀ q ∈ D, ∃ xs, H9 q = some (.lst xs) := fun q hq => by
      obtain ⟨xs, e⟩ := D7 q hq
      exact ⟨xs, e3.at0 (k78.at0 e)⟩
    have D0 : ∀ q ∈ D, H q = none := fun q hq => by
      rcases inD q hq with e | e | e | e | e
      · exact fr1 q (List.mem_cons_of_mem _ e)
      · rw [e]; exact fr1 h0 List.mem_cons_self
      · rw [e]; exact f1
      · rw [e]; exact f2
      · rw [e]; exact fl
    have nz : z3 ∉ D := fun h => by
      obtain ⟨xs, e⟩ := D7 z3 h
      rw [k78.at0 e] at f83; cases f83
    refine ⟨z3, rfl, ⟨_, SqL.of hz3⟩, for_list (K := K) (a := z3) (xs := D.map V.ref) (fun i σ' G => ∃ v9, σ' = [some (.ref pr), some (.ref rw_), some (.ref tk), some (.int b), some (.ref ou), some (.ref hd), some (.ref A1.p), some (.ref hl), some (.ref A2.p), v9, none, none] ∧ Kp D H9 G ∧ ∀ q ∈ D, ∃ xs, G q = some (.lst xs))
      ⟨none, rfl, Kp.refl, D9⟩ (fun i σ G _ p => by obtain ⟨_, _, kp, _⟩ := p; exact SqL.of (kp.at hz3 nz)) ?_ ?_⟩
    · rintro i y σ' G hi ⟨v9, rfl, kp, hall⟩
      rw [List.getElem?_map] at hi
      obtain ⟨d, hd', e⟩ := Option.map_eq_some_iff.mp hi
      subst e
      have dD := List.mem_of_getElem? hd'
      obtain ⟨xs, ed⟩ := hall d dD
      refine ⟨_, rfl, .inl ⟨rfl, _, SqL.of ed⟩, d, _, rfl, rfl, ed, ?_⟩
      refine ⟨_, rfl, kp.put ed (.inl dD), fun q hq => ?_⟩
      by_cases e : q = d
      · rw [e]; exact ⟨_, upd_same⟩
      · rw [upd_ne e]; exact hall q hq
    rintro σ' G ⟨v9, rfl, kD, _⟩
    have W1 := (W1.ext e3).frame kD D1
    have W2 := (W2.ext e3).frame kD D2
    have kG : Kp [] H G := (kH8.ext e3).step kD fun q hq => .inr (D0 q hq)
    have fA1 : ∀ q ∈ A1.all, H q = none := fun q hq => kH4.free0 (frA1 q hq)
    have fA2 : ∀ q ∈ A2.all, H q = none := fun q hq => kH7.free0 (frA2 q hq)
    clear kD e3 D9 D7 D4 D2 D1 D0 inD hz3 nz f83
    -- isinstance
    obtain ⟨dx2, fs2, ev2, hp2, _, _⟩ := W2.ins
    refine ⟨_, rfl, _, _, _, _, true, rfl, .own C1, .base (.ins hp2 B2.cl J.ha.symm J.hn.symm J.htk.symm J.hm), J.kit, true, rfl, ?_⟩
    refine ifB (b := !true) (fun h => by cases h) fun _ => ?_
    -- the steps
    have tin : ∀ {s : WSt}, frD (thin out s) = frD s := rfl
    refine ⟨_, rfl, _, _, rfl, rfl, _, rfl, by omega, by omega, for_range (lo := 0) (n := (b + 2).toNat) (fun i σ' G' => ∃ v10 s, σ' = [some (.ref pr), some (.ref rw_), some (.ref tk), some (.int b), some (.ref ou), some (.ref hd), some (.ref A1.p), some (.ref hl), some (.ref A2.p), v9, v10, none] ∧ WkAt C1 false G' A1 n r b lns [] s ∧ WOk n r b lns s ∧ FinOk s.fin ∧ WkAt C2 true G' A2 n r b lns out (thin out s) ∧ Kp [] H G')
      ⟨none, w0 n rows due, rfl, W1, w0_ok good n0 rl b0 b60, (fun x h => by cases h), W2, kG⟩ ?_ ?_⟩
    · rintro i σ' G' hi ⟨v10, s, rfl, W1, ok, fk, W2, kG⟩
      have sr : s.rows.length ≤ 1000 := by have := ok.ok.rows; omega
      obtain ⟨dx1, fs1, ev1, hp1, Fl1, _⟩ := W1.ins
      obtain ⟨dx2, fs2, ev2, hp2, Fl2, _⟩ := W2.ins
      refine ⟨_, rfl, _, _, _, rfl, hp1, Fl1.no _ (by decide +kernel), A1, n, r, b, lns, [], s, rfl, W1, fun p1 nu1 G1 k1 e1 i1 => ?_⟩
      refine ⟨_, rfl, _, _, _, rfl, k1.at0 hp2, Fl2.no _ (by decide +kernel), A2, n, r, b, lns, out, thin out s, rfl, W2.ext k1, fun p2 nu2 G2 k2 e2 i2 => ?_⟩
      refine ⟨frD s, frD s, dp_fr (k2.tup e1) (k2.at0 i1), dp_fr (s := thin out s) e2 i2, shaped_fr s, shaped_fr s, ?_⟩
      rw [eqv_self (shaped_fr s)]
      refine ⟨!true, rfl, ifB (b := !true) (fun h => by cases h) fun _ => ?_⟩
      have k12 := k1.ext k2
      refine ⟨_, rfl, _, _, _, rfl, k12.at0 hp2, Fl2.no _ (by decide +kernel), A2, n, r, b, lns, out, thin out s, rfl, W2.ext k12, sr, fun p3 G3 k3 t3 => ?_⟩
      have k13 := k12.ext k3
      refine ⟨_, rfl, _, rfl, A1, n, r, b, lns, [], s, ou, out, rfl, W1.ext k13, sr, OutAt.keep (kG.ext k13).tk (fun xs z => (kG.ext k13).at0 z) ho, fun p4 G4 k4 t4 => ?_⟩
      have sh := shaped_told (s := thin out s) fk.thin
      refine ⟨toldD (thin out s), toldD (thin out s), dp_told (t3.mono k4), dp_told t4, sh, sh, ?_⟩
      rw [eqv_self sh]
      refine ⟨!true, rfl, ifB (b := !true) (fun h => by cases h) fun _ => ?_⟩
      have k14 := k13.ext k4
      refine ⟨_, rfl, _, _, _, rfl, k14.at0 hp1, Fl1.no _ (by decide +kernel), A1, n, r, b, lns, [], s, rfl, W1.ext k14, ok, fun G5 W1' k5 => ?_⟩
      have W2' := (W2.ext k14).frame k5 fun q hq => apart q (mut_all hq)
      obtain ⟨dx2', fs2', ev2', hp2', Fl2', _⟩ := W2'.ins
      refine ⟨_, rfl, _, _, _, rfl, hp2', Fl2'.no _ (by decide +kernel), A2, n, r, b, lns, out, thin out s, rfl, W2', ok.thin, fun G6 W2'' k6 => ?_⟩
      rw [step_thin] at W2''
      exact ⟨_, stepF lns [] b s, rfl, W1'.frame k6 fun q hq h => apart q h (mut_all hq), ok.step [], fk.step, W2'', ((kG.ext k14).step k5 fun q hq => .inr (fA1 q (mut_all hq))).step k6 fun q hq => .inr (fA2 q (mut_all hq))⟩
    rintro σ' G' ⟨v10, s, rfl, _, _, _, _, kG'⟩
    exact k _ kG'
end
end Lk
namespace Lk
open PySem L2
section
variable {P : Program} {w : World} {K : PySem.W.Frag} {mg : Str → Option Value} {base : Heap} {C1 aP : Addr}
/-! ### lines as data -/
def LD (k : Nat) (d : PyData) : Prop := d.canLay0 = true ∧ d.depth ≤ k
theorem ld_all {k : Nat} : ∀ {ds : List PyData}, (∀ d ∈ ds, LD k d) → PyData.canLayAll0 ds = true ∧ PyData.depthAll ds ≤ k
  | [], _ => ⟨rfl, Nat.zero_le _⟩
  | d :: ds, h => by
    have q := ld_all (ds := ds) fun x hx => h x (List.mem_cons_of_mem _ hx)
    have p := h d List.mem_cons_self
    refine ⟨?_, ?_⟩
    · show (PyData.canLay0 d && PyData.canLayAll0 ds) = true
      rw [p.1, q.1]; rfl
    · show max (PyData.depth d) (PyData.depthAll ds) ≤ k
      have := p.2; have := q.2; omega
theorem ld_tup {k : Nat} {ds : List PyData} (h : ∀ d ∈ ds, LD k d) : LD (k + 1) (.tuple ds) := ⟨(ld_all h).1, by show PyData.depthAll ds + 1 ≤ k + 1; have := (ld_all h).2; omega⟩
theorem ld_lst {k : Nat} {ds : List PyData} (h : ∀ d ∈ ds, LD k d) : LD (k + 1) (.list ds) := ⟨(ld_all h).1, by show PyData.depthAll ds + 1 ≤ k + 1; have := (ld_all h).2; omega⟩
theorem LD.up {k m : Nat} {d : PyData} (h : LD k d) (e : k ≤ m) : LD m d := ⟨h.1, Nat.le_trans h.2 e⟩
theorem LD.shaped {k : Nat} {d : PyData} (h : LD k d) (e : k ≤ 64) : SeqAt.shaped d = true := by
  unfold SeqAt.shaped
  rw [Bool.and_eq_true]
  exact ⟨h.1, decide_eq_true (Nat.le_trans h.2 e)⟩
theorem ld_int {k : Nat} (i : Int) : LD k (.int i) := ⟨rfl, Nat.zero_le _⟩
def oVD : Option Int → PyData | none => .none | some i => .int i
theorem ld_oV {k : Nat} (y : Option Int) : LD k (oVD y) := by cases y <;> exact ⟨rfl, Nat.zero_le _⟩
def ndD : Nd → PyData | .zero => .tuple [.str "zero"] | .name x => .tuple [.str "name", .int x, .int 0] | .len r => .tuple [.str "len", .int r]
def bdD (b : Bd) : PyData := .tuple [ndD b.a, ndD b.b, .int b.c]
def lnD : Ln → PyData
  | .set x y c k => .tuple [.str "set", .int x, oVD y, .int c, .int k]
  | .sum x z w k => .tuple [.str "sum", .int x, .int z, oVD w, .int k]
  | .len x r k => .tuple [.str "len", .int x, .int r, .int k]
  | .take x k => .tuple [.str "take", .int x, .int k]
  | .get x r y c k => .tuple [.str "get", .int x, .int r, oVD y, .int c, .int k]
  | .put r y c z k => .tuple [.str "put", .int r, oVD y, .int c, .int z, .int k]
  | .tell x k => .tuple [.str "tell", .int x, .int k]
  | .test y w c k m => .tuple [.str "test", oVD y, oVD w, .int c, .int k, .int m]
  | .ask bs k m => .tuple [.str "ask", .tuple (bs.map bdD), .int k, .int m]
  | .fin => .tuple [.str "end"]
theorem ld_str {k : Nat} {x : Str} (h : PyData.canLay0 (.str x) = true) : LD k (.str x) := ⟨h, Nat.zero_le _⟩
theorem ld_nil {k : Nat} : ∀ d ∈ ([] : List PyData), LD k d := fun _ h => absurd h List.not_mem_nil
theorem ld_cons {k : Nat} {d : PyData} {ds : List PyData} (h : LD k d) (q : ∀ d ∈ ds, LD k d) : ∀ x ∈ d :: ds, LD k x := fun x hx => by
  rcases List.mem_cons.mp hx with e | e
  · rw [e]; exact h
  · exact q x e
theorem ld_nd (x : Nd) : LD 1 (ndD x) := by
  cases x with
  | zero => exact ld_tup (ld_cons (ld_str (by decide +kernel)) ld_nil)
  | name y => exact ld_tup (ld_cons (ld_str (by decide +kernel)) (ld_cons (ld_int _) (ld_cons (ld_int _) ld_nil)))
  | len y => exact ld_tup (ld_cons (ld_str (by decide +kernel)) (ld_cons (ld_int _) ld_nil))
theorem ld_bd (b : Bd) : LD 2 (bdD b) := ld_tup (ld_cons (ld_nd _) (ld_cons (ld_nd _) (ld_cons (ld_int _) ld_nil)))
theorem ld_ln (ln : Ln) : LD 4 (lnD ln) := by
  cases ln with
  | set x y c k => exact ld_tup (ld_cons (ld_str (by decide +kernel)) (ld_cons (ld_int _) (ld_cons (ld_oV _) (ld_cons (ld_int _) (ld_cons (ld_int _) ld_nil)))))
  | sum x z w k => exact ld_tup (ld_cons (ld_str (by decide +kernel)) (ld_cons (ld_int _) (ld_cons (ld_int _) (ld_cons (ld_oV _) (ld_cons (ld_int _) ld_nil)))))
  | len x r k => exact ld_tup (ld_cons (ld_str (by decide +kernel)) (ld_cons (ld_int _) (ld_cons (ld_int _) (ld_cons (ld_int _) ld_nil))))
  | take x k => exact ld_tup (ld_cons (ld_str (by decide +kernel)) (ld_cons (ld_int _) (ld_cons (ld_int _) ld_nil)))
  | get x r y c k => exact ld_tup (ld_cons (ld_str (by decide +kernel)) (ld_cons (ld_int _) (ld_cons (ld_int _) (ld_cons (ld_oV _) (ld_cons (ld_int _) (ld_cons (ld_int _) ld_nil))))))
  | put r y c z k => exact ld_tup (ld_cons (ld_str (by decide +kernel)) (ld_cons (ld_int _) (ld_cons (ld_oV _) (ld_cons (ld_int _) (ld_cons (ld_int _) (ld_cons (ld_int _) ld_nil))))))
  | tell x k => exact ld_tup (ld_cons (ld_str (by decide +kernel)) (ld_cons (ld_int _) (ld_cons (ld_int _) ld_nil)))
  | test y w c k m => exact ld_tup (ld_cons (ld_str (by decide +kernel)) (ld_cons (ld_oV _) (ld_cons (ld_oV _) (ld_cons (ld_int _) (ld_cons (ld_int _) (ld_cons (ld_int _) ld_nil))))))
  | ask bs k m => exact ld_tup (ld_cons (ld_str (by decide +kernel)) (ld_cons (ld_tup fun d hd => by obtain ⟨b, _, e⟩ := List.mem_map.mp hd; rw [← e]; exact ld_bd b) (ld_cons (ld_int _) (ld_cons (ld_int _) ld_nil))))
  | fin => exact ld_tup (ld_cons (ld_str (by decide +kernel)) ld_nil)
section
variable {H : Hp} {p : Addr}
theorem dp_oV (y : Option Int) : Dp K H (oV y) (oVD y) := by
  cases y with
  | none => exact .non
  | some i => exact .int i
theorem dp_nd {x : Nd} (h : NdAt H p x) : Dp K H (.ref p) (ndD x) := by
  cases x with
  | zero => exact .tup (SqT.of h) (.cons (.str _) .nil)
  | name y => exact .tup (SqT.of h) (.cons (.str _) (.cons (.int _) (.cons (.int _) .nil)))
  | len y => exact .tup (SqT.of h) (.cons (.str _) (.cons (.int _) .nil))
theorem dp_bd {b : Bd} (h : BdAt H p b) : Dp K H (.ref p) (bdD b) := by
  obtain ⟨q1, q2, e, h1, h2⟩ := h
  exact .tup (SqT.of e) (.cons (dp_nd h1) (.cons (dp_nd h2) (.cons (.int _) .nil)))
theorem dp_ln {ln : Ln} (h : LnAt H p ln) : Dp K H (.ref p) (lnD ln) := by
  obtain ⟨b, e, q⟩ := h
  cases ln with
  | set x y c k => exact .tup (SqT.of e) (.cons (.str _) (.cons (.int _) (.cons (dp_oV _) (.cons (.int _) (.cons (.int _) .nil)))))
  | sum x z w k => exact .tup (SqT.of e) (.cons (.str _) (.cons (.int _) (.cons (.int _) (.cons (dp_oV _) (.cons (.int _) .nil)))))
  | len x r k => exact .tup (SqT.of e) (.cons (.str _) (.cons (.int _) (.cons (.int _) (.cons (.int _) .nil))))
  | take x k => exact .tup (SqT.of e) (.cons (.str _) (.cons (.int _) (.cons (.int _) .nil)))
  | get x r y c k => exact .tup (SqT.of e) (.cons (.str _) (.cons (.int _) (.cons (.int _) (.cons (dp_oV _) (.cons (.int _) (.cons (.int _) .nil))))))
  | put r y c z k => exact .tup (SqT.of e) (.cons (.str _) (.cons (.int _) (.cons (dp_oV _) (.cons (.int _) (.cons (.int _) (.cons (.int _) .nil))))))
  | tell x k => exact .tup (SqT.of e) (.cons (.str _) (.cons (.int _) (.cons (.int _) .nil)))
  | test y w c k m => exact .tup (SqT.of e) (.cons (.str _) (.cons (dp_oV _) (.cons (dp_oV _) (.cons (.int _) (.cons (.int _) (.cons (.int _) .nil))))))
  | ask bs k m =>
    obtain ⟨as, e2, q2⟩ := q bs k m rfl
    exact .tup (SqT.of e) (.cons (.str _) (.cons (.tup (SqT.of e2) (dpAll_refs (q2.mono fun _ _ z => dp_bd z))) (.cons (.int _) (.cons (.int _) .nil))))
  | fin => exact .tup (SqT.of e) (.cons (.str _) .nil)
def savD (rows : List (List Int)) (due : List Int) (out : List (Int × Str)) (lns : List Ln) : PyData := .list [.list (rows.map iD), iD due, .list (out.map oD), .list (lns.map lnD)]
theorem shaped_sav {rows : List (List Int)} {due : List Int} {out : List (Int × Str)} {lns : List Ln} (h : ∀ x ∈ out, x.2 = "low" ∨ x.2 = "high") : SeqAt.shaped (savD rows due out lns) = true := by
  have li : ∀ xs : List Int, LD 1 (iD xs) := fun xs => ⟨(lay_iD xs).1, by rw [(lay_iD xs).2]; exact Nat.le_refl 1⟩
  have lo : ∀ x ∈ out, LD 1 (oD x) := fun x hx => ⟨lay_od (h x hx), Nat.le_refl 1⟩
  refine (ld_lst (k := 5) (ld_cons (LD.up (ld_lst (k := 1) fun d hd => ?_) (by decide)) (ld_cons (LD.up (li due) (by decide)) (ld_cons (LD.up (ld_lst (k := 1) fun d hd => ?_) (by decide)) (ld_cons (ld_lst (k := 4) fun d hd => ?_) ld_nil))))).shaped (by decide)
  · obtain ⟨x, _, e⟩ := List.mem_map.mp hd
    rw [← e]; exact li x
  · obtain ⟨x, hx, e⟩ := List.mem_map.mp hd
    rw [← e]; exact lo x hx
  · obtain ⟨x, _, e⟩ := List.mem_map.mp hd
    rw [← e]; exact ld_ln x
theorem dp_sav {q1 q2 q3 q4 : Addr} {ras las : List Addr} {rows : List (List Int)} {due : List Int} {out : List (Int × Str)} {lns : List Ln} (e : H p = some (.lst [.ref q1, .ref q2, .ref q3, .ref q4])) (h1 : H q1 = some (.lst (ras.map V.ref))) (h1' : All2 (IsL H) ras rows) (h2 : IsL H q2 due) (h3 : OutAt H q3 out)
    (h4 : H q4 = some (.lst (las.map V.ref))) (h4' : All2 (LnAt H) las lns) : Dp K H (.ref p) (savD rows due out lns) :=
  .lst (SqL.of e) (.cons (dp_rows h1 h1') (.cons (dp_ints h2) (.cons (dp_out h3) (.cons (.lst (SqL.of h4) (dpAll_refs (h4'.mono fun _ _ z => dp_ln z))) .nil))))
end
theorem sc_law : FnScope ["_law_script", "_law_source_here", "_law_program_here", "_law_loops", "_law_roles", "_law_rows", "_law_taken", "_law_cell", "_law_out_here", "_law_budget", "_law_saved", "_law_full", "_law_due_here", "_law_told_here", "_law_row"] ["_law_script"] (defScope s_law) := ⟨rfl, rfl, rfl, by decide +kernel, rfl, by decide +kernel, by decide +kernel⟩
theorem ok_law {f : Addr} {fd : FuncData} (F : Fun K "law" "law" s_law f fd) (T : Txt K mg C1 aP)
    (G_law_source : Fo P w K mg base 1 "_law_source" ["_law_script"] (spSource K)) (G_law_program : Fo P w K mg base 5 "_law_program" ["_law_source_here"] spProgram) (G_law_input : Fo P w K mg base 2 "_law_input" ["_law_source_here", "_law_rows"] spInput)
    (G_law_next : Fo P w K mg base 1 "_law_next" ["_law_source_here", "_law_many"] spNext) (G_law_out : Fo P w K mg base 1 "_law_out" ["_law_program_here", "_law_cell"] spOut)
    (G_run : Fo P w K mg base 6 "run" ["program", "rows", "taken", "budget"] spRun) (G_law_due : Fo P w K mg base 1 "_law_due" ["_law_told_here", "_law_out_here"] spDue) (G_run_thin : Fo P w K mg base 6 "run_thin" ["program", "rows", "taken", "budget", "out"] spRunThin)
    (G_law_steps : Fo P w K mg base 5 "_law_steps" ["_law_program_here", "_law_rows", "_law_taken", "_law_budget", "_law_out_here"] spSteps) : FnOk P w K mg base CX0 19 f fd ["_law_script"] (spLaw K) := by
  refine F.ok sc_law (fun vs H Q E h => ?_) (fun cdv Ar outer sh H vs Q E hr h => ?_)
  · obtain ⟨a, ns, rfl, _⟩ := h
    rfl
  · obtain ⟨a, ns, rfl, hs, hn, k⟩ := h
    refine ⟨_, (pss_cons
    (ps_set (i := 1) sc_law.nd rfl (Or.inl rfl) (pe_fo G_law_source (hr.mono (by decide)) rfl (pa_cons (pv 0) pa_nil)))
    (pss_cons
    (ps_asg (pe_fo G_law_program (hr.mono (by decide)) rfl (pa_cons (pv 1) pa_nil)) (pg_tup rfl (pgs_cons (pg_name (i := 2) sc_law.nd rfl (Or.inl rfl)) (pgs_cons (pg_name (i := 3) sc_law.nd rfl (Or.inl rfl)) (pgs_cons (pg_name (i := 4) sc_law.nd rfl (Or.inl rfl)) pgs_nil)))))
    (pss_cons
    (ps_asg (pe_fo G_law_input (hr.mono (by decide)) rfl (pa_cons (pv 1) (pa_cons (pe_ix ix_tup (pv 2) pe_int (fun _ _ => rfl)) pa_nil))) (pg_tup rfl (pgs_cons (pg_name (i := 5) sc_law.nd rfl (Or.inl rfl)) (pgs_cons (pg_name (i := 6) sc_law.nd rfl (Or.inl rfl)) pgs_nil))))
    (pss_cons
    (ps_set (i := 7) sc_law.nd rfl (Or.inl rfl) (pe_fo G_law_next (hr.mono (by decide)) rfl (pa_cons (pv 1) (pa_cons (pe_op op_pow pe_int pe_int) pa_nil))))
    (pss_cons
    (ps_set (i := 8) sc_law.nd rfl (Or.inl rfl) (pe_fo G_law_out (hr.mono (by decide)) rfl (pa_cons (pv 2) (pa_cons (pe_fo G_law_next (hr.mono (by decide)) rfl (pa_cons (pv 1) (pa_cons (pe_op op_pow pe_int pe_int) pa_nil))) pa_nil))))
    (pss_cons
    (ps_set (i := 9) sc_law.nd rfl (Or.inl rfl) (pe_op op_mod (pv 7) pe_int))
    (pss_cons
    (ps_set (i := 10) sc_law.nd rfl (Or.inl rfl) (pe_lst (pa_cons (pe_lc (own := [("_law_row", 14)]) rfl sc_law.nd (pi_list (pv 5)) (blkOk_by (N := ["_law_script", "_law_source_here", "_law_program_here", "_law_loops", "_law_roles", "_law_rows", "_law_taken", "_law_cell", "_law_out_here", "_law_budget", "_law_saved", "_law_full", "_law_due_here", "_law_told_here", "_law_row"]) (sc := defScope s_law) (by decide +kernel)) (fun _ _ _ _ _ => (pg_name (i := 14) sc_law.nd rfl (Or.inl rfl))) (fun _ _ _ _ _ => pts_nil) (fun _ _ _ _ _ => (pe_callTy (T := "list") (r := rCopy K) call_list_of (by rfl) T.b_list (by decide +kernel) (pa_cons (pv 14) pa_nil)))) (pa_cons (pe_callTy call_list_of (by rfl) T.b_list (by decide +kernel) (pa_cons (pv 6) pa_nil)) (pa_cons (pe_callTy call_list_of (by rfl) T.b_list (by decide +kernel) (pa_cons (pv 8) pa_nil)) (pa_cons (pe_callTy call_list_of (by rfl) T.b_list (by decide +kernel) (pa_cons (pe_ix ix_tup (pv 2) pe_int (fun _ _ => rfl)) pa_nil)) pa_nil))))))
    (pss_cons
    (ps_set (i := 11) sc_law.nd rfl (Or.inl rfl) (pe_fo G_run (hr.mono (by decide)) rfl (pa_cons (pv 2) (pa_cons (pv 5) (pa_cons (pv 6) (pa_cons (pv 9) pa_nil))))))
    (pss_cons
    (ps_set (i := 12) sc_law.nd rfl (Or.inl rfl) (pe_fo G_law_due (hr.mono (by decide)) rfl (pa_cons (pv 11) (pa_cons (pv 8) pa_nil))))
    (pss_cons
    (ps_set (i := 13) sc_law.nd rfl (Or.inl rfl) (pe_fo G_run_thin (hr.mono (by decide)) rfl (pa_cons (pv 2) (pa_cons (pv 5) (pa_cons (pv 6) (pa_cons (pv 9) (pa_cons (pv 8) pa_nil)))))))
    (pss_cons
    (ps_if (PW.pt (pw_or (pt_not (pt_val (pe_callB call_isi (by rfl) T.b_isinstance (by decide +kernel) (pa_cons (pv 13) (pa_cons (pe_bltn (v := .ty "tuple") rfl T.b_tuple (by decide +kernel) rfl) pa_nil))))) (pw_or (pt_cmpR (op_neD hr.units) (pv 13) (pv 12) (nomark _)) (pw_or1 (pt_not (pt_val (pe_callB call_isi (by rfl) T.b_isinstance (by decide +kernel) (pa_cons (pe_ix ix_tup (pv 13) pe_int (fun _ _ => rfl)) (pa_cons (pe_bltn (v := .ty "list") rfl T.b_list (by decide +kernel) rfl) pa_nil)))))))))
      (pss_one
      (ps_ret pe_bl))
      pss_nil)
    (pss_cons
    (ps_if (pt_cmpR (op_neD hr.units) (pe_fo G_run_thin (hr.mono (by decide)) rfl (pa_cons (pv 2) (pa_cons (pv 5) (pa_cons (pv 6) (pa_cons (pv 9) (pa_cons (pe_lst pa_nil) pa_nil)))))) (pv 11) (nomark _))
      (pss_one
      (ps_ret pe_bl))
      pss_nil)
    (pss_one
    (ps_ret (pe_and (pe_fo G_law_steps (hr.mono (by decide)) rfl (pa_cons (pv 2) (pa_cons (pv 5) (pa_cons (pv 6) (pa_cons (pv 9) (pa_cons (pv 8) pa_nil)))))) (pe_one (pe_cmpR (op_eqD hr.units) (pv 10) (pe_lst (pa_cons (pv 5) (pa_cons (pv 6) (pa_cons (pv 8) (pa_cons (pe_ix ix_tup (pv 2) pe_int (fun _ _ => rfl)) pa_nil))))) (nomark _)))))))))))))))))), ?_⟩
    refine ⟨_, rfl, a, ns, rfl, hs, hn, fun l H1 k1 src => ?_⟩
    refine ⟨_, rfl, l, rfl, src, fun p pr lo ro n r ll lns H2 k2 src2 hp hpr hll good n3 n4 r1 r2 L1000 fll => ⟨p, _, rfl, SqT.of hp, rfl, _, _, rfl, _, _, rfl, _, _, rfl, rfl, ?_⟩⟩
    have lne : ∀ {G : Hp} {q : Addr}, SrcAt G l → G q = none → q ≠ l := fun hs n e => by
      obtain ⟨_, _, z, _⟩ := hs
      have z' : _ = some _ := z
      rw [← e, n] at z'; cases z'
    have ll_l : ll ≠ l := lne src fll
    -- the rows and what is taken
    refine ⟨_, rfl, _, rfl, _, _, _, .int r, rfl, rfl, SqT.of hpr, rfl, l, r, rfl, src2, by omega, r2, fun p3 fo tk ras rows due H3 k3 src3 hp3 hfo hrows rl htk fr3 => ⟨p3, _, rfl, SqT.of hp3, rfl, _, _, rfl, _, _, rfl, rfl, ?_⟩⟩
    have n_l : ∀ q ∈ fo :: tk :: ras, q ≠ l := fun q hq => lne src2 (fr3 q hq)
    have hll3 := hll.keep k3 (nin1 ll_l)
    have hpr3 := k3.tup hpr
    refine ⟨_, rfl, _, _, rfl, rfl, ⟨by decide, by decide, by decide⟩, l, _, rfl, src3, (by decide), fun v4 H4 v40 v41 k4 src4 => ?_⟩
    refine ⟨_, rfl, _, rfl, _, _, rfl, rfl, ⟨by decide, by decide, by decide⟩, l, _, rfl, src4, (by decide), fun v5 H5 c0 c1 k5 src5 => ?_⟩
    have k35 := k4.trans k5
    have hand : Hand H5 pr fo tk n r lns rows due := by
      obtain ⟨as, e1, e2⟩ := hll3.keep k35 (nin1 ll_l)
      exact ⟨⟨ll, k35.tup hpr3, as, e1, e2⟩, ⟨ras, k35.at hfo (nin1 (n_l fo List.mem_cons_self)), ⟨hrows.1, fun j a b e1 e2 => k35.at (hrows.2 j a b e1 e2) (nin1 (n_l a (List.mem_cons_of_mem _ (List.mem_cons_of_mem _ (List.mem_of_getElem? e1)))))⟩⟩,
        k35.at htk (nin1 (n_l tk (List.mem_cons_of_mem _ List.mem_cons_self))), rl, by omega, by omega, by omega⟩
    have hll5 := hll3.keep k35 (nin1 ll_l)
    have hpr5 := k35.tup hpr3
    refine ⟨pr, v5, n, r, ll, lns, rfl, hpr5, hll5, L1000, c0, c1, fun ou out H6 k6 ho => ?_⟩
    obtain ⟨b, hb⟩ : ∃ b : Int, b = v4 % 61 := ⟨_, rfl⟩
    have b0 : 0 ≤ b := by omega
    have b60 : b ≤ 60 := by omega
    refine ⟨_, rfl, _, _, rfl, rfl, (by show (0 : Int) < _; decide), ?_⟩
    show tSeq _ _ _ [some (.ref a), some (.ref l), some (.ref pr), some (.ref lo), some (.ref ro), some (.ref fo), some (.ref tk), some (.int v4), some (.ref ou), some (.int (v4 % 61)), none, none, none, none, none] H6
    rw [← hb]
    have hand6 := hand.mono k6
    have hpr6 := k6.tup hpr5
    have hll6 := hll5.keep k6 nn
    clear hand hpr5 hll5 hpr3 hll3 hrows hfo htk
    -- what is saved
    obtain ⟨⟨ll', hpr', las, hll6', hlns6⟩, ⟨ras6, hfo6, hrows6⟩, htk6, _, rs, _, _⟩ := id hand6
    have ell : ll' = ll := by
      rw [hpr6] at hpr'
      injection hpr' with z
      injection z with z
      injection z with _ z
      injection z with _ z
      injection z with z
      injection z with z
      exact z.symm
    subst ell
    obtain ⟨os, hou6, hos6, how⟩ := id ho
    refine ⟨_, rfl, fo, rfl, ⟨_, SqL.of hfo6⟩, copy_rows (j := 14) (σ := [some (.ref a), some (.ref l), some (.ref pr), some (.ref lo), some (.ref ro), some (.ref fo), some (.ref tk), some (.int v4), some (.ref ou), some (.int b), none, none, none, none, none]) (Nat.lt_succ_self 14) hfo6 hrows6 rs fun s0 sras H7 k7 c7 r7 _ _ => ?_⟩
    refine ⟨_, rfl, _, _, rfl, .inl (SqL.of (k7.at0 htk6)), fun s1 ns1 => ?_⟩
    have q1 := (Kp.refl (F := []) (H := H7)).new (o := .lst (due.map V.int)) ns1
    refine ⟨_, rfl, _, _, rfl, .inl (SqL.of (q1.at0 (k7.at0 hou6))), fun s2 ns2 => ?_⟩
    have q2 := q1.new (o := .lst (os.map V.ref)) ns2
    refine ⟨_, rfl, _, _, _, .ref ll', rfl, rfl, SqT.of (q2.tup (k7.tup hpr6)), rfl, _, _, rfl, .inl (SqL.of (q2.at0 (k7.at0 hll6'))), fun s3 ns3 => ?_⟩
    have q3 := q2.new (o := .lst (las.map V.ref)) ns3
    refine ⟨(by show 4 ≤ sizeLine; decide), fun sv nsv => ?_⟩
    have q4 := q3.new (o := .lst [.ref s0, .ref s1, .ref s2, .ref s3]) nsv
    have k68 := k7.ext q4
    have sv8 : upd (upd (upd (upd H7 s1 (.lst (due.map V.int))) s2 (.lst (os.map V.ref))) s3 (.lst (las.map V.ref))) sv (.lst [.ref s0, .ref s1, .ref s2, .ref s3]) sv = some (.lst [.ref s0, .ref s1, .ref s2, .ref s3]) := upd_same
    have s18 : upd (upd (upd (upd H7 s1 (.lst (due.map V.int))) s2 (.lst (os.map V.ref))) s3 (.lst (las.map V.ref))) sv (.lst [.ref s0, .ref s1, .ref s2, .ref s3]) s1 = some (.lst (due.map V.int)) := ((((Kp.refl (F := [])).new ns2).new ns3).new nsv).at0 upd_same
    have s28 : upd (upd (upd (upd H7 s1 (.lst (due.map V.int))) s2 (.lst (os.map V.ref))) s3 (.lst (las.map V.ref))) sv (.lst [.ref s0, .ref s1, .ref s2, .ref s3]) s2 = some (.lst (os.map V.ref)) := (((Kp.refl (F := [])).new ns3).new nsv).at0 upd_same
    have s38 : upd (upd (upd (upd H7 s1 (.lst (due.map V.int))) s2 (.lst (os.map V.ref))) s3 (.lst (las.map V.ref))) sv (.lst [.ref s0, .ref s1, .ref s2, .ref s3]) s3 = some (.lst (las.map V.ref)) := ((Kp.refl (F := [])).new nsv).at0 upd_same
    have s08 := q4.at0 c7
    have r08 := r7.mono fun _ _ z => q4.at0 z
    generalize upd (upd (upd (upd H7 s1 (.lst (due.map V.int))) s2 (.lst (os.map V.ref))) s3 (.lst (las.map V.ref))) sv (.lst [.ref s0, .ref s1, .ref s2, .ref s3]) = H8 at k68 sv8 s18 s28 s38 s08 r08 ⊢
    clear q4 q3 q2 q1 ns1 ns2 ns3 nsv c7 r7
    have o8 : OutAt H8 ou out := OutAt.keep k68.tk (fun xs z => k68.at0 z) ho
    have hand8 := hand6.mono k68
    -- run, due, run_thin
    obtain ⟨S, hS⟩ : ∃ S, S = runF lns [] b 70 (w0 n rows due) := ⟨_, rfl⟩
    have fS : FinOk S.fin := by rw [hS]; exact FinOk.run 70 (fun x h => by cases h)
    have er : runF lns out b 70 (w0 n rows due) = thin out S := by rw [hS]; exact run_thin_eq (out := out) 70 (w0 n rows due)
    refine ⟨_, rfl, _, rfl, _, rfl, _, rfl, pr, fo, tk, n, r, b, lns, rows, due, rfl, hand8, good, b0, b60, fun pf H9 k9 t9 f9 => ?_⟩
    rw [← hS] at t9 f9
    have o9 : OutAt H9 ou out := OutAt.keep k9.tk (fun xs z => k9.at0 z) o8
    refine ⟨_, rfl, _, rfl, pf, ou, S, out, rfl, t9, f9, o9, fun pd H10 k10 t10 => ?_⟩
    have o10 : OutAt H10 ou out := OutAt.keep k10.tk (fun xs z => k10.at0 z) o9
    have k810 := k9.ext k10
    refine ⟨_, rfl, _, rfl, _, rfl, _, rfl, _, rfl, pr, fo, tk, ou, n, r, b, lns, rows, due, out, rfl, hand8.mono k810, good, o10, b0, b60, fun pt H11 k11 t11 => ?_⟩
    rw [er] at t11
    have k811 := k810.ext k11
    have shT := shaped_told (s := thin out S) fS.thin
    have shS := shaped_told (s := S) fS
    obtain ⟨ev, wo, rr, tras, e11, _, w11, _, _⟩ := id t11
    -- what is told is what is due
    refine ⟨_, rfl, _, _, _, _, true, rfl, .ty "tuple", .base (.tup e11), kit_ty (by decide +kernel), true, rfl, ifB (b := !true) (fun h => by cases h) fun _ => ?_⟩
    refine ⟨_, rfl, _, rfl, toldD (thin out S), toldD (thin out S), dp_told t11, dp_told (t10.mono k11), shT, shT, ?_⟩
    rw [eqv_self shT]
    refine ⟨!true, rfl, ifB (b := !true) (fun h => by cases h) fun _ => ?_⟩
    refine ⟨_, rfl, _, _, _, .ref wo, rfl, rfl, SqT.of e11, rfl, _, _, _, _, true, rfl, .ty "list", .base (.lst w11), kit_ty (by decide +kernel), true, rfl, ifB (b := !true) (fun h => by cases h) fun _ => ?_⟩
    -- with no places beyond it tells what the full one tells
    refine ⟨_, rfl, _, rfl, _, rfl, _, rfl, (by show 0 ≤ sizeLine; omega), fun eo neo => ?_⟩
    have qe := (Kp.refl (F := []) (H := H11)).new (o := .lst []) neo
    refine ⟨pr, fo, tk, eo, n, r, b, lns, rows, due, [], rfl, hand8.mono (k811.ext qe), good, ⟨[], upd_same, All2.nil, fun _ h => absurd h List.not_mem_nil⟩, b0, b60, fun pt2 H12 k12 t12 => ?_⟩
    rw [← hS] at t12
    have k1112 := qe.ext k12
    refine ⟨_, rfl, toldD S, toldD S, dp_told t12, dp_told (t9.mono ((k10.ext k11).ext k1112)), shS, shS, ?_⟩
    rw [eqv_self shS]
    refine ⟨!true, rfl, ifB (b := !true) (fun h => by cases h) fun _ => ?_⟩
    -- in step, and nothing handed in was touched
    have k812 := k811.ext k1112
    have o12 : OutAt H12 ou out := OutAt.keep k812.tk (fun xs z => k812.at0 z) o8
    refine ⟨_, rfl, _, rfl, _, rfl, _, rfl, _, rfl, pr, fo, tk, ou, n, r, b, lns, rows, due, out, rfl, hand8.mono k812, good, o12, b0, b60, fun H13 k13 => ⟨true, rfl, ifB (b := true) (fun _ => ?_) fun h => by cases h⟩⟩
    have k813 := k812.ext k13
    have k613 := k68.ext k813
    refine ⟨_, rfl, _, rfl, _, rfl, _, rfl, _, rfl, _, _, _, .ref ll', rfl, rfl, SqT.of (k613.tup hpr6), rfl, (by show 4 ≤ sizeLine; decide), fun z nz => ?_⟩
    have qz := (Kp.refl (F := []) (H := H13)).new (o := .lst [.ref fo, .ref tk, .ref ou, .ref ll']) nz
    have k8z := k813.ext qz
    have k6z := k613.ext qz
    have sh := shaped_sav (rows := rows) (due := due) (lns := lns) how
    refine ⟨savD rows due out lns, savD rows due out lns, dp_sav (k8z.at0 sv8) (k8z.at0 s08) (r08.mono fun _ _ z => k8z.at0 z) (k8z.at0 s18) ⟨os, k8z.at0 s28, hos6.mono fun _ _ z => k6z.tup z, how⟩ (k8z.at0 s38) (lns_mono k6z.tk hlns6),
      dp_sav upd_same (k6z.at0 hfo6) (hrows6.mono fun _ _ z => k6z.at0 z) (k6z.at0 htk6) ⟨os, k6z.at0 hou6, hos6.mono fun _ _ z => k6z.tup z, how⟩ (k6z.at0 hll6') (lns_mono k6z.tk hlns6), sh, sh, ?_⟩
    rw [eqv_self sh]
    exact k _
end
end Lk
namespace Lk
open PySem L2
/-! ### the top of the text: what its names hold -/
section
variable {K : PySem.W.Frag} {h : Heap} {mg : Str → Option Value} {x m qual : Str} {st : Stmt} {f C C1 C2 aP : Addr} {oc kV doc pm cdv ct : Value} {od an : Option Addr} {sl : Array (Option Value)}
structure DefAt (K : PySem.W.Frag) (mg : Str → Option Value) (x : Str) (st : Stmt) : Prop where
  ex : ∃ f fd, mg x = some (.ref f) ∧ Fun K x x st f fd
theorem def_mk (X : K.In h) (G : h.Ns mainGlobals mg) (a : PySem.W.nsIn K mainGlobals x = some (some (.ref f)))
    (l : K.lookup f = some ⟨oc, od, .func (PySem.W.fnOf x x (defArgs st) (defBody st) (defScope st) .none kV doc pm an cdv ct), sl⟩)
    (c : PySem.W.codeIn K cdv x = true) (k : PySem.W.keepIn K (.ref f) = true) : DefAt K mg x st := ⟨_, _, PySem.W.mg_of X G a, fun_mk l c k⟩
/-- a method that both classes have -/
structure Both (K : PySem.W.Frag) (C1 C2 : Addr) (m qual : Str) (st : Stmt) : Prop where
  ex : ∃ f fd, Fun K m qual st f fd ∧ Meth K C1 m f ∧ Meth K C2 m f
theorem both_mk (a : PySem.W.findIn K (.ref C1) m = some (some (.ref f))) (b : PySem.W.findIn K (.ref C2) m = some (some (.ref f))) (i : PySem.W.isFn K (.ref f) = true)
    (l : K.lookup f = some ⟨oc, od, .func (PySem.W.fnOf m qual (defArgs st) (defBody st) (defScope st) .none kV doc pm an cdv ct), sl⟩)
    (c : PySem.W.codeIn K cdv qual = true) (k : PySem.W.keepIn K (.ref f) = true) : Both K C1 C2 m qual st := ⟨_, _, fun_mk l c k, ⟨a, i, k⟩, ⟨b, i, k⟩⟩
/-- a method of one class -/
structure OneM (K : PySem.W.Frag) (C : Addr) (m qual : Str) (st : Stmt) : Prop where
  ex : ∃ f fd, Fun K m qual st f fd ∧ Meth K C m f
theorem one_mk (a : PySem.W.findIn K (.ref C) m = some (some (.ref f))) (i : PySem.W.isFn K (.ref f) = true)
    (l : K.lookup f = some ⟨oc, od, .func (PySem.W.fnOf m qual (defArgs st) (defBody st) (defScope st) .none kV doc pm an cdv ct), sl⟩)
    (c : PySem.W.codeIn K cdv qual = true) (k : PySem.W.keepIn K (.ref f) = true) : OneM K C m qual st := ⟨_, _, fun_mk l c k, ⟨a, i, k⟩⟩
/-- how a class is made -/
structure Made (K : PySem.W.Frag) (C : Addr) (qual : Str) (st : Stmt) : Prop where
  ex : ∃ f fd, Fun K "__init__" qual st f fd ∧ Mk K C f
theorem made_mk (mk : PySem.W.makesIn K C = true) (a : PySem.W.findIn K (.ref C) "__init__" = some (some (.ref f))) (i : PySem.W.isFn K (.ref f) = true) (kc : PySem.W.keepIn K (.ref C) = true)
    (l : K.lookup f = some ⟨oc, od, .func (PySem.W.fnOf "__init__" qual (defArgs st) (defBody st) (defScope st) .none kV doc pm an cdv ct), sl⟩)
    (c : PySem.W.codeIn K cdv qual = true) (k : PySem.W.keepIn K (.ref f) = true) : Made K C qual st := ⟨_, _, fun_mk l c k, ⟨mk, a, i, kc⟩⟩
/-- .. and its def, read off the class -/
structure MadeR (K : PySem.W.Frag) (C : Addr) (qual : Str) (st : Stmt) : Prop where
  ex : ∃ f fd, Fun K "__init__" qual st f fd ∧ Mk K C f ∧ ClX.CRead K C (.type "type") ∧ ClX.CVal K C (.type "type") "__init__" (.ref f) (.ref f)
theorem mader_mk (mk : PySem.W.makesIn K C = true) (a : PySem.W.findIn K (.ref C) "__init__" = some (some (.ref f))) (i : PySem.W.isFn K (.ref f) = true) (kc : PySem.W.keepIn K (.ref C) = true)
    (l : K.lookup f = some ⟨oc, od, .func (PySem.W.fnOf "__init__" qual (defArgs st) (defBody st) (defScope st) .none kV doc pm an cdv ct), sl⟩)
    (c : PySem.W.codeIn K cdv qual = true) (k : PySem.W.keepIn K (.ref f) = true)
    (rd : PySem.W.readsIn K C (.type "type") = true) (ga : PySem.W.specialIn K (.ref C) "__getattribute__" = some (some (.builtin "type.__getattribute__")))
    (cv : PySem.W.findCls K (.ref C) (.type "type") "__init__" = some (.val (.ref f))) : MadeR K C qual st := ⟨_, _, fun_mk l c k, ⟨mk, a, i, kc⟩, ⟨rd, ga⟩, ⟨cv, rfl⟩⟩
theorem cf_mk (pg : PySem.W.plainGet K C Str.empty = true) (hd : PySem.W.hasDictIn K C = true) (po : PySem.W.plainOver K C = true) (sa : PySem.W.findIn K (.ref C) "__setattr__" = some (some (.builtin "object.__setattr__")))
    (n0 : PySem.W.findIn K (.ref C) "lines" = some none) (n1 : PySem.W.findIn K (.ref C) "rows" = some none) (n2 : PySem.W.findIn K (.ref C) "due" = some none) (n3 : PySem.W.findIn K (.ref C) "budget" = some none) (n4 : PySem.W.findIn K (.ref C) "at" = some none) (n5 : PySem.W.findIn K (.ref C) "numbers" = some none) (n6 : PySem.W.findIn K (.ref C) "words" = some none) (n7 : PySem.W.findIn K (.ref C) "steps" = some none) (n8 : PySem.W.findIn K (.ref C) "end" = some none) (n9 : PySem.W.findIn K (.ref C) "out" = some none) : CF K C := ⟨⟨pg, hd, po, sa⟩, n0, n1, n2, n3, n4, n5, n6, n7, n8, n9⟩
theorem kit_sub (c : PySem.W.isClsIn K C1 = true) (t : PySem.W.typeIn K (.ref C1) = some (.type "type")) (s : PySem.W.subIn K (.ref C2) (.ref C1) = some true) : PySem.W.kitOne K (.ref C2) (.ref C1) = some true := by
  unfold PySem.W.kitOne
  split
  · rfl
  · have c' : (PySem.W.clsIn K C1).isSome = true := c
    unfold PySem.W.kitCls
    dsimp only
    rw [c', t]
    exact s
theorem isi_mk (ha : PySem.W.findIn K (.ref C2) "__class__" = some (some (.builtin "object.__class__"))) (hn : PySem.W.specialIn K (.builtin "object.__class__") "__get__" = some (some (.builtin "getset_descriptor.__get__"))) (htk : PySem.W.takesIn K (.builtin "object.__class__") = some true)
    (hm : PySem.W.mroIn K C2 (.type "object") = some true) (c : PySem.W.isClsIn K C1 = true) (t : PySem.W.typeIn K (.ref C1) = some (.type "type")) (s : PySem.W.subIn K (.ref C2) (.ref C1) = some true) : Isi K C2 C1 := ⟨ha.symm, hn.symm, htk.symm, hm, kit_sub c t s⟩
structure PlAt (K : PySem.W.Frag) (mg : Str → Option Value) (aP : Addr) : Prop where
  at_ : mg "PLACING" = some (.ref aP)
  pl : ∀ H : Hp, SqT K H aP [.str "get", .str "put"]
theorem pl_mk {t1 t2 : Tok} {n : Nat} (X : K.In h) (G : h.Ns mainGlobals mg) (a : PySem.W.nsIn K mainGlobals "PLACING" = some (some (.ref aP)))
    (l : K.lookup aP = some ⟨.type "tuple", od, .seq #[.str "get" t1, .str "put" t2] n, sl⟩) : PlAt K mg aP :=
  ⟨PySem.W.mg_of X G a, fun _ => .inr ⟨_, _, _, l, rfl, rfl, (by show 2 ≤ sizeLine; decide), .cons ⟨_, rfl⟩ (.cons ⟨_, rfl⟩ .nil)⟩⟩
/-- the built-ins that the text uses are not hidden -/
structure Blt (mg : Str → Option Value) : Prop where
  b_len : mg "len" = none
  b_list : mg "list" = none
  b_int : mg "int" = none
  b_max : mg "max" = none
  b_sorted : mg "sorted" = none
  b_divmod : mg "divmod" = none
  b_isinstance : mg "isinstance" = none
  b_range : mg "range" = none
  b_enumerate : mg "enumerate" = none
  b_tuple : mg "tuple" = none
theorem blt_mk (X : K.In h) (G : h.Ns mainGlobals mg) (z0 : PySem.W.nsIn K mainGlobals "len" = some none) (z1 : PySem.W.nsIn K mainGlobals "list" = some none) (z2 : PySem.W.nsIn K mainGlobals "int" = some none) (z3 : PySem.W.nsIn K mainGlobals "max" = some none) (z4 : PySem.W.nsIn K mainGlobals "sorted" = some none) (z5 : PySem.W.nsIn K mainGlobals "divmod" = some none) (z6 : PySem.W.nsIn K mainGlobals "isinstance" = some none) (z7 : PySem.W.nsIn K mainGlobals "range" = some none) (z8 : PySem.W.nsIn K mainGlobals "enumerate" = some none) (z9 : PySem.W.nsIn K mainGlobals "tuple" = some none) : Blt mg :=
  ⟨PySem.W.mg_none_of X G z0, PySem.W.mg_none_of X G z1, PySem.W.mg_none_of X G z2, PySem.W.mg_none_of X G z3, PySem.W.mg_none_of X G z4, PySem.W.mg_none_of X G z5, PySem.W.mg_none_of X G z6, PySem.W.mg_none_of X G z7, PySem.W.mg_none_of X G z8, PySem.W.mg_none_of X G z9⟩
end
theorem all_mk {P : Program} {w : World} {K : PySem.W.Frag} {h : Heap} {mg : Str → Option Value} {fa C1 C2 aP f1 : Addr} {oc kV doc pm cdv ct : Value} {od an : Option Addr} {sl : Array (Option Value)} (X : K.In h) (G : h.Ns mainGlobals mg) (hfa : mg "law" = some (.ref fa))
    (aW : PySem.W.nsIn K mainGlobals "Walk" = some (some (.ref C1)))
    (aT : PySem.W.nsIn K mainGlobals "ThinWalk" = some (some (.ref C2)))
    (PL : PlAt K mg aP)
    (BL : Blt mg)
    (B1 : CF K C1)
    (B2 : CF K C2)
    (J : Isi K C2 C1)
    (I1 : MadeR K C1 "Walk.__init__" s_init)
    (I2 : Made K C2 "ThinWalk.__init__" s_init2)
    (L1 : OneM K C1 "looked" "Walk.looked" s_looked)
    (L2 : OneM K C2 "looked" "ThinWalk.looked" s_looked2)
    (Mvalue : Both K C1 C2 "value" "Walk.value" s_value)
    (Mnode : Both K C1 C2 "node" "Walk.node" s_node)
    (Mkept : Both K C1 C2 "kept" "Walk.kept" s_kept)
    (Mpass_asks : Both K C1 C2 "pass_asks" "Walk.pass_asks" s_pass_asks)
    (Mstopped : Both K C1 C2 "stopped" "Walk.stopped" s_stopped)
    (Mstep : Both K C1 C2 "step" "Walk.step" s_step)
    (Mdo_line : Both K C1 C2 "do_line" "Walk.do_line" s_do_line)
    (Mgiven : Both K C1 C2 "given" "Walk.given" s_given)
    (Mtold : Both K C1 C2 "told" "Walk.told" s_told)
    (Mframe : Both K C1 C2 "frame" "Walk.frame" s_frame)
    (Dways : DefAt K mg "ways" s_ways)
    (Dplace_of : DefAt K mg "place_of" s_place_of)
    (Dended : DefAt K mg "ended" s_ended)
    (Drun : DefAt K mg "run" s_run)
    (Drun_thin : DefAt K mg "run_thin" s_run_thin)
    (D_law_next : DefAt K mg "_law_next" s_law_next)
    (D_law_source : DefAt K mg "_law_source" s_law_source)
    (D_law_number : DefAt K mg "_law_number" s_law_number)
    (D_law_straight : DefAt K mg "_law_straight" s_law_straight)
    (D_law_limit : DefAt K mg "_law_limit" s_law_limit)
    (D_law_ahead : DefAt K mg "_law_ahead" s_law_ahead)
    (D_law_piece : DefAt K mg "_law_piece" s_law_piece)
    (D_law_loop : DefAt K mg "_law_loop" s_law_loop)
    (D_law_led : DefAt K mg "_law_led" s_law_led)
    (D_law_turned_about : DefAt K mg "_law_turned_about" s_law_turned_about)
    (D_law_program : DefAt K mg "_law_program" s_law_program)
    (D_law_value : DefAt K mg "_law_value" s_law_value)
    (D_law_input : DefAt K mg "_law_input" s_law_input)
    (D_law_out : DefAt K mg "_law_out" s_law_out)
    (D_law_due : DefAt K mg "_law_due" s_law_due)
    (D_law_steps : DefAt K mg "_law_steps" s_law_steps)
    (D_law_told : DefAt K mg "_law_told" s_law_told)
    (al : PySem.W.nsIn K mainGlobals "law" = some (some (.ref f1)))
    (ll : K.lookup f1 = some ⟨oc, od, .func (PySem.W.fnOf "law" "law" (defArgs s_law) (defBody s_law) (defScope s_law) .none kV doc pm an cdv ct), sl⟩)
    (cl : PySem.W.codeIn K cdv "law" = true)
    (kl : PySem.W.keepIn K (.ref f1) = true) :
    ∃ fd : FuncData, (∀ (s : Shared) (v : Value), BindsTo s fd ⟨[v], []⟩ [("_law_script", v)]) ∧ ∀ base : Heap, K.In base → base.Ns mainGlobals mg → FnOk P w K mg base CX0 19 fa fd ["_law_script"] (spLaw K) := by
  have e := hfa.symm.trans (PySem.W.mg_of X G al)
  cases e
  have mW := PySem.W.mg_of X G aW
  have mT := PySem.W.mg_of X G aT
  have T : Txt K mg C1 aP := ⟨BL.b_len, BL.b_list, BL.b_int, BL.b_max, BL.b_sorted, BL.b_divmod, BL.b_isinstance, BL.b_range, BL.b_enumerate, BL.b_tuple, PL.at_, PL.pl, mW⟩
  have Fl := fun_mk (st := s_law) ll cl kl
  refine ⟨PySem.W.fnOf "law" "law" (defArgs s_law) (defBody s_law) (defScope s_law) .none kV doc pm an cdv ct, fun s v => .of_eq rfl, fun base _ _ => ?_⟩
  obtain ⟨fi, fdi, Fi, Mi, Ri, Vi⟩ := I1.ex
  have bi := Fi.binds (ps := ["self", "program", "rows", "taken", "budget"]) fun _ _ _ _ _ _ us hl => match us, hl with | [_, _, _, _, _], _ => rfl
  have G_Walk : Co P w K mg base 1 C1 "Walk" ["self", "program", "rows", "taken", "budget"] (spInit C1) := ⟨fi, fdi, ok_init Fi T B1, bi, Mi, mW⟩
  have G_init : Ho P w K mg base 1 "Walk" "__init__" ["self", "program", "rows", "taken", "budget"] (spInit C2) := ⟨C1, _, fi, fdi, ok_init Fi T B2, bi, mW, Ri, Vi, Fi.kp⟩
  obtain ⟨fj, fdj, Fj, Mj⟩ := I2.ex
  have bj := Fj.binds (ps := ["self", "program", "rows", "taken", "budget", "out"]) fun _ _ _ _ _ _ us hl => match us, hl with | [_, _, _, _, _, _], _ => rfl
  have G_ThinWalk : Co P w K mg base 2 C2 "ThinWalk" ["self", "program", "rows", "taken", "budget", "out"] (spInit2 C2) := ⟨fj, fdj, ok_init2 Fj T B2 G_init, bj, Mj, mT⟩
  obtain ⟨f_ways, fd_ways, m_ways, F_ways⟩ := Dways.ex
  have b_ways := F_ways.binds (ps := ["line"]) fun _ _ _ _ _ _ us hl => match us, hl with | [_], _ => rfl
  have G_ways : Fo P w K mg base 1 "ways" ["line"] spWays := ⟨f_ways, fd_ways, ok_ways F_ways T, b_ways, m_ways, F_ways.kp⟩
  obtain ⟨f_place_of, fd_place_of, m_place_of, F_place_of⟩ := Dplace_of.ex
  have b_place_of := F_place_of.binds (ps := ["line"]) fun _ _ _ _ _ _ us hl => match us, hl with | [_], _ => rfl
  have G_place_of : Fo P w K mg base 1 "place_of" ["line"] spPlaceOf := ⟨f_place_of, fd_place_of, ok_place_of F_place_of T, b_place_of, m_place_of, F_place_of.kp⟩
  obtain ⟨f_looked, fd_looked, F_looked, t_looked⟩ := L1.ex
  have b_looked := F_looked.binds (ps := ["self", "row", "place"]) fun _ _ _ _ _ _ us hl => match us, hl with | [_, _, _], _ => rfl
  have M_looked : Mo P w K mg base 1 C1 "looked" ["self", "row", "place"] (spLooked C1 false) := ⟨f_looked, fd_looked, ok_looked F_looked T B1, b_looked, t_looked⟩
  obtain ⟨f_looked2, fd_looked2, F_looked2, t_looked2⟩ := L2.ex
  have b_looked2 := F_looked2.binds (ps := ["self", "row", "place"]) fun _ _ _ _ _ _ us hl => match us, hl with | [_, _, _], _ => rfl
  have N_looked : Mo P w K mg base 1 C2 "looked" ["self", "row", "place"] (spLooked C2 true) := ⟨f_looked2, fd_looked2, ok_looked2 F_looked2 T B2, b_looked2, t_looked2⟩
  obtain ⟨f_value, fd_value, F_value, t_value, u_value⟩ := Mvalue.ex
  have b_value := F_value.binds (ps := ["self", "name"]) fun _ _ _ _ _ _ us hl => match us, hl with | [_, _], _ => rfl
  have M_value : Mo P w K mg base 1 C1 "value" ["self", "name"] (spValue C1 false) := ⟨f_value, fd_value, ok_value F_value T B1, b_value, t_value⟩
  have N_value : Mo P w K mg base 1 C2 "value" ["self", "name"] (spValue C2 true) := ⟨f_value, fd_value, ok_value F_value T B2, b_value, u_value⟩
  obtain ⟨f_node, fd_node, F_node, t_node, u_node⟩ := Mnode.ex
  have b_node := F_node.binds (ps := ["self", "node"]) fun _ _ _ _ _ _ us hl => match us, hl with | [_, _], _ => rfl
  have M_node : Mo P w K mg base 1 C1 "node" ["self", "node"] (spNode C1 false) := ⟨f_node, fd_node, ok_node F_node T B1, b_node, t_node⟩
  have N_node : Mo P w K mg base 1 C2 "node" ["self", "node"] (spNode C2 true) := ⟨f_node, fd_node, ok_node F_node T B2, b_node, u_node⟩
  obtain ⟨f_kept, fd_kept, F_kept, t_kept, u_kept⟩ := Mkept.ex
  have b_kept := F_kept.binds (ps := ["self", "bounds"]) fun _ _ _ _ _ _ us hl => match us, hl with | [_, _], _ => rfl
  have M_kept : Mo P w K mg base 2 C1 "kept" ["self", "bounds"] (spKept C1 false) := ⟨f_kept, fd_kept, ok_kept F_kept T B1 M_node, b_kept, t_kept⟩
  have N_kept : Mo P w K mg base 2 C2 "kept" ["self", "bounds"] (spKept C2 true) := ⟨f_kept, fd_kept, ok_kept F_kept T B2 N_node, b_kept, u_kept⟩
  obtain ⟨f_pass_asks, fd_pass_asks, F_pass_asks, t_pass_asks, u_pass_asks⟩ := Mpass_asks.ex
  have b_pass_asks := F_pass_asks.binds (ps := ["self"]) fun _ _ _ _ _ _ us hl => match us, hl with | [_], _ => rfl
  have M_pass_asks : Mo P w K mg base 3 C1 "pass_asks" ["self"] (spPass C1 false) := ⟨f_pass_asks, fd_pass_asks, ok_pass_asks F_pass_asks T B1 M_kept, b_pass_asks, t_pass_asks⟩
  have N_pass_asks : Mo P w K mg base 3 C2 "pass_asks" ["self"] (spPass C2 true) := ⟨f_pass_asks, fd_pass_asks, ok_pass_asks F_pass_asks T B2 N_kept, b_pass_asks, u_pass_asks⟩
  obtain ⟨f_stopped, fd_stopped, F_stopped, t_stopped, u_stopped⟩ := Mstopped.ex
  have b_stopped := F_stopped.binds (ps := ["self"]) fun _ _ _ _ _ _ us hl => match us, hl with | [_], _ => rfl
  have M_stopped : Mo P w K mg base 2 C1 "stopped" ["self"] (spStopped C1 false) := ⟨f_stopped, fd_stopped, ok_stopped F_stopped T B1 G_place_of M_value M_looked, b_stopped, t_stopped⟩
  have N_stopped : Mo P w K mg base 2 C2 "stopped" ["self"] (spStopped C2 true) := ⟨f_stopped, fd_stopped, ok_stopped F_stopped T B2 G_place_of N_value N_looked, b_stopped, u_stopped⟩
  obtain ⟨f_given, fd_given, F_given, t_given, u_given⟩ := Mgiven.ex
  have b_given := F_given.binds (ps := ["self", "line"]) fun _ _ _ _ _ _ us hl => match us, hl with | [_, _], _ => rfl
  have M_given : Mo P w K mg base 2 C1 "given" ["self", "line"] (spGiven C1 false) := ⟨f_given, fd_given, ok_given F_given T B1 M_value, b_given, t_given⟩
  have N_given : Mo P w K mg base 2 C2 "given" ["self", "line"] (spGiven C2 true) := ⟨f_given, fd_given, ok_given F_given T B2 N_value, b_given, u_given⟩
  obtain ⟨f_do_line, fd_do_line, F_do_line, t_do_line, u_do_line⟩ := Mdo_line.ex
  have b_do_line := F_do_line.binds (ps := ["self", "line"]) fun _ _ _ _ _ _ us hl => match us, hl with | [_, _], _ => rfl
  have M_do_line : Mo P w K mg base 3 C1 "do_line" ["self", "line"] (spDo C1 false) := ⟨f_do_line, fd_do_line, ok_do_line F_do_line T B1 G_ways M_value M_given, b_do_line, t_do_line⟩
  have N_do_line : Mo P w K mg base 3 C2 "do_line" ["self", "line"] (spDo C2 true) := ⟨f_do_line, fd_do_line, ok_do_line F_do_line T B2 G_ways N_value N_given, b_do_line, u_do_line⟩
  obtain ⟨f_step, fd_step, F_step, t_step, u_step⟩ := Mstep.ex
  have b_step := F_step.binds (ps := ["self"]) fun _ _ _ _ _ _ us hl => match us, hl with | [_], _ => rfl
  have M_step : Mo P w K mg base 4 C1 "step" ["self"] (spStep C1 false) := ⟨f_step, fd_step, ok_step F_step T B1 M_pass_asks M_stopped M_do_line, b_step, t_step⟩
  have N_step : Mo P w K mg base 4 C2 "step" ["self"] (spStep C2 true) := ⟨f_step, fd_step, ok_step F_step T B2 N_pass_asks N_stopped N_do_line, b_step, u_step⟩
  obtain ⟨f_told, fd_told, F_told, t_told, u_told⟩ := Mtold.ex
  have b_told := F_told.binds (ps := ["self"]) fun _ _ _ _ _ _ us hl => match us, hl with | [_], _ => rfl
  have M_told : Mo P w K mg base 1 C1 "told" ["self"] (spTold C1 false) := ⟨f_told, fd_told, ok_told F_told T B1, b_told, t_told⟩
  have N_told : Mo P w K mg base 1 C2 "told" ["self"] (spTold C2 true) := ⟨f_told, fd_told, ok_told F_told T B2, b_told, u_told⟩
  obtain ⟨f_frame, fd_frame, F_frame, t_frame, u_frame⟩ := Mframe.ex
  have b_frame := F_frame.binds (ps := ["self"]) fun _ _ _ _ _ _ us hl => match us, hl with | [_], _ => rfl
  have M_frame : Mo P w K mg base 1 C1 "frame" ["self"] (spFrame C1 false) := ⟨f_frame, fd_frame, ok_frame F_frame T B1, b_frame, t_frame⟩
  have N_frame : Mo P w K mg base 1 C2 "frame" ["self"] (spFrame C2 true) := ⟨f_frame, fd_frame, ok_frame F_frame T B2, b_frame, u_frame⟩
  obtain ⟨f_ended, fd_ended, m_ended, F_ended⟩ := Dended.ex
  have b_ended := F_ended.binds (ps := ["walk"]) fun _ _ _ _ _ _ us hl => match us, hl with | [_], _ => rfl
  have E1 : Fo P w K mg base 5 "ended" ["walk"] (spEnded C1 false) := ⟨f_ended, fd_ended, ok_ended F_ended T B1 M_told M_step, b_ended, m_ended, F_ended.kp⟩
  have E2 : Fo P w K mg base 5 "ended" ["walk"] (spEnded C2 true) := ⟨f_ended, fd_ended, ok_ended F_ended T B2 N_told N_step, b_ended, m_ended, F_ended.kp⟩
  obtain ⟨f_run, fd_run, m_run, F_run⟩ := Drun.ex
  have b_run := F_run.binds (ps := ["program", "rows", "taken", "budget"]) fun _ _ _ _ _ _ us hl => match us, hl with | [_, _, _, _], _ => rfl
  have G_run : Fo P w K mg base 6 "run" ["program", "rows", "taken", "budget"] spRun := ⟨f_run, fd_run, ok_run F_run E1 G_Walk, b_run, m_run, F_run.kp⟩
  obtain ⟨f_run_thin, fd_run_thin, m_run_thin, F_run_thin⟩ := Drun_thin.ex
  have b_run_thin := F_run_thin.binds (ps := ["program", "rows", "taken", "budget", "out"]) fun _ _ _ _ _ _ us hl => match us, hl with | [_, _, _, _, _], _ => rfl
  have G_run_thin : Fo P w K mg base 6 "run_thin" ["program", "rows", "taken", "budget", "out"] spRunThin := ⟨f_run_thin, fd_run_thin, ok_run_thin F_run_thin E2 G_ThinWalk, b_run_thin, m_run_thin, F_run_thin.kp⟩
  obtain ⟨f_law_next, fd_law_next, m_law_next, F_law_next⟩ := D_law_next.ex
  have b_law_next := F_law_next.binds (ps := ["_law_source_here", "_law_many"]) fun _ _ _ _ _ _ us hl => match us, hl with | [_, _], _ => rfl
  have G_law_next : Fo P w K mg base 1 "_law_next" ["_law_source_here", "_law_many"] spNext := ⟨f_law_next, fd_law_next, ok_law_next F_law_next T, b_law_next, m_law_next, F_law_next.kp⟩
  obtain ⟨f_law_source, fd_law_source, m_law_source, F_law_source⟩ := D_law_source.ex
  have b_law_source := F_law_source.binds (ps := ["_law_script"]) fun _ _ _ _ _ _ us hl => match us, hl with | [_], _ => rfl
  have G_law_source : Fo P w K mg base 1 "_law_source" ["_law_script"] (spSource K) := ⟨f_law_source, fd_law_source, ok_law_source F_law_source T, b_law_source, m_law_source, F_law_source.kp⟩
  obtain ⟨f_law_number, fd_law_number, m_law_number, F_law_number⟩ := D_law_number.ex
  have b_law_number := F_law_number.binds (ps := ["_law_cell"]) fun _ _ _ _ _ _ us hl => match us, hl with | [_], _ => rfl
  have G_law_number : Fo P w K mg base 1 "_law_number" ["_law_cell"] spNumber := ⟨f_law_number, fd_law_number, ok_law_number F_law_number, b_law_number, m_law_number, F_law_number.kp⟩
  obtain ⟨f_law_value, fd_law_value, m_law_value, F_law_value⟩ := D_law_value.ex
  have b_law_value := F_law_value.binds (ps := ["_law_cell"]) fun _ _ _ _ _ _ us hl => match us, hl with | [_], _ => rfl
  have G_law_value : Fo P w K mg base 1 "_law_value" ["_law_cell"] spLValue := ⟨f_law_value, fd_law_value, ok_law_value F_law_value T, b_law_value, m_law_value, F_law_value.kp⟩
  obtain ⟨f_law_straight, fd_law_straight, m_law_straight, F_law_straight⟩ := D_law_straight.ex
  have b_law_straight := F_law_straight.binds (ps := ["_law_source_here", "_law_at", "_law_names", "_law_rows", "_law_roles"]) fun _ _ _ _ _ _ us hl => match us, hl with | [_, _, _, _, _], _ => rfl
  have G_law_straight : Fo P w K mg base 2 "_law_straight" ["_law_source_here", "_law_at", "_law_names", "_law_rows", "_law_roles"] spStraight := ⟨f_law_straight, fd_law_straight, ok_law_straight F_law_straight T G_law_next G_law_number, b_law_straight, m_law_straight, F_law_straight.kp⟩
  obtain ⟨f_law_limit, fd_law_limit, m_law_limit, F_law_limit⟩ := D_law_limit.ex
  have b_law_limit := F_law_limit.binds (ps := ["_law_cell", "_law_at", "_law_rows", "_law_roles"]) fun _ _ _ _ _ _ us hl => match us, hl with | [_, _, _, _], _ => rfl
  have G_law_limit : Fo P w K mg base 1 "_law_limit" ["_law_cell", "_law_at", "_law_rows", "_law_roles"] spLimit := ⟨f_law_limit, fd_law_limit, ok_law_limit F_law_limit, b_law_limit, m_law_limit, F_law_limit.kp⟩
  obtain ⟨f_law_ahead, fd_law_ahead, m_law_ahead, F_law_ahead⟩ := D_law_ahead.ex
  have b_law_ahead := F_law_ahead.binds (ps := ["_law_cell", "_law_at", "_law_roles"]) fun _ _ _ _ _ _ us hl => match us, hl with | [_, _, _], _ => rfl
  have G_law_ahead : Fo P w K mg base 1 "_law_ahead" ["_law_cell", "_law_at", "_law_roles"] spAhead := ⟨f_law_ahead, fd_law_ahead, ok_law_ahead F_law_ahead, b_law_ahead, m_law_ahead, F_law_ahead.kp⟩
  obtain ⟨f_law_piece, fd_law_piece, m_law_piece, F_law_piece⟩ := D_law_piece.ex
  have b_law_piece := F_law_piece.binds (ps := ["_law_source_here", "_law_lines", "_law_names", "_law_rows", "_law_roles", "_law_outs", "_law_head"]) fun _ _ _ _ _ _ us hl => match us, hl with | [_, _, _, _, _, _, _], _ => rfl
  have G_law_piece : Fo P w K mg base 3 "_law_piece" ["_law_source_here", "_law_lines", "_law_names", "_law_rows", "_law_roles", "_law_outs", "_law_head"] spPiece := ⟨f_law_piece, fd_law_piece, ok_law_piece F_law_piece T G_law_next G_law_number G_law_straight, b_law_piece, m_law_piece, F_law_piece.kp⟩
  obtain ⟨f_law_loop, fd_law_loop, m_law_loop, F_law_loop⟩ := D_law_loop.ex
  have b_law_loop := F_law_loop.binds (ps := ["_law_source_here", "_law_lines", "_law_names", "_law_rows", "_law_roles", "_law_outs"]) fun _ _ _ _ _ _ us hl => match us, hl with | [_, _, _, _, _, _], _ => rfl
  have G_law_loop : Fo P w K mg base 4 "_law_loop" ["_law_source_here", "_law_lines", "_law_names", "_law_rows", "_law_roles", "_law_outs"] spLoop := ⟨f_law_loop, fd_law_loop, ok_law_loop F_law_loop T G_law_next G_law_limit G_law_ahead G_law_straight G_law_piece, b_law_loop, m_law_loop, F_law_loop.kp⟩
  obtain ⟨f_law_led, fd_law_led, m_law_led, F_law_led⟩ := D_law_led.ex
  have b_law_led := F_law_led.binds (ps := ["_law_line", "_law_goals"]) fun _ _ _ _ _ _ us hl => match us, hl with | [_, _], _ => rfl
  have G_law_led : Fo P w K mg base 1 "_law_led" ["_law_line", "_law_goals"] spLed := ⟨f_law_led, fd_law_led, ok_law_led F_law_led T, b_law_led, m_law_led, F_law_led.kp⟩
  obtain ⟨f_law_turned_about, fd_law_turned_about, m_law_turned_about, F_law_turned_about⟩ := D_law_turned_about.ex
  have b_law_turned_about := F_law_turned_about.binds (ps := ["_law_lines", "_law_loops", "_law_cell"]) fun _ _ _ _ _ _ us hl => match us, hl with | [_, _, _], _ => rfl
  have G_law_turned_about : Fo P w K mg base 2 "_law_turned_about" ["_law_lines", "_law_loops", "_law_cell"] spTurned := ⟨f_law_turned_about, fd_law_turned_about, ok_law_turned_about F_law_turned_about T G_law_led, b_law_turned_about, m_law_turned_about, F_law_turned_about.kp⟩
  obtain ⟨f_law_program, fd_law_program, m_law_program, F_law_program⟩ := D_law_program.ex
  have b_law_program := F_law_program.binds (ps := ["_law_source_here"]) fun _ _ _ _ _ _ us hl => match us, hl with | [_], _ => rfl
  have G_law_program : Fo P w K mg base 5 "_law_program" ["_law_source_here"] spProgram := ⟨f_law_program, fd_law_program, ok_law_program F_law_program T G_law_next G_law_straight G_law_loop G_law_turned_about, b_law_program, m_law_program, F_law_program.kp⟩
  obtain ⟨f_law_input, fd_law_input, m_law_input, F_law_input⟩ := D_law_input.ex
  have b_law_input := F_law_input.binds (ps := ["_law_source_here", "_law_rows"]) fun _ _ _ _ _ _ us hl => match us, hl with | [_, _], _ => rfl
  have G_law_input : Fo P w K mg base 2 "_law_input" ["_law_source_here", "_law_rows"] spInput := ⟨f_law_input, fd_law_input, ok_law_input F_law_input T G_law_next G_law_value, b_law_input, m_law_input, F_law_input.kp⟩
  obtain ⟨f_law_out, fd_law_out, m_law_out, F_law_out⟩ := D_law_out.ex
  have b_law_out := F_law_out.binds (ps := ["_law_program_here", "_law_cell"]) fun _ _ _ _ _ _ us hl => match us, hl with | [_, _], _ => rfl
  have G_law_out : Fo P w K mg base 1 "_law_out" ["_law_program_here", "_law_cell"] spOut := ⟨f_law_out, fd_law_out, ok_law_out F_law_out T, b_law_out, m_law_out, F_law_out.kp⟩
  obtain ⟨f_law_due, fd_law_due, m_law_due, F_law_due⟩ := D_law_due.ex
  have b_law_due := F_law_due.binds (ps := ["_law_told_here", "_law_out_here"]) fun _ _ _ _ _ _ us hl => match us, hl with | [_, _], _ => rfl
  have G_law_due : Fo P w K mg base 1 "_law_due" ["_law_told_here", "_law_out_here"] spDue := ⟨f_law_due, fd_law_due, ok_law_due F_law_due T, b_law_due, m_law_due, F_law_due.kp⟩
  obtain ⟨f_law_told, fd_law_told, m_law_told, F_law_told⟩ := D_law_told.ex
  have b_law_told := F_law_told.binds (ps := ["_law_walk", "_law_out_here"]) fun _ _ _ _ _ _ us hl => match us, hl with | [_, _], _ => rfl
  have G_law_told : Fo P w K mg base 2 "_law_told" ["_law_walk", "_law_out_here"] (spLTold C1) := ⟨f_law_told, fd_law_told, ok_law_told F_law_told T B1 M_told G_law_due, b_law_told, m_law_told, F_law_told.kp⟩
  obtain ⟨f_law_steps, fd_law_steps, m_law_steps, F_law_steps⟩ := D_law_steps.ex
  have b_law_steps := F_law_steps.binds (ps := ["_law_program_here", "_law_rows", "_law_taken", "_law_budget", "_law_out_here"]) fun _ _ _ _ _ _ us hl => match us, hl with | [_, _, _, _, _], _ => rfl
  have G_law_steps : Fo P w K mg base 5 "_law_steps" ["_law_program_here", "_law_rows", "_law_taken", "_law_budget", "_law_out_here"] spSteps := ⟨f_law_steps, fd_law_steps, ok_law_steps F_law_steps T B1 B2 J G_Walk G_ThinWalk M_frame N_frame N_told G_law_told M_step N_step, b_law_steps, m_law_steps, F_law_steps.kp⟩
  exact ok_law Fl T G_law_source G_law_program G_law_input G_law_next G_law_out G_run G_law_due G_run_thin G_law_steps
theorem walk {l : PySem.W.OpenLaw} {q : Program} {loose : List Str} {XP : (Str → Option Value) → Heap → Prop} {YP : World → Heap → Prop} {d : DefRec} {K : Params → PySem.W.Frag} (hn : l.most = some 63) (hdf : d.params.defaults = [])
    (hY : ∀ (w : World) (h : Heap), YP w h → (K w.params).In h)
    (F : ∀ (w : World) (mg : Str → Option Value) (fa : Addr) (h : Heap), (K w.params).In h → h.Ns mainGlobals mg → mg d.name = some (.ref fa) →
      ∃ fd : FuncData, (∀ (s : Shared) (u : Value), BindsTo s fd ⟨[u], []⟩ [("_law_script", u)]) ∧ ∀ base : Heap, (K w.params).In base → base.Ns mainGlobals mg → FnOk l.prog w (K w.params) mg base CX0 19 fa fd ["_law_script"] (spLaw (K w.params))) :
    PySem.W.WalkO q loose XP YP l.row.toRowW d [] (fun f vs => PySem.call f vs) :=
  L2.walk_of (n := 63) (k := 19) (x := "_law_script") (CX := fun _ => CX0) (sp := fun w => spLaw (K w.params)) hn (by decide) hdf ⟨rfl, by decide, by decide⟩ hY F (fun _ _ a ns hl _ hS => ⟨a, ns, rfl, hS, hl, fun _ => rfl⟩) fun _ _ _ _ _ z => z
end Lk
open PySem PySem.W PyProof.Rows in
set_option maxRecDepth 100000 in
set_option maxHeartbeats 0 in
theorem PySem.Challenge.cw_lookspare_k71_thinned_walks_holds : PySem.Challenge.rw_lookspare_k71_thinned_walks.Holds := by
  w_on; o_law; k_head; (case hw => w_witness2)
  k_fill
  refine Lk.walk (l := PySem.Challenge.rw_lookspare_k71_thinned_walks) rfl rfl (fun w h Y => PySem.W.kIn_of Y) ?F
  case F =>
    intro w mg fa h KX G hmg
    refine' Lk.all_mk KX G hmg ?aW ?aT ?PL ?BL ?B1 ?B2 ?J ?I1 ?I2 ?L1 ?L2 ?Mvalue ?Mnode ?Mkept ?Mpass_asks ?Mstopped ?Mstep ?Mdo_line ?Mgiven ?Mtold ?Mframe ?Dways ?Dplace_of ?Dended ?Drun ?Drun_thin ?D_law_next ?D_law_source ?D_law_number ?D_law_straight ?D_law_limit ?D_law_ahead ?D_law_piece ?D_law_loop ?D_law_led ?D_law_turned_about ?D_law_program ?D_law_value ?D_law_input ?D_law_out ?D_law_due ?D_law_steps ?D_law_told ?al ?ll ?cl ?kl
    (case aW => k_is)
    (case aT => k_is)
    case PL =>
      refine' Lk.pl_mk KX G ?qa ?ql
      (case qa => k_is)
      (case ql => k_is)
    case BL =>
      refine' Lk.blt_mk KX G ?qz0 ?qz1 ?qz2 ?qz3 ?qz4 ?qz5 ?qz6 ?qz7 ?qz8 ?qz9
      (case qz0 => k_is)
      (case qz1 => k_is)
      (case qz2 => k_is)
      (case qz3 => k_is)
      (case qz4 => k_is)
      (case qz5 => k_is)
      (case qz6 => k_is)
      (case qz7 => k_is)
      (case qz8 => k_is)
      (case qz9 => k_is)
    case B1 =>
      refine' Lk.cf_mk ?qpg ?qhd ?qpo ?qsa ?qn0 ?qn1 ?qn2 ?qn3 ?qn4 ?qn5 ?qn6 ?qn7 ?qn8 ?qn9
      (case qpg => k_is)
      (case qhd => k_is)
      (case qpo => k_is)
      (case qsa => k_is)
      (case qn0 => k_is)
      (case qn1 => k_is)
      (case qn2 => k_is)
      (case qn3 => k_is)
      (case qn4 => k_is)
      (case qn5 => k_is)
      (case qn6 => k_is)
      (case qn7 => k_is)
      (case qn8 => k_is)
      (case qn9 => k_is)
    case B2 =>
      refine' Lk.cf_mk ?qpg ?qhd ?qpo ?qsa ?qn0 ?qn1 ?qn2 ?qn3 ?qn4 ?qn5 ?qn6 ?qn7 ?qn8 ?qn9
      (case qpg => k_is)
      (case qhd => k_is)
      (case qpo => k_is)
      (case qsa => k_is)
      (case qn0 => k_is)
      (case qn1 => k_is)
      (case qn2 => k_is)
      (case qn3 => k_is)
      (case qn4 => k_is)
      (case qn5 => k_is)
      (case qn6 => k_is)
      (case qn7 => k_is)
      (case qn8 => k_is)
      (case qn9 => k_is)
    case J =>
      refine' Lk.isi_mk ?qha ?qhn ?qhtk ?qhm ?qc ?qt ?qs
      (case qha => k_is)
      (case qhn => k_is)
      (case qhtk => k_is)
      (case qhm => k_is)
      (case qc => k_is)
      (case qt => k_is)
      (case qs => k_is)
    case I1 =>
      refine' Lk.mader_mk ?qmk ?qa ?qi ?qkc ?ql ?qc ?qk ?qrd ?qga ?qcv
      (case qmk => k_is)
      (case qa => k_is)
      (case qi => k_is)
      (case qkc => k_is)
      (case ql => k_is)
      (case qc => k_is)
      (case qk => k_is)
      (case qrd => k_is)
      (case qga => k_is)
      (case qcv => k_is)
    case I2 =>
      refine' Lk.made_mk ?qmk ?qa ?qi ?qkc ?ql ?qc ?qk
      (case qmk => k_is)
      (case qa => k_is)
      (case qi => k_is)
      (case qkc => k_is)
      (case ql => k_is)
      (case qc => k_is)
      (case qk => k_is)
    case L1 =>
      refine' Lk.one_mk ?qa ?qi ?ql ?qc ?qk
      (case qa => k_is)
      (case qi => k_is)
      (case ql => k_is)
      (case qc => k_is)
      (case qk => k_is)
    case L2 =>
      refine' Lk.one_mk ?qa ?qi ?ql ?qc ?qk
      (case qa => k_is)
      (case qi => k_is)
      (case ql => k_is)
      (case qc => k_is)
      (case qk => k_is)
    case Mvalue =>
      refine' Lk.both_mk ?qa ?qb ?qi ?ql ?qc ?qk
      (case qa => k_is)
      (case qb => k_is)
      (case qi => k_is)
      (case ql => k_is)
      (case qc => k_is)
      (case qk => k_is)
    case Mnode =>
      refine' Lk.both_mk ?qa ?qb ?qi ?ql ?qc ?qk
      (case qa => k_is)
      (case qb => k_is)
      (case qi => k_is)
      (case ql => k_is)
      (case qc => k_is)
      (case qk => k_is)
    case Mkept =>
      refine' Lk.both_mk ?qa ?qb ?qi ?ql ?qc ?qk
      (case qa => k_is)
      (case qb => k_is)
      (case qi => k_is)
      (case ql => k_is)
      (case qc => k_is)
      (case qk => k_is)
    case Mpass_asks =>
      refine' Lk.both_mk ?qa ?qb ?qi ?ql ?qc ?qk
      (case qa => k_is)
      (case qb => k_is)
      (case qi => k_is)
      (case ql => k_is)
      (case qc => k_is)
      (case qk => k_is)
    case Mstopped =>
      refine' Lk.both_mk ?qa ?qb ?qi ?ql ?qc ?qk
      (case qa => k_is)
      (case qb => k_is)
      (case qi => k_is)
      (case ql => k_is)
      (case qc => k_is)
      (case qk => k_is)
    case Mstep =>
      refine' Lk.both_mk ?qa ?qb ?qi ?ql ?qc ?qk
      (case qa => k_is)
      (case qb => k_is)
      (case qi => k_is)
      (case ql => k_is)
      (case qc => k_is)
      (case qk => k_is)
    case Mdo_line =>
      refine' Lk.both_mk ?qa ?qb ?qi ?ql ?qc ?qk
      (case qa => k_is)
      (case qb => k_is)
      (case qi => k_is)
      (case ql => k_is)
      (case qc => k_is)
      (case qk => k_is)
    case Mgiven =>
      refine' Lk.both_mk ?qa ?qb ?qi ?ql ?qc ?qk
      (case qa => k_is)
      (case qb => k_is)
      (case qi => k_is)
      (case ql => k_is)
      (case qc => k_is)
      (case qk => k_is)
    case Mtold =>
      refine' Lk.both_mk ?qa ?qb ?qi ?ql ?qc ?qk
      (case qa => k_is)
      (case qb => k_is)
      (case qi => k_is)
      (case ql => k_is)
      (case qc => k_is)
      (case qk => k_is)
    case Mframe =>
      refine' Lk.both_mk ?qa ?qb ?qi ?ql ?qc ?qk
      (case qa => k_is)
      (case qb => k_is)
      (case qi => k_is)
      (case ql => k_is)
      (case qc => k_is)
      (case qk => k_is)
    case Dways =>
      refine' Lk.def_mk KX G ?qa ?ql ?qc ?qk
      (case qa => k_is)
      (case ql => k_is)
      (case qc => k_is)
      (case qk => k_is)
    case Dplace_of =>
      refine' Lk.def_mk KX G ?qa ?ql ?qc ?qk
      (case qa => k_is)
      (case ql => k_is)
      (case qc => k_is)
      (case qk => k_is)
    case Dended =>
      refine' Lk.def_mk KX G ?qa ?ql ?qc ?qk
      (case qa => k_is)
      (case ql => k_is)
      (case qc => k_is)
      (case qk => k_is)
    case Drun =>
      refine' Lk.def_mk KX G ?qa ?ql ?qc ?qk
      (case qa => k_is)
      (case ql => k_is)
      (case qc => k_is)
      (case qk => k_is)
    case Drun_thin =>
      refine' Lk.def_mk KX G ?qa ?ql ?qc ?qk
      (case qa => k_is)
      (case ql => k_is)
      (case qc => k_is)
      (case qk => k_is)
    case D_law_next =>
      refine' Lk.def_mk KX G ?qa ?ql ?qc ?qk
      (case qa => k_is)
      (case ql => k_is)
      (case qc => k_is)
      (case qk => k_is)
    case D_law_source =>
      refine' Lk.def_mk KX G ?qa ?ql ?qc ?qk
      (case qa => k_is)
      (case ql => k_is)
      (case qc => k_is)
      (case qk => k_is)
    case D_law_number =>
      refine' Lk.def_mk KX G ?qa ?ql ?qc ?qk
      (case qa => k_is)
      (case ql => k_is)
      (case qc => k_is)
      (case qk => k_is)
    case D_law_straight =>
      refine' Lk.def_mk KX G ?qa ?ql ?qc ?qk
      (case qa => k_is)
      (case ql => k_is)
      (case qc => k_is)
      (case qk => k_is)
    case D_law_limit =>
      refine' Lk.def_mk KX G ?qa ?ql ?qc ?qk
      (case qa => k_is)
      (case ql => k_is)
      (case qc => k_is)
      (case qk => k_is)
    case D_law_ahead =>
      refine' Lk.def_mk KX G ?qa ?ql ?qc ?qk
      (case qa => k_is)
      (case ql => k_is)
      (case qc => k_is)
      (case qk => k_is)
    case D_law_piece =>
      refine' Lk.def_mk KX G ?qa ?ql ?qc ?qk
      (case qa => k_is)
      (case ql => k_is)
      (case qc => k_is)
      (case qk => k_is)
    case D_law_loop =>
      refine' Lk.def_mk KX G ?qa ?ql ?qc ?qk
      (case qa => k_is)
      (case ql => k_is)
      (case qc => k_is)
      (case qk => k_is)
    case D_law_led =>
      refine' Lk.def_mk KX G ?qa ?ql ?qc ?qk
      (case qa => k_is)
      (case ql => k_is)
      (case qc => k_is)
      (case qk => k_is)
    case D_law_turned_about =>
      refine' Lk.def_mk KX G ?qa ?ql ?qc ?qk
      (case qa => k_is)
      (case ql => k_is)
      (case qc => k_is)
      (case qk => k_is)
    case D_law_program =>
      refine' Lk.def_mk KX G ?qa ?ql ?qc ?qk
      (case qa => k_is)
      (case ql => k_is)
      (case qc => k_is)
      (case qk => k_is)
    case D_law_value =>
      refine' Lk.def_mk KX G ?qa ?ql ?qc ?qk
      (case qa => k_is)
      (case ql => k_is)
      (case qc => k_is)
      (case qk => k_is)
    case D_law_input =>
      refine' Lk.def_mk KX G ?qa ?ql ?qc ?qk
      (case qa => k_is)
      (case ql => k_is)
      (case qc => k_is)
      (case qk => k_is)
    case D_law_out =>
      refine' Lk.def_mk KX G ?qa ?ql ?qc ?qk
      (case qa => k_is)
      (case ql => k_is)
      (case qc => k_is)
      (case qk => k_is)
    case D_law_due =>
      refine' Lk.def_mk KX G ?qa ?ql ?qc ?qk
      (case qa => k_is)
      (case ql => k_is)
      (case qc => k_is)
      (case qk => k_is)
    case D_law_steps =>
      refine' Lk.def_mk KX G ?qa ?ql ?qc ?qk
      (case qa => k_is)
      (case ql => k_is)
      (case qc => k_is)
      (case qk => k_is)
    case D_law_told =>
      refine' Lk.def_mk KX G ?qa ?ql ?qc ?qk
      (case qa => k_is)
      (case ql => k_is)
      (case qc => k_is)
      (case qk => k_is)
    (case al => k_is)
    (case ll => k_is)
    (case cl => k_is)
    (case kl => k_is)
