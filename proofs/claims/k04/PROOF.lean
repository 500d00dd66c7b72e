import PyProof.Rows.All
import Wide.All
import OpenK.AllK
import Wide.FinOn
import HandS.ForMost
import HandS.Style
import HandS.IsInst
import HandS.OwnEq
import HandS.TupLen
import HandS.Conv
import HandS.DictComp
import HandS.TupSets
import HandS.Wide
import HandS.Walk
import HandS.Zip
import HandS.Evl
import HandS.TupAny
import HandS.Deep
import HandS.DictTup
import KE.KDictCopyH
import KE.KDictSum
import PyProof.InstNe
import PySem.Challenge.RW_bytoldways_k04_who_hears_in_the_end
set_option Elab.async false
set_option linter.all false
set_option maxRecDepth 100000
set_option maxHeartbeats 4000000
/-! ### data, without a program -/
namespace Tw
open PySem
/-- data of a depth of at most n -/
def Sh : Nat → PyData → Prop
  | _, .none => True
  | _, .bool _ => True
  | _, .int _ => True
  | _, .str x => PyData.strOk x = true
  | 0, .list _ => False
  | 0, .tuple _ => False
  | n + 1, .list ds => ∀ d ∈ ds, Sh n d
  | n + 1, .tuple ds => ∀ d ∈ ds, Sh n d
  | _, .dict _ => False
theorem lay_all {ds : List PyData} (h : ∀ d ∈ ds, d.canLay0 = true) : PyData.canLayAll0 ds = true := by
  induction ds with
  | nil => simp [PyData.canLayAll0]
  | cons d ds ih => simp [PyData.canLayAll0, h d (by simp), ih fun e he => h e (by simp [he])]
theorem dep_all {ds : List PyData} {n : Nat} (h : ∀ d ∈ ds, d.depth ≤ n) : PyData.depthAll ds ≤ n := by
  induction ds with
  | nil => simp [PyData.depthAll]
  | cons d ds ih =>
    have h1 := h d (by simp)
    have h2 := ih fun e he => h e (by simp [he])
    simp [PyData.depthAll]; omega
theorem sh_ok : ∀ (n : Nat) (d : PyData), Sh n d → d.canLay0 = true ∧ d.depth ≤ n
  | n, .none, _ => by simp [PyData.canLay0, PyData.depth]
  | n, .bool _, _ => by simp [PyData.canLay0, PyData.depth]
  | n, .int _, _ => by simp [PyData.canLay0, PyData.depth]
  | n, .str x, h => by
    have h : PyData.strOk x = true := by cases n <;> exact h
    simp [PyData.canLay0, PyData.depth, h]
  | 0, .list _, h => h.elim
  | 0, .tuple _, h => h.elim
  | n + 1, .list ds, h => by
    have h : ∀ d ∈ ds, Sh n d := h
    have h1 := lay_all fun d hd => (sh_ok n d (h d hd)).1
    have h2 := dep_all fun d hd => (sh_ok n d (h d hd)).2
    simp [PyData.canLay0, PyData.depth, h1]; omega
  | n + 1, .tuple ds, h => by
    have h : ∀ d ∈ ds, Sh n d := h
    have h1 := lay_all fun d hd => (sh_ok n d (h d hd)).1
    have h2 := dep_all fun d hd => (sh_ok n d (h d hd)).2
    simp [PyData.canLay0, PyData.depth, h1]; omega
  | 0, .dict _, h => h.elim
  | n + 1, .dict _, h => h.elim
theorem sh_shaped {n : Nat} {d : PyData} (h : Sh n d) (hn : n ≤ 64 := by decide) : SeqAt.shaped d = true := by
  obtain ⟨h1, h2⟩ := sh_ok n d h
  unfold SeqAt.shaped
  simp [h1]; omega
theorem sh_ints (ns : List Int) : Sh 1 (.list (ns.map PyData.int)) := fun d hd => by
  obtain ⟨n, _, rfl⟩ := List.mem_map.mp hd
  exact True.intro
theorem eqv_nil (ds : List PyData) : PyData.eqv (.list ds) (.list []) = ds.isEmpty := by
  cases ds <;> simp [PyData.eqv, PyData.eqvAll]
theorem eqv_nilT (ds : List PyData) : PyData.eqv (.tuple ds) (.tuple []) = ds.isEmpty := by
  cases ds <;> simp [PyData.eqv, PyData.eqvAll]
theorem sh_nil : Sh 1 (.list []) := fun _ h => nomatch h
theorem eqv_int (i j : Int) : PyData.eqv (.int i) (.int j) = decide (i = j) := by
  simp only [PyData.eqv]
  by_cases h : i = j
  · subst h; simp
  · simp [h]
theorem eqvAll_map {α : Type} [DecidableEq α] {f : α → PyData} (h : ∀ a b, PyData.eqv (f a) (f b) = decide (a = b)) : ∀ (xs ys : List α), PyData.eqvAll (xs.map f) (ys.map f) = decide (xs = ys)
  | [], [] => by simp [PyData.eqvAll]
  | [], _ :: _ => by simp [PyData.eqvAll]
  | _ :: _, [] => by simp [PyData.eqvAll]
  | x :: xs, y :: ys => by
    simp only [List.map_cons, PyData.eqvAll, h, eqvAll_map h xs ys]
    by_cases h1 : x = y
    · subst h1
      by_cases h2 : xs = ys
      · subst h2; simp
      · simp [h2]
    · simp [h1]
theorem eqv_ints (ns ms : List Int) : PyData.eqv (.list (ns.map PyData.int)) (.list (ms.map PyData.int)) = decide (ns = ms) := by
  simp only [PyData.eqv, eqvAll_map eqv_int]
end Tw

/-! ### what every law of this set wants: data in the heap, the script's deck of draws -/
namespace Tw
open PySem L2
theorem same_new {H : Hp} {p : Addr} {o : HO} (h : H p = none) : Same H (upd H p o) := fun b u e => by
  rw [upd_ne (ne_of_none e h)]; exact e
theorem same_rd {H H' : Hp} {a : Addr} {u : HO} (e : Same H H') (h : Rd H a u) : Rd H' a u := by
  rcases h with h | ⟨o, h⟩
  · exact .inl (e a _ h)
  · exact .inr ⟨o, e a _ h⟩
theorem same_l {K : PySem.W.Frag} {H H' : Hp} {a : Addr} {xs : List V} (e : Same H H') (h : SqL K H a xs) : SqL K H' a xs := by
  rcases h with h | h
  · exact .inl (same_rd e h)
  · exact .inr h
theorem same_t {K : PySem.W.Frag} {H H' : Hp} {a : Addr} {xs : List V} (e : Same H H') (h : SqT K H a xs) : SqT K H' a xs := by
  rcases h with h | h
  · exact .inl (same_rd e h)
  · exact .inr h
section
variable {K : PySem.W.Frag} {H H' : Hp}
mutual
theorem dp_same (e : Same H H') : ∀ {v : V} {d : PyData}, Dp K H v d → Dp K H' v d
  | _, _, .non => .non
  | _, _, .bl b => .bl b
  | _, _, .int i => .int i
  | _, _, .str x => .str x
  | _, _, .lst h a => .lst (same_l e h) (dpAll_same e a)
  | _, _, .tup h a => .tup (same_t e h) (dpAll_same e a)
theorem dpAll_same (e : Same H H') : ∀ {vs : List V} {ds : List PyData}, DpAll K H vs ds → DpAll K H' vs ds
  | _, _, .nil => .nil
  | _, _, .cons h a => .cons (dp_same e h) (dpAll_same e a)
end
/-- tuples stay, whatever else is written -/
def Tups (H H' : Hp) : Prop := ∀ a xs, (Rd H a (.tup xs) → Rd H' a (.tup xs)) ∧ (H a = some (.tup xs) → H' a = some (.tup xs))
theorem Tups.refl (H : Hp) : Tups H H := fun _ _ => ⟨fun h => h, fun h => h⟩
theorem Tups.trans {H1 H2 H3 : Hp} (a : Tups H1 H2) (b : Tups H2 H3) : Tups H1 H3 := fun x xs => ⟨fun h => (b x xs).1 ((a x xs).1 h), fun h => (b x xs).2 ((a x xs).2 h)⟩
theorem Same.tups (e : Same H H') : Tups H H' := fun _ _ => ⟨fun h => same_rd e h, fun h => e _ _ h⟩
theorem tups_new {p : Addr} {o : HO} (h : H p = none) : Tups H (upd H p o) := Same.tups (same_new h)
theorem tups_wr {p : Addr} {o u : HO} (h : H p = some o) (h1 : ∀ xs, o ≠ .tup xs) (h2 : ∀ f xs, o ≠ .frz f (.tup xs)) : Tups H (upd H p u) := fun a xs => by
  have ne : Rd H a (.tup xs) → a ≠ p := fun r e => by
    subst e
    rcases r with r | ⟨f, r⟩
    · rw [h] at r; exact h1 xs (Option.some.inj r)
    · rw [h] at r; exact h2 f xs (Option.some.inj r)
  refine ⟨fun r => ?_, fun r => by rw [upd_ne (ne (.inl r))]; exact r⟩
  have n := ne r
  rcases r with r | ⟨f, r⟩
  · exact .inl (by rw [upd_ne n]; exact r)
  · exact .inr ⟨f, by rw [upd_ne n]; exact r⟩
theorem tups_t {a : Addr} {xs : List V} (e : Tups H H') (h : SqT K H a xs) : SqT K H' a xs := by
  rcases h with h | h
  · exact .inl ((e _ _).1 h)
  · exact .inr h
mutual
/-- data without a list, its tuples tracked -/
def Td (H : Hp) : V → PyData → Prop
  | v, .none => v = .non
  | v, .bool b => v = .bl b
  | v, .int i => v = .int i
  | v, .str x => v = .str x
  | _, .list _ => False
  | v, .tuple ds => ∃ a xs, v = .ref a ∧ H a = some (.tup xs) ∧ TdAll H xs ds
  | _, .dict _ => False
def TdAll (H : Hp) : List V → List PyData → Prop
  | [], [] => True
  | v :: vs, d :: ds => Td H v d ∧ TdAll H vs ds
  | [], _ :: _ => False
  | _ :: _, [] => False
end
mutual
theorem td_tups (e : Tups H H') : ∀ {v : V} (d : PyData), Td H v d → Td H' v d
  | _, .none, h => h
  | _, .bool _, h => h
  | _, .int _, h => h
  | _, .str _, h => h
  | _, .list _, h => h.elim
  | _, .tuple ds, h => by
    obtain ⟨a, xs, e1, h1, h2⟩ := h
    exact ⟨a, xs, e1, (e _ _).2 h1, tdAll_tups e ds h2⟩
  | _, .dict _, h => h.elim
theorem tdAll_tups (e : Tups H H') : ∀ {vs : List V} (ds : List PyData), TdAll H vs ds → TdAll H' vs ds
  | [], [], _ => trivial
  | _ :: _, d :: ds, h => ⟨td_tups e d h.1, tdAll_tups e ds h.2⟩
  | [], _ :: _, h => h.elim
  | _ :: _, [], h => h.elim
end
mutual
theorem td_dp : ∀ {v : V} (d : PyData), Td H v d → Dp K H v d
  | _, .none, h => by obtain rfl := h; exact .non
  | _, .bool _, h => by obtain rfl := h; exact .bl _
  | _, .int _, h => by obtain rfl := h; exact .int _
  | _, .str _, h => by obtain rfl := h; exact .str _
  | _, .list _, h => h.elim
  | _, .tuple ds, h => by
    obtain ⟨a, xs, e1, h1, h2⟩ := h
    subst e1
    exact .tup (.inl (.inl h1)) (tdAll_dp ds h2)
  | _, .dict _, h => h.elim
theorem tdAll_dp : ∀ {vs : List V} (ds : List PyData), TdAll H vs ds → DpAll K H vs ds
  | [], [], _ => .nil
  | _ :: _, d :: ds, h => .cons (td_dp d h.1) (tdAll_dp ds h.2)
  | [], _ :: _, h => h.elim
  | _ :: _, [], h => h.elim
end
theorem dpAll_len : ∀ {vs : List V} {ds : List PyData}, DpAll K H vs ds → vs.length = ds.length
  | _, _, .nil => rfl
  | _, _, .cons _ a => by rw [List.length_cons, List.length_cons, dpAll_len a]
theorem dpAll_get : ∀ {vs : List V} {ds : List PyData} {i : Nat} {v : V}, DpAll K H vs ds → vs[i]? = some v → ∃ d, ds[i]? = some d ∧ Dp K H v d
  | _, _, _, _, .nil, e => by simp at e
  | _, _, 0, _, .cons h _, e => by simp at e; subst e; exact ⟨_, rfl, h⟩
  | _, _, i + 1, v, .cons _ a, e => by
    obtain ⟨d, h1, h2⟩ := dpAll_get (i := i) (v := v) a (by simpa using e)
    exact ⟨d, by simpa using h1, h2⟩
theorem dpAll_getD : ∀ {vs : List V} {ds : List PyData} {i : Nat} {d : PyData}, DpAll K H vs ds → ds[i]? = some d → ∃ v, vs[i]? = some v ∧ Dp K H v d
  | _, _, _, _, .nil, e => by simp at e
  | _, _, 0, _, .cons h _, e => by simp at e; subst e; exact ⟨_, rfl, h⟩
  | _, _, i + 1, d, .cons _ a, e => by
    obtain ⟨v, h1, h2⟩ := dpAll_getD (i := i) (d := d) a (by simpa using e)
    exact ⟨v, by simpa using h1, h2⟩
theorem dpAll_app : ∀ {vs ws : List V} {ds es : List PyData}, DpAll K H vs ds → DpAll K H ws es → DpAll K H (vs ++ ws) (ds ++ es)
  | _, _, _, _, .nil, b => b
  | _, _, _, _, .cons h a, b => .cons h (dpAll_app a b)
theorem dpAll_snoc {vs : List V} {ds : List PyData} {v : V} {d : PyData} (a : DpAll K H vs ds) (h : Dp K H v d) : DpAll K H (vs ++ [v]) (ds ++ [d]) := dpAll_app a (.cons h .nil)
theorem dpAll_ints : ∀ (ns : List Int), DpAll K H (ns.map V.int) (ns.map PyData.int)
  | [] => .nil
  | n :: ns => .cons (.int n) (dpAll_ints ns)
theorem dp_int {v : V} {i : Int} (h : Dp K H v (.int i)) : v = .int i := by cases h; rfl
theorem dp_bl {v : V} {b : Bool} (h : Dp K H v (.bool b)) : v = .bl b := by cases h; rfl
theorem dp_str {v : V} {x : Str} (h : Dp K H v (.str x)) : v = .str x := by cases h; rfl
theorem dp_non {v : V} (h : Dp K H v .none) : v = .non := by cases h; rfl
theorem dp_tup {v : V} {ds : List PyData} (h : Dp K H v (.tuple ds)) : ∃ a xs, v = .ref a ∧ SqT K H a xs ∧ DpAll K H xs ds := by cases h with | tup h a => exact ⟨_, _, rfl, h, a⟩
theorem dp_lst {v : V} {ds : List PyData} (h : Dp K H v (.list ds)) : ∃ a xs, v = .ref a ∧ SqL K H a xs ∧ DpAll K H xs ds := by cases h with | lst h a => exact ⟨_, _, rfl, h, a⟩
theorem dp_tupN {p : Addr} {xs : List V} {ds : List PyData} (h : H p = some (.tup xs)) (a : DpAll K H xs ds) : Dp K H (.ref p) (.tuple ds) := .tup (.inl (.inl h)) a
theorem dp_lstN {p : Addr} {xs : List V} {ds : List PyData} (h : H p = some (.lst xs)) (a : DpAll K H xs ds) : Dp K H (.ref p) (.list ds) := .lst (.inl (.inl h)) a
end
theorem sz {n : Nat} (h : n ≤ 100000) : n ≤ sizeLine := Nat.le_trans h (by decide)
theorem szl {n : Nat} (h : n < 100000) : n < sizeLine := Nat.lt_of_lt_of_le h (by decide)

/-! ### the deck -/
def deckK (c : Addr) (s n : Int) : List (Key × V) := [(Sum.inr "cells", .ref c), (Sum.inr "stir", .int s), (Sum.inr "draws", .int n)]
theorem cs_ : ¬ ((Sum.inr ("cells" : Str) : Key) = Sum.inr ("stir" : Str)) := by decide +kernel
theorem cd_ : ¬ ((Sum.inr ("cells" : Str) : Key) = Sum.inr ("draws" : Str)) := by decide +kernel
theorem sd_ : ¬ ((Sum.inr ("stir" : Str) : Key) = Sum.inr ("draws" : Str)) := by decide +kernel
theorem deck_cells (c : Addr) (s n : Int) : valV (deckK c s n) (Sum.inr "cells") = some (.ref c) := by
  simp [valV, deckK]
theorem deck_stir (c : Addr) (s n : Int) : valV (deckK c s n) (Sum.inr "stir") = some (.int s) := by
  simp only [valV, deckK, List.find?, decide_eq_false cs_, decide_true] <;> rfl
theorem deck_draws (c : Addr) (s n : Int) : valV (deckK c s n) (Sum.inr "draws") = some (.int n) := by
  simp only [valV, deckK, List.find?, decide_eq_false cd_, decide_eq_false sd_, decide_true] <;> rfl
theorem deck_put (c : Addr) (s n m : Int) : putK (deckK c s n) (Sum.inr "draws") (.int m) = deckK c s m := by
  unfold putK deckK
  simp only [List.any_cons, decide_true, Bool.true_or, Bool.or_true, if_true, List.map_cons, List.map_nil, if_neg cd_, if_neg sd_, if_pos rfl]
theorem deck_new (c : Addr) (s n : Int) : mergeK [] (deckK c s n) = deckK c s n := by
  unfold mergeK deckK
  simp only [List.foldl, putK, List.any_nil, List.any_cons, decide_eq_false cs_, decide_eq_false cd_, decide_eq_false sd_, Bool.false_eq_true, if_false, Bool.or_false, List.nil_append, List.cons_append]
theorem dg_cells {H : Hp} {dk c : Addr} {s n : Int} (h : H dk = some (.dK (deckK c s n))) : DGet H dk (.str "cells") (some (.ref c)) := by
  rw [← deck_cells c s n]; exact DGet.k (k := Sum.inr "cells") h
theorem dg_stir {H : Hp} {dk c : Addr} {s n : Int} (h : H dk = some (.dK (deckK c s n))) : DGet H dk (.str "stir") (some (.int s)) := by
  rw [← deck_stir c s n]; exact DGet.k (k := Sum.inr "stir") h
theorem dg_draws {H : Hp} {dk c : Addr} {s n : Int} (h : H dk = some (.dK (deckK c s n))) : DGet H dk (.str "draws") (some (.int n)) := by
  rw [← deck_draws c s n]; exact DGet.k (k := Sum.inr "draws") h
theorem dp_draws {H : Hp} {dk c : Addr} {s n m : Int} (h : H dk = some (.dK (deckK c s n))) : DPut H dk (.str "draws") (.int m) (upd H dk (.dK (deckK c s m))) := by
  have z := DPut.k (k := Sum.inr "draws") (v := .int m) h (Nat.lt_of_lt_of_le (by show 3 < 100000; decide) (by decide : 100000 ≤ sizeLine))
  rw [deck_put] at z
  exact z
/-- a deck stands at dk, its cells at cl -/
structure DeckAt (H : Hp) (dk cl : Addr) (m : Nat) : Prop where
  ne : dk ≠ cl
  ex : ∃ (s n : Int) (cs : List Int), 0 ≤ s ∧ s < 2147483647 ∧ 0 ≤ n ∧ n ≤ m ∧ cs.length ≤ 63 ∧ H dk = some (.dK (deckK cl s n)) ∧ H cl = some (.lst (cs.map V.int))
theorem DeckAt.mono {H : Hp} {dk cl : Addr} {m m' : Nat} (D : DeckAt H dk cl m) (h : m ≤ m') : DeckAt H dk cl m' := by
  obtain ⟨ne, s, n, cs, a, b, c, d, f, h1, h2⟩ := D
  exact ⟨ne, s, n, cs, a, b, c, by omega, f, h1, h2⟩
/-- all but the deck is as it was -/
def But (dk cl : Addr) (H H' : Hp) : Prop := ∀ b o, H b = some o → b ≠ dk → b ≠ cl → H' b = some o
theorem But.refl (dk cl : Addr) (H : Hp) : But dk cl H H := fun _ _ h _ _ => h
theorem But.trans {dk cl : Addr} {H1 H2 H3 : Hp} (a : But dk cl H1 H2) (b : But dk cl H2 H3) : But dk cl H1 H3 := fun x o h n m => b x o (a x o h n m) n m
theorem Same.but {dk cl : Addr} {H H' : Hp} (e : Same H H') : But dk cl H H' := fun b o h _ _ => e b o h
theorem But.tups {dk cl : Addr} {H H' : Hp} (D : ∃ o u, H dk = some (.dK o) ∧ H cl = some (.lst u)) (e : But dk cl H H') : Tups H H' := fun a xs => by
  obtain ⟨o, u, h1, h2⟩ := D
  have n1 : Rd H a (.tup xs) → a ≠ dk := fun r z => by
    subst z
    rcases r with r | ⟨f, r⟩ <;> (rw [h1] at r; cases r)
  have n2 : Rd H a (.tup xs) → a ≠ cl := fun r z => by
    subst z
    rcases r with r | ⟨f, r⟩ <;> (rw [h2] at r; cases r)
  refine ⟨fun r => ?_, fun r => e _ _ r (n1 (.inl r)) (n2 (.inl r))⟩
  have m1 := n1 r
  have m2 := n2 r
  rcases r with r | ⟨f, r⟩
  · exact .inl (e _ _ r m1 m2)
  · exact .inr ⟨f, e _ _ r m1 m2⟩
theorem DeckAt.hs {H : Hp} {dk cl : Addr} {m : Nat} (D : DeckAt H dk cl m) : ∃ o u, H dk = some (.dK o) ∧ H cl = some (.lst u) := by
  obtain ⟨_, s, n, cs, _, _, _, _, _, h1, h2⟩ := D
  exact ⟨_, _, h1, h2⟩
theorem DeckAt.same {H H' : Hp} {dk cl : Addr} {m : Nat} (D : DeckAt H dk cl m) (e : Same H H') : DeckAt H' dk cl m := by
  obtain ⟨ne, s, n, cs, a, b, c, d, f, h1, h2⟩ := D
  exact ⟨ne, s, n, cs, a, b, c, d, f, e _ _ h1, e _ _ h2⟩
end Tw

/-! ### data-level states: what the slots and the objects hold, as data -/
namespace Tw
open PySem L2
/-- a value as data, or a reference -/
inductive SV where
  | d (x : PyData) | m (a : Addr)
/-- an object by its content -/
inductive MO where
  | lst (xs : List SV) | tup (xs : List SV) | dK (kvs : List (Key × SV)) | dT (kvs : List (List Key × SV)) | ins (C : Addr) (fs : List (Str × SV)) | raw (o : HO) | deck (cl : Addr) (m : Nat) | cells | rL (xs : List SV) | rK (kvs : List (Key × SV)) | wins (C : Addr) (fs : List (Str × SV))
/-- what may be written -/
def MO.wr : MO → Bool
  | .lst _ => true | .dK _ => true | .dT _ => true | .deck _ _ => true | .cells => true | .wins _ _ => true
  | .tup _ => false | .ins _ _ => false | .raw _ => false | .rL _ => false | .rK _ => false
abbrev Sl := List (Option SV)
abbrev Ml := List (Addr × MO)
section
variable (K : PySem.W.Frag) (H : Hp)
def VOk : V → SV → Prop
  | v, .d x => Dp K H v x ∧ Td H v x
  | v, .m a => v = .ref a
def VsOk : List V → List SV → Prop
  | [], [] => True
  | v :: vs, s :: ss => VOk K H v s ∧ VsOk vs ss
  | _, _ => False
def KsOk {κ : Type} : List (κ × V) → List (κ × SV) → Prop
  | [], [] => True
  | v :: vs, s :: ss => v.1 = s.1 ∧ VOk K H v.2 s.2 ∧ KsOk vs ss
  | _, _ => False
def MOk (a : Addr) : MO → Prop
  | .lst xs => ∃ vs, H a = some (.lst vs) ∧ VsOk K H vs xs
  | .tup xs => ∃ vs, H a = some (.tup vs) ∧ VsOk K H vs xs
  | .dK ks => ∃ vs, H a = some (.dK vs) ∧ KsOk K H vs ks
  | .dT ks => ∃ vs, H a = some (.dT vs) ∧ KsOk K H vs ks
  | .ins C fs => ∃ dx vs, H a = some (.ins C dx vs) ∧ KsOk K H vs fs
  | .raw o => H a = some o
  | .deck cl m => ∃ s n : Int, 0 ≤ s ∧ s < 2147483647 ∧ 0 ≤ n ∧ n ≤ m ∧ H a = some (.dK (deckK cl s n))
  | .cells => ∃ cs : List Int, cs.length ≤ 63 ∧ H a = some (.lst (cs.map V.int))
  | .rL xs => ∃ vs, H a = some (.lst vs) ∧ VsOk K H vs xs
  | .rK ks => ∃ vs, H a = some (.dK vs) ∧ KsOk K H vs ks
  | .wins C fs => ∃ dx vs, H a = some (.ins C dx vs) ∧ KsOk K H vs fs
end
section
variable {K : PySem.W.Frag} {H H' : Hp}
theorem vok_int {v : V} {i : Int} (h : VOk K H v (.d (.int i))) : v = .int i := dp_int h.1
theorem vok_bl {v : V} {b : Bool} (h : VOk K H v (.d (.bool b))) : v = .bl b := dp_bl h.1
theorem vok_str {v : V} {x : Str} (h : VOk K H v (.d (.str x))) : v = .str x := dp_str h.1
theorem vok_non {v : V} (h : VOk K H v (.d .none)) : v = .non := dp_non h.1
theorem vok_m {v : V} {a : Addr} (h : VOk K H v (.m a)) : v = .ref a := h
theorem vok_tups (e : Tups H H') {v : V} {s : SV} (h : VOk K H v s) : VOk K H' v s := by
  cases s with
  | d x => exact ⟨td_dp x (td_tups e x h.2), td_tups e x h.2⟩
  | m a => exact h
theorem vok_same (e : Same H H') {v : V} {s : SV} (h : VOk K H v s) : VOk K H' v s := vok_tups (Same.tups e) h
theorem vsok_tups (e : Tups H H') : ∀ {vs : List V} {ss : List SV}, VsOk K H vs ss → VsOk K H' vs ss
  | [], [], _ => trivial
  | _ :: _, _ :: _, h => ⟨vok_tups e h.1, vsok_tups e h.2⟩
  | [], _ :: _, h => h.elim
  | _ :: _, [], h => h.elim
theorem ksok_tups {κ : Type} (e : Tups H H') : ∀ {vs : List (κ × V)} {ss : List (κ × SV)}, KsOk K H vs ss → KsOk K H' vs ss
  | [], [], _ => trivial
  | _ :: _, _ :: _, h => ⟨h.1, vok_tups e h.2.1, ksok_tups e h.2.2⟩
  | [], _ :: _, h => h.elim
  | _ :: _, [], h => h.elim
theorem vsok_len : ∀ {vs : List V} {ss : List SV}, VsOk K H vs ss → vs.length = ss.length
  | [], [], _ => rfl
  | _ :: _, _ :: _, h => by rw [List.length_cons, List.length_cons, vsok_len h.2]
  | [], _ :: _, h => h.elim
  | _ :: _, [], h => h.elim
theorem ksok_len {κ : Type} : ∀ {vs : List (κ × V)} {ss : List (κ × SV)}, KsOk K H vs ss → vs.length = ss.length
  | [], [], _ => rfl
  | _ :: _, _ :: _, h => by rw [List.length_cons, List.length_cons, ksok_len h.2.2]
  | [], _ :: _, h => h.elim
  | _ :: _, [], h => h.elim
theorem vsok_app : ∀ {vs ws : List V} {ss ts : List SV}, VsOk K H vs ss → VsOk K H ws ts → VsOk K H (vs ++ ws) (ss ++ ts)
  | [], _, [], _, _, b => b
  | _ :: _, _, _ :: _, _, h, b => ⟨h.1, vsok_app h.2 b⟩
  | [], _, _ :: _, _, h, _ => h.elim
  | _ :: _, _, [], _, h, _ => h.elim
theorem vsok_get : ∀ {vs : List V} {ss : List SV} {i : Nat} {v : V}, VsOk K H vs ss → vs[i]? = some v → ∃ s, ss[i]? = some s ∧ VOk K H v s
  | [], [], _, _, _, e => by simp at e
  | _ :: _, _ :: _, 0, _, h, e => by simp at e; subst e; exact ⟨_, rfl, h.1⟩
  | _ :: _, _ :: _, i + 1, v, h, e => by
    obtain ⟨s, h1, h2⟩ := vsok_get (i := i) (v := v) h.2 (by simpa using e)
    exact ⟨s, by simpa using h1, h2⟩
  | [], _ :: _, _, _, h, _ => h.elim
  | _ :: _, [], _, _, h, _ => h.elim
theorem vsok_getS : ∀ {vs : List V} {ss : List SV} {i : Nat} {s : SV}, VsOk K H vs ss → ss[i]? = some s → ∃ v, vs[i]? = some v ∧ VOk K H v s
  | [], [], _, _, _, e => by simp at e
  | _ :: _, _ :: _, 0, _, h, e => by simp at e; subst e; exact ⟨_, rfl, h.1⟩
  | _ :: _, _ :: _, i + 1, s, h, e => by
    obtain ⟨v, h1, h2⟩ := vsok_getS (i := i) (s := s) h.2 (by simpa using e)
    exact ⟨v, by simpa using h1, h2⟩
  | [], _ :: _, _, _, h, _ => h.elim
  | _ :: _, [], _, _, h, _ => h.elim
theorem vsok_dropLast : ∀ {vs : List V} {ss : List SV}, VsOk K H vs ss → VsOk K H vs.dropLast ss.dropLast
  | [], [], _ => trivial
  | [_], [_], _ => trivial
  | _ :: _ :: _, _ :: _ :: _, h => ⟨h.1, vsok_dropLast h.2⟩
  | [], _ :: _, h => h.elim
  | _ :: _, [], h => h.elim
  | [_], _ :: _ :: _, h => h.2.elim
  | _ :: _ :: _, [_], h => h.2.elim
theorem vok_td {v : V} {x : PyData} (h : Td H v x) : VOk K H v (.d x) := ⟨td_dp x h, h⟩
/-- items that are data -/
theorem vsok_dp : ∀ {vs : List V} {ds : List PyData}, VsOk K H vs (ds.map SV.d) → DpAll K H vs ds ∧ TdAll H vs ds
  | [], [], _ => ⟨.nil, trivial⟩
  | _ :: _, _ :: _, h => by
    obtain ⟨a, b⟩ := vsok_dp h.2
    exact ⟨.cons h.1.1 a, h.1.2, b⟩
  | [], _ :: _, h => h.elim
  | _ :: _, [], h => h.elim
theorem vsok_of : ∀ {vs : List V} {ds : List PyData}, TdAll H vs ds → VsOk K H vs (ds.map SV.d)
  | [], [], _ => trivial
  | _ :: _, _ :: _, h => ⟨vok_td h.1, vsok_of h.2⟩
  | [], _ :: _, h => h.elim
  | _ :: _, [], h => h.elim
theorem vok_tup {v : V} {ds : List PyData} (h : VOk K H v (.d (.tuple ds))) : ∃ a xs, v = .ref a ∧ H a = some (.tup xs) ∧ VsOk K H xs (ds.map SV.d) := by
  obtain ⟨a, xs, e, h1, h2⟩ := h.2
  exact ⟨a, xs, e, h1, vsok_of h2⟩
theorem tup_vok {a : Addr} {vs : List V} {ds : List PyData} (h : H a = some (.tup vs)) (o : VsOk K H vs (ds.map SV.d)) : VOk K H (.ref a) (.d (.tuple ds)) := vok_td ⟨a, vs, rfl, h, (vsok_dp o).2⟩
theorem vsok_ints : ∀ {vs : List V} {ns : List Int}, VsOk K H vs (ns.map fun n => SV.d (.int n)) → vs = ns.map V.int
  | [], [], _ => rfl
  | _ :: _, _ :: _, h => by rw [vok_int h.1, vsok_ints h.2]; rfl
  | [], _ :: _, h => h.elim
  | _ :: _, [], h => h.elim
theorem vsok_bools : ∀ {vs : List V} {ns : List Bool}, VsOk K H vs (ns.map fun n => SV.d (.bool n)) → vs = ns.map V.bl
  | [], [], _ => rfl
  | _ :: _, _ :: _, h => by rw [vok_bl h.1, vsok_bools h.2]; rfl
  | [], _ :: _, h => h.elim
  | _ :: _, [], h => h.elim
theorem ints_vsok : ∀ (ns : List Int), VsOk K H (ns.map V.int) (ns.map fun n => SV.d (.int n))
  | [] => trivial
  | n :: ns => ⟨⟨.int n, rfl⟩, ints_vsok ns⟩
theorem mok_keep (e : Tups H H') {a : Addr} {o : MO} (h : MOk K H a o) (k : ∀ u, H a = some u → H' a = some u) : MOk K H' a o := by
  cases o with
  | lst xs => obtain ⟨vs, h1, h2⟩ := h; exact ⟨vs, k _ h1, vsok_tups e h2⟩
  | tup xs => obtain ⟨vs, h1, h2⟩ := h; exact ⟨vs, k _ h1, vsok_tups e h2⟩
  | dK ks => obtain ⟨vs, h1, h2⟩ := h; exact ⟨vs, k _ h1, ksok_tups e h2⟩
  | dT ks => obtain ⟨vs, h1, h2⟩ := h; exact ⟨vs, k _ h1, ksok_tups e h2⟩
  | ins C fs => obtain ⟨dx, vs, h1, h2⟩ := h; exact ⟨dx, vs, k _ h1, ksok_tups e h2⟩
  | raw o => exact k _ h
  | deck cl m => obtain ⟨s, n, a, b, c, d, e⟩ := h; exact ⟨s, n, a, b, c, d, k _ e⟩
  | cells => obtain ⟨cs, a, e⟩ := h; exact ⟨cs, a, k _ e⟩
  | rL xs => obtain ⟨vs, h1, h2⟩ := h; exact ⟨vs, k _ h1, vsok_tups e h2⟩
  | rK ks => obtain ⟨vs, h1, h2⟩ := h; exact ⟨vs, k _ h1, ksok_tups e h2⟩
  | wins C fs => obtain ⟨dx, vs, h1, h2⟩ := h; exact ⟨dx, vs, k _ h1, ksok_tups e h2⟩
theorem mok_some {a : Addr} {o : MO} (h : MOk K H a o) : ∃ u, H a = some u := by
  cases o with
  | lst xs => obtain ⟨vs, h1, h2⟩ := h; exact ⟨_, h1⟩
  | tup xs => obtain ⟨vs, h1, h2⟩ := h; exact ⟨_, h1⟩
  | dK ks => obtain ⟨vs, h1, h2⟩ := h; exact ⟨_, h1⟩
  | dT ks => obtain ⟨vs, h1, h2⟩ := h; exact ⟨_, h1⟩
  | ins C fs => obtain ⟨dx, vs, h1, h2⟩ := h; exact ⟨_, h1⟩
  | raw o => exact ⟨_, h⟩
  | deck cl m => obtain ⟨s, n, a, b, c, d, e⟩ := h; exact ⟨_, e⟩
  | cells => obtain ⟨cs, a, e⟩ := h; exact ⟨_, e⟩
  | rL xs => obtain ⟨vs, h1, h2⟩ := h; exact ⟨_, h1⟩
  | rK ks => obtain ⟨vs, h1, h2⟩ := h; exact ⟨_, h1⟩
  | wins C fs => obtain ⟨dx, vs, h1, h2⟩ := h; exact ⟨_, h1⟩
end

/-- B: what stood at the entry; X: what of it may change; T: whose tuples stand -/
structure Sat (K : PySem.W.Frag) (B : Hp) (X : List Addr) (T : Hp) (S : Sl) (M : Ml) (σ : St) (H : Hp) : Prop where
  len : σ.length = S.length
  sl : ∀ (i : Nat) s, S[i]? = some (some s) → ∃ v, σ[i]? = some (some v) ∧ VOk K H v s
  mem : ∀ p ∈ M, MOk K H p.1 p.2
  nod : (M.map (·.1)).Nodup
  own : ∀ p ∈ M, p.2.wr = true → B p.1 = none ∨ p.1 ∈ X
  old : ∀ b o, B b = some o → b ∉ X → H b = some o
  kp : ∀ a ∈ X, ∃ o, H a = some o
  tp : Tups T H
section
variable {K : PySem.W.Frag} {B : Hp} {X : List Addr} {T : Hp} {S : Sl} {M : Ml} {σ : St} {H H' : Hp}
theorem Sat.same (a : Sat K B X T S M σ H) (e : Same H H') : Sat K B X T S M σ H' where
  len := a.len
  sl := fun i s h => let ⟨v, h1, h2⟩ := a.sl i s h; ⟨v, h1, vok_same e h2⟩
  mem := fun p hp => mok_keep (Same.tups e) (a.mem p hp) fun u h => e _ _ h
  nod := a.nod
  own := a.own
  old := fun b o h n => e _ _ (a.old b o h n)
  kp := fun x hx => let ⟨o, h⟩ := a.kp x hx; ⟨o, e _ _ h⟩
  tp := a.tp.trans (Same.tups e)
theorem Sat.fresh (a : Sat K B X T S M σ H) {p : Addr} (h : H p = none) : B p = none ∧ p ∉ X ∧ p ∉ M.map (·.1) := by
  have hx : p ∉ X := fun z => by
    obtain ⟨o, e⟩ := a.kp p z
    rw [h] at e; cases e
  refine ⟨?_, hx, fun z => ?_⟩
  · cases q : B p with
    | none => rfl
    | some o =>
      have e := a.old p o q hx
      rw [h] at e; cases e
  · obtain ⟨q, hq, e⟩ := List.mem_map.mp z
    obtain ⟨u, hu⟩ := mok_some (a.mem q hq)
    rw [e, h] at hu; cases hu
/-- a slot is set -/
theorem Sat.set (a : Sat K B X T S M σ H) {v : V} {s : SV} (h : VOk K H v s) (j : Nat) : Sat K B X T (S.set j (some s)) M (σ.set j (some v)) H where
  len := by rw [List.length_set, List.length_set, a.len]
  sl := fun i s' hs => by
    by_cases e : j = i
    · subst e
      by_cases hj : j < S.length
      · rw [List.getElem?_set_self hj] at hs
        have e2 : s = s' := Option.some.inj (Option.some.inj hs)
        subst e2
        exact ⟨v, List.getElem?_set_self (by rw [a.len]; exact hj), h⟩
      · rw [List.getElem?_eq_none (by rw [List.length_set]; omega)] at hs; cases hs
    · rw [List.getElem?_set_ne e] at hs
      obtain ⟨w, h1, h2⟩ := a.sl i s' hs
      exact ⟨w, by rw [List.getElem?_set_ne e]; exact h1, h2⟩
  mem := a.mem
  nod := a.nod
  own := a.own
  old := a.old
  kp := a.kp
  tp := a.tp
/-- forgotten slots, forgotten objects -/
theorem Sat.weak (a : Sat K B X T S M σ H) {S' : Sl} {M' : Ml} (hl : S'.length = S.length) (hs : ∀ (i : Nat) s, S'[i]? = some (some s) → S[i]? = some (some s)) (hm : M'.Sublist M) : Sat K B X T S' M' σ H where
  len := by rw [a.len, hl]
  sl := fun i s h => a.sl i s (hs i s h)
  mem := fun p hp => a.mem p (hm.subset hp)
  nod := (hm.map _).nodup a.nod
  own := fun p hp => a.own p (hm.subset hp)
  old := a.old
  kp := a.kp
  tp := a.tp
theorem Sat.drop (a : Sat K B X T S M σ H) {M' : Ml} (hm : M'.Sublist M) : Sat K B X T S M' σ H := a.weak rfl (fun _ _ h => h) hm
/-- a new object -/
theorem Sat.new (a : Sat K B X T S M σ H) {p : Addr} {o : HO} {mo : MO} (h : H p = none) (ok : MOk K (upd H p o) p mo) : Sat K B X T S ((p, mo) :: M) σ (upd H p o) := by
  have b := a.same (same_new (o := o) h)
  refine ⟨b.len, b.sl, fun q hq => ?_, ?_, fun q hq hw => ?_, b.old, b.kp, b.tp⟩
  · rcases List.mem_cons.mp hq with e | e
    · subst e; exact ok
    · exact b.mem q e
  · rw [List.map_cons]
    exact List.nodup_cons.mpr ⟨(a.fresh h).2.2, a.nod⟩
  · rcases List.mem_cons.mp hq with e | e
    · subst e; exact .inl (a.fresh h).1
    · exact a.own q e hw
/-- an object that may be written is written -/
theorem Sat.wr (a : Sat K B X T S M σ H) {n : Nat} {l : Addr} {o : HO} {mo mo' : MO} (hn : M[n]? = some (l, mo)) (hw' : mo.wr = true) (nt : ∀ u, H l = some u → (∀ xs, u ≠ .tup xs) ∧ ∀ f xs, u ≠ .frz f (.tup xs))
    (ok : MOk K (upd H l o) l mo') : Sat K B X T S (M.set n (l, mo')) σ (upd H l o) := by
  have hmem : (l, mo) ∈ M := List.mem_of_getElem? hn
  have hw : B l = none ∨ l ∈ X := a.own _ hmem hw'
  obtain ⟨u, hu⟩ := mok_some (a.mem _ hmem)
  have tp : Tups H (upd H l o) := tups_wr hu (nt u hu).1 (nt u hu).2
  have hlt : n < M.length := (List.getElem?_eq_some_iff.mp hn).1
  refine ⟨a.len, fun i s h => let ⟨v, h1, h2⟩ := a.sl i s h; ⟨v, h1, vok_tups tp h2⟩, fun q hq => ?_, ?_, fun q hq hwq => ?_, fun b o' h nx => ?_, fun x hx => ?_, a.tp.trans tp⟩
  · obtain ⟨i, hi⟩ := List.mem_iff_getElem?.mp hq
    by_cases e : n = i
    · subst e
      rw [List.getElem?_set_self hlt] at hi
      have e2 := Option.some.inj hi
      subst e2
      exact ok
    · rw [List.getElem?_set_ne e] at hi
      have hqm : q ∈ M := List.mem_of_getElem? hi
      refine mok_keep tp (a.mem q hqm) fun u' h' => ?_
      have ne : q.1 ≠ l := fun z => by
        refine e (nd_ix a.nod (i := n) (j := i) (x := l) ?_ ?_)
        · rw [List.getElem?_map, hn] <;> rfl
        · rw [List.getElem?_map, hi]
          show some q.1 = some l
          rw [z]
      rw [upd_ne ne]
      exact h'
  · have e : (M.set n (l, mo')).map (·.1) = M.map (·.1) := by
      apply List.ext_getElem?
      intro i
      rw [List.getElem?_map, List.getElem?_map]
      by_cases e : n = i
      · subst e
        rw [List.getElem?_set_self hlt, hn] <;> rfl
      · rw [List.getElem?_set_ne e]
    rw [e]
    exact a.nod
  · obtain ⟨i, hi⟩ := List.mem_iff_getElem?.mp hq
    by_cases e : n = i
    · subst e
      rw [List.getElem?_set_self hlt] at hi
      have e2 := Option.some.inj hi
      subst e2
      exact hw
    · rw [List.getElem?_set_ne e] at hi
      exact a.own q (List.mem_of_getElem? hi) hwq
  · have ne : b ≠ l := fun z => by
      subst z
      rcases hw with w | w
      · rw [h] at w; cases w
      · exact nx w
    rw [upd_ne ne]
    exact a.old b o' h nx
  · by_cases e : x = l
    · subst e; exact ⟨o, upd_same⟩
    · obtain ⟨u', h'⟩ := a.kp x hx
      exact ⟨u', by rw [upd_ne e]; exact h'⟩
/-- another base for the tuples -/
theorem Sat.retup (a : Sat K B X T S M σ H) {T' : Hp} (h : Tups T' H) : Sat K B X T' S M σ H := ⟨a.len, a.sl, a.mem, a.nod, a.own, a.old, a.kp, h⟩
theorem Sat.at (a : Sat K B X T S M σ H) {p : Addr} {o : MO} (h : (p, o) ∈ M) : MOk K H p o := a.mem _ h
theorem Sat.perm (a : Sat K B X T S M σ H) {M' : Ml} (h : M'.Perm M) : Sat K B X T S M' σ H :=
  ⟨a.len, a.sl, fun p hp => a.mem p (h.mem_iff.mp hp), ((h.map (·.1)).nodup_iff).mpr a.nod, fun p hp => a.own p (h.mem_iff.mp hp), a.old, a.kp, a.tp⟩
end

/-! ### what evaluates to what -/
section
variable (K : PySem.W.Frag)
/-- to a value, nothing changes -/
def Ev (te : TE) (S : Sl) (M : Ml) (s : SV) : Prop := ∀ B X T σ H, Sat K B X T S M σ H → ∀ Q : VK, (∀ v H', Same H H' → Sat K B X T S M σ H' → VOk K H' v s → Q v H') → te σ H Q
/-- to a new object -/
def EvN (te : TE) (S : Sl) (M : Ml) (o : MO) : Prop := ∀ B X T σ H, Sat K B X T S M σ H → ∀ Q : VK, (∀ p H', Same H H' → H p = none → Sat K B X T S ((p, o) :: M) σ H' → Q (.ref p) H') → te σ H Q
def EvT (tt : TT) (S : Sl) (M : Ml) (b : Bool) : Prop := ∀ B X T σ H, Sat K B X T S M σ H → ∀ Q : Bool → Hp → Prop, (∀ H', Same H H' → Sat K B X T S M σ H' → Q b H') → tt σ H Q
def EvA (ta : TA) (S : Sl) (M : Ml) (ss : List SV) : Prop := ∀ B X T σ H, Sat K B X T S M σ H → ∀ Q : List V → Hp → Prop, (∀ vs H', Same H H' → Sat K B X T S M σ H' → VsOk K H' vs ss → Q vs H') → ta σ H Q
/-- an operation on values -/
def RV (r : R2) (M : Ml) (x y z : SV) : Prop := ∀ B X T S σ H, Sat K B X T S M σ H → ∀ v w, VOk K H v x → VOk K H w y → ∀ Q : VK, (∀ u H', Same H H' → VOk K H' u z → Q u H') → r v w H Q
def RVN (r : R2) (M : Ml) (x y : SV) (o : MO) : Prop := ∀ B X T S σ H, Sat K B X T S M σ H → ∀ v w, VOk K H v x → VOk K H w y → ∀ Q : VK, (∀ p H', Same H H' → H p = none → Sat K B X T S ((p, o) :: M) σ H' → Q (.ref p) H') → r v w H Q
def RC (r : List V → Hp → VK → Prop) (M : Ml) (xs : List SV) (z : SV) : Prop := ∀ B X T S σ H, Sat K B X T S M σ H → ∀ vs, VsOk K H vs xs → ∀ Q : VK, (∀ u H', Same H H' → VOk K H' u z → Q u H') → r vs H Q
def RCN (r : List V → Hp → VK → Prop) (M : Ml) (xs : List SV) (o : MO) : Prop := ∀ B X T S σ H, Sat K B X T S M σ H → ∀ vs, VsOk K H vs xs → ∀ Q : VK, (∀ p H', Same H H' → H p = none → Sat K B X T S ((p, o) :: M) σ H' → Q (.ref p) H') → r vs H Q
end
section
variable {K : PySem.W.Frag} {S : Sl} {M : Ml} {ta tb tc te : TE} {tt tu : TT} {x y z s : SV} {o : MO} {r : R2} {d : PyData}
theorem ev_var {i : Nat} (h : S[i]? = some (some s)) : Ev K (tVar i) S M s := fun B X T σ H st Q q => by
  obtain ⟨v, h1, h2⟩ := st.sl i s h
  exact ⟨v, h1, q v H (Same.refl H) st h2⟩
theorem ev_int {i : Int} : Ev K (tC (.int i)) S M (.d (.int i)) := fun _ _ _ _ H st _ q => q _ H (Same.refl H) st ⟨.int i, rfl⟩
theorem ev_bl {b : Bool} : Ev K (tC (.bl b)) S M (.d (.bool b)) := fun _ _ _ _ H st _ q => q _ H (Same.refl H) st ⟨.bl b, rfl⟩
theorem ev_str {b : Str} : Ev K (tC (.str b)) S M (.d (.str b)) := fun _ _ _ _ H st _ q => q _ H (Same.refl H) st ⟨.str b, rfl⟩
theorem ev_non : Ev K (tC .non) S M (.d .none) := fun _ _ _ _ H st _ q => q _ H (Same.refl H) st ⟨.non, rfl⟩
theorem ev_op (ha : Ev K ta S M x) (hb : Ev K tb S M y) (hr : RV K r M x y z) : Ev K (tOp r ta tb) S M z := fun B X T σ H st Q q =>
  ha B X T σ H st _ fun v H1 e1 st1 o1 => hb B X T σ H1 st1 _ fun w H2 e2 st2 o2 => hr B X T S σ H2 st2 v w (vok_same e2 o1) o2 Q fun u H3 e3 o3 => q u H3 (e1.trans (e2.trans e3)) (st2.same e3) o3
theorem evn_op (ha : Ev K ta S M x) (hb : Ev K tb S M y) (hr : RVN K r M x y o) : EvN K (tOp r ta tb) S M o := fun B X T σ H st Q q =>
  ha B X T σ H st _ fun v H1 e1 st1 o1 => hb B X T σ H1 st1 _ fun w H2 e2 st2 o2 => hr B X T S σ H2 st2 v w (vok_same e2 o1) o2 Q fun p H3 e3 f3 s3 => by
    refine q p H3 (e1.trans (e2.trans e3)) ?_ s3
    cases hh : H p with
    | none => rfl
    | some u =>
      have := e2 _ _ (e1 _ _ hh)
      rw [f3] at this; cases this
/-- forget a new object behind it -/
theorem Sat.tail {B : Hp} {X : List Addr} {T : Hp} {σ : St} {H : Hp} {p : Addr × MO} (a : Sat K B X T S (p :: M) σ H) : Sat K B X T S M σ H := a.drop (List.sublist_cons_self _ _)
theorem free_back {H H' : Hp} {p : Addr} (e : Same H H') (h : H' p = none) : H p = none := by
  cases q : H p with
  | none => rfl
  | some o =>
    have := e _ _ q
    rw [h] at this; cases this
/-- the second operand a new object -/
theorem ev_opN {o : MO} (ha : Ev K ta S M x) (hb : EvN K tb S M o) (hr : ∀ p, RV K r ((p, o) :: M) x (.m p) z) : Ev K (tOp r ta tb) S M z := fun B X T σ H st Q q =>
  ha B X T σ H st _ fun v H1 e1 st1 o1 => hb B X T σ H1 st1 _ fun p H2 e2 f2 st2 => hr p B X T S σ H2 st2 v (.ref p) (vok_same e2 o1) rfl Q fun u H3 e3 o3 => q u H3 (e1.trans (e2.trans e3)) (st2.tail.same e3) o3
theorem ev_opN1 {o : MO} (ha : EvN K ta S M o) (hb : ∀ p, Ev K tb S ((p, o) :: M) y) (hr : ∀ p, RV K r ((p, o) :: M) (.m p) y z) : Ev K (tOp r ta tb) S M z := fun B X T σ H st Q q =>
  ha B X T σ H st _ fun p H1 e1 f1 st1 => hb p B X T σ H1 st1 _ fun w H2 e2 st2 o2 => hr p B X T S σ H2 st2 (.ref p) w rfl o2 Q fun u H3 e3 o3 => q u H3 (e1.trans (e2.trans e3)) (st2.tail.same e3) o3
theorem ev_opNN {o o' : MO} (ha : EvN K ta S M o) (hb : ∀ p, EvN K tb S ((p, o) :: M) o') (hr : ∀ p p', RV K r ((p', o') :: (p, o) :: M) (.m p) (.m p') z) : Ev K (tOp r ta tb) S M z := fun B X T σ H st Q q =>
  ha B X T σ H st _ fun p H1 e1 f1 st1 => hb p B X T σ H1 st1 _ fun p' H2 e2 f2 st2 => hr p p' B X T S σ H2 st2 (.ref p) (.ref p') rfl rfl Q fun u H3 e3 o3 => q u H3 (e1.trans (e2.trans e3)) (st2.tail.tail.same e3) o3
theorem evn_opN {o o' : MO} (ha : Ev K ta S M x) (hb : EvN K tb S M o) (hr : ∀ p, RVN K r ((p, o) :: M) x (.m p) o') : EvN K (tOp r ta tb) S M o' := fun B X T σ H st Q q =>
  ha B X T σ H st _ fun v H1 e1 st1 o1 => hb B X T σ H1 st1 _ fun p H2 e2 f2 st2 => hr p B X T S σ H2 st2 v (.ref p) (vok_same e2 o1) rfl Q fun p' H3 e3 f3 s3 =>
    q p' H3 (e1.trans (e2.trans e3)) (free_back (e1.trans e2) f3) (s3.drop (List.Sublist.cons_cons _ (List.sublist_cons_self _ _)))
theorem ev_un {g : Int → V} {g' : Int → SV} {i : Int} (ha : Ev K ta S M (.d (.int i))) (hg : ∀ H, VOk K H (g i) (g' i)) : Ev K (tUn (rU g) ta) S M (g' i) := fun B X T σ H st Q q =>
  ha B X T σ H st _ fun v H1 e1 st1 o1 => ⟨i, vok_int o1, q _ H1 e1 st1 (hg H1)⟩
/-! operations -/
theorem rv_I0 {g : Int → Int → V} {i j : Int} (hg : ∀ H, VOk K H (g i j) z) : RV K (rI0 g) M (.d (.int i)) (.d (.int j)) z := fun B X T S σ H st v w hv hw Q q => by
  rw [vok_int hv, vok_int hw]
  exact ⟨i, j, rfl, rfl, q _ H (Same.refl H) (hg H)⟩
theorem rv_I {C : Int → Int → Prop} {g : Int → Int → V} {i j : Int} (hc : C i j) (hg : ∀ H, VOk K H (g i j) z) : RV K (rI C g) M (.d (.int i)) (.d (.int j)) z := fun B X T S σ H st v w hv hw Q q => by
  rw [vok_int hv, vok_int hw]
  exact ⟨i, j, rfl, rfl, hc, q _ H (Same.refl H) (hg H)⟩
theorem vint {H : Hp} (i : Int) : VOk K H (.int i) (.d (.int i)) := ⟨.int i, rfl⟩
theorem vbl {H : Hp} (i : Bool) : VOk K H (.bl i) (.d (.bool i)) := ⟨.bl i, rfl⟩
theorem vstr {H : Hp} (i : Str) : VOk K H (.str i) (.d (.str i)) := ⟨.str i, rfl⟩
/-- scalars as values -/
def valOf : PyData → V
  | .none => .non
  | .bool b => .bl b
  | .int i => .int i
  | .str x => .str x
  | _ => .non
def isScal : PyData → Bool
  | .none => true
  | .bool _ => true
  | .int _ => true
  | .str _ => true
  | _ => false
theorem vok_scal {H : Hp} {v : V} (h : VOk K H v (.d d)) (hs : isScal d = true) : v = valOf d := by
  cases d with
  | none => exact vok_non h
  | bool b => exact vok_bl h
  | int i => exact vok_int h
  | str x => exact vok_str h
  | list _ => cases hs
  | tuple _ => cases hs
  | dict _ => cases hs
theorem rv_eq {d e : PyData} {b : Bool} (h1 : isScal d = true) (h2 : isScal e = true) (hs : scal (valOf d) (valOf e) = true) (hb : decide (valOf d = valOf e) = b) : RV K rEq M (.d d) (.d e) (.d (.bool b)) := fun B X T S σ H st v w hv hw Q q => by
  rw [vok_scal hv h1, vok_scal hw h2]
  exact ⟨hs, by rw [hb]; exact q _ H (Same.refl H) (vbl b)⟩
theorem rv_ne {d e : PyData} {b : Bool} (h1 : isScal d = true) (h2 : isScal e = true) (hs : scal (valOf d) (valOf e) = true) (hb : (!decide (valOf d = valOf e)) = b) : RV K rNe M (.d d) (.d e) (.d (.bool b)) := fun B X T S σ H st v w hv hw Q q => by
  rw [vok_scal hv h1, vok_scal hw h2]
  exact ⟨hs, by rw [hb]; exact q _ H (Same.refl H) (vbl b)⟩
theorem valint {i j : Int} : decide (V.int i = V.int j) = decide (i = j) := by
  by_cases h : i = j
  · subst h; simp
  · simp [h]
theorem rv_eqI {i j : Int} : RV K rEq M (.d (.int i)) (.d (.int j)) (.d (.bool (decide (i = j)))) := rv_eq rfl rfl rfl valint
theorem rv_neI {i j : Int} : RV K rNe M (.d (.int i)) (.d (.int j)) (.d (.bool (!decide (i = j)))) := rv_ne rfl rfl rfl (by
  show (!decide (V.int i = V.int j)) = _
  rw [valint])
theorem valstr {i j : Str} : decide (V.str i = V.str j) = decide (i = j) := by
  by_cases h : i = j
  · subst h; simp
  · simp [h]
theorem rv_eqS {i j : Str} : RV K rEq M (.d (.str i)) (.d (.str j)) (.d (.bool (decide (i = j)))) := rv_eq rfl rfl rfl valstr
theorem rv_neS {i j : Str} : RV K rNe M (.d (.str i)) (.d (.str j)) (.d (.bool (!decide (i = j)))) := rv_ne rfl rfl rfl (by
  show (!decide (V.str i = V.str j)) = _
  rw [valstr])
/-- as data in the heap: flat data, or a list of flat data -/
def AsD (M : Ml) : SV → PyData → Prop
  | .d x, e => x = e
  | .m a, e => ∃ ds, e = .list ds ∧ (a, MO.lst (ds.map SV.d)) ∈ M
theorem asD_dp {B : Hp} {X : List Addr} {T : Hp} {σ : St} {H : Hp} (st : Sat K B X T S M σ H) {v : V} {e : PyData} (h : VOk K H v s) (a : AsD M s e) : Dp K H v e := by
  cases s with
  | d x => cases a; exact h.1
  | m p =>
    obtain ⟨ds, rfl, hm⟩ := a
    obtain ⟨vs, h1, h2⟩ := st.at hm
    have hv : v = .ref p := h
    subst hv
    exact dp_lstN h1 (vsok_dp h2).1
theorem rv_eqD {d e : PyData} {b : Bool} (h1 : AsD M x d) (h2 : AsD M y e) (s1 : SeqAt.shaped d = true) (s2 : SeqAt.shaped e = true) (hb : PyData.eqv d e = b) : RV K (rEqD K) M x y (.d (.bool b)) := fun B X T S σ H st v w hv hw Q q =>
  ⟨d, e, asD_dp st hv h1, asD_dp st hw h2, s1, s2, by rw [hb]; exact q _ H (Same.refl H) (vbl b)⟩
theorem rv_neD {d e : PyData} {b : Bool} (h1 : AsD M x d) (h2 : AsD M y e) (s1 : SeqAt.shaped d = true) (s2 : SeqAt.shaped e = true) (hb : (!PyData.eqv d e) = b) : RV K (rNeD K) M x y (.d (.bool b)) := fun B X T S σ H st v w hv hw Q q =>
  ⟨d, e, asD_dp st hv h1, asD_dp st hw h2, s1, s2, by rw [hb]; exact q _ H (Same.refl H) (vbl b)⟩
/-- an item of a tuple, of a list -/
theorem rv_ixT {ds : List PyData} {i : Int} {d : PyData} (h : atI ds i = some d) : RV K (rIxT K) M (.d (.tuple ds)) (.d (.int i)) (.d d) := fun B X T S σ H st v w hv hw Q q => by
  obtain ⟨a, xs, rfl, h1, h2⟩ := vok_tup hv
  rw [vok_int hw]
  have hlen := vsok_len h2
  rw [List.length_map] at hlen
  unfold atI at h
  cases hj : ixN ds.length i with
  | none => rw [hj] at h; cases h
  | some j =>
    rw [hj] at h
    have hd : ds[j]? = some d := h
    obtain ⟨u, g1, g2⟩ := vsok_getS (i := j) (s := .d d) h2 (by rw [List.getElem?_map, hd] <;> rfl)
    refine ⟨a, xs, i, u, rfl, rfl, .inl (.inl h1), ?_, q u H (Same.refl H) g2⟩
    unfold atI
    rw [hlen, hj]
    exact g1
theorem rv_ixL {xs : List SV} {a : Addr} {i : Int} (hm : (a, MO.lst xs) ∈ M) (h : atI xs i = some z) : RV K (rIxL K) M (.m a) (.d (.int i)) z := fun B X T S σ H st v w hv hw Q q => by
  obtain ⟨vs, h1, h2⟩ := st.at hm
  have hv : v = .ref a := hv
  subst hv
  rw [vok_int hw]
  have hlen := vsok_len h2
  unfold atI at h
  cases hj : ixN xs.length i with
  | none => rw [hj] at h; cases h
  | some j =>
    rw [hj] at h
    obtain ⟨u, g1, g2⟩ := vsok_getS h2 (show xs[j]? = some z from h)
    refine ⟨a, vs, i, u, rfl, rfl, .inl (.inl h1), ?_, q u H (Same.refl H) g2⟩
    unfold atI
    rw [hlen, hj]
    exact g1
/-- a new list of two -/
theorem rvn_cat {xs ys : List SV} {a b : Addr} (h1 : (a, MO.lst xs) ∈ M) (h2 : (b, MO.lst ys) ∈ M) (hl : xs.length + ys.length ≤ 100000) : RVN K rCat M (.m a) (.m b) (.lst (xs ++ ys)) := fun B X T S σ H st v w hv hw Q q => by
  obtain ⟨vs, g1, o1⟩ := st.at h1
  obtain ⟨ws, g2, o2⟩ := st.at h2
  have hv : v = .ref a := hv
  have hw : w = .ref b := hw
  subst hv hw
  refine ⟨a, b, vs, ws, rfl, rfl, g1, g2, by rw [vsok_len o1, vsok_len o2]; exact sz hl, fun p hp => ?_⟩
  have e : Same H (upd H p (.lst (vs ++ ws))) := same_new hp
  exact q p _ e hp (st.new hp ⟨_, upd_same, vsok_tups (Same.tups e) (vsok_app o1 o2)⟩)
/-! tests -/
theorem et_test {b : Bool} (h : Ev K te S M (.d (.bool b))) : EvT K (tTest te) S M b := fun B X T σ H st Q q => h B X T σ H st _ fun v H1 e1 st1 o1 => ⟨b, vok_bl o1, q H1 e1 st1⟩
theorem et_B {b : Bool} (h : Ev K te S M (.d (.bool b))) : EvT K (tB te) S M b := fun B X T σ H st Q q => h B X T σ H st _ fun v H1 e1 st1 o1 => ⟨b, vok_bl o1, q H1 e1 st1⟩
theorem et_not {b : Bool} (h : EvT K tt S M b) : EvT K (tNot tt) S M (!b) := fun B X T σ H st Q q => h B X T σ H st _ fun H1 e1 st1 => q H1 e1 st1
theorem et_and {a b : Bool} (h1 : EvT K tt S M a) (h2 : a = true → EvT K tu S M b) : EvT K (tAnd tt tu) S M (a && b) := fun B X T σ H st Q q => h1 B X T σ H st _ fun H1 e1 st1 => by
  cases a with
  | true => exact h2 rfl B X T σ H1 st1 Q fun H2 e2 st2 => q H2 (e1.trans e2) st2
  | false => exact q H1 e1 st1
theorem et_or {a b : Bool} (h1 : EvT K tt S M a) (h2 : a = false → EvT K tu S M b) : EvT K (tOr tt tu) S M (a || b) := fun B X T σ H st Q q => h1 B X T σ H st _ fun H1 e1 st1 => by
  cases a with
  | false => exact h2 rfl B X T σ H1 st1 Q fun H2 e2 st2 => q H2 (e1.trans e2) st2
  | true => exact q H1 e1 st1
theorem et_yes : EvT K tYes S M true := fun B X T σ H st Q q => q H (Same.refl H) st
theorem et_is {a b : Bool} (h : EvT K tt S M a) (e : a = b) : EvT K tt S M b := e ▸ h
theorem ev_is {x y : SV} (h : Ev K te S M x) (e : x = y) : Ev K te S M y := e ▸ h
theorem ev_andV {a b : Bool} (h1 : Ev K ta S M (.d (.bool a))) (h2 : a = true → Ev K tb S M (.d (.bool b))) : Ev K (tAndV ta tb) S M (.d (.bool (a && b))) := fun B X T σ H st Q q => h1 B X T σ H st _ fun v H1 e1 st1 o1 => ⟨a, vok_bl o1, by
  cases a with
  | true => exact h2 rfl B X T σ H1 st1 Q fun v H2 e2 st2 o2 => q v H2 (e1.trans e2) st2 o2
  | false => exact q _ H1 e1 st1 (vbl false)⟩
theorem ev_orV {a b : Bool} (h1 : Ev K ta S M (.d (.bool a))) (h2 : a = false → Ev K tb S M (.d (.bool b))) : Ev K (tOrV ta tb) S M (.d (.bool (a || b))) := fun B X T σ H st Q q => h1 B X T σ H st _ fun v H1 e1 st1 o1 => ⟨a, vok_bl o1, by
  cases a with
  | false => exact h2 rfl B X T σ H1 st1 Q fun v H2 e2 st2 o2 => q v H2 (e1.trans e2) st2 o2
  | true => exact q _ H1 e1 st1 (vbl true)⟩
theorem ev_notV {a : Bool} (h1 : Ev K ta S M (.d (.bool a))) : Ev K (tNotV ta) S M (.d (.bool (!a))) := fun B X T σ H st Q q => h1 B X T σ H st _ fun v H1 e1 st1 o1 => ⟨a, vok_bl o1, q _ H1 e1 st1 (vbl _)⟩
theorem ev_if {b : Bool} (h : EvT K tt S M b) (h1 : b = true → Ev K ta S M s) (h2 : b = false → Ev K tb S M s) : Ev K (tIf tt ta tb) S M s := fun B X T σ H st Q q => h B X T σ H st _ fun H1 e1 st1 => by
  cases b with
  | true => exact h1 rfl B X T σ H1 st1 Q fun v H2 e2 st2 o2 => q v H2 (e1.trans e2) st2 o2
  | false => exact h2 rfl B X T σ H1 st1 Q fun v H2 e2 st2 o2 => q v H2 (e1.trans e2) st2 o2
/-! arguments, displays -/
theorem ea_nil : EvA K tNil S M [] := fun B X T σ H st Q q => q [] H (Same.refl H) st trivial
theorem ea_cons {tr : TA} {ss : List SV} (h : Ev K ta S M s) (hr : EvA K tr S M ss) : EvA K (tCons ta tr) S M (s :: ss) := fun B X T σ H st Q q =>
  h B X T σ H st _ fun v H1 e1 st1 o1 => hr B X T σ H1 st1 _ fun vs H2 e2 st2 o2 => q (v :: vs) H2 (e1.trans e2) st2 ⟨vok_same e2 o1, o2⟩
theorem evn_lst {tas : TA} {ss : List SV} (h : EvA K tas S M ss) (hl : ss.length ≤ 100000) : EvN K (tLst tas) S M (.lst ss) := fun B X T σ H st Q q =>
  h B X T σ H st _ fun vs H1 e1 st1 o1 => ⟨by rw [vsok_len o1]; exact sz hl, fun p hp => by
    have e : Same H1 (upd H1 p (.lst vs)) := same_new hp
    exact q p _ (e1.trans e) (free_back e1 hp) (st1.new hp ⟨vs, upd_same, vsok_tups (Same.tups e) o1⟩)⟩
theorem ev_tup {tas : TA} {ds : List PyData} (h : EvA K tas S M (ds.map SV.d)) (hl : ds.length ≤ 100000) : Ev K (tTup tas) S M (.d (.tuple ds)) := fun B X T σ H st Q q =>
  h B X T σ H st _ fun vs H1 e1 st1 o1 => ⟨by rw [vsok_len o1, List.length_map]; exact sz hl, fun p hp => by
    have e : Same H1 (upd H1 p (.tup vs)) := same_new hp
    exact q _ _ (e1.trans e) (st1.same e) (tup_vok upd_same (vsok_tups (Same.tups e) o1))⟩
theorem evn_tup {tas : TA} {ss : List SV} (h : EvA K tas S M ss) (hl : ss.length ≤ 100000) : EvN K (tTup tas) S M (.tup ss) := fun B X T σ H st Q q =>
  h B X T σ H st _ fun vs H1 e1 st1 o1 => ⟨by rw [vsok_len o1]; exact sz hl, fun p hp => by
    have e : Same H1 (upd H1 p (.tup vs)) := same_new hp
    exact q p _ (e1.trans e) (free_back e1 hp) (st1.new hp ⟨vs, upd_same, vsok_tups (Same.tups e) o1⟩)⟩
theorem ev_cb {tas : TA} {ss : List SV} {rc : List V → Hp → VK → Prop} (h : EvA K tas S M ss) (hr : RC K rc M ss z) : Ev K (tCB rc tas) S M z := fun B X T σ H st Q q =>
  h B X T σ H st _ fun vs H1 e1 st1 o1 => hr B X T S σ H1 st1 vs o1 Q fun u H2 e2 o2 => q u H2 (e1.trans e2) (st1.same e2) o2
theorem evn_cb {tas : TA} {ss : List SV} {rc : List V → Hp → VK → Prop} (h : EvA K tas S M ss) (hr : RCN K rc M ss o) : EvN K (tCB rc tas) S M o := fun B X T σ H st Q q =>
  h B X T σ H st _ fun vs H1 e1 st1 o1 => hr B X T S σ H1 st1 vs o1 Q fun p H2 e2 f2 s2 => q p H2 (e1.trans e2) (free_back e1 f2) s2
/-- the one argument a new object -/
theorem ev_cbN {rc : List V → Hp → VK → Prop} (h : EvN K te S M o) (hr : ∀ p, RC K rc ((p, o) :: M) [.m p] z) : Ev K (tCB rc (tCons te tNil)) S M z := fun B X T σ H st Q q =>
  h B X T σ H st _ fun p H1 e1 f1 st1 => hr p B X T S σ H1 st1 [.ref p] ⟨rfl, trivial⟩ Q fun u H2 e2 o2 => q u H2 (e1.trans e2) (st1.tail.same e2) o2
theorem evn_cbN {o' : MO} {rc : List V → Hp → VK → Prop} (h : EvN K te S M o) (hr : ∀ p, RCN K rc ((p, o) :: M) [.m p] o') : EvN K (tCB rc (tCons te tNil)) S M o' := fun B X T σ H st Q q =>
  h B X T σ H st _ fun p H1 e1 f1 st1 => hr p B X T S σ H1 st1 [.ref p] ⟨rfl, trivial⟩ Q fun p' H2 e2 f2 s2 =>
    q p' H2 (e1.trans e2) (free_back e1 f2) (s2.drop (List.Sublist.cons_cons _ (List.sublist_cons_self _ _)))
end
end Tw

/-! ### walks, loops, comprehensions, statements over data-level states -/
namespace Tw
open PySem L2
section
variable (K : PySem.W.Frag)
/-- what is walked: its; Mn: the objects that must stand meanwhile -/
def EvI (wi : TI) (S : Sl) (M : Ml) (its : List SV) (Mn : Ml) : Prop := ∀ B X T σ H, Sat K B X T S M σ H → ∀ R : It → Hp → Prop,
  (∀ J H1 G Y, Same H H1 → Sat K B X T S M σ H1 → Walk J its.length G Y → (∀ H', Tups H1 H' → (∀ p ∈ Mn, MOk K H' p.1 p.2) → G H') →
    (∀ i H' x H'', i < its.length → G H' → Y i H' x H'' → Same H' H'' ∧ ∀ s, its[i]? = some s → VOk K H'' x s) → R J H1) → wi σ H R
/-- a target takes s: the slots become fS S, only those of js change -/
def Tg (g : TG) (s : SV) (fS : Sl → Sl) (js : List Nat) : Prop := ∀ B X T S M σ H, Sat K B X T S M σ H → ∀ v, VOk K H v s → ∀ Q : St → Hp → Prop,
  (∀ σ', Sat K B X T (fS S) M σ' H → (∀ ws : List Nat, (∀ j ∈ js, j ∈ ws) → wipe σ' ws = wipe σ ws) → Q σ' H) → g v σ H Q
end
def wipeS (S : Sl) : List Nat → Sl
  | [] => S
  | v :: vs => (wipeS S vs).set v none
theorem wipe_get {σ : St} : ∀ (vs : List Nat) (i : Nat), (wipe σ vs)[i]? = if i ∈ vs ∧ i < σ.length then some none else σ[i]?
  | [], i => by simp [wipe]
  | v :: vs, i => by
    show ((wipe σ vs).set v none)[i]? = _
    by_cases e : v = i
    · subst e
      by_cases h : v < σ.length
      · rw [List.getElem?_set_self (by rw [wipe_length]; exact h), if_pos ⟨List.mem_cons_self .., h⟩]
      · rw [List.getElem?_eq_none (by rw [List.length_set, wipe_length]; omega), if_neg (fun z => h z.2), List.getElem?_eq_none (by omega)]
    · rw [List.getElem?_set_ne e, wipe_get vs i]
      have e' : ¬ i = v := fun z => e z.symm
      simp [List.mem_cons, e']
theorem wipe_set {σ : St} {vs : List Nat} {j : Nat} {x : Option V} (hj : j ∈ vs) : wipe (σ.set j x) vs = wipe σ vs := by
  apply List.ext_getElem?
  intro i
  rw [wipe_get, wipe_get, List.length_set]
  by_cases e : j = i
  · subst e
    by_cases h : j < σ.length
    · rw [if_pos ⟨hj, h⟩, if_pos ⟨hj, h⟩]
    · rw [if_neg (fun z => h z.2), if_neg (fun z => h z.2), List.getElem?_eq_none (by rw [List.length_set]; omega), List.getElem?_eq_none (by omega)]
  · rw [List.getElem?_set_ne e]
theorem wipe_wipe {σ : St} {vs : List Nat} : wipe (wipe σ vs) vs = wipe σ vs := by
  apply List.ext_getElem?
  intro i
  rw [wipe_get, wipe_get, wipe_length]
  split <;> rfl
theorem wipeS_len (S : Sl) : ∀ vs, (wipeS S vs).length = S.length
  | [] => rfl
  | v :: vs => by show ((wipeS S vs).set v none).length = _; rw [List.length_set, wipeS_len S vs]
theorem wipeS_some {S : Sl} {i : Nat} {s : SV} : ∀ {vs : List Nat}, (wipeS S vs)[i]? = some (some s) → S[i]? = some (some s) ∧ i ∉ vs
  | [], h => ⟨h, by simp⟩
  | v :: vs, h => by
    have h : ((wipeS S vs).set v none)[i]? = some (some s) := h
    by_cases e : v = i
    · subst e
      by_cases hv : v < (wipeS S vs).length
      · rw [List.getElem?_set_self hv] at h; cases h
      · rw [List.getElem?_eq_none (by rw [List.length_set]; omega)] at h; cases h
    · rw [List.getElem?_set_ne e] at h
      obtain ⟨h1, h2⟩ := wipeS_some h
      exact ⟨h1, by simp only [List.mem_cons, not_or]; exact ⟨fun z => e z.symm, h2⟩⟩
section
variable {K : PySem.W.Frag} {B : Hp} {X : List Addr} {T : Hp} {S : Sl} {M : Ml} {σ : St} {H H' : Hp}
theorem Sat.wipe (a : Sat K B X T S M σ H) (vs : List Nat) : Sat K B X T (wipeS S vs) M (wipe σ vs) H where
  len := by rw [wipe_length, wipeS_len, a.len]
  sl := fun i s h => by
    obtain ⟨h1, h2⟩ := wipeS_some h
    obtain ⟨v, g1, g2⟩ := a.sl i s h1
    exact ⟨v, by rw [wipe_get, if_neg (fun z => h2 z.1)]; exact g1, g2⟩
  mem := a.mem
  nod := a.nod
  own := a.own
  old := a.old
  kp := a.kp
  tp := a.tp
/-- the same heap, other slots -/
theorem Sat.slots (a : Sat K B X T S M σ H) {S' : Sl} {σ' : St} {H' : Hp} {M' : Ml} {X' : List Addr} {B' T' : Hp} (b : Sat K B' X' T' S' M' σ' H') (e : Same H' H) : Sat K B X T S' M σ' H :=
  ⟨b.len, fun i s h => let ⟨v, h1, h2⟩ := b.sl i s h; ⟨v, h1, vok_same e h2⟩, a.mem, a.nod, a.own, a.old, a.kp, a.tp⟩
theorem Sat.slotsT (a : Sat K B X T S M σ H) {S' : Sl} {σ' : St} {H' : Hp} {M' : Ml} {X' : List Addr} {B' T' : Hp} (b : Sat K B' X' T' S' M' σ' H') (e : Tups H' H) : Sat K B X T S' M σ' H :=
  ⟨b.len, fun i s h => let ⟨v, h1, h2⟩ := b.sl i s h; ⟨v, h1, vok_tups e h2⟩, a.mem, a.nod, a.own, a.old, a.kp, a.tp⟩
theorem tg_name {j : Nat} {s : SV} : Tg K (gName j) s (fun S => S.set j (some s)) [j] := fun B X T S M σ H st v hv Q q =>
  q _ (st.set hv j) fun ws hw => wipe_set (hw j (List.mem_singleton.mpr rfl))
theorem tg_pair {a b : Nat} {d e : PyData} : Tg K (gTup K 2 (gCons (gName a) (gCons (gName b) gNil))) (.d (.tuple [d, e])) (fun S => (S.set a (some (.d d))).set b (some (.d e))) [a, b] := fun B X T S M σ H st v hv Q q => by
  obtain ⟨p, xs, rfl, h1, h2⟩ := vok_tup hv
  match xs, h2 with
  | [v1, v2], h2 =>
    refine ⟨p, _, rfl, .inl (.inl h1), rfl, _, _, rfl, _, _, rfl, rfl, ?_⟩
    exact q _ ((st.set (s := .d d) h2.1 a).set (s := .d e) h2.2.1 b) fun ws hw => by
      rw [wipe_set (hw b (by simp)), wipe_set (hw a (by simp))]
/-! walks -/
theorem evi_tup {te : TE} {ds : List PyData} (h : Ev K te S M (.d (.tuple ds))) : EvI K (iTup K te) S M (ds.map SV.d) [] := fun B X T σ H st R r =>
  h B X T σ H st _ fun v H1 e1 st1 o1 => by
    obtain ⟨a, xs, rfl, h1', h2⟩ := vok_tup o1
    have h1 : SqT K H1 a xs := .inl (.inl h1')
    have hl : xs.length = (ds.map SV.d).length := vsok_len h2
    refine ⟨a, rfl, ⟨xs, h1⟩, r (Itt K a) H1 (fun H' => SqT K H' a xs ∧ Tups H1 H') (YAt xs) e1 st1 ?_ (fun H' t _ => ⟨tups_t t h1, t⟩) ?_⟩
    · rw [← hl]
      exact walk_tup.mono (fun _ h => h.1) fun _ _ _ _ _ _ y => y
    · rintro i H' x H'' hi ⟨g, t⟩ ⟨rfl, y⟩
      refine ⟨Same.refl _, fun s hs => ?_⟩
      obtain ⟨s', hd, hx⟩ := vsok_get h2 y
      rw [hd] at hs
      have e : s' = s := Option.some.inj hs
      subst e
      exact vok_tups t hx
theorem evi_list {te : TE} {l : Addr} {xs : List SV} (h : Ev K te S M (.m l)) (hm : (l, MO.lst xs) ∈ M) : EvI K (iList K te) S M xs [(l, .lst xs)] := fun B X T σ H st R r =>
  h B X T σ H st _ fun v H1 e1 st1 o1 => by
    have hv : v = .ref l := o1
    subst hv
    obtain ⟨vs, h1, h2⟩ := st1.at hm
    refine ⟨l, rfl, ⟨vs, .inl (.inl h1)⟩, r (Itl K l) H1 (fun H' => MOk K H' l (.lst xs)) (fun i H' x H'' => H'' = H' ∧ ∃ vs, H' l = some (.lst vs) ∧ VsOk K H' vs xs ∧ vs[i]? = some x) e1 st1 ⟨fun i H' hi g => ?_, fun H' g => ?_, fun i H' x H'' hi g y => ?_⟩ (fun H' _ g => g _ (List.mem_singleton.mpr rfl)) ?_⟩
    · obtain ⟨ws, g1, g2⟩ := g
      have hi' : i < ws.length := by rw [vsok_len g2]; exact hi
      exact ⟨ws, ws[i], .inl (.inl g1), by simp [hi']⟩
    · obtain ⟨ws, g1, g2⟩ := g
      exact ⟨ws, .inl (.inl g1), Nat.le_of_eq (vsok_len g2)⟩
    · obtain ⟨ws, g1, g2⟩ := g
      obtain ⟨y1, y2⟩ := y
      exact ⟨y1, ws, g1, g2, y2 ws (.inl (.inl g1))⟩
    · rintro i H' x H'' hi g ⟨rfl, ws, g1, g2, y⟩
      refine ⟨Same.refl _, fun s hs => ?_⟩
      obtain ⟨s', h1', h2'⟩ := vsok_get g2 y
      rw [h1'] at hs
      rw [← Option.some.inj hs]
      exact h2'
theorem rg_get {n i : Nat} {s : SV} (h : ((List.range n).map fun (i : Nat) => SV.d (.int i))[i]? = some s) : i < n ∧ s = .d (.int i) := by
  rw [List.getElem?_map] at h
  by_cases hi : i < n
  · rw [List.getElem?_range hi] at h
    exact ⟨hi, (Option.some.inj h).symm⟩
  · rw [List.getElem?_eq_none (by rw [List.length_range]; omega)] at h; cases h
theorem evi_range1 {ta : TA} {n : Int} (h : EvA K ta S M [.d (.int n)]) (hn : 0 ≤ n ∧ n ≤ 1000000) : EvI K (iRng1 ta) S M ((List.range n.toNat).map fun i => SV.d (.int (i : Nat))) [] := fun B X T σ H st R r =>
  h B X T σ H st _ fun vs H1 e1 st1 o1 => by
    match vs, o1 with
    | [v], o1 =>
      rw [vok_int o1.1]
      refine ⟨n, rfl, by omega, by omega, r (Itr 0 n.toNat) H1 (fun _ => True) (YFn fun i => .int (0 + (i : Nat))) e1 st1 ?_ (fun _ _ _ => trivial) ?_⟩
      · rw [List.length_map, List.length_range]
        exact walk_range
      · rintro i H' x H'' hi _ ⟨rfl, y⟩
        rw [List.length_map, List.length_range] at hi
        refine ⟨Same.refl _, fun s hs => ?_⟩
        rw [List.getElem?_map, List.getElem?_range hi] at hs
        have e : SV.d (.int ((i : Nat) : Int)) = s := Option.some.inj hs
        subst e
        rw [y]
        show VOk K _ (.int (0 + ((i : Nat) : Int))) _
        rw [Int.zero_add]
        exact vint _
theorem evi_str {te : TE} {z : Str} (h : Ev K te S M (.d (.str z))) : EvI K (iStr te) S M (z.cps.toList.map fun c => SV.d (.str ⟨#[c]⟩)) [] := fun B X T σ H st R r =>
  h B X T σ H st _ fun v H1 e1 st1 o1 => by
    rw [vok_str o1]
    refine ⟨z, rfl, r (Its z) H1 (fun _ => True) _ e1 st1 (by rw [List.length_map, Array.length_toList]; exact walk_str) (fun _ _ _ => trivial) ?_⟩
    rintro i H' x H'' hi _ ⟨rfl, c, hc, rfl⟩
    refine ⟨Same.refl _, fun s hs => ?_⟩
    rw [List.getElem?_map, Array.getElem?_toList, hc] at hs
    have e : SV.d (.str ⟨#[c]⟩) = s := Option.some.inj hs
    subst e
    exact vstr _
theorem evi_zipT {ta : TA} {ds es : List PyData} (h : EvA K ta S M [.d (.tuple ds), .d (.tuple es)]) : EvI K (RZ.iZipA K ta) S M ((ds.zip es).map fun p => SV.d (.tuple [p.1, p.2])) [] := fun B X T σ H st R r =>
  h B X T σ H st _ fun vs H1 e1 st1 o1 => by
    match vs, o1 with
    | [v, w], o1 =>
      obtain ⟨a, xs, rfl, h1', h2⟩ := vok_tup o1.1
      obtain ⟨b, ys, rfl, h3', h4⟩ := vok_tup o1.2.1
      have h1 : SqT K H1 a xs := .inl (.inl h1')
      have h3 : SqT K H1 b ys := .inl (.inl h3')
      have l1 := vsok_len h2
      have l2 := vsok_len h4
      rw [List.length_map] at l1 l2
      refine ⟨a, b, xs, ys, rfl, .inr ⟨h1, h3, r (RZ.ItzT K a b) H1 (fun H' => SqT K H' a xs ∧ SqT K H' b ys ∧ Tups H1 H') (YPair (fun i => xs[i]?) (fun i => ys[i]?)) e1 st1 ?_ (fun H' t _ => ⟨tups_t t h1, tups_t t h3, t⟩) ?_⟩⟩
      · have hn : ((ds.zip es).map fun p => SV.d (.tuple [p.1, p.2])).length = min xs.length ys.length := by rw [List.length_map, List.length_zip, l1, l2]
        rw [hn]
        refine ⟨fun i H' hi q => ?_, fun H' q => ⟨xs, ys, q.1, q.2.1, by omega⟩, fun i H' v H'' _ q y => ?_⟩
        · have k1 : i < xs.length := by omega
          have k2 : i < ys.length := by omega
          exact ⟨xs, ys, xs[i], ys[i], q.1, q.2.1, by simp [k1], by simp [k2]⟩
        · obtain ⟨U, x, z, g1, g2, g3, g4, g5⟩ := y
          exact ⟨U, x, z, g1, g2, g3, g4 xs q.1, g5 ys q.2.1⟩
      · rintro i H' v H'' hi ⟨_, _, t⟩ ⟨U, x, z, rfl, g2, rfl, g4, g5⟩
        have e : Same H' (upd H' U (.tup [x, z])) := same_new g2
        refine ⟨e, fun s hs => ?_⟩
        obtain ⟨s1, k1, m1⟩ := vsok_get h2 g4
        obtain ⟨s2, k2, m2⟩ := vsok_get h4 g5
        rw [List.getElem?_map] at k1 k2
        cases k1' : ds[i]? with
        | none => rw [k1'] at k1; cases k1
        | some d1 =>
        cases k2' : es[i]? with
        | none => rw [k2'] at k2; cases k2
        | some d2 =>
        rw [k1'] at k1
        rw [k2'] at k2
        have z1 : SV.d d1 = s1 := Option.some.inj k1
        have z2 : SV.d d2 = s2 := Option.some.inj k2
        subst z1 z2
        have hz : (ds.zip es)[i]? = some (d1, d2) := List.getElem?_zip_eq_some.mpr ⟨k1', k2'⟩
        rw [List.getElem?_map, hz] at hs
        have es' : SV.d (.tuple [d1, d2]) = s := Option.some.inj hs
        subst es'
        have t2 := t.trans (Same.tups e)
        exact tup_vok (ds := [d1, d2]) upd_same ⟨vok_tups t2 m1, vok_tups t2 m2, trivial⟩
/-! statements: what stands behind is tz -/
variable {D : Ends} {tz tu tw : TS} {te ta tb : TE} {tt : TT} {s x y : SV} {o : MO} {wi : TI} {g : TG}
theorem q_set {i : Nat} (st : Sat K B X T S M σ H) (h : Ev K te S M s) (k : ∀ σ' H', Sat K B X T (S.set i (some s)) M σ' H' → tz D σ' H') : tSeq (tAsg te (gName i)) tz D σ H :=
  h B X T σ H st _ fun v H1 e1 st1 o1 => k _ _ (st1.set o1 i)
theorem q_setN {i : Nat} (st : Sat K B X T S M σ H) (h : EvN K te S M o) (k : ∀ p σ' H', Sat K B X T (S.set i (some (.m p))) ((p, o) :: M) σ' H' → tz D σ' H') : tSeq (tAsg te (gName i)) tz D σ H :=
  h B X T σ H st _ fun p H1 e1 f1 st1 => k p _ _ (st1.set (s := .m p) rfl i)
theorem s_set {i : Nat} (st : Sat K B X T S M σ H) (h : Ev K te S M s) (k : ∀ σ' H', Sat K B X T (S.set i (some s)) M σ' H' → D.nx σ' H') : tAsg te (gName i) D σ H :=
  h B X T σ H st _ fun v H1 e1 st1 o1 => k _ _ (st1.set o1 i)
theorem s_setN {i : Nat} (st : Sat K B X T S M σ H) (h : EvN K te S M o) (k : ∀ p σ' H', Sat K B X T (S.set i (some (.m p))) ((p, o) :: M) σ' H' → D.nx σ' H') : tAsg te (gName i) D σ H :=
  h B X T σ H st _ fun p H1 e1 f1 st1 => k p _ _ (st1.set (s := .m p) rfl i)
/-- a, b = e1, e2 -/
theorem q_par {i j : Nat} (st : Sat K B X T S M σ H) (h1 : Ev K ta S M x) (h2 : Ev K tb S M y) (k : ∀ σ' H', Sat K B X T ((S.set i (some x)).set j (some y)) M σ' H' → tz D σ' H') : tSeq (tPar i j (tCons ta (tCons tb tNil))) tz D σ H :=
  h1 B X T σ H st _ fun v H1 e1 st1 o1 => h2 B X T σ H1 st1 _ fun w H2 e2 st2 o2 => ⟨v, w, rfl, k _ _ ((st2.set (vok_same e2 o1) i).set o2 j)⟩
theorem q_parN {i j : Nat} (st : Sat K B X T S M σ H) (h1 : EvN K ta S M o) (h2 : ∀ p, Ev K tb S ((p, o) :: M) y) (k : ∀ p σ' H', Sat K B X T ((S.set i (some (.m p))).set j (some y)) ((p, o) :: M) σ' H' → tz D σ' H') : tSeq (tPar i j (tCons ta (tCons tb tNil))) tz D σ H :=
  h1 B X T σ H st _ fun p H1 e1 f1 st1 => h2 p B X T σ H1 st1 _ fun w H2 e2 st2 o2 => ⟨.ref p, w, rfl, k p _ _ ((st2.set (s := .m p) rfl i).set o2 j)⟩
theorem q_par2N {i j : Nat} (st : Sat K B X T S M σ H) (h1 : Ev K ta S M x) (h2 : EvN K tb S M o) (k : ∀ p σ' H', Sat K B X T ((S.set i (some x)).set j (some (.m p))) ((p, o) :: M) σ' H' → tz D σ' H') : tSeq (tPar i j (tCons ta (tCons tb tNil))) tz D σ H :=
  h1 B X T σ H st _ fun v H1 e1 st1 o1 => h2 B X T σ H1 st1 _ fun p H2 e2 f2 st2 => ⟨v, .ref p, rfl, k p _ _ ((st2.set (vok_same e2 o1) i).set (s := .m p) rfl j)⟩
theorem q_parNN {i j : Nat} {o' : MO} (st : Sat K B X T S M σ H) (h1 : EvN K ta S M o) (h2 : ∀ p, EvN K tb S ((p, o) :: M) o') (k : ∀ p p' σ' H', Sat K B X T ((S.set i (some (.m p))).set j (some (.m p'))) ((p', o') :: (p, o) :: M) σ' H' → tz D σ' H') :
    tSeq (tPar i j (tCons ta (tCons tb tNil))) tz D σ H :=
  h1 B X T σ H st _ fun p H1 e1 f1 st1 => h2 p B X T σ H1 st1 _ fun p' H2 e2 f2 st2 => ⟨.ref p, .ref p', rfl, k p p' _ _ ((st2.set (s := .m p) rfl i).set (s := .m p') rfl j)⟩
theorem s_par {i j : Nat} (st : Sat K B X T S M σ H) (h1 : Ev K ta S M x) (h2 : Ev K tb S M y) (k : ∀ σ' H', Sat K B X T ((S.set i (some x)).set j (some y)) M σ' H' → D.nx σ' H') : tPar i j (tCons ta (tCons tb tNil)) D σ H :=
  h1 B X T σ H st _ fun v H1 e1 st1 o1 => h2 B X T σ H1 st1 _ fun w H2 e2 st2 o2 => ⟨v, w, rfl, k _ _ ((st2.set (vok_same e2 o1) i).set o2 j)⟩
theorem s_parNN {i j : Nat} {o' : MO} (st : Sat K B X T S M σ H) (h1 : EvN K ta S M o) (h2 : ∀ p, EvN K tb S ((p, o) :: M) o') (k : ∀ p p' σ' H', Sat K B X T ((S.set i (some (.m p))).set j (some (.m p'))) ((p', o') :: (p, o) :: M) σ' H' → D.nx σ' H') :
    tPar i j (tCons ta (tCons tb tNil)) D σ H :=
  h1 B X T σ H st _ fun p H1 e1 f1 st1 => h2 p B X T σ H1 st1 _ fun p' H2 e2 f2 st2 => ⟨.ref p, .ref p', rfl, k p p' _ _ ((st2.set (s := .m p) rfl i).set (s := .m p') rfl j)⟩
/-- a, b = e, e a tuple of data -/
theorem q_asg2 {fS : Sl → Sl} {js : List Nat} (st : Sat K B X T S M σ H) (h : Ev K te S M s) (hg : Tg K g s fS js) (k : ∀ σ' H', Sat K B X T (fS S) M σ' H' → tz D σ' H') : tSeq (tAsg te g) tz D σ H :=
  h B X T σ H st _ fun v H1 e1 st1 o1 => hg B X T S M σ H1 st1 v o1 _ fun σ' st2 _ => k _ _ st2
theorem q_if {b : Bool} (st : Sat K B X T S M σ H) (h : EvT K tt S M b) (h1 : b = true → ∀ H', Sat K B X T S M σ H' → tu { D with nx := tz D } σ H') (h2 : b = false → ∀ H', Sat K B X T S M σ H' → tw { D with nx := tz D } σ H') : tSeq (tIfS tt tu tw) tz D σ H :=
  h B X T σ H st _ fun H1 e1 st1 => by
    cases b with
    | true => exact iteT (h1 rfl H1 st1)
    | false => exact iteF (h2 rfl H1 st1)
theorem s_if {b : Bool} (st : Sat K B X T S M σ H) (h : EvT K tt S M b) (h1 : b = true → ∀ H', Sat K B X T S M σ H' → tu D σ H') (h2 : b = false → ∀ H', Sat K B X T S M σ H' → tw D σ H') : tIfS tt tu tw D σ H :=
  h B X T σ H st _ fun H1 e1 st1 => by
    cases b with
    | true => exact iteT (h1 rfl H1 st1)
    | false => exact iteF (h2 rfl H1 st1)
theorem q_ret (st : Sat K B X T S M σ H) (h : Ev K te S M s) (k : ∀ v H', Sat K B X T S M σ H' → VOk K H' v s → D.rt v H') : tSeq (tRet te) tz D σ H := h B X T σ H st _ fun v H1 e1 st1 o1 => k v H1 st1 o1
theorem q_retN (st : Sat K B X T S M σ H) (h : EvN K te S M o) (k : ∀ p H', Sat K B X T S ((p, o) :: M) σ H' → D.rt (.ref p) H') : tSeq (tRet te) tz D σ H := h B X T σ H st _ fun p H1 e1 f1 st1 => k p H1 st1
theorem q_for {its : List SV} {Mn : Ml} (st : Sat K B X T S M σ H) (h : EvI K wi S M its Mn) (Iv : Nat → Sl → Ml → Prop) (h0 : Iv 0 S M) (hM : ∀ i S' M', Iv i S' M' → ∀ p ∈ Mn, p ∈ M')
    (hs : ∀ i s S' M' σ' H' T', its[i]? = some s → Iv i S' M' → Sat K B X T' S' M' σ' H' → ∀ v, VOk K H' v s → g v σ' H' fun σ2 H2 =>
      tu { D with nx := fun σ3 H3 => ∃ S3 M3, Iv (i + 1) S3 M3 ∧ Sat K B X T' S3 M3 σ3 H3, ct := fun σ3 H3 => ∃ S3 M3, Iv (i + 1) S3 M3 ∧ Sat K B X T' S3 M3 σ3 H3, bk := tz D } σ2 H2)
    (hd : ∀ S' M' σ' H', Iv its.length S' M' → Sat K B X T S' M' σ' H' → tz D σ' H') : tSeq (tFor wi g tu) tz D σ H :=
  h B X T σ H st _ fun J H1 G Y e1 st1 w hG hY => for_it w (D := { D with nx := tz D }) (fun i σ' H' => ∃ S3 M3, Iv i S3 M3 ∧ Sat K B X H1 S3 M3 σ' H') ⟨S, M, h0, st1.retup (Tups.refl H1)⟩
    (fun i σ' H' _ ⟨S3, M3, iv, st3⟩ => hG H' st3.tp fun p hp => st3.mem p (hM i S3 M3 iv p hp))
    (fun i v σ' H' H'' hi ⟨S3, M3, iv, st3⟩ y => by
      obtain ⟨e2, hv⟩ := hY i H' v H'' hi (hG H' st3.tp fun p hp => st3.mem p (hM i S3 M3 iv p hp)) y
      have hs' : its[i]? = some its[i] := List.getElem?_eq_getElem hi
      exact hs i its[i] S3 M3 σ' H'' H1 hs' iv (st3.same e2) v (hv _ hs'))
    fun σ' H' ⟨S3, M3, iv, st3⟩ => hd S3 M3 σ' H' iv (st3.retup (st1.tp.trans st3.tp))
/-- a for as the last statement -/
theorem s_for {its : List SV} {Mn : Ml} (st : Sat K B X T S M σ H) (h : EvI K wi S M its Mn) (Iv : Nat → Sl → Ml → Prop) (h0 : Iv 0 S M) (hM : ∀ i S' M', Iv i S' M' → ∀ p ∈ Mn, p ∈ M')
    (hs : ∀ i s S' M' σ' H' T', its[i]? = some s → Iv i S' M' → Sat K B X T' S' M' σ' H' → ∀ v, VOk K H' v s → g v σ' H' fun σ2 H2 =>
      tu { D with nx := fun σ3 H3 => ∃ S3 M3, Iv (i + 1) S3 M3 ∧ Sat K B X T' S3 M3 σ3 H3, ct := fun σ3 H3 => ∃ S3 M3, Iv (i + 1) S3 M3 ∧ Sat K B X T' S3 M3 σ3 H3, bk := D.nx } σ2 H2)
    (hd : ∀ S' M' σ' H', Iv its.length S' M' → Sat K B X T S' M' σ' H' → D.nx σ' H') : tFor wi g tu D σ H := q_for (tz := fun D σ H => D.nx σ H) (D := D) st h Iv h0 hM hs hd
theorem q_while (st : Sat K B X T S M σ H) (Iv : Nat → Sl → Ml → Prop) (m0 : Nat) (h0 : Iv m0 S M)
    (hs : ∀ m S' M' σ' H', Iv m S' M' → Sat K B X T S' M' σ' H' → ∃ b, EvT K tt S' M' b ∧ (b = true → ∀ H2, Sat K B X T S' M' σ' H2 →
      tu { D with nx := fun σ3 H3 => ∃ m3, m3 < m ∧ ∃ S3 M3, Iv m3 S3 M3 ∧ Sat K B X T S3 M3 σ3 H3, ct := fun σ3 H3 => ∃ m3, m3 < m ∧ ∃ S3 M3, Iv m3 S3 M3 ∧ Sat K B X T S3 M3 σ3 H3, bk := tz D } σ' H2) ∧
      (b = false → ∀ H2, Sat K B X T S' M' σ' H2 → tz D σ' H2)) : tSeq (tWhile tt tu) tz D σ H := by
  refine ⟨fun m σ' H' => ∃ S3 M3, Iv m S3 M3 ∧ Sat K B X T S3 M3 σ' H', ⟨m0, S, M, h0, st⟩, ?_⟩
  rintro m σ' H' ⟨S3, M3, iv, st3⟩
  obtain ⟨b, hb, h1, h2⟩ := hs m S3 M3 σ' H' iv st3
  refine hb B X T σ' H' st3 _ fun H2 e2 st4 => ?_
  cases b with
  | true => exact iteT ⟨_, fun _ _ q => q, h1 rfl H2 st4⟩
  | false => exact iteF (h2 rfl H2 st4)
/-! lists written -/
theorem q_append {n : Nat} {l : Addr} {xs : List SV} (st : Sat K B X T S M σ H) (ho : Ev K ta S M (.m l)) (h : Ev K te S M s) (hn : M[n]? = some (l, .lst xs)) (hl : xs.length < 100000)
    (k : ∀ H', Sat K B X T S (M.set n (l, .lst (xs ++ [s]))) σ H' → tz D σ H') : tSeq (tDrop (tBM K "list" rAppend ta (tCons te tNil))) tz D σ H :=
  ho B X T σ H st _ fun v H1 e1 st1 o1 => by
    have hv : v = .ref l := o1
    subst hv
    obtain ⟨vs, h1, h2⟩ := st1.at (List.mem_of_getElem? hn)
    refine ⟨Or.inl ⟨rfl, _, .inl (.inl h1)⟩, h B X T σ H1 st1 _ fun v H2 e2 st2 o2 => ?_⟩
    have h1' := e2 _ _ h1
    have h2' := vsok_tups (Same.tups e2) h2
    refine ⟨l, vs, v, rfl, rfl, h1', szl (by rw [vsok_len h2']; exact hl), k _ ?_⟩
    exact st2.wr hn rfl (fun u hu => by rw [h1'] at hu; cases hu; exact ⟨fun _ z => (nomatch z), fun _ _ z => (nomatch z)⟩)
      ⟨_, upd_same, vsok_tups (tups_wr h1' (fun _ z => (nomatch z)) (fun _ _ z => (nomatch z))) (vsok_app h2' ⟨o2, trivial⟩)⟩
theorem s_append {n : Nat} {l : Addr} {xs : List SV} (st : Sat K B X T S M σ H) (ho : Ev K ta S M (.m l)) (h : Ev K te S M s) (hn : M[n]? = some (l, .lst xs)) (hl : xs.length < 100000)
    (k : ∀ H', Sat K B X T S (M.set n (l, .lst (xs ++ [s]))) σ H' → D.nx σ H') : tDrop (tBM K "list" rAppend ta (tCons te tNil)) D σ H := q_append (tz := fun D σ H => D.nx σ H) (D := D) st ho h hn hl k
/-- l.extend(a new list) -/
theorem q_extend {n : Nat} {l : Addr} {xs ys : List SV} (st : Sat K B X T S M σ H) (ho : Ev K ta S M (.m l)) (h : EvN K te S M (.lst ys)) (hn : M[n]? = some (l, .lst xs)) (hl : xs.length + ys.length ≤ 100000)
    (k : ∀ H', Sat K B X T S (M.set n (l, .lst (xs ++ ys))) σ H' → tz D σ H') : tSeq (tDrop (tBM K "list" rExtend ta (tCons te tNil))) tz D σ H :=
  ho B X T σ H st _ fun v H1 e1 st1 o1 => by
    have hv : v = .ref l := o1
    subst hv
    obtain ⟨vs, h1, h2⟩ := st1.at (List.mem_of_getElem? hn)
    refine ⟨Or.inl ⟨rfl, _, .inl (.inl h1)⟩, h B X T σ H1 st1 _ fun p H2 e2 f2 st2 => ?_⟩
    have h1' := e2 _ _ h1
    have h2' := vsok_tups (Same.tups e2) h2
    obtain ⟨ws, g1, g2⟩ := st2.at (List.mem_cons_self ..)
    refine ⟨l, p, vs, ws, rfl, rfl, h1', g1, by rw [vsok_len h2', vsok_len g2]; exact sz hl, k _ ?_⟩
    exact st2.tail.wr hn rfl (fun u hu => by rw [h1'] at hu; cases hu; exact ⟨fun _ z => (nomatch z), fun _ _ z => (nomatch z)⟩)
      ⟨_, upd_same, vsok_tups (tups_wr h1' (fun _ z => (nomatch z)) (fun _ _ z => (nomatch z))) (vsok_app h2' g2)⟩
theorem s_extend {n : Nat} {l : Addr} {xs ys : List SV} (st : Sat K B X T S M σ H) (ho : Ev K ta S M (.m l)) (h : EvN K te S M (.lst ys)) (hn : M[n]? = some (l, .lst xs)) (hl : xs.length + ys.length ≤ 100000)
    (k : ∀ H', Sat K B X T S (M.set n (l, .lst (xs ++ ys))) σ H' → D.nx σ H') : tDrop (tBM K "list" rExtend ta (tCons te tNil)) D σ H := q_extend (tz := fun D σ H => D.nx σ H) (D := D) st ho h hn hl k
/-- x = l.pop() -/
theorem q_pop {i n : Nat} {l : Addr} {xs : List SV} (st : Sat K B X T S M σ H) (ho : Ev K ta S M (.m l)) (hn : M[n]? = some (l, .lst xs)) (hx : xs[xs.length - 1]? = some s)
    (k : ∀ σ' H', Sat K B X T (S.set i (some s)) (M.set n (l, .lst xs.dropLast)) σ' H' → tz D σ' H') : tSeq (tAsg (tBM0 K "list" rPop ta) (gName i)) tz D σ H :=
  ho B X T σ H st _ fun v H1 e1 st1 o1 => by
    have hv : v = .ref l := o1
    subst hv
    obtain ⟨vs, h1, h2⟩ := st1.at (List.mem_of_getElem? hn)
    obtain ⟨y, g1, g2⟩ := vsok_getS h2 hx
    refine ⟨Or.inl ⟨rfl, _, .inl (.inl h1)⟩, l, vs, y, rfl, rfl, h1, by rw [vsok_len h2]; exact g1, k _ _ ?_⟩
    have tp := tups_wr (u := .lst vs.dropLast) h1 (fun _ z => (nomatch z)) (fun _ _ z => (nomatch z))
    exact (st1.wr (mo' := .lst xs.dropLast) hn rfl (fun u hu => by rw [h1] at hu; cases hu; exact ⟨fun _ z => (nomatch z), fun _ _ z => (nomatch z)⟩)
      ⟨_, upd_same, vsok_tups tp (vsok_dropLast h2)⟩).set (vok_tups tp g2) i
/-! comprehensions without effects -/
theorem evn_lc {α : Type} {xs : List α} {enc : α → SV} {fS : α → Sl → Sl} {js vs : List Nat} {Mn : Ml} (p : α → Bool) (f : α → SV) (h : EvI K wi S M (xs.map enc) Mn) (hM : ∀ q ∈ Mn, q ∈ M) (hj : ∀ j ∈ js, j ∈ vs) (hl : xs.length ≤ 50000)
    (hg : ∀ a, a ∈ xs → Tg K g (enc a) (fS a) js) (ht : ∀ a, a ∈ xs → EvT K tt (fS a (wipeS S vs)) M (p a)) (he : ∀ a, a ∈ xs → p a = true → Ev K te (fS a (wipeS S vs)) M (f a)) :
    EvN K (tLc wi g tt te vs) S M (.lst ((xs.filter p).map f)) := fun B X T σ H st Q q =>
  h B X T σ H st _ fun J H1 G Y e1 st1 w hG hY D hD => by
    have stD : Sat K B X H1 S ((D, .lst []) :: M) σ (upd H1 D (.lst [])) := (st1.retup (Tups.refl H1)).new hD ⟨[], upd_same, trivial⟩
    refine lc_it w (Pv := fun i H' => Sat K B X H1 S ((D, .lst (((xs.take i).filter p).map f)) :: M) σ H' ∧ Same H1 H') ⟨by simpa using stD, same_new hD⟩
      (fun i H' _ pv => hG H' pv.1.tp fun q hq => pv.1.mem q (List.mem_cons_of_mem _ (hM q hq))) (fun i v H' H'' hi pv y => ?_) fun H' pv => ?_
    · obtain ⟨e2, hv⟩ := hY i H' v H'' hi (hG H' pv.1.tp fun q hq => pv.1.mem q (List.mem_cons_of_mem _ (hM q hq))) y
      rw [List.length_map] at hi
      have hx : xs[i]? = some xs[i] := List.getElem?_eq_getElem hi
      have ha : xs[i] ∈ xs := List.getElem_mem hi
      have hv' := hv (enc xs[i]) (by rw [List.getElem?_map, hx] <;> rfl)
      have st2 := pv.1.same e2
      have ek : Same H1 H'' := pv.2.trans e2
      have etake : xs.take (i + 1) = xs.take i ++ [xs[i]] := by rw [List.take_succ, hx] <;> rfl
      refine hg _ ha B X H1 (wipeS S vs) M (wipe σ vs) H'' (st2.tail.wipe vs) v hv' _ fun σ2 st3 hw => ⟨by rw [hw vs hj, wipe_wipe], ?_⟩
      refine ht _ ha B X H1 σ2 H'' st3 _ fun H3 e3 st4 => ?_
      have st2' := st2.same e3
      cases hp : p xs[i] with
      | false =>
        refine iteF ⟨?_, ek.trans e3⟩
        rw [etake, List.filter_append, List.map_append, List.filter_cons, if_neg (by rw [hp]; decide)]
        simpa using st2'
      | true =>
        refine iteT (he _ ha hp B X H1 σ2 H3 st4 _ fun y H4 e4 st5 o5 => ?_)
        have st6 := st2'.same e4
        obtain ⟨acc, g1, g2⟩ := st6.at (List.mem_cons_self ..)
        have hlen : acc.length ≤ 50000 := by
          rw [vsok_len g2, List.length_map]
          exact Nat.le_trans (List.length_filter_le _ _) (Nat.le_trans (List.length_take_le' _ _) hl)
        have tp := tups_wr (u := .lst (acc ++ [y])) g1 (fun _ z => (nomatch z)) (fun _ _ z => (nomatch z))
        have st7 := st6.wr (n := 0) (mo' := .lst (((xs.take i).filter p).map f ++ [f xs[i]])) rfl rfl (fun u hu => by rw [g1] at hu; cases hu; exact ⟨fun _ z => (nomatch z), fun _ _ z => (nomatch z)⟩)
          ⟨_, upd_same, vsok_tups tp (vsok_app g2 ⟨o5, trivial⟩)⟩
        refine ⟨acc, g1, szl (by omega), ?_, fun b o hb => ?_⟩
        · rw [etake, List.filter_append, List.map_append, List.filter_cons, if_pos hp]
          exact st7
        · have nb : b ≠ D := ne_of_none hb hD
          rw [upd_ne nb]
          exact (ek.trans (e3.trans e4)) b o hb
    · have pv2 := pv.1
      rw [List.length_map, List.take_length] at pv2
      exact q D H' (e1.trans pv.2) (free_back e1 hD) (pv2.retup (st1.tp.trans pv2.tp))
end
end Tw

/-! ### what draws -/
namespace Tw
open PySem L2
section
variable (K : PySem.W.Frag)
def EvX (te : TE) (S : Sl) (M : Ml) (R : SV → Ml → Prop) : Prop := ∀ B X T σ H F, Sat K B X T S (F ++ M) σ H → ∀ Q : VK,
  (∀ v H' s M', R s M' → Tups H H' → Sat K B X T S (F ++ M') σ H' → VOk K H' v s → Q v H') → te σ H Q
def EvXT (tt : TT) (S : Sl) (M : Ml) (R : Bool → Ml → Prop) : Prop := ∀ B X T σ H F, Sat K B X T S (F ++ M) σ H → ∀ Q : Bool → Hp → Prop,
  (∀ H' b M', R b M' → Tups H H' → Sat K B X T S (F ++ M') σ H' → Q b H') → tt σ H Q
def EvXA (ta : TA) (S : Sl) (M : Ml) (R : List SV → Ml → Prop) : Prop := ∀ B X T σ H F, Sat K B X T S (F ++ M) σ H → ∀ Q : List V → Hp → Prop,
  (∀ vs H' ss M', R ss M' → Tups H H' → Sat K B X T S (F ++ M') σ H' → VsOk K H' vs ss → Q vs H') → ta σ H Q
end
def dkM (dk cl : Addr) (m : Nat) (M : Ml) : Ml := (dk, .deck cl m) :: (cl, .cells) :: M
section
variable {K : PySem.W.Frag} {B : Hp} {X : List Addr} {T : Hp} {S : Sl} {M M' F : Ml} {σ : St} {H H' : Hp} {dk cl : Addr} {m m' : Nat}
theorem Sat.deckAt (st : Sat K B X T S (F ++ dkM dk cl m M) σ H) : DeckAt H dk cl m := by
  have h1 : MOk K H dk (.deck cl m) := st.at (List.mem_append_right _ (List.mem_cons_self ..))
  have h2 : MOk K H cl .cells := st.at (List.mem_append_right _ (List.mem_cons_of_mem _ (List.mem_cons_self ..)))
  obtain ⟨s, n, a, b, c, d, e⟩ := h1
  obtain ⟨cs, f, g⟩ := h2
  exact ⟨ne_of e g (by intro z; cases z), s, n, cs, a, b, c, d, f, e, g⟩
/-- behind a draw -/
theorem Sat.drawn (st : Sat K B X T S (F ++ dkM dk cl m M) σ H) (e : But dk cl H H') (D : DeckAt H' dk cl m') : Sat K B X T S (F ++ dkM dk cl m' M) σ H' ∧ Tups H H' := by
  have tp : Tups H H' := e.tups st.deckAt.hs
  have hn := st.nod
  have o1 : B dk = none ∨ dk ∈ X := st.own (dk, .deck cl m) (List.mem_append_right _ (List.mem_cons_self ..)) rfl
  have o2 : B cl = none ∨ cl ∈ X := st.own (cl, .cells) (List.mem_append_right _ (List.mem_cons_of_mem _ (List.mem_cons_self ..))) rfl
  have hdk : ∀ p ∈ F ++ M, p.1 ≠ dk ∧ p.1 ≠ cl := fun p hp => by
    rw [List.map_append] at hn
    have hm : (dkM dk cl m M).map (·.1) = dk :: cl :: M.map (·.1) := rfl
    rw [hm] at hn
    obtain ⟨n1, n2, n3⟩ := List.nodup_append.mp hn
    rcases List.mem_append.mp hp with q | q
    · have q' : p.1 ∈ F.map (·.1) := List.mem_map.mpr ⟨p, q, rfl⟩
      exact ⟨n3 _ q' _ (List.mem_cons_self ..), n3 _ q' _ (List.mem_cons_of_mem _ (List.mem_cons_self ..))⟩
    · have q' : p.1 ∈ M.map (·.1) := List.mem_map.mpr ⟨p, q, rfl⟩
      obtain ⟨a1, a2⟩ := List.nodup_cons.mp n2
      obtain ⟨b1, b2⟩ := List.nodup_cons.mp a2
      exact ⟨fun z => a1 (List.mem_cons_of_mem _ (z ▸ q')), fun z => b1 (z ▸ q')⟩
  obtain ⟨ne, s, n, cs, a, b, c, d, f, g1, g2⟩ := D
  refine ⟨⟨st.len, fun i s h => let ⟨v, h1, h2⟩ := st.sl i s h; ⟨v, h1, vok_tups tp h2⟩, fun p hp => ?_, (by have z := hn; rw [List.map_append] at z ⊢; exact z), fun p hp hw => ?_, fun x o hx nx => ?_, fun x hx => ?_, st.tp.trans tp⟩, tp⟩
  · rcases List.mem_append.mp hp with q | q
    · have h0 : p ∈ F ++ M := List.mem_append_left _ q
      exact mok_keep tp (st.mem p (List.mem_append_left _ q)) fun u hu => e _ _ hu (hdk p h0).1 (hdk p h0).2
    · rcases List.mem_cons.mp q with z | q
      · subst z; exact ⟨s, n, a, b, c, d, g1⟩
      · rcases List.mem_cons.mp q with z | q
        · subst z; exact ⟨cs, f, g2⟩
        · have h0 : p ∈ F ++ M := List.mem_append_right _ q
          exact mok_keep tp (st.mem p (List.mem_append_right _ (List.mem_cons_of_mem _ (List.mem_cons_of_mem _ q)))) fun u hu => e _ _ hu (hdk p h0).1 (hdk p h0).2
  · rcases List.mem_append.mp hp with q | q
    · exact st.own p (List.mem_append_left _ q) hw
    · rcases List.mem_cons.mp q with z | q
      · subst z; exact o1
      · exact st.own p (List.mem_append_right _ (List.mem_cons_of_mem _ q)) hw
  · have hx' := st.old x o hx nx
    refine e x o hx' (fun z => ?_) (fun z => ?_)
    · subst z
      rcases o1 with w | w
      · rw [hx] at w; cases w
      · exact nx w
    · subst z
      rcases o2 with w | w
      · rw [hx] at w; cases w
      · exact nx w
  · obtain ⟨o, ho⟩ := st.kp x hx
    by_cases z1 : x = dk
    · subst z1; exact ⟨_, g1⟩
    · by_cases z2 : x = cl
      · subst z2; exact ⟨_, g2⟩
      · exact ⟨o, e x o ho z1 z2⟩
variable {te ta tb : TE} {tt tu : TT} {x y z s : SV} {r : R2} {R R' : SV → Ml → Prop} {tas : TA}
theorem EvX.mono (h : EvX K te S M R) (hr : ∀ s M', R s M' → R' s M') : EvX K te S M R' := fun B X T σ H F st Q q => h B X T σ H F st Q fun v H' s M' r => q v H' s M' (hr _ _ r)
theorem EvXT.mono {R R' : Bool → Ml → Prop} (h : EvXT K tt S M R) (hr : ∀ s M', R s M' → R' s M') : EvXT K tt S M R' := fun B X T σ H F st Q q => h B X T σ H F st Q fun H' s M' r => q H' s M' (hr _ _ r)
/-- nothing is drawn -/
theorem evx_of (h : ∀ F, Ev K te S (F ++ M) s) : EvX K te S M (fun s' M' => s' = s ∧ M' = M) := fun B X T σ H F st Q q => h F B X T σ H st Q fun v H' e st' o => q v H' s M ⟨rfl, rfl⟩ (Same.tups e) st' o
theorem evx_new {o : MO} (h : ∀ F, EvN K te S (F ++ M) o) : EvX K te S M (fun s' M' => ∃ p, s' = .m p ∧ M' = (p, o) :: M) := fun B X T σ H F st Q q => h F B X T σ H st Q fun p H' e f st' => q _ H' (.m p) ((p, o) :: M) ⟨p, rfl, rfl⟩ (Same.tups e) (st'.perm List.perm_middle) rfl
theorem evxt_of {b : Bool} (h : ∀ F, EvT K tt S (F ++ M) b) : EvXT K tt S M (fun b' M' => b' = b ∧ M' = M) := fun B X T σ H F st Q q => h F B X T σ H st Q fun H' e st' => q H' b M ⟨rfl, rfl⟩ (Same.tups e) st'
theorem evx_op {R1 : SV → Ml → Prop} {R2 : SV → Ml → SV → Ml → Prop} (f : SV → SV → SV) (ha : EvX K ta S M R1) (hb : ∀ x M1, R1 x M1 → EvX K tb S M1 (R2 x M1)) (hr : ∀ x M1 y M2 F, R1 x M1 → R2 x M1 y M2 → RV K r (F ++ M2) x y (f x y)) :
    EvX K (tOp r ta tb) S M (fun s M' => ∃ x M1 y, R1 x M1 ∧ R2 x M1 y M' ∧ s = f x y) := fun B X T σ H F st Q q =>
  ha B X T σ H F st _ fun v H1 x M1 r1 t1 st1 o1 => hb x M1 r1 B X T σ H1 F st1 _ fun w H2 y M2 r2 t2 st2 o2 => hr x M1 y M2 F r1 r2 B X T S σ H2 st2 v w (vok_tups t2 o1) o2 Q fun u H3 e3 o3 => q u H3 _ M2 ⟨x, M1, y, r1, r2, rfl⟩ (t1.trans (t2.trans (Same.tups e3))) (st2.same e3) o3
/-- a known operand, then a drawn one -/
theorem evx_opC (ha : ∀ F, Ev K ta S (F ++ M) x) (hb : EvX K tb S M R) (f : SV → SV) (hr : ∀ y M2 F, R y M2 → RV K r (F ++ M2) x y (f y)) : EvX K (tOp r ta tb) S M (fun s M' => ∃ y, R y M' ∧ s = f y) := fun B X T σ H F st Q q =>
  ha F B X T σ H st _ fun v H1 e1 st1 o1 => hb B X T σ H1 F st1 _ fun w H2 y M2 r2 t2 st2 o2 => hr y M2 F r2 B X T S σ H2 st2 v w (vok_tups t2 o1) o2 Q fun u H3 e3 o3 => q u H3 _ M2 ⟨y, r2, rfl⟩ ((Same.tups e1).trans (t2.trans (Same.tups e3))) (st2.same e3) o3
/-- a drawn one, then a known one -/
theorem evx_opR (ha : EvX K ta S M R) (hb : ∀ y M' F, R y M' → Ev K tb S (F ++ M') x) (f : SV → SV) (hr : ∀ y M' F, R y M' → RV K r (F ++ M') y x (f y)) : EvX K (tOp r ta tb) S M (fun s M' => ∃ y, R y M' ∧ s = f y) := fun B X T σ H F st Q q =>
  ha B X T σ H F st _ fun v H1 y M1 r1 t1 st1 o1 => hb y M1 F r1 B X T σ H1 st1 _ fun w H2 e2 st2 o2 => hr y M1 F r1 B X T S σ H2 st2 v w (vok_same e2 o1) o2 Q fun u H3 e3 o3 => q u H3 _ M1 ⟨y, r1, rfl⟩ (t1.trans ((Same.tups e2).trans (Same.tups e3))) (st2.same e3) o3
theorem evxt_test {Rb : Bool → Ml → Prop} (h : EvX K te S M R) (hb : ∀ s M', R s M' → ∃ b, s = .d (.bool b) ∧ Rb b M') : EvXT K (tTest te) S M Rb := fun B X T σ H F st Q q =>
  h B X T σ H F st _ fun v H1 s M1 r1 t1 st1 o1 => by
    obtain ⟨b, rfl, rb⟩ := hb s M1 r1
    exact ⟨b, vok_bl o1, q H1 b M1 rb t1 st1⟩
theorem evxt_B {Rb : Bool → Ml → Prop} (h : EvX K te S M R) (hb : ∀ s M', R s M' → ∃ b, s = .d (.bool b) ∧ Rb b M') : EvXT K (tB te) S M Rb := fun B X T σ H F st Q q =>
  h B X T σ H F st _ fun v H1 s M1 r1 t1 st1 o1 => by
    obtain ⟨b, rfl, rb⟩ := hb s M1 r1
    exact ⟨b, vok_bl o1, q H1 b M1 rb t1 st1⟩
theorem evxt_and {Ra : Bool → Ml → Prop} {Rb : Ml → Bool → Ml → Prop} (h1 : EvXT K tt S M Ra) (h2 : ∀ M1, Ra true M1 → EvXT K tu S M1 (Rb M1)) : EvXT K (tAnd tt tu) S M (fun b M' => (b = false ∧ Ra false M') ∨ ∃ M1, Ra true M1 ∧ Rb M1 b M') := fun B X T σ H F st Q q =>
  h1 B X T σ H F st _ fun H1 a M1 ra t1 st1 => by
    cases a with
    | true => exact iteT (h2 M1 ra B X T σ H1 F st1 Q fun H2 b M2 rb t2 st2 => q H2 b M2 (.inr ⟨M1, ra, rb⟩) (t1.trans t2) st2)
    | false => exact iteF (q H1 false M1 (.inl ⟨rfl, ra⟩) t1 st1)
theorem evxt_or {Ra : Bool → Ml → Prop} {Rb : Ml → Bool → Ml → Prop} (h1 : EvXT K tt S M Ra) (h2 : ∀ M1, Ra false M1 → EvXT K tu S M1 (Rb M1)) : EvXT K (tOr tt tu) S M (fun b M' => (b = true ∧ Ra true M') ∨ ∃ M1, Ra false M1 ∧ Rb M1 b M') := fun B X T σ H F st Q q =>
  h1 B X T σ H F st _ fun H1 a M1 ra t1 st1 => by
    cases a with
    | false => exact iteF (h2 M1 ra B X T σ H1 F st1 Q fun H2 b M2 rb t2 st2 => q H2 b M2 (.inr ⟨M1, ra, rb⟩) (t1.trans t2) st2)
    | true => exact iteT (q H1 true M1 (.inl ⟨rfl, ra⟩) t1 st1)
theorem evxt_not {Ra : Bool → Ml → Prop} (h1 : EvXT K tt S M Ra) : EvXT K (tNot tt) S M (fun b M' => ∃ a, b = !a ∧ Ra a M') := fun B X T σ H F st Q q =>
  h1 B X T σ H F st _ fun H1 a M1 ra t1 st1 => q H1 (!a) M1 ⟨a, rfl, ra⟩ t1 st1
/-! arguments -/
theorem exa_of {ss : List SV} (h : ∀ F, EvA K tas S (F ++ M) ss) : EvXA K tas S M (fun ss' M' => ss' = ss ∧ M' = M) := fun B X T σ H F st Q q => h F B X T σ H st Q fun v H' e st' o => q v H' ss M ⟨rfl, rfl⟩ (Same.tups e) st' o
theorem exa_nil : EvXA K tNil S M (fun ss M' => ss = [] ∧ M' = M) := exa_of fun _ => ea_nil
theorem exa_cons {R1 : SV → Ml → Prop} {R2 : SV → Ml → List SV → Ml → Prop} (h : EvX K ta S M R1) (hr : ∀ x M1, R1 x M1 → EvXA K tas S M1 (R2 x M1)) : EvXA K (tCons ta tas) S M (fun ss M' => ∃ x M1 xs, ss = x :: xs ∧ R1 x M1 ∧ R2 x M1 xs M') := fun B X T σ H F st Q q =>
  h B X T σ H F st _ fun v H1 x M1 r1 t1 st1 o1 => hr x M1 r1 B X T σ H1 F st1 _ fun vs H2 xs M2 r2 t2 st2 o2 => q _ H2 (x :: xs) M2 ⟨x, M1, xs, rfl, r1, r2⟩ (t1.trans t2) st2 ⟨vok_tups t2 o1, o2⟩
/-- objects ahead that are not touched -/
theorem evx_frame (F0 : Ml) (h : EvX K te S M R) : EvX K te S (F0 ++ M) (fun s M' => ∃ M1, M' = F0 ++ M1 ∧ R s M1) := fun B X T σ H F st Q q =>
  h B X T σ H (F ++ F0) (by rw [List.append_assoc]; exact st) Q fun v H' s M' r t st' o => q v H' s (F0 ++ M') ⟨M', rfl, r⟩ t (by rw [← List.append_assoc]; exact st') o
theorem evxt_frame {R : Bool → Ml → Prop} (F0 : Ml) (h : EvXT K tt S M R) : EvXT K tt S (F0 ++ M) (fun s M' => ∃ M1, M' = F0 ++ M1 ∧ R s M1) := fun B X T σ H F st Q q =>
  h B X T σ H (F ++ F0) (by rw [List.append_assoc]; exact st) Q fun H' s M' r t st' => q H' s (F0 ++ M') ⟨M', rfl, r⟩ t (by rw [← List.append_assoc]; exact st')
theorem exa_frame {R : List SV → Ml → Prop} (F0 : Ml) (h : EvXA K tas S M R) : EvXA K tas S (F0 ++ M) (fun s M' => ∃ M1, M' = F0 ++ M1 ∧ R s M1) := fun B X T σ H F st Q q =>
  h B X T σ H (F ++ F0) (by rw [List.append_assoc]; exact st) Q fun v H' s M' r t st' o => q v H' s (F0 ++ M') ⟨M', rfl, r⟩ t (by rw [← List.append_assoc]; exact st') o
theorem EvXA.mono {R R' : List SV → Ml → Prop} (h : EvXA K tas S M R) (hr : ∀ s M', R s M' → R' s M') : EvXA K tas S M R' := fun B X T σ H F st Q q => h B X T σ H F st Q fun v H' s M' r => q v H' s M' (hr _ _ r)
/-- f(deck, ..) -/
theorem evx_call {i : Nat} {sp : Sp} {E : XK} {ss : List SV} {Rs : SV → Prop} (hi : S[i]? = some (some (.m dk))) (ha : ∀ F, EvA K tas S (F ++ dkM dk cl m M) ss)
    (hsp : ∀ H vs (Q : VK), VsOk K H vs ss → DeckAt H dk cl m → (∀ v H' s, Rs s → But dk cl H H' → DeckAt H' dk cl m' → VOk K H' v s → Q v H') → sp (.ref dk :: (vs ++ [])) H Q E) :
    EvX K (tCall sp [] E (tCons (tVar i) tas)) S (dkM dk cl m M) (fun s M' => Rs s ∧ M' = dkM dk cl m' M) := fun B X T σ H F st Q q => by
  obtain ⟨v, h1, h2⟩ := st.sl i _ hi
  have hv : v = .ref dk := h2
  subst hv
  refine ⟨.ref dk, h1, ha F B X T σ H st _ fun vs H1 e1 st1 o1 => ?_⟩
  refine hsp H1 vs Q o1 st1.deckAt fun u H2 s rs e2 D2 o2 => ?_
  obtain ⟨st2, t2⟩ := st1.drawn e2 D2
  exact q u H2 s _ ⟨rs, rfl⟩ ((Same.tups e1).trans t2) st2 o2
/-- a comprehension that draws -/
theorem evx_lc {wi : TI} {g : TG} {α : Type} {xs : List α} {enc : α → SV} {fS : α → Sl → Sl} {js vs : List Nat} (Iv : Nat → List SV → Ml → Prop) (h : ∀ F, EvI K wi S (F ++ M) (xs.map enc) []) (hj : ∀ j ∈ js, j ∈ vs) (hl : ∀ i acc M', Iv i acc M' → acc.length ≤ 50000)
    (hg : ∀ a, a ∈ xs → Tg K g (enc a) (fS a) js) (h0 : Iv 0 [] M)
    (hs : ∀ i a acc M', xs[i]? = some a → Iv i acc M' → ∃ Rt : Bool → Ml → Prop, EvXT K tt (fS a (wipeS S vs)) M' Rt ∧ (∀ M2, Rt false M2 → Iv (i + 1) acc M2) ∧ (∀ M2, Rt true M2 → EvX K te (fS a (wipeS S vs)) M2 (fun s M3 => Iv (i + 1) (acc ++ [s]) M3))) :
    EvX K (tLc wi g tt te vs) S M (fun s M' => ∃ p acc M1, s = .m p ∧ M' = (p, .lst acc) :: M1 ∧ Iv xs.length acc M1) := fun B X T σ H F st Q q =>
  h F B X T σ H st _ fun J H1 G Y e1 st1 w hG hY D hD => by
    have stD : Sat K B X H1 S (((D, .lst []) :: F) ++ M) σ (upd H1 D (.lst [])) := (st1.retup (Tups.refl H1)).new hD ⟨[], upd_same, trivial⟩
    refine lc_it w (Pv := fun i H' => ∃ acc M', Iv i acc M' ∧ Sat K B X H1 S (((D, .lst acc) :: F) ++ M') σ H') ⟨[], M, h0, stD⟩
      (fun i H' _ pv => by obtain ⟨acc, M', iv, st'⟩ := pv; exact hG H' st'.tp fun _ z => nomatch z) (fun i v H' H'' hi pv y => ?_) fun H' pv => ?_
    · obtain ⟨acc, M', iv, st'⟩ := pv
      obtain ⟨e2, hv⟩ := hY i H' v H'' hi (hG H' st'.tp fun _ z => nomatch z) y
      rw [List.length_map] at hi
      have hx : xs[i]? = some xs[i] := List.getElem?_eq_getElem hi
      have ha : xs[i] ∈ xs := List.getElem_mem hi
      have hv' := hv (enc xs[i]) (by rw [List.getElem?_map, hx] <;> rfl)
      have st2 := st'.same e2
      refine hg _ ha B X H1 (wipeS S vs) _ (L2.wipe σ vs) H'' (st2.wipe vs) v hv' _ fun σ2 st3 hw => ⟨by rw [hw vs hj]; exact wipe_wipe, ?_⟩
      obtain ⟨Rt, k1, k2, k3⟩ := hs i _ acc M' hx iv
      refine k1 B X H1 σ2 H'' _ st3 _ fun H3 b M2 rt t3 st4 => ?_
      have hb : Sat K B X H1 S (((D, .lst acc) :: F) ++ M2) σ H3 := st4.slotsT st2 t3
      cases b with
      | false => exact iteF ⟨acc, M2, k2 M2 rt, hb⟩
      | true =>
        refine iteT (k3 M2 rt B X H1 σ2 H3 _ st4 _ fun y H4 s M3 iv3 t4 st5 o5 => ?_)
        have hc : Sat K B X H1 S (((D, .lst acc) :: F) ++ M3) σ H4 := st5.slotsT hb t4
        obtain ⟨vs', g1, g2⟩ := hc.at (List.mem_append_left _ (List.mem_cons_self ..))
        have hlen : vs'.length ≤ 50000 := by rw [vsok_len g2]; exact hl i acc M' iv
        have tp := tups_wr (u := .lst (vs' ++ [y])) g1 (fun _ z => (nomatch z)) (fun _ _ z => (nomatch z))
        exact ⟨vs', g1, szl (by omega), acc ++ [s], M3, iv3, hc.wr (n := 0) (mo' := .lst (acc ++ [s])) rfl rfl (fun u hu => by rw [g1] at hu; cases hu; exact ⟨fun _ z => (nomatch z), fun _ _ z => (nomatch z)⟩)
          ⟨_, upd_same, vsok_tups tp (vsok_app g2 ⟨o5, trivial⟩)⟩⟩
    · obtain ⟨acc, M', iv, st'⟩ := pv
      rw [List.length_map] at iv
      exact q _ H' (.m D) ((D, .lst acc) :: M') ⟨D, acc, M', rfl, rfl, iv⟩ ((Same.tups e1).trans st'.tp) ((st'.retup (st1.tp.trans st'.tp)).perm List.perm_middle) rfl
/-! statements that draw -/
variable {D : Ends} {tz tv tw : TS}
theorem x_set {i : Nat} (F : Ml) (st : Sat K B X T S (F ++ M) σ H) (h : EvX K te S M R) (k : ∀ s M' σ' H', R s M' → Sat K B X T (S.set i (some s)) (F ++ M') σ' H' → tz D σ' H') : tSeq (tAsg te (gName i)) tz D σ H :=
  h B X T σ H F st _ fun v H1 s M1 r1 t1 st1 o1 => k s M1 _ _ r1 (st1.set o1 i)
/-- a, b = x, y without a tuple, with one -/
theorem x_par {i j : Nat} {Ra : List SV → Ml → Prop} (F : Ml) (st : Sat K B X T S (F ++ M) σ H) (h : EvXA K tas S M Ra) (k : ∀ ss M', Ra ss M' → ∃ s s', ss = [s, s'] ∧ ∀ σ' H', Sat K B X T ((S.set i (some s)).set j (some s')) (F ++ M') σ' H' → tz D σ' H') : tSeq (tPar i j tas) tz D σ H :=
  h B X T σ H F st _ fun vs H1 ss M1 r1 t1 st1 o1 => by
    obtain ⟨s, s', rfl, kk⟩ := k ss M1 r1
    match vs, o1 with
    | [v, w], o1 => exact ⟨v, w, rfl, kk _ _ ((st1.set o1.1 i).set o1.2.1 j)⟩
theorem x_tup2 {i j n : Nat} {Ra : List SV → Ml → Prop} (F : Ml) (st : Sat K B X T S (F ++ M) σ H) (h : EvXA K tas S M Ra) (k : ∀ ss M', Ra ss M' → ∃ s s', ss = [s, s'] ∧ ∀ σ' H', Sat K B X T ((S.set i (some s)).set j (some s')) (F ++ M') σ' H' → tz D σ' H') (hn : 2 = n := by rfl) :
    tSeq (tAsg (tTup tas) (gTup K n (gCons (gName i) (gCons (gName j) gNil)))) tz D σ H :=
  h B X T σ H F st _ fun vs H1 ss M1 r1 t1 st1 o1 => by
    obtain ⟨s, s', rfl, kk⟩ := k ss M1 r1
    match vs, o1 with
    | [v, w], o1 =>
      refine ⟨by show 2 ≤ sizeLine; decide, fun p hp => ?_⟩
      have e : Same H1 (upd H1 p (.tup [v, w])) := same_new hp
      exact ⟨p, [v, w], rfl, .inl (.inl upd_same), hn, v, _, rfl, w, _, rfl, rfl, kk _ _ (((st1.same e).set (vok_same e o1.1) i).set (vok_same e o1.2.1) j)⟩
theorem x_if {Rb : Bool → Ml → Prop} (F : Ml) (st : Sat K B X T S (F ++ M) σ H) (h : EvXT K tt S M Rb) (h1 : ∀ M' H', Rb true M' → Sat K B X T S (F ++ M') σ H' → tv { D with nx := tz D } σ H') (h2 : ∀ M' H', Rb false M' → Sat K B X T S (F ++ M') σ H' → tw { D with nx := tz D } σ H') : tSeq (tIfS tt tv tw) tz D σ H :=
  h B X T σ H F st _ fun H1 b M1 rb t1 st1 => by
    cases b with
    | true => exact iteT (h1 M1 H1 rb st1)
    | false => exact iteF (h2 M1 H1 rb st1)
theorem x_ret (F : Ml) (st : Sat K B X T S (F ++ M) σ H) (h : EvX K te S M R) (k : ∀ v s M' H', R s M' → Sat K B X T S (F ++ M') σ H' → VOk K H' v s → D.rt v H') : tSeq (tRet te) tz D σ H :=
  h B X T σ H F st _ fun v H1 s M1 r1 t1 st1 o1 => k v s M1 H1 r1 st1 o1
/-- l.extend(a new list, drawn), l ahead of the frame -/
theorem x_extend {l : Addr} {xs : List SV} (F : Ml) (st : Sat K B X T S ((l, .lst xs) :: (F ++ M)) σ H) (ho : Ev K ta S ((l, .lst xs) :: (F ++ M)) (.m l)) (h : EvX K te S M R)
    (k : ∀ s M', R s M' → ∃ p ys M1, s = .m p ∧ M' = (p, .lst ys) :: M1 ∧ xs.length + ys.length ≤ 100000 ∧ ∀ H', Sat K B X T S ((l, .lst (xs ++ ys)) :: (F ++ M1)) σ H' → tz D σ H') : tSeq (tDrop (tBM K "list" rExtend ta (tCons te tNil))) tz D σ H :=
  ho B X T σ H st _ fun v H1 e1 st1 o1 => by
    have hv : v = .ref l := o1
    subst hv
    obtain ⟨vs, h1, h2⟩ := st1.at (List.mem_cons_self ..)
    refine ⟨Or.inl ⟨rfl, _, .inl (.inl h1)⟩, h B X T σ H1 ((l, .lst xs) :: F) st1 _ fun u H2 s M2 r2 t2 st2 o2 => ?_⟩
    obtain ⟨p, ys, M1, rfl, rfl, hl, kk⟩ := k s M2 r2
    have hu : u = .ref p := o2
    subst hu
    obtain ⟨ws, g1, g2⟩ := st2.at (show (p, MO.lst ys) ∈ _ from List.mem_append_right _ (List.mem_cons_self ..))
    obtain ⟨vs', h1', h2'⟩ := st2.at (show (l, MO.lst xs) ∈ _ from List.mem_append_left _ (List.mem_cons_self ..))
    refine ⟨l, p, vs', ws, rfl, rfl, h1', g1, by rw [vsok_len h2', vsok_len g2]; exact sz hl, kk _ ?_⟩
    have st3 : Sat K B X T S ((l, .lst xs) :: (F ++ M1)) σ H2 := st2.drop (List.Sublist.cons_cons _ (List.Sublist.append_left (List.sublist_cons_self _ _) F))
    exact st3.wr (n := 0) (mo' := .lst (xs ++ ys)) rfl rfl (fun u hu => by rw [h1'] at hu; cases hu; exact ⟨fun _ z => (nomatch z), fun _ _ z => (nomatch z)⟩)
      ⟨_, upd_same, vsok_tups (tups_wr h1' (fun _ z => (nomatch z)) (fun _ _ z => (nomatch z))) (vsok_app h2' g2)⟩
theorem mok_deckMono {a : Addr} (h : MOk K H a (.deck cl m)) (hm : m ≤ m') : MOk K H a (.deck cl m') := by
  obtain ⟨s, n, a1, a2, a3, a4, a5⟩ := h
  exact ⟨s, n, a1, a2, a3, by omega, a5⟩
theorem Sat.deckMono (st : Sat K B X T S (F ++ dkM dk cl m M) σ H) (hm : m ≤ m') : Sat K B X T S (F ++ dkM dk cl m' M) σ H := by
  have h := st.drawn (But.refl dk cl H) (st.deckAt.mono hm)
  exact h.1
end
end Tw

/-! ### promises over data, calls, attributes, built-ins -/
namespace Tw
open PySem L2
section
variable (K : PySem.W.Frag)
/-- a def that hands back a value; ok: arguments, objects of use, the answer -/
def spV (ok : List SV → Ml → SV → Prop) : Sp := fun vs H Q _ => ∃ ss M0 r, VsOk K H vs ss ∧ (∀ p ∈ M0, MOk K H p.1 p.2) ∧ (M0.map (·.1)).Nodup ∧ (∀ p ∈ M0, p.2.wr = false) ∧ ok ss M0 r ∧ ∀ v H', Same H H' → VOk K H' v r → Q v H'
/-- a def that hands back a new object -/
def spN (ok : List SV → Ml → MO → Prop) : Sp := fun vs H Q _ => ∃ ss M0 o, VsOk K H vs ss ∧ (∀ p ∈ M0, MOk K H p.1 p.2) ∧ (M0.map (·.1)).Nodup ∧ (∀ p ∈ M0, p.2.wr = false) ∧ ok ss M0 o ∧ ∀ p H', Same H H' → H p = none → MOk K H' p o → Q (.ref p) H'
/-- an __init__ of a class at C -/
def spI (C : Addr) (ok : List SV → List (Str × SV) → Prop) : Sp := fun vs H Q _ => ∃ x dx us ss fs, vs = .ref x :: us ∧ H x = some (.ins C dx []) ∧ VsOk K H us ss ∧ ok ss fs ∧ ∀ H', (∀ b o, H b = some o → b ≠ x → H' b = some o) → MOk K H' x (.ins C fs) → Q .non H'
end
def startS (n : Nat) (ss : List SV) : Sl := ss.map some ++ List.replicate (n - ss.length) none
section
variable {K : PySem.W.Frag} {B : Hp} {X : List Addr} {T : Hp} {S : Sl} {M M0 : Ml} {σ : St} {H H' : Hp}
theorem sat_start {N : List Str} {vs : List V} {ss : List SV} (h : VsOk K H vs ss) (hm : ∀ p ∈ M0, MOk K H p.1 p.2) (hn : (M0.map (·.1)).Nodup) (ho : ∀ p ∈ M0, p.2.wr = false) : Sat K H [] H (startS N.length ss) M0 (L2.start N vs) H where
  len := by unfold L2.start startS; rw [List.length_append, List.length_append, List.length_map, List.length_map, List.length_replicate, List.length_replicate, vsok_len h]
  sl := fun i s hs => by
    unfold startS at hs
    rw [List.getElem?_append] at hs
    rw [List.length_map] at hs
    by_cases hi : i < ss.length
    · rw [if_pos hi, List.getElem?_map] at hs
      cases q : ss[i]? with
      | none => rw [q] at hs; cases hs
      | some s' =>
        rw [q] at hs
        have e : s' = s := Option.some.inj (Option.some.inj hs)
        subst e
        obtain ⟨v, h1, h2⟩ := vsok_getS h q
        refine ⟨v, ?_, h2⟩
        unfold L2.start
        rw [List.getElem?_append_left (by rw [List.length_map, vsok_len h]; exact hi), List.getElem?_map, h1] <;> rfl
    · rw [if_neg hi, List.getElem?_replicate] at hs
      split at hs <;> cases hs
  mem := hm
  nod := hn
  own := fun p hp h => by rw [ho p hp] at h; cases h
  old := fun _ _ h _ => h
  kp := fun _ h => nomatch h
  tp := Tups.refl H
theorem sat_end (st : Sat K B [] T S M σ H) : Same B H := fun b o h => st.old b o h (fun z => nomatch z)
variable {te ta tb : TE} {tas : TA} {tt : TT} {s r x y z : SV} {ss : List SV} {o mo : MO} {E : XK} {C a : Addr} {fs : List (Str × SV)}
theorem nodM (st : Sat K B X T S M σ H) (h : M0.Sublist M) : (M0.map (·.1)).Nodup := (h.map _).nodup st.nod
theorem nil_sub : ([] : Ml).Sublist M := List.nil_sublist _
/-- f(..) by its promise -/
theorem ev_call {ok : List SV → Ml → SV → Prop} (ha : EvA K tas S M ss) (M0 : Ml) (hM : M0.Sublist M) (hr : ∀ p ∈ M0, p.2.wr = false) (h : ok ss M0 r) : Ev K (tCall (spV K ok) [] E tas) S M r := fun B X T σ H st Q q =>
  ha B X T σ H st _ fun vs H1 e1 st1 o1 => ⟨ss, M0, r, by rw [List.append_nil]; exact o1, fun p hp => st1.mem p (hM.subset hp), nodM st1 hM, hr, h, fun v H2 e2 o2 => q v H2 (e1.trans e2) (st1.same e2) o2⟩
theorem Sat.newOf (st : Sat K B X T S M σ H) {p : Addr} (e : Same H H') (f : H p = none) (ok : MOk K H' p o) : Sat K B X T S ((p, o) :: M) σ H' := by
  have b := st.same e
  refine ⟨b.len, b.sl, fun q hq => ?_, ?_, fun q hq hw => ?_, b.old, b.kp, b.tp⟩
  · rcases List.mem_cons.mp hq with z | z
    · subst z; exact ok
    · exact b.mem q z
  · rw [List.map_cons]
    exact List.nodup_cons.mpr ⟨(st.fresh f).2.2, st.nod⟩
  · rcases List.mem_cons.mp hq with z | z
    · subst z; exact .inl (st.fresh f).1
    · exact st.own q z hw
theorem evn_call {ok : List SV → Ml → MO → Prop} (ha : EvA K tas S M ss) (M0 : Ml) (hM : M0.Sublist M) (hr : ∀ p ∈ M0, p.2.wr = false) (h : ok ss M0 o) : EvN K (tCall (spN K ok) [] E tas) S M o := fun B X T σ H st Q q =>
  ha B X T σ H st _ fun vs H1 e1 st1 o1 => ⟨ss, M0, o, by rw [List.append_nil]; exact o1, fun p hp => st1.mem p (hM.subset hp), nodM st1 hM, hr, h, fun p H2 e2 f2 o2 => q p H2 (e1.trans e2) (free_back e1 f2) (st1.newOf e2 f2 o2)⟩
theorem ks_lookup {κ : Type} [BEq κ] [LawfulBEq κ] {k : κ} : ∀ {vs : List (κ × V)} {fs : List (κ × SV)}, KsOk K H vs fs → (fs.lookup k = none → vs.lookup k = none) ∧ ∀ s, fs.lookup k = some s → ∃ v, vs.lookup k = some v ∧ VOk K H v s
  | [], [], _ => ⟨fun _ => rfl, fun s h => by simp at h⟩
  | v :: vs, f :: fs, h => by
    obtain ⟨h1, h2, h3⟩ := h
    obtain ⟨i1, i2⟩ := ks_lookup (k := k) h3
    obtain ⟨a, va⟩ := v
    obtain ⟨b, sb⟩ := f
    simp only at h1 h2
    subst h1
    rw [List.lookup_cons, List.lookup_cons]
    cases q : (k == a) with
    | true => exact ⟨fun z => (nomatch z), fun s z => by
        have e : sb = s := Option.some.inj z
        subst e
        exact ⟨va, rfl, h2⟩⟩
    | false => exact ⟨i1, i2⟩
  | [], _ :: _, h => h.elim
  | _ :: _, [], h => h.elim
/-- o.m(..) -/
theorem ev_meth {m : Str} {ok : List SV → Ml → SV → Prop} (ho : Ev K ta S M (.m a)) (hi : (a, MO.ins C fs) ∈ M) (hm : fs.lookup m = none) (ha : EvA K tas S M ss) (M0 : Ml) (hM : M0.Sublist M) (hr : ∀ p ∈ M0, p.2.wr = false) (h : ok (.m a :: ss) M0 r) : Ev K (tMeth C m (spV K ok) [] E ta tas) S M r := fun B X T σ H st Q q =>
  ho B X T σ H st _ fun v H1 e1 st1 o1 => by
    have hv : v = .ref a := o1
    subst hv
    obtain ⟨dx, vs, g1, g2⟩ := st1.at hi
    refine ⟨a, dx, vs, rfl, g1, (ks_lookup g2).1 hm, ha B X T σ H1 st1 _ fun us H2 e2 st2 o2 => ?_⟩
    exact ⟨.m a :: ss, M0, r, by rw [List.append_nil]; exact ⟨rfl, o2⟩, fun p hp => st2.mem p (hM.subset hp), nodM st2 hM, hr, h, fun v H3 e3 o3 => q v H3 (e1.trans (e2.trans e3)) (st2.same e3) o3⟩
theorem evn_meth {m : Str} {ok : List SV → Ml → MO → Prop} (ho : Ev K ta S M (.m a)) (hi : (a, MO.ins C fs) ∈ M) (hm : fs.lookup m = none) (ha : EvA K tas S M ss) (M0 : Ml) (hM : M0.Sublist M) (hr : ∀ p ∈ M0, p.2.wr = false) (h : ok (.m a :: ss) M0 o) : EvN K (tMeth C m (spN K ok) [] E ta tas) S M o := fun B X T σ H st Q q =>
  ho B X T σ H st _ fun v H1 e1 st1 o1 => by
    have hv : v = .ref a := o1
    subst hv
    obtain ⟨dx, vs, g1, g2⟩ := st1.at hi
    refine ⟨a, dx, vs, rfl, g1, (ks_lookup g2).1 hm, ha B X T σ H1 st1 _ fun us H2 e2 st2 o2 => ?_⟩
    exact ⟨.m a :: ss, M0, o, by rw [List.append_nil]; exact ⟨rfl, o2⟩, fun p hp => st2.mem p (hM.subset hp), nodM st2 hM, hr, h, fun p H3 e3 f3 o3 => q p H3 (e1.trans (e2.trans e3)) (free_back (e1.trans e2) f3) (st2.newOf e3 f3 o3)⟩
/-- the receiver a new object -/
theorem evn_meth1 {m : Str} {ok : List SV → Ml → MO → Prop} (ho : EvN K ta S M (.ins C fs)) (hm : fs.lookup m = none) (ha : ∀ p, EvA K tas S ((p, .ins C fs) :: M) ss) (M0 : Addr → Ml) (hM : ∀ p, (M0 p).Sublist ((p, .ins C fs) :: M)) (hr : ∀ p, ∀ q ∈ M0 p, q.2.wr = false) (h : ∀ p, ok (.m p :: ss) (M0 p) o) : EvN K (tMeth C m (spN K ok) [] E ta tas) S M o := fun B X T σ H st Q q =>
  ho B X T σ H st _ fun p H1 e1 f1 st1 => by
    obtain ⟨dx, vs, g1, g2⟩ := st1.at (List.mem_cons_self ..)
    refine ⟨p, dx, vs, rfl, g1, (ks_lookup g2).1 hm, ha p B X T σ H1 st1 _ fun us H2 e2 st2 o2 => ?_⟩
    exact ⟨.m p :: ss, M0 p, o, by rw [List.append_nil]; exact ⟨rfl, o2⟩, fun p' hp => st2.mem p' ((hM p).subset hp), nodM st2 (hM p), hr p, h p, fun p' H3 e3 f3 o3 => q p' H3 (e1.trans (e2.trans e3)) (free_back (e1.trans e2) f3) ((st2.newOf e3 f3 o3).drop (List.Sublist.cons_cons _ (List.sublist_cons_self _ _)))⟩
theorem ev_meth1 {m : Str} {ok : List SV → Ml → SV → Prop} (ho : EvN K ta S M (.ins C fs)) (hm : fs.lookup m = none) (ha : ∀ p, EvA K tas S ((p, .ins C fs) :: M) ss) (M0 : Addr → Ml) (hM : ∀ p, (M0 p).Sublist ((p, .ins C fs) :: M)) (hr : ∀ p, ∀ q ∈ M0 p, q.2.wr = false) (h : ∀ p, ok (.m p :: ss) (M0 p) r) : Ev K (tMeth C m (spV K ok) [] E ta tas) S M r := fun B X T σ H st Q q =>
  ho B X T σ H st _ fun p H1 e1 f1 st1 => by
    obtain ⟨dx, vs, g1, g2⟩ := st1.at (List.mem_cons_self ..)
    refine ⟨p, dx, vs, rfl, g1, (ks_lookup g2).1 hm, ha p B X T σ H1 st1 _ fun us H2 e2 st2 o2 => ?_⟩
    exact ⟨.m p :: ss, M0 p, r, by rw [List.append_nil]; exact ⟨rfl, o2⟩, fun p' hp => st2.mem p' ((hM p).subset hp), nodM st2 (hM p), hr p, h p, fun v H3 e3 o3 => q v H3 (e1.trans (e2.trans e3)) (st2.tail.same e3) o3⟩
/-- C(..) -/
theorem evn_make {ok : List SV → List (Str × SV) → Prop} (ha : EvA K tas S M ss) (h : ok ss fs) : EvN K (tMake C (spI K C ok) [] E tas) S M (.ins C fs) := fun B X T σ H st Q q =>
  ha B X T σ H st _ fun vs H1 e1 st1 o1 => fun p dx hp hdx ne => by
    have e2 : Same H1 (upd (upd H1 dx (.own p)) p (.ins C dx [])) := fun b u hb => by
      rw [upd_ne (ne_of_none hb hp), upd_ne (ne_of_none hb hdx)]; exact hb
    refine ⟨p, dx, vs, ss, fs, by rw [List.append_nil], upd_same, vsok_tups (Same.tups e2) o1, h, fun H2 k2 o2 => ⟨rfl, ?_⟩⟩
    have e3 : Same H1 H2 := fun b u hb => k2 b u (e2 b u hb) (ne_of_none hb hp)
    exact q p H2 (e1.trans e3) (free_back e1 hp) (st1.newOf e3 hp o2)
/-- o.f -/
theorem ev_fld {f : Str} (ho : Ev K ta S M (.m a)) (hi : (a, MO.ins C fs) ∈ M) (c : Cls K C) (n : NoAttr K C f) (hf : fs.lookup f = some s) : Ev K (tFld K ta f) S M s := fun B X T σ H st Q q =>
  ho B X T σ H st _ fun v H1 e1 st1 o1 => by
    have hv : v = .ref a := o1
    subst hv
    obtain ⟨dx, vs, g1, g2⟩ := st1.at hi
    obtain ⟨w, k1, k2⟩ := (ks_lookup g2).2 s hf
    exact ⟨a, C, dx, vs, w, rfl, g1, c, n, k1, q w H1 e1 st1 k2⟩
def putS (f : Str) (v : SV) : List (Str × SV) → List (Str × SV)
  | [] => [(f, v)]
  | (g, x) :: r => if g = f then (g, v) :: r else (g, x) :: putS f v r
theorem ks_put {f : Str} {v : V} {s : SV} (hv : VOk K H v s) : ∀ {vs : List (Str × V)} {fs : List (Str × SV)}, KsOk K H vs fs → KsOk K H (putF f v vs) (putS f s fs)
  | [], [], _ => ⟨rfl, hv, trivial⟩
  | (a, va) :: vs, (b, sb) :: fs, h => by
    obtain ⟨h1, h2, h3⟩ := h
    simp only at h1 h2
    subst h1
    unfold putF putS
    by_cases q : a = f
    · rw [if_pos q, if_pos q]; exact ⟨rfl, hv, h3⟩
    · rw [if_neg q, if_neg q]; exact ⟨rfl, h2, ks_put hv h3⟩
  | [], _ :: _, h => h.elim
  | _ :: _, [], h => h.elim
/-- o.f = e -/
theorem q_fld {D : Ends} {tz : TS} {f : Str} {n : Nat} (st : Sat K B X T S M σ H) (hv : Ev K te S M s) (ho : Ev K ta S M (.m a)) (hi : M[n]? = some (a, .wins C fs)) (c : Cls K C) (na : NoAttr K C f) (hl : fs.length < 1000)
    (k : ∀ H', Sat K B X T S (M.set n (a, .wins C (putS f s fs))) σ H' → tz D σ H') : tSeq (sFld K ta te f) tz D σ H :=
  hv B X T σ H st _ fun v H1 e1 st1 o1 => ho B X T σ H1 st1 _ fun w H2 e2 st2 o2 => by
    have hw' : w = .ref a := o2
    subst hw'
    obtain ⟨dx, vs, g1, g2⟩ := st2.at (List.mem_of_getElem? hi)
    have o1' := vok_same e2 o1
    refine ⟨a, C, dx, vs, rfl, g1, c, na, by rw [ksok_len g2]; exact hl, k _ ?_⟩
    have tp := tups_wr (u := .ins C dx (putF f v vs)) g1 (fun _ z => (nomatch z)) (fun _ _ z => (nomatch z))
    exact st2.wr (mo' := .wins C (putS f s fs)) hi rfl (fun u hu => by rw [g1] at hu; cases hu; exact ⟨fun _ z => (nomatch z), fun _ _ z => (nomatch z)⟩)
      ⟨dx, _, upd_same, ks_put (vok_tups tp o1') (ksok_tups tp g2)⟩
theorem s_fld {D : Ends} {f : Str} {n : Nat} (st : Sat K B X T S M σ H) (hv : Ev K te S M s) (ho : Ev K ta S M (.m a)) (hi : M[n]? = some (a, .wins C fs)) (c : Cls K C) (na : NoAttr K C f) (hl : fs.length < 1000)
    (k : ∀ H', Sat K B X T S (M.set n (a, .wins C (putS f s fs))) σ H' → D.nx σ H') : sFld K ta te f D σ H := q_fld (tz := fun D σ H => D.nx σ H) (D := D) st hv ho hi c na hl k
/-! isinstance -/
def tyName : PyData → String
  | .none => "NoneType" | .bool _ => "bool" | .int _ => "int" | .str _ => "str" | .list _ => "list" | .tuple _ => "tuple" | .dict _ => "dict"
theorem tyx_d {v : V} {d : PyData} (h : Dp K H v d) : TyX K H v (.type (tyName d)) := by
  cases h with
  | non => exact .base .non
  | bl b => exact .base (.bl b)
  | int i => exact .base (.int i)
  | str x => exact .base (.str x)
  | lst h _ =>
    rcases h with (h | ⟨o, h⟩) | ⟨o, its, n, h, c, _⟩
    · exact .base (.lst h)
    · exact .base (.frz h)
    · exact .kList h c
  | tup h _ =>
    rcases h with (h | ⟨o, h⟩) | ⟨o, its, n, h, c, _⟩
    · exact .base (.tup h)
    · exact .fTuple h
    · exact .kTuple h c
theorem ev_isi {U : String} {b : Bool} {d : PyData} (ha : Ev K ta S M (.d d)) (h : kitB (tyName d) U = some b) : Ev K (tCB (rIsi K) (tCons ta (tCons (tC (.ty U)) tNil))) S M (.d (.bool b)) := fun B X T σ H st Q q =>
  ha B X T σ H st _ fun v H1 e1 st1 o1 => ⟨v, .ty U, _, _, b, rfl, .ty U, tyx_d o1.1, kit_ty h, q _ H1 e1 st1 (vbl b)⟩
/-- what isinstance asks of an own class -/
structure ClsI (K : PySem.W.Frag) (C : Addr) : Prop where
  cl : Cls K C
  ha : PySem.W.findIn K (.ref C) "__class__" = some (some (.builtin "object.__class__"))
  hn : PySem.W.specialIn K (.builtin "object.__class__") "__get__" = some (some (.builtin "getset_descriptor.__get__"))
  htk : PySem.W.takesIn K (.builtin "object.__class__") = some true
  hm : PySem.W.mroIn K C (.type "object") = some true
  one : PySem.W.kitOne K (.ref C) (.ref C) = some true
theorem ev_isO (hc : ClsI K C) (ha : Ev K ta S M (.m a)) (hi : (a, MO.ins C fs) ∈ M) : Ev K (tCB (rIsi K) (tCons ta (tCons (tC (.ref C)) tNil))) S M (.d (.bool true)) := fun B X T σ H st Q q =>
  ha B X T σ H st _ fun v H1 e1 st1 o1 => by
    have hv : v = .ref a := o1
    subst hv
    obtain ⟨dx, vs, g1, g2⟩ := st1.at hi
    exact ⟨.ref a, .ref C, _, _, true, rfl, .own C, .base (.ins g1 hc.cl hc.ha hc.hn hc.htk hc.hm), hc.one, q _ H1 e1 st1 (vbl true)⟩
/-! built-ins by values -/
variable {l : Addr} {xs : List SV} {ds : List PyData}
theorem rc_lenT : RC K (fun xs H Q => ∃ p ys, xs = [V.ref p] ∧ (SqL K H p ys ∨ SqT K H p ys) ∧ Q (.int ys.length) H) M [.d (.tuple ds)] (.d (.int ds.length)) := fun B X T S σ H st vs hv Q q => by
  match vs, hv with
  | [v], hv =>
    obtain ⟨p, ys, rfl, h1, h2⟩ := dp_tup hv.1.1
    exact ⟨p, ys, rfl, .inr h1, by rw [dpAll_len h2]; exact q _ H (Same.refl H) (vint _)⟩
theorem rc_lenL (hm : (l, MO.lst xs) ∈ M) : RC K (fun xs H Q => ∃ p ys, xs = [V.ref p] ∧ (SqL K H p ys ∨ SqT K H p ys) ∧ Q (.int ys.length) H) M [.m l] (.d (.int xs.length)) := fun B X T S σ H st vs hv Q q => by
  match vs, hv with
  | [v], hv =>
    have e : v = .ref l := hv.1
    subst e
    obtain ⟨ys, h1, h2⟩ := st.at hm
    exact ⟨l, ys, rfl, .inl (.inl (.inl h1)), by rw [vsok_len h2]; exact q _ H (Same.refl H) (vint _)⟩
theorem rc_lenS {z : Str} (hz : z.length ≤ 100000) : RC K (fun xs H Q => ∃ z, xs = [V.str z] ∧ z.length ≤ sizeLine ∧ Q (.int z.length) H) M [.d (.str z)] (.d (.int z.length)) := fun B X T S σ H st vs hv Q q => by
  match vs, hv with
  | [v], hv =>
    rw [vok_str hv.1]
    exact ⟨z, rfl, sz hz, q _ H (Same.refl H) (vint _)⟩
theorem rc_all {bs : List Bool} (hm : (l, MO.lst (bs.map fun b => SV.d (.bool b))) ∈ M) : RC K (rAll K) M [.m l] (.d (.bool (bs.all id))) := fun B X T S σ H st vs hv Q q => by
  match vs, hv with
  | [v], hv =>
    have e : v = .ref l := hv.1
    subst e
    obtain ⟨ys, h1, h2⟩ := st.at hm
    rw [vsok_bools h2] at h1
    exact ⟨l, bs, rfl, .inl (.inl h1), q _ H (Same.refl H) (vbl _)⟩
theorem rc_any {bs : List Bool} (hm : (l, MO.lst (bs.map fun b => SV.d (.bool b))) ∈ M) : RC K (rAny K) M [.m l] (.d (.bool (bs.any id))) := fun B X T S σ H st vs hv Q q => by
  match vs, hv with
  | [v], hv =>
    have e : v = .ref l := hv.1
    subst e
    obtain ⟨ys, h1, h2⟩ := st.at hm
    rw [vsok_bools h2] at h1
    exact ⟨l, bs, rfl, .inl (.inl h1), q _ H (Same.refl H) (vbl _)⟩
theorem rc_int {i : Int} : RC K (fun xs H Q => (∃ i, xs = [V.int i] ∧ Q (.int i) H) ∨ ∃ k, xs = [V.bl k] ∧ Q (.int (if k then 1 else 0)) H) M [.d (.int i)] (.d (.int i)) := fun B X T S σ H st vs hv Q q => by
  match vs, hv with
  | [v], hv =>
    rw [vok_int hv.1]
    exact .inl ⟨i, rfl, q _ H (Same.refl H) (vint _)⟩
/-- tuple(a list of data) -/
theorem rc_tupL (hm : (l, MO.lst (ds.map SV.d)) ∈ M) : RC K (fun xs H Q => ∃ p ys, xs = [V.ref p] ∧ ((SqL K H p ys ∧ ∀ l, H l = none → Q (.ref l) (upd H l (.tup ys))) ∨ (SqT K H p ys ∧ Q (.ref p) H))) M [.m l] (.d (.tuple ds)) := fun B X T S σ H st vs hv Q q => by
  match vs, hv with
  | [v], hv =>
    have e : v = .ref l := hv.1
    subst e
    obtain ⟨ys, h1, h2⟩ := st.at hm
    exact ⟨l, ys, rfl, .inl ⟨.inl (.inl h1), fun p hp => q _ _ (same_new hp) (tup_vok upd_same (vsok_tups (Same.tups (same_new hp)) h2))⟩⟩
theorem rcn_listL (hm : (l, MO.lst xs) ∈ M) : RCN K (fun xs H Q => ∃ p ys, xs = [V.ref p] ∧ (SqL K H p ys ∨ SqT K H p ys) ∧ ∀ l, H l = none → Q (.ref l) (upd H l (.lst ys))) M [.m l] (.lst xs) := fun B X T S σ H st vs hv Q q => by
  match vs, hv with
  | [v], hv =>
    have e : v = .ref l := hv.1
    subst e
    obtain ⟨ys, h1, h2⟩ := st.at hm
    exact ⟨l, ys, rfl, .inl (.inl (.inl h1)), fun p hp => q p _ (same_new hp) hp (st.new hp ⟨ys, upd_same, vsok_tups (Same.tups (same_new hp)) h2⟩)⟩
theorem rcn_listT : RCN K (fun xs H Q => ∃ p ys, xs = [V.ref p] ∧ (SqL K H p ys ∨ SqT K H p ys) ∧ ∀ l, H l = none → Q (.ref l) (upd H l (.lst ys))) M [.d (.tuple ds)] (.lst (ds.map SV.d)) := fun B X T S σ H st vs hv Q q => by
  match vs, hv with
  | [v], hv =>
    obtain ⟨p, ys, rfl, h1, h2⟩ := vok_tup hv.1
    exact ⟨p, ys, rfl, .inr (.inl (.inl h1)), fun l hl => q l _ (same_new hl) hl (st.new hl ⟨ys, upd_same, vsok_tups (Same.tups (same_new hl)) h2⟩)⟩
/-- sorted of ints -/
def sortI (ns : List Int) : List Int := ns.mergeSort (fun a b => decide (a ≤ b))
theorem sortI_eq {ns ms : List Int} (h1 : ms.Perm ns) (h2 : ms.Pairwise (· ≤ ·)) : ms = sortI ns := by
  refine PySem.W.ksm_same (h1.trans (List.mergeSort_perm ns _).symm) h2 ?_
  have h := List.pairwise_mergeSort (le := fun (a b : Int) => decide (a ≤ b)) (fun a b c h1 h2 => by simp at *; omega) (fun a b => by simp; omega) ns
  exact h.imp fun h => by simpa using h
theorem rcn_sortI {ns : List Int} (hm : (l, MO.lst (ns.map fun n => SV.d (.int n))) ∈ M) (hl : ns.length < 64) : RCN K (rSorted K) M [.m l] (.lst ((sortI ns).map fun n => SV.d (.int n))) := fun B X T S σ H st vs hv Q q => by
  match vs, hv with
  | [v], hv =>
    have e : v = .ref l := hv.1
    subst e
    obtain ⟨ys, h1, h2⟩ := st.at hm
    rw [vsok_ints h2] at h1
    exact ⟨l, ns, rfl, .inl (.inl h1), hl, fun ms p k1 k2 hp => by
      rw [sortI_eq k1 k2]
      exact q p _ (same_new hp) hp (st.new hp ⟨_, upd_same, ints_vsok _⟩)⟩
end
end Tw

/-! ### defs that run where nothing is being written out (so that repr may be asked) -/
namespace Tw
open PySem L2 PyProof.Rows
/-- a def keeps its promise wherever no repr is running -/
structure FnG (P : Program) (w : World) (K : PySem.W.Frag) (mg : Str → Option Value) (base : Heap) (CX : CXT) (k : Nat) (f : Addr) (fd : FuncData) (ps : List Str) (sp : Sp) : Prop where
  len : ∀ vs H Q E, sp vs H Q E → vs.length = ps.length
  run : ∀ (A : Around) (outer : List Env) (s : Shared) (H : Hp) (args : Args) (us : List Value) (vs : List V) (Q : VK) (E : XK), A.guards = some [] → Room k A → Env0 P w K mg base A outer s H →
    BindsTo s fd args (ps.zip us) → Vals vs us → sp vs H Q E → codeAny (model P w) A (.call (.ref f) args) (CR CX outer P w H s Q E) s
section
variable {P : Program} {w : World} {K : PySem.W.Frag} {mg : Str → Option Value} {base : Heap} {CX : CXT}
theorem FnG.mono {j k : Nat} {f : Addr} {fd : FuncData} {ps : List Str} {sp : Sp} (F : FnG P w K mg base CX j f fd ps sp) (h : j ≤ k) : FnG P w K mg base CX k f fd ps sp :=
  ⟨F.len, fun A o s H a us vs Q E g r => F.run A o s H a us vs Q E g (r.mono h)⟩
theorem guards_make {A : Around} {C : Addr} {us : List Value} {kw : List (Str × Value)} (h : A.guards = some []) : (A.under (.builtin "type.__call__" ⟨.ref C :: us, kw⟩)).guards = some [] := by
  have e : Code.guards (.builtin "type.__call__" ⟨.ref C :: us, kw⟩) = [] := by
    unfold Code.guards
    rw [if_neg]
    simp [Code.isGuard, guardIds]
  show pushGuards (Code.guards (.builtin "type.__call__" ⟨.ref C :: us, kw⟩)) A.guards = some []
  rw [e, h] <;> rfl
/-- THE RULE for a def, by its body -/
theorem fnG_of {k : Nat} {x qual : Str} {st : Stmt} {f : Addr} {fd : FuncData} {N ps : List Str} {sp : Sp} (F : Fun K x qual st f fd) (S : FnScope N ps (defScope st)) (len : ∀ vs H Q E, sp vs H Q E → vs.length = ps.length)
    (hbody : ∀ (cdv : Value) (A : Around) (outer : List Env) (s : Shared) (H : Hp) (vs : List V) (Q : VK) (E : XK), A.guards = some [] → Room k (A.deeper (envOfC qual (defScope st) s.heap.objs.size f cdv)) → sp vs H Q E →
      ∃ t, PSs (cxOf CX P w K mg base N qual (defScope st) f cdv A outer s H E) (defBody st) t ∧ t { nx := fun _ H1 => Q .non H1, rt := Q } (L2.start N vs) H) : FnG P w K mg base CX (k + 1) f fd ps sp := by
  obtain ⟨oc, od, kV, doc, pm, an, cdv, ct, osl, rfl, lk, hcd⟩ := F.ex
  refine ⟨len, fun A outer s H args us vs Q E hg hr e0 hb r hsp => ?_⟩
  have KX : K.In s.heap := e0.mod.kin.keeps fun b o z => (e0.bs b o z).1
  have lm : s.heap.NoLimit := e0.mod.nolimit.keeps fun b o z => (e0.bs b o z).1
  have kinds : ∀ y ∈ ps.zip us, (defScope st).names.lookup y.1 = some .local ∨
      ((defScope st).names.lookup y.1 = some .cell ∧ ((cellsFrom (s.heap.objs.size + 1) (defScope st).names []).lookup y.1).isSome = true) := by
    intro y hy
    obtain ⟨n, v⟩ := y
    exact (S.par n (List.of_mem_zip hy).1).elim .inl fun q => .inr ⟨q, PySem.W.cellsFrom_some _ _ _ (.inl q)⟩
  refine codeAny_call_function hr.depth (KX _ _ lk) rfl S.co S.gen rfl (PySem.W.codeRec_of KX hcd) (hb _ _ _ _ ?_)
  refine wpAny_newFunctionEnv_cells S.kind kinds fun env he s1 ic => ?_
  subst he
  refine ⟨lm.keeps ic.toInCall.keep, codeAny_func ?_⟩
  obtain ⟨t, ht, hq⟩ := hbody cdv A outer s H vs Q E hg (hr.deeper _) hsp
  have I0 := inv_start (CX := CX) (E := E) S hr.hd e0 (len _ _ _ _ hsp) r ic
  refine wpAny_mono (ht.run [] s1 (L2.start N vs) H _ I0 hq) (fun fl s2 h2 => ?_) fun _ _ z => z
  cases fl with
  | ret u => obtain ⟨v, σ2, H2, J, rv, q⟩ := h2; exact ⟨v, H2, J.os, J.bare, J.base, J.hok, rv, q⟩
  | next => obtain ⟨σ2, H2, J, q⟩ := h2; exact ⟨V.non, H2, J.os, J.bare, J.base, J.hok, rfl, q⟩
  | brk => obtain ⟨_, _, _, q⟩ := h2; exact q.elim
  | cont => obtain ⟨_, _, _, q⟩ := h2; exact q.elim
end
section
variable {X : Cx} {CX : CXT} {k : Nat} {f C : Addr} {fd : FuncData} {ps : List Str} {sp : Sp} {E : XK} {x m : Str} {p pos apos : Pos} {e o : Expr} {es : List Expr} {ta : TE} {t : TA}
theorem runG {pins : List (Addr × Obj)} {σ : L2.St} {H : Hp} {s : Shared} {Q : VK} {us : List Value} {vs : List V} (F : FnG X.prog X.w X.K X.mg X.base CX k f fd ps sp) (hg : X.A.guards = some []) (hr : Room k X.A) (hb : Binds X.K fd ps []) (hx : Passes CX X E)
    (I : Inv X pins σ H s) (r : Vals vs us) (h : sp (vs ++ []) H Q E) : wpAny (model X.prog X.w) X.A (call (.ref f) us) (EP X pins σ Q) X.xe s := by
  rw [List.append_nil] at h
  have hl : us.length = ps.length := by rw [← r.length]; exact F.len _ _ _ _ h
  have hbi := hb s us I.kIn (by rw [List.append_nil]; exact hl)
  rw [List.append_nil] at hbi
  refine wpAny_call (codeAny_mono (F.run X.A X.stack s H ⟨us, []⟩ us vs Q E hg hr I.env0 hbi r h) fun rr s2 hq => ?_)
  cases rr with
  | error z => exact hx pins σ H s z s2 I hq
  | ok fl =>
    cases fl with
    | ret u => exact I.after hq
    | next => exact hq.elim
    | brk => exact hq.elim
    | cont => exact hq.elim
/-- f(e, ..) -/
theorem pg_call (F : FnG X.prog X.w X.K X.mg X.base CX k f fd ps sp) (hg : X.A.guards = some []) (hr : Room k X.A) (gl : Gl X x) (hm : X.mg x = some (.ref f)) (hk : PySem.W.keepIn X.K (.ref f) = true) (hb : Binds X.K fd ps []) (hx : Passes CX X E)
    (ha : PA X (e :: es) t) (h1 : (x == ("__debug__" : Str)) = false) (h2 : starEach (e :: es) X.env = (false, eval e X.env) :: starEach es X.env) (h3 : (backTo pos (starEach es X.env)).any (·.1) = false) :
    PE X (.Call (.Name x p) (e :: es) [] pos) (tCall sp [] E t) := ⟨fun pins s σ H Q I h =>
  wpAny_Call_Name_kw (ld_glob I gl hm (PySem.W.callWith_K (h₀ := X.base) I.ok.mod.kin hk (thn (ha.run pos pins s σ H _ I h) fun us s1 ⟨vs, H1, I1, r, q⟩ => ⟨I1.kIn, runG F hg hr hb hx I1 r q⟩) h2 h3) h1)⟩
theorem pg_meth {pl : Sem Bool} (he : PE X o ta) (c : Cls X.K C) (hm : Meth X.K C m f) (F : FnG X.prog X.w X.K X.mg X.base CX k f fd ps sp) (hg : X.A.guards = some []) (hr : Room k X.A) (hb : Binds X.K fd ps []) (hx : Passes CX X E) (ha : PA X (e :: es) t)
    (h2 : starEach (e :: es) X.env = (false, eval e X.env) :: starEach es X.env) (h3 : (backTo pos (starEach es X.env)).any (·.1) = false)
    (ht : eval (.Call (.Attribute o m apos) (e :: es) [] pos) X.env = (do let ov ← eval o X.env; standAt apos.atName; let (f, first) ← holding [ov] (getMethod ov m pl); callWith pos f first (backTo pos (starEach (e :: es) X.env)) (backToKw pos (keywordEach [] X.env)))) :
    PE X (.Call (.Attribute o m apos) (e :: es) [] pos) (tMeth C m sp [] E ta t) := by
  refine ⟨fun pins s σ H Q I h => PySem.W.methodCall_KW (pl := pl) (thn (he.run pins s σ H _ I h) fun u s1 hh => ?_) ht⟩
  obtain ⟨y, H1, I1, rx, a, dx, fs, rfl, ea, l, q⟩ := hh
  obtain rfl : u = Value.ref a := rx
  refine getmeth_ok I1 ea c hm l (PySem.W.callWith_K (first := [.ref a]) (h₀ := X.base) I.ok.mod.kin hm.kp (thn (ha.run pos pins s1 σ H1 _ I1 q) fun us s2 hh2 => ?_) h2 h3)
  obtain ⟨vs, H2, I2, r, q2⟩ := hh2
  exact ⟨I2.kIn, runG (us := .ref a :: us) (vs := .ref a :: vs) F hg hr hb hx I2 (.cons rfl r) q2⟩
theorem pg_meth0 {pl : Sem Bool} (he : PE X o ta) (c : Cls X.K C) (hm : Meth X.K C m f) (F : FnG X.prog X.w X.K X.mg X.base CX k f fd ps sp) (hg : X.A.guards = some []) (hr : Room k X.A) (hb : Binds X.K fd ps []) (hx : Passes CX X E)
    (ht : eval (.Call (.Attribute o m apos) [] [] pos) X.env = (do let ov ← eval o X.env; standAt apos.atName; let (f, first) ← holding [ov] (getMethod ov m pl); callWith pos f first (backTo pos (starEach [] X.env)) (backToKw pos (keywordEach [] X.env)))) :
    PE X (.Call (.Attribute o m apos) [] [] pos) (tMeth C m sp [] E ta tNil) := by
  refine ⟨fun pins s σ H Q I h => PySem.W.methodCall_KW (pl := pl) (thn (he.run pins s σ H _ I h) fun u s1 hh => ?_) ht⟩
  obtain ⟨y, H1, I1, rx, a, dx, fs, rfl, ea, l, q⟩ := hh
  obtain rfl : u = Value.ref a := rx
  exact getmeth_ok I1 ea c hm l (PySem.W.callWith_K0 (first := [.ref a]) I1.kIn hm.kp (runG (us := [.ref a]) (vs := [.ref a]) F hg hr hb hx I1 (.cons rfl .nil) q))
/-- C(e, ..) -/
theorem runG_make {pins : List (Addr × Obj)} {σ : L2.St} {H : Hp} {s : Shared} {Q : VK} {us : List Value} {vs : List V} (M : Mk X.K C f) (F : FnG X.prog X.w X.K X.mg X.base CX k f fd ps sp) (hg : X.A.guards = some []) (hr : Room (k + 1) X.A) (hb : Binds X.K fd ps [])
    (hx : Passes CX X E) (I : Inv X pins σ H s) (r : Vals vs us)
    (h : ∀ x dx, H x = none → H dx = none → dx ≠ x → sp (.ref x :: (vs ++ [])) (upd (upd H dx (.own x)) x (.ins C dx [])) (fun v H2 => v = .non ∧ Q (.ref x) H2) E) : wpAny (model X.prog X.w) X.A (call (.ref C) us) (EP X pins σ Q) X.xe s := by
  have hq := h (s.heap.objs.size + 1) s.heap.objs.size (I.hok.fresh (Nat.le_succ _)) (I.hok.fresh (Nat.le_refl _)) (Nat.ne_of_lt (Nat.lt_succ_self _))
  rw [List.append_nil] at hq
  have I2 := Inv.made (C := C) I
  have r2 : Vals (V.ref (s.heap.objs.size + 1) :: vs) (Value.ref (s.heap.objs.size + 1) :: us) := .cons rfl r
  have hl : (Value.ref (s.heap.objs.size + 1) :: us).length = ps.length := by rw [← r2.length]; exact F.len _ _ _ _ hq
  have hbi := hb _ (Value.ref (s.heap.objs.size + 1) :: us) I2.kIn (by rw [List.append_nil]; exact hl)
  rw [List.append_nil] at hbi
  refine wpAny_call (make_map (f := f) I.kIn M.makes M.init (beq_iff_eq.mp M.fn) (codeAny_mono (F.run _ X.stack _ _ ⟨Value.ref (s.heap.objs.size + 1) :: us, []⟩ _ _ _ E (guards_make hg) (hr.make C us []) (I2.env0.make C us []) hbi r2 hq) fun rr s2 h2 => ?_))
  cases rr with
  | error z => exact hx pins σ _ _ z s2 I2 h2
  | ok fl =>
    cases fl with
    | ret u =>
      obtain ⟨v, H3, I3, rv, ev, q3⟩ := I2.after h2
      subst ev
      exact ⟨rv, V.ref (s.heap.objs.size + 1), H3, I3, rfl, q3⟩
    | next => exact h2.elim
    | brk => exact h2.elim
    | cont => exact h2.elim
theorem pg_make (M : Mk X.K C f) (F : FnG X.prog X.w X.K X.mg X.base CX k f fd ps sp) (hg : X.A.guards = some []) (hr : Room (k + 1) X.A) (gl : Gl X x) (hm : X.mg x = some (.ref C)) (hb : Binds X.K fd ps []) (hx : Passes CX X E)
    (ha : PA X (e :: es) t) (h1 : (x == ("__debug__" : Str)) = false) (h2 : starEach (e :: es) X.env = (false, eval e X.env) :: starEach es X.env) (h3 : (backTo pos (starEach es X.env)).any (·.1) = false) :
    PE X (.Call (.Name x p) (e :: es) [] pos) (tMake C sp [] E t) := ⟨fun pins s σ H Q I h =>
  wpAny_Call_Name_kw (ld_glob I gl hm (PySem.W.callWith_K (h₀ := X.base) I.ok.mod.kin M.kp (thn (ha.run pos pins s σ H _ I h) fun us s1 ⟨vs, H1, I1, r, q⟩ => ⟨I1.kIn, runG_make M F hg hr hb hx I1 r q⟩) h2 h3) h1)⟩
end
/-! the law's own call -/
theorem lawG {P : Program} {w : World} {K : PySem.W.Frag} {mg mb : Str → Option Value} {CX : CXT} {k : Nat} {fa a : Addr} {fd : FuncData} {x : Str} {sp : Sp} {s₁ : Shared} {vs : List Value} {ns : List Int}
    (KX : K.In s₁.heap) (hns : s₁.heap.Ns mainGlobals mg) (hb : s₁.heap.Ns builtinsNs mb) (hbb : ∀ y : Str, y ≠ "__name__" → mb y = bootBuiltins y) (hlim : s₁.heap.NoLimit) (hgen : s₁.gens = #[])
    (ha : s₁.heap.get? a = some { cls := .type "list", data := .seq vs.toArray }) (hi : IntsAre vs ns) (hl : ns.length ≤ sizeLine) (hr : Room k callerA)
    (F : ∀ base : Heap, K.In base → base.Ns mainGlobals mg → FnG P w K mg base CX k fa fd [x] sp) (hbind : ∀ (s : Shared) (u : Value), BindsTo s fd ⟨[u], []⟩ [(x, u)])
    (hsp : ∀ H : Hp, SqL K H a (ns.map V.int) → sp [.ref a] H (fun v _ => v = .bl true) fun _ _ _ => False) (hCX : ∀ H e s2, CX [] H s₁ (fun _ _ _ => False) e s2 → False) :
    codeAny (model P w) callerA (.call (.ref fa) ⟨[.ref a], []⟩) (fun r s2 => r = .ok (.ret (.bool true)) ∧ OldK s₁.heap s2.heap ∧ s2.os = s₁.os ∧ AllBare s2.gens) s₁ := by
  have rv := vals_ints hi
  have hlen := hi.length
  -- H holds the script alone, or nothing
  suffices core : ∀ H : Hp, (∀ b u, H b = some u → b = a ∧ ∃ ob xs, u = .frz ob (.lst xs)) → SqL K H a (ns.map V.int) → HOk P w H s₁.heap → (H a ≠ none → K.lookup a = none) →
      codeAny (model P w) callerA (.call (.ref fa) ⟨[.ref a], []⟩) (fun r s2 => r = .ok (.ret (.bool true)) ∧ OldK s₁.heap s2.heap ∧ s2.os = s₁.os ∧ AllBare s2.gens) s₁ by
    cases hk : K.lookup a with
    | some o =>
      have z := KX a o hk
      rw [ha] at z
      cases z
      exact core (fun _ => none) (fun b u q => nomatch q) (.inr ⟨_, vs.toArray, _, hk, rfl, rfl, rfl, by rw [List.size_toArray, hlen]; exact hl, by simpa using rv⟩) (fun b u q => nomatch q) fun q => absurd rfl q
    | none =>
      let u0 : HO := .frz { cls := .type "list", data := .seq vs.toArray } (.lst (ns.map V.int))
      refine core (upd (fun _ => none) a u0) (fun b u q => ?_) (.inl (.inr ⟨_, upd_same⟩)) (fun b u q => ?_) fun _ => hk
      · by_cases z : b = a
        · subst z; rw [upd_same] at q; cases q; exact ⟨rfl, _, _, rfl⟩
        · rw [upd_ne z] at q; cases q
      · by_cases z : b = a
        · subst z; rw [upd_same] at q; cases q
          exact ⟨ha, by rw [List.length_map]; exact hl, vs, _, rv, ha⟩
        · rw [upd_ne z] at q; cases q
  intro H hO hS hok hK
  have dictN : ∀ {b : Addr} {o : Obj} {es : Array DictEntry} {ep : Nat}, s₁.heap.get? b = some o → o.data = .dict es ep → H b = none := fun {b o es ep} e d => by
    cases q : H b with
    | none => rfl
    | some u =>
      obtain ⟨rfl, _⟩ := hO b u q
      rw [ha] at e
      cases e
      exact nomatch (show Data.seq vs.toArray _ = Data.dict es ep from d)
  have nsH : ∀ {b : Addr} {m : Str → Option Value}, s₁.heap.Ns b m → (hidT s₁.heap H).Ns b m := fun {b m} ⟨o, es, ep, e, d, r⟩ => ⟨o, es, ep, hidT_get e (dictN e d), d, r⟩
  have kH : K.In (hidT s₁.heap H) := fun b o e => hidT_get (KX b o e) (by
    cases q : H b with
    | none => rfl
    | some u =>
      obtain ⟨rfl, _⟩ := hO b u q
      rw [hK (by rw [q]; exact fun z => nomatch z)] at e
      cases e)
  have e0 : Env0 P w K mg (hidT s₁.heap H) callerA [] s₁ H := ⟨rfl, ⟨kH, nsH hns, ⟨mb, nsH hb, hbb⟩, by obtain ⟨mc, h1, h2⟩ := hlim; exact ⟨mc, nsH h1, h2⟩⟩, fun b o e => of_hidT e, Nat.le_of_eq (hidT_size _ _), trivial, (fun b z => absurd (show b ∈ ([] : List Addr) from z) (by simp)), hok, .of_eq hgen⟩
  refine codeAny_mono ((F _ kH (nsH hns)).run callerA [] s₁ H ⟨[.ref a], []⟩ [.ref a] [.ref a] _ _ rfl hr e0 (hbind s₁ (.ref a)) (.cons rfl .nil) (hsp H hS)) fun r s2 h => ?_
  cases r with
  | error e => exact (hCX H e s2 h).elim
  | ok fl =>
    cases fl with
    | next => exact h.elim
    | brk => exact h.elim
    | cont => exact h.elim
    | ret u =>
      obtain ⟨v, H2, os, bare, un, hok2, r2, q2⟩ := h
      have q3 : v = .bl true := q2
      subst q3
      obtain rfl : u = Value.bool true := r2
      refine ⟨rfl, OldK.of_keep fun b o e => ?_, os, bare⟩
      cases q : H b with
      | none => exact un.keep b o e q (fun z => absurd (show b ∈ ([] : List Addr) from z) (by simp)) (by simp)
      | some u =>
        obtain ⟨rfl, ob, xs, rfl⟩ := hO b u q
        have z1 := (hok _ _ q).1
        have z2 := (hok2 _ _ (un.frzs _ _ _ q)).1
        rw [e] at z1
        cases z1
        exact z2
theorem walkG {l : PySem.W.OpenLaw} {n k : Nat} {q : Program} {loose : List Str} {XP : (Str → Option Value) → Heap → Prop} {YP : World → Heap → Prop} {d : DefRec} {K : Params → PySem.W.Frag} {CX : World → CXT} {sp : PySem.W.Frag → Sp} {x : Str}
    (hn : l.most = some n) (hn2 : n ≤ sizeLine) (hdf : d.params.defaults = []) (hr : Room k callerA) (hY : ∀ (w : World) (h : Heap), YP w h → (K w.params).In h)
    (F : ∀ (w : World) (mg : Str → Option Value) (fa : Addr) (h : Heap), (K w.params).In h → h.Ns mainGlobals mg → mg d.name = some (.ref fa) →
      ∃ fd : FuncData, (∀ (s : Shared) (u : Value), BindsTo s fd ⟨[u], []⟩ [(x, u)]) ∧ ∀ base : Heap, (K w.params).In base → base.Ns mainGlobals mg → FnG l.prog w (K w.params) mg base (CX w) k fa fd [x] (sp (K w.params)))
    (hsp : ∀ (K : PySem.W.Frag) (H : Hp) (a : Addr) (ns : List Int), ns.length ≤ n → SqL K H a (ns.map V.int) → sp K [.ref a] H (fun v _ => v = .bl true) fun _ _ _ => False)
    (hCX : ∀ (w : World) (H : Hp) (s : Shared) (e : Value) (s2 : Shared), CX w [] H s (fun _ _ _ => False) e s2 → False) : PySem.W.WalkO q loose XP YP l.row.toRowW d [] (fun f vs => PySem.call f vs) := by
  refine Att.attach_call hn hdf fun w s₀ s₁ mg mb fa o pm cd doc a vs ns G Y ho hd hcd hmg hobj hints hlen hg => ?_
  obtain ⟨fd, hb, hF⟩ := F w mg fa _ (hY w _ Y) G.T.g hmg
  exact lawG (hY w _ Y) G.T.g G.T.b G.T.builtins G.T.nolimit hg hobj hints (Nat.le_trans hlen hn2) hr hF hb (fun H hS => hsp _ H a ns hlen hS) fun H e s2 => hCX w H s₁ e s2
end Tw

/-! ### defs by their names: what is called, what a body shows -/
namespace Tw
open PySem L2
/-- a module's constant -/
def GlobV (mg : Str → Option Value) (x : Str) (v : V) : Prop := ∃ u, mg x = some u ∧ RelV v u
section
variable (P : Program) (w : World) (K : PySem.W.Frag) (mg : Str → Option Value) (base : Heap)
structure Cal (k : Nat) (x : Str) (sp : Sp) : Prop where
  ex : ∃ f fd ps, FnG P w K mg base CX0 k f fd ps sp ∧ mg x = some (.ref f) ∧ PySem.W.keepIn K (.ref f) = true ∧ Binds K fd ps []
structure Met (k : Nat) (C : Addr) (m : Str) (sp : Sp) : Prop where
  ex : ∃ f fd ps, Cls K C ∧ Meth K C m f ∧ FnG P w K mg base CX0 k f fd ps sp ∧ Binds K fd ps []
structure Mak (k : Nat) (x : Str) (C : Addr) (sp : Sp) : Prop where
  ex : ∃ f fd ps, Mk K C f ∧ FnG P w K mg base CX0 k f fd ps sp ∧ mg x = some (.ref C) ∧ Binds K fd ps []
/-- a def of the module, a method, an __init__ of the text -/
structure Def (x : Str) (st : Stmt) (ps : List Str) : Prop where
  ex : ∃ f fd, Fun K x x st f fd ∧ mg x = some (.ref f) ∧ Binds K fd ps []
structure MDef (C : Addr) (m qual : Str) (st : Stmt) (ps : List Str) : Prop where
  ex : ∃ f fd, Fun K m qual st f fd ∧ Meth K C m f ∧ Binds K fd ps []
  cl : Cls K C
structure IDef (x : Str) (C : Addr) (qual : Str) (st : Stmt) (ps : List Str) : Prop where
  ex : ∃ f fd, Fun K "__init__" qual st f fd ∧ Mk K C f ∧ Binds K fd ps []
  g : mg x = some (.ref C)
  cl : Cls K C
end
section
variable {X : Cx} {x m : Str} {p pos apos : Pos} {e o : Expr} {es : List Expr} {t : TA} {ta : TE} {sp : Sp} {k j : Nat} {C : Addr} {v : V}
theorem pe_gv (h : GlobV X.mg x v) (hg : Gl X x) (hd : (x == ("__debug__" : Str)) = false := by decide) : PE X (.Name x pos) (tC v) := by
  obtain ⟨u, h1, h2⟩ := h
  exact pe_glob hg h1 h2 hd
theorem pe_c (c : Cal X.prog X.w X.K X.mg X.base k x sp) (hg : X.A.guards = some []) (hr : Room j X.A) (hk : k ≤ j) (gl : Gl X x) (ha : PA X (e :: es) t)
    (h1 : (x == ("__debug__" : Str)) = false := by decide) (h2 : starEach (e :: es) X.env = (false, eval e X.env) :: starEach es X.env := by rfl) (h3 : (backTo pos (starEach es X.env)).any (·.1) = false := by rfl) : PE X (.Call (.Name x p) (e :: es) [] pos) (tCall sp [] E0 t) := by
  obtain ⟨f, fd, ps, F, hm, kp, b⟩ := c.ex
  exact pg_call F hg (hr.mono hk) gl hm kp b pass0 ha h1 h2 h3
theorem pe_mk (c : Mak X.prog X.w X.K X.mg X.base k x C sp) (hg : X.A.guards = some []) (hr : Room j X.A) (hk : k + 1 ≤ j) (gl : Gl X x) (ha : PA X (e :: es) t)
    (h1 : (x == ("__debug__" : Str)) = false := by decide) (h2 : starEach (e :: es) X.env = (false, eval e X.env) :: starEach es X.env := by rfl) (h3 : (backTo pos (starEach es X.env)).any (·.1) = false := by rfl) : PE X (.Call (.Name x p) (e :: es) [] pos) (tMake C sp [] E0 t) := by
  obtain ⟨f, fd, ps, M, F, hm, b⟩ := c.ex
  exact pg_make M F hg (hr.mono hk) gl hm b pass0 ha h1 h2 h3
theorem pe_mt {pl : Sem Bool} (c : Met X.prog X.w X.K X.mg X.base k C m sp) (hg : X.A.guards = some []) (hr : Room j X.A) (hk : k ≤ j) (he : PE X o ta) (ha : PA X (e :: es) t)
    (h2 : starEach (e :: es) X.env = (false, eval e X.env) :: starEach es X.env := by rfl) (h3 : (backTo pos (starEach es X.env)).any (·.1) = false := by rfl)
    (ht : eval (.Call (.Attribute o m apos) (e :: es) [] pos) X.env = (do let ov ← eval o X.env; standAt apos.atName; let (f, first) ← holding [ov] (getMethod ov m pl); callWith pos f first (backTo pos (starEach (e :: es) X.env)) (backToKw pos (keywordEach [] X.env))) := by rfl) :
    PE X (.Call (.Attribute o m apos) (e :: es) [] pos) (tMeth C m sp [] E0 ta t) := by
  obtain ⟨f, fd, ps, c, me, F, b⟩ := c.ex
  exact pg_meth he c me F hg (hr.mono hk) b pass0 ha h2 h3 ht
theorem pe_mt0 {pl : Sem Bool} (c : Met X.prog X.w X.K X.mg X.base k C m sp) (hg : X.A.guards = some []) (hr : Room j X.A) (hk : k ≤ j) (he : PE X o ta)
    (ht : eval (.Call (.Attribute o m apos) [] [] pos) X.env = (do let ov ← eval o X.env; standAt apos.atName; let (f, first) ← holding [ov] (getMethod ov m pl); callWith pos f first (backTo pos (starEach [] X.env)) (backToKw pos (keywordEach [] X.env))) := by rfl) :
    PE X (.Call (.Attribute o m apos) [] [] pos) (tMeth C m sp [] E0 ta tNil) := by
  obtain ⟨f, fd, ps, c, me, F, b⟩ := c.ex
  exact pg_meth0 he c me F hg (hr.mono hk) b pass0 ht
end
section
variable {P : Program} {w : World} {K : PySem.W.Frag} {mg : Str → Option Value} {base : Heap} {x m qual : Str} {st : Stmt} {N ps : List Str} {k : Nat} {C : Addr}
/-- what a body has to show: its term, and the term's reading -/
def Body (P : Program) (w : World) (K : PySem.W.Frag) (mg : Str → Option Value) (base : Heap) (k : Nat) (qual : Str) (st : Stmt) (N : List Str) (sp : Sp) : Prop :=
  ∀ (f : Addr) (cdv : Value) (A : Around) (outer : List Env) (s : Shared) (H : Hp) (vs : List V) (Q : VK) (E : XK), A.guards = some [] → Room k (A.deeper (PyProof.Rows.envOfC qual (defScope st) s.heap.objs.size f cdv)) → sp vs H Q E →
    ∃ t, PSs (cxOf CX0 P w K mg base N qual (defScope st) f cdv A outer s H E).nox (defBody st) t ∧ t { nx := fun _ H' => Q .non H', rt := Q } (L2.start N vs) H
theorem cal_of {sp : Sp} (D : Def K mg x st ps) (S : FnScope N ps (defScope st)) (len : ∀ vs H Q E, sp vs H Q E → vs.length = ps.length) (b : Body P w K mg base k x st N sp) : Cal P w K mg base (k + 1) x sp := by
  obtain ⟨f, fd, F, g, bi⟩ := D.ex
  exact ⟨f, fd, ps, fnG_of F S len (fun cdv A outer s H vs Q E hg hr h => let ⟨t, h1, q⟩ := b f cdv A outer s H vs Q E hg hr h; ⟨t, h1.nox, q⟩), g, F.kp, bi⟩
theorem met_of {sp : Sp} (D : MDef K C m qual st ps) (S : FnScope N ps (defScope st)) (len : ∀ vs H Q E, sp vs H Q E → vs.length = ps.length) (b : Body P w K mg base k qual st N sp) : Met P w K mg base (k + 1) C m sp := by
  obtain ⟨f, fd, F, me, bi⟩ := D.ex
  exact ⟨f, fd, ps, D.cl, me, fnG_of F S len (fun cdv A outer s H vs Q E hg hr h => let ⟨t, h1, q⟩ := b f cdv A outer s H vs Q E hg hr h; ⟨t, h1.nox, q⟩), bi⟩
theorem mak_of {sp : Sp} (D : IDef K mg x C qual st ps) (S : FnScope N ps (defScope st)) (len : ∀ vs H Q E, sp vs H Q E → vs.length = ps.length) (b : Body P w K mg base k qual st N sp) : Mak P w K mg base (k + 1) x C sp := by
  obtain ⟨f, fd, F, me, bi⟩ := D.ex
  exact ⟨f, fd, ps, me, fnG_of F S len (fun cdv A outer s H vs Q E hg hr h => let ⟨t, h1, q⟩ := b f cdv A outer s H vs Q E hg hr h; ⟨t, h1.nox, q⟩), D.g, bi⟩
/-- the context of a body -/
abbrev BCx (P : Program) (w : World) (K : PySem.W.Frag) (mg : Str → Option Value) (base : Heap) (N : List Str) (qual : Str) (st : Stmt) (f : Addr) (cdv : Value) (A : Around) (outer : List Env) (s : Shared) (H : Hp) (E : XK) : Cx := (cxOf CX0 P w K mg base N qual (defScope st) f cdv A outer s H E).nox
theorem lenV {ok : List SV → Ml → SV → Prop} {n : Nat} (h : ∀ ss M r, ok ss M r → ss.length = n) : ∀ vs H Q E, spV K ok vs H Q E → vs.length = n := fun vs H Q E ⟨ss, M0, r, h1, _, _, _, h2, _⟩ => by rw [vsok_len h1]; exact h _ _ _ h2
theorem lenN {ok : List SV → Ml → MO → Prop} {n : Nat} (h : ∀ ss M r, ok ss M r → ss.length = n) : ∀ vs H Q E, spN K ok vs H Q E → vs.length = n := fun vs H Q E ⟨ss, M0, r, h1, _, _, _, h2, _⟩ => by rw [vsok_len h1]; exact h _ _ _ h2
theorem lenI {ok : List SV → List (Str × SV) → Prop} {n : Nat} (h : ∀ ss r, ok ss r → ss.length + 1 = n) : ∀ vs H Q E, spI K C ok vs H Q E → vs.length = n := fun vs H Q E ⟨x, dx, us, ss, fs, h0, _, h1, h2, _⟩ => by rw [h0, List.length_cons, vsok_len h1]; exact h _ _ h2
theorem bodyV {ok : List SV → Ml → SV → Prop} (b : ∀ (f : Addr) (cdv : Value) (A : Around) (outer : List Env) (s : Shared) (H : Hp) (E : XK), A.guards = some [] → Room k (A.deeper (PyProof.Rows.envOfC qual (defScope st) s.heap.objs.size f cdv)) → ∀ ss M0 r, (∀ p ∈ M0, p.2.wr = false) → ok ss M0 r →
    ∃ t, PSs (BCx P w K mg base N qual st f cdv A outer s H E) (defBody st) t ∧ ∀ σ, Sat K H [] H (startS N.length ss) M0 σ H → ∀ Q : VK, (∀ v σ' H' S' M', Sat K H [] H S' M' σ' H' → VOk K H' v r → Q v H') → t { nx := fun _ H' => Q .non H', rt := Q } σ H) : Body P w K mg base k qual st N (spV K ok) := by
  intro f cdv A outer s H vs Q E hg hr ⟨ss, M0, r, h1, h2, h3, h5, h4, k'⟩
  obtain ⟨t, ht, hq⟩ := b f cdv A outer s H E hg hr ss M0 r h5 h4
  exact ⟨t, ht, hq _ (sat_start h1 h2 h3 h5) Q fun v σ' H' S' M' st' o => k' v H' (sat_end st') o⟩
theorem bodyN {ok : List SV → Ml → MO → Prop} (b : ∀ (f : Addr) (cdv : Value) (A : Around) (outer : List Env) (s : Shared) (H : Hp) (E : XK), A.guards = some [] → Room k (A.deeper (PyProof.Rows.envOfC qual (defScope st) s.heap.objs.size f cdv)) → ∀ ss M0 r, (∀ p ∈ M0, p.2.wr = false) → ok ss M0 r →
    ∃ t, PSs (BCx P w K mg base N qual st f cdv A outer s H E) (defBody st) t ∧ ∀ σ, Sat K H [] H (startS N.length ss) M0 σ H → ∀ Q : VK, (∀ p σ' H' S' M', H p = none → Sat K H [] H S' M' σ' H' → MOk K H' p r → Q (.ref p) H') → t { nx := fun _ H' => Q .non H', rt := Q } σ H) : Body P w K mg base k qual st N (spN K ok) := by
  intro f cdv A outer s H vs Q E hg hr ⟨ss, M0, r, h1, h2, h3, h5, h4, k'⟩
  obtain ⟨t, ht, hq⟩ := b f cdv A outer s H E hg hr ss M0 r h5 h4
  exact ⟨t, ht, hq _ (sat_start h1 h2 h3 h5) Q fun p σ' H' S' M' hp st' o => k' p H' (sat_end st') hp o⟩
/-- an __init__: the new instance at a, writable -/
theorem bodyI {ok : List SV → List (Str × SV) → Prop} (b : ∀ (f : Addr) (cdv : Value) (A : Around) (outer : List Env) (s : Shared) (H : Hp) (E : XK), A.guards = some [] → Room k (A.deeper (PyProof.Rows.envOfC qual (defScope st) s.heap.objs.size f cdv)) → ∀ a ss fs, ok ss fs →
    ∃ t, PSs (BCx P w K mg base N qual st f cdv A outer s H E) (defBody st) t ∧ ∀ σ, Sat K H [a] H (startS N.length (.m a :: ss)) [(a, .wins C [])] σ H → ∀ Q : VK, (∀ σ' H' S' M', Sat K H [a] H S' M' σ' H' → MOk K H' a (.ins C fs) → Q .non H') → t { nx := fun _ H' => Q .non H', rt := Q } σ H) : Body P w K mg base k qual st N (spI K C ok) := by
  intro f cdv A outer s H vs Q E hg hr ⟨a, dx, us, ss, fs, h0, h1, h2, h3, k'⟩
  subst h0
  obtain ⟨t, ht, hq⟩ := b f cdv A outer s H E hg hr a ss fs h3
  refine ⟨t, ht, hq _ ?_ Q fun σ' H' S' M' st' o => k' H' (fun b o' hb nb => st'.old b o' hb fun z => nb (List.mem_singleton.mp z)) o⟩
  have z : Sat K H [] H (startS N.length (.m a :: ss)) [] (L2.start N (.ref a :: us)) H := sat_start (vs := .ref a :: us) ⟨rfl, h2⟩ (fun p hp => nomatch hp) (by simp) (fun p hp => nomatch hp)
  exact ⟨z.len, z.sl, fun p hp => by rw [List.mem_singleton.mp hp]; exact ⟨dx, [], h1, trivial⟩, by simp, fun p hp _ => by rw [List.mem_singleton.mp hp]; exact .inr (List.mem_singleton.mpr rfl), fun b o h _ => h, fun b hb => by rw [List.mem_singleton.mp hb]; exact ⟨_, h1⟩, Tups.refl H⟩
end
/-! defs that draw -/
section
variable (K : PySem.W.Frag)
/-- f(deck, ..): at most c draws; Rs: what the answer may be -/
def spDk (c : Nat) (ok : List SV → (SV → Prop) → Prop) : Sp := fun vs H Q _ => ∃ dk cl m us ss Rs, vs = .ref dk :: us ∧ VsOk K H us ss ∧ ok ss Rs ∧ DeckAt H dk cl m ∧ m + c ≤ 1000000 ∧
  ∀ v H' s, Rs s → But dk cl H H' → DeckAt H' dk cl (m + c) → VOk K H' v s → Q v H'
end
section
variable {P : Program} {w : World} {K : PySem.W.Frag} {mg : Str → Option Value} {base : Heap} {x m qual : Str} {st : Stmt} {N ps : List Str} {k c : Nat} {C : Addr} {S : Sl} {M : Ml} {dk cl : Addr}
theorem lenDk {ok : List SV → (SV → Prop) → Prop} {n : Nat} (h : ∀ ss r, ok ss r → ss.length + 1 = n) : ∀ vs H Q E, spDk K c ok vs H Q E → vs.length = n := fun vs H Q E ⟨dk, cl, m, us, ss, Rs, h0, h1, h2, _⟩ => by rw [h0, List.length_cons, vsok_len h1]; exact h _ _ h2
theorem bodyDk {ok : List SV → (SV → Prop) → Prop} (b : ∀ (f : Addr) (cdv : Value) (A : Around) (outer : List Env) (s : Shared) (H : Hp) (E : XK), A.guards = some [] → Room k (A.deeper (PyProof.Rows.envOfC qual (defScope st) s.heap.objs.size f cdv)) → ∀ dk cl m ss Rs, ok ss Rs → m + c ≤ 1000000 →
    ∃ t, PSs (BCx P w K mg base N qual st f cdv A outer s H E) (defBody st) t ∧ ∀ σ, Sat K H [dk, cl] H (startS N.length (.m dk :: ss)) (dkM dk cl m []) σ H → ∀ Q : VK,
      (∀ v s σ' H' S' F M' m', Rs s → m' ≤ m + c → Sat K H [dk, cl] H S' (F ++ dkM dk cl m' M') σ' H' → VOk K H' v s → Q v H') → t { nx := fun _ H' => Q .non H', rt := Q } σ H) : Body P w K mg base k qual st N (spDk K c ok) := by
  intro f cdv A outer s H vs Q E hg hr ⟨dk, cl, m, us, ss, Rs, h0, h1, h2, D, hm, k'⟩
  subst h0
  obtain ⟨t, ht, hq⟩ := b f cdv A outer s H E hg hr dk cl m ss Rs h2 hm
  have D' := D
  obtain ⟨ne, s0, n0, cs, a1, a2, a3, a4, a5, g1, g2⟩ := D
  refine ⟨t, ht, hq _ ?_ Q fun v s' σ' H' S' F M' m' rs hm' st' o => k' v H' s' rs (fun b o' hb n1 n2 => st'.old b o' hb fun z => ?_) (st'.deckAt.mono hm') o⟩
  · have z : Sat K H [] H (startS N.length (.m dk :: ss)) [] (L2.start N (.ref dk :: us)) H := sat_start (vs := .ref dk :: us) ⟨rfl, h1⟩ (fun p hp => nomatch hp) (by simp) (fun p hp => nomatch hp)
    refine ⟨z.len, z.sl, fun p hp => ?_, by simp [dkM, ne], fun p hp _ => ?_, fun b o h _ => h, fun b hb => ?_, Tups.refl H⟩
    · rcases List.mem_cons.mp hp with e | hp
      · subst e; exact ⟨s0, n0, a1, a2, a3, a4, g1⟩
      · rw [List.mem_singleton.mp hp]; exact ⟨cs, a5, g2⟩
    · rcases List.mem_cons.mp hp with e | hp
      · subst e; exact .inr (List.mem_cons_self ..)
      · rw [List.mem_singleton.mp hp]; exact .inr (List.mem_cons_of_mem _ (List.mem_cons_self ..))
    · rcases List.mem_cons.mp hb with e | hb
      · rw [e]; exact ⟨_, g1⟩
      · rw [List.mem_singleton.mp hb]; exact ⟨_, g2⟩
  · rcases List.mem_cons.mp z with e | z
    · exact n1 e
    · exact n2 (List.mem_singleton.mp z)
/-- a call of such a def -/
theorem evx_dk {m i : Nat} {E : XK} {tas : TA} {ss : List SV} {ok : List SV → (SV → Prop) → Prop} {Rs : SV → Prop} (hi : S[i]? = some (some (.m dk))) (ha : ∀ F, EvA K tas S (F ++ dkM dk cl m M) ss) (h : ok ss Rs) (hm : m + c ≤ 1000000) :
    EvX K (tCall (spDk K c ok) [] E (tCons (tVar i) tas)) S (dkM dk cl m M) (fun s M' => Rs s ∧ M' = dkM dk cl (m + c) M) :=
  evx_call hi ha fun H vs Q o D q => ⟨dk, cl, m, vs, ss, Rs, by rw [List.append_nil], o, h, D, hm, q⟩
end
end Tw

/-! ### repr, membership, dicts with tuple keys -/
namespace Tw
open PySem L2 PySem.Spec PyProof.Rows
section
variable {X : Cx}
def rRepr (K : PySem.W.Frag) : List V → Hp → VK → Prop := fun xs H Q => ∃ v d, xs = [v] ∧ Dp K H v d ∧ d.canLay0 = true ∧ d.depth ≤ 60 ∧ d.showable = true ∧ d.shown.length ≤ sizeLine ∧ Q (.str d.shown) H
theorem call_repr (hg : X.A.guards = some []) (hu : X.A.units + 64 < cLine) : CallR X (.builtin "repr") (rRepr X.K) := by
  intro pins s σ H xs us Q I r h
  obtain ⟨v, d, rfl, hd, hl, hp, hs, hz, q⟩ := h
  obtain ⟨u, rfl, rx⟩ := vals1 r
  have fin : ∀ h' t tk, (∀ b o, s.heap.get? b = some o → h'.get? b = some o) → EP X pins σ Q (.str d.shown t) { s with heap := h', toks := tk } := fun h' t tk hk => ⟨.str d.shown, H, I.kept (t' := tk) hk, ⟨_, rfl⟩, q⟩
  have nd := PyData.noDict_hsm (as := []) (PyData.hasDict_of_canLay d hl)
  cases hd with
  | non =>
    cases rx
    rw [PyData.shown_none] at fin
    exact PySem.P.repr_of_none (fin _ _ _ fun _ _ e => e)
  | bl b =>
    cases rx
    rw [PyData.shown_bool] at fin
    exact PySem.P.repr_of_bool (fin _ _ _ fun _ _ e => e)
  | int i =>
    obtain ⟨t, rfl⟩ := rx
    rw [PyData.shown_int] at fin
    exact PySem.P.repr_of_int (by simpa [PyData.showable] using hs) (fin _ _ _ fun _ _ e => e)
  | str x =>
    obtain ⟨t, rfl⟩ := rx
    rw [PyData.shown_str] at fin hz
    exact PySem.P.repr_of_str (fin _ _ _ fun _ _ e => e) hz
  | lst h1 h2 =>
    obtain ⟨as, r1⟩ := Dp.reads I _ _ _ (.lst h1 h2) rx
    cases rx
    exact repr_of_reads' r1 hs (PyData.noDict_hsm (PyData.hasDict_of_canLay _ hl)) hg (by omega) (fun _ _ e => e) fin hz
  | tup h1 h2 =>
    obtain ⟨as, r1⟩ := Dp.reads I _ _ _ (.tup h1 h2) rx
    cases rx
    exact repr_of_reads' r1 hs (PyData.noDict_hsm (PyData.hasDict_of_canLay _ hl)) hg (by omega) (fun _ _ e => e) fin hz
/-! x in t, of data -/
def rInT (K : PySem.W.Frag) (neg : Bool) : R2 := fun x y H Q => ∃ d ds, Dp K H x d ∧ Dp K H y (.tuple ds) ∧ SeqAt.shaped d = true ∧ SeqAt.shaped (.tuple ds) = true ∧ Q (.bl (if neg then !(ds.any fun e => PyData.eqv e d) else ds.any fun e => PyData.eqv e d)) H
def rInL (K : PySem.W.Frag) (neg : Bool) : R2 := fun x y H Q => ∃ d ds, Dp K H x d ∧ Dp K H y (.list ds) ∧ SeqAt.shaped d = true ∧ SeqAt.shaped (.list ds) = true ∧ Q (.bl (if neg then !(ds.any fun e => PyData.eqv e d) else ds.any fun e => PyData.eqv e d)) H
theorem op_inT (hu : X.A.units + 65 < cLine) : OpR X (compareOp .In) (rInT X.K false) := by
  intro pins s σ H x y v u Q I rx ry h
  obtain ⟨d, ds, hd, he, sd, se, q⟩ := h
  obtain ⟨as, r1⟩ := Dp.reads I d x v hd rx
  obtain ⟨bs, r2⟩ := Dp.reads I _ y u he ry
  exact SeqAt.in_tuple_reads r2 r1 (SeqAt.canLay_of_shaped se) (SeqAt.canLay_of_shaped sd) (by
    unfold SeqAt.shaped at sd
    simp only [Bool.and_eq_true, decide_eq_true_eq] at sd
    omega) ⟨.bl _, H, I, rfl, q⟩
theorem op_notInT (hu : X.A.units + 65 < cLine) : OpR X (compareOp .NotIn) (rInT X.K true) := by
  intro pins s σ H x y v u Q I rx ry h
  obtain ⟨d, ds, hd, he, sd, se, q⟩ := h
  obtain ⟨as, r1⟩ := Dp.reads I d x v hd rx
  obtain ⟨bs, r2⟩ := Dp.reads I _ y u he ry
  exact SeqAt.notIn_tuple_reads r2 r1 (SeqAt.canLay_of_shaped se) (SeqAt.canLay_of_shaped sd) (by
    unfold SeqAt.shaped at sd
    simp only [Bool.and_eq_true, decide_eq_true_eq] at sd
    omega) ⟨.bl _, H, I, rfl, q⟩
theorem op_inL (hu : X.A.units + 65 < cLine) : OpR X (compareOp .In) (rInL X.K false) := by
  intro pins s σ H x y v u Q I rx ry h
  obtain ⟨d, ds, hd, he, sd, se, q⟩ := h
  obtain ⟨as, r1⟩ := Dp.reads I d x v hd rx
  obtain ⟨bs, r2⟩ := Dp.reads I _ y u he ry
  exact SeqAt.in_list_reads r2 r1 (SeqAt.canLay_of_shaped se) (SeqAt.canLay_of_shaped sd) (by
    unfold SeqAt.shaped at sd
    simp only [Bool.and_eq_true, decide_eq_true_eq] at sd
    omega) ⟨.bl _, H, I, rfl, q⟩
theorem op_notInL (hu : X.A.units + 65 < cLine) : OpR X (compareOp .NotIn) (rInL X.K true) := by
  intro pins s σ H x y v u Q I rx ry h
  obtain ⟨d, ds, hd, he, sd, se, q⟩ := h
  obtain ⟨as, r1⟩ := Dp.reads I d x v hd rx
  obtain ⟨bs, r2⟩ := Dp.reads I _ y u he ry
  exact SeqAt.notIn_list_reads r2 r1 (SeqAt.canLay_of_shaped se) (SeqAt.canLay_of_shaped sd) (by
    unfold SeqAt.shaped at sd
    simp only [Bool.and_eq_true, decide_eq_true_eq] at sd
    omega) ⟨.bl _, H, I, rfl, q⟩
/-! dicts with tuple keys -/
theorem d_dictSetT {pins : List (Addr × Obj)} {σ : L2.St} {H : Hp} {s : Shared} {E : Value → Shared → Prop} {D b : Addr} {kvs : List (List L2.Key × V)} {k : List L2.Key} {v : V} {r : Value} {Q : Unit → Shared → Prop} (hu : X.A.units < cLine) (I : Inv X pins σ H s) (hD : H D = some (.dT kvs)) (hz : kvs.length < sizeLine)
    (eb : H b = some (.tup (k.map kV))) (rv : RelV v r) (h : ∀ s', Inv X pins σ (upd H D (.dT (putK kvs k v))) s' → Q () s') : wpAny (model X.prog X.w) X.A (dictSet D (.ref b) r) Q E s := by
  obtain ⟨z, hd, xs, rel, dd⟩ := dt_of I.hok hD
  have hzx : xs.length ≤ sizeLine := by rw [← Paired.length rel]; exact z
  have hl : (putK kvs k v).length ≤ sizeLine := by have := length_putK kvs k v; omega
  refine wpAny_dictSet_heap (hsz := hzx) (knd := tupleKind (mixKind X.prog X.w)) hu (key_of I.hok eb) dd fun h' dd' hs => h _ ?_
  obtain ⟨q, es, ep, hq, h2, h3, h4, _, h5⟩ := dd'
  refine d_write I (by rw [hD]; exact True.intro) hs ⟨q, hq⟩ ⟨hl, hd, _, (rel.put k eb rv).keeps fun c ys ec => ?_, q, es, ep, hq, h2, h3, h4, h5⟩
  rw [upd_ne (ne_of ec hD (fun z => nomatch z))]
  exact ec
end
end Tw

/-! ### {k: v for ..}, the keys tuples -/
namespace Tw
open PySem L2 PySem.Spec PyProof.Rows
section
variable {X : Cx}
/-- D: the new dict; a key: a tracked tuple of numbers and texts -/
def tDcT (wi : TI) (g : TG) (tt : TT) (tk tv : TE) (js : List Nat) : TE := fun σ H Q => wi σ H fun J G => ∀ D, G D = none → ∃ W : Nat → Nat → Hp → Prop, (∃ m, W 0 m (upd G D (.dT []))) ∧ ∀ i m G', W i m G' →
  (J.stop i G' ∧ Q (.ref D) G') ∨ (J.go i G' ∧ ∃ Nx : Hp → Prop, (∀ G'', Nx G'' → ∃ m', m' < m ∧ W (i + 1) m' G'') ∧ ∀ x G'', J.yld i G' x G'' → g x (wipe σ js) G'' fun τ G2 => wipe τ js = wipe σ js ∧ tt τ G2 fun b G3 =>
    if b = true then tk τ G3 fun y G4 => tv τ G4 fun z G5 => ∃ kvs k a, y = V.ref a ∧ G5 a = some (.tup (k.map kV)) ∧ G5 D = some (.dT kvs) ∧ kvs.length < sizeLine ∧ Nx (upd G5 D (.dT (putK kvs k z))) else Nx G3)
/-- the block of a comprehension: a context of its own -/
def InBlk (X : Cx) (scope : Scope) (r : Cx → Prop) : Prop := ∀ (s : Shared) (H : Hp) (C : Addr) (cl : List (Str × Addr)) (fp : List Addr), r (X.blk s H scope (compEnvC scope cl C X.env) fp)
theorem pe_dcT {kx vx tg iter : Expr} {ifs : List Expr} {scope : Scope} {own : List (Str × Nat)} {pos : Pos} {wi : TI} {g : TG} {tt : TT} {tk tv : TE} (hc : X.calm = true) (hu : X.A.units < cLine) (hN : X.N.Nodup) (hi : PI X tg iter wi) (ok : BlkOk X.N X.env.scope scope own)
    (hg : InBlk X scope fun Y => PG Y tg g) (ht : InBlk X scope fun Y => PTs Y ifs tt) (hk : InBlk X scope fun Y => PE Y kx tk) (he : InBlk X scope fun Y => PE Y vx tv) (hs : ∀ x, foldedSetIterable iter X.env x = pure x := by intro _; rfl) :
    PE X (.DictComp kx vx [⟨tg, iter, ifs, 0⟩] scope pos) (tDcT wi g tt tk tv (own.map (·.2))) := by
  refine ⟨fun pins s σ H Q I h => ?_⟩
  rw [arm_eval_DictComp]
  have fr : ∀ y ∈ scope.names, y.2 = .free → ∃ c, X.env.cells.lookup y.1 = some c := fun y hy e => (ok.free y hy e).elim (fun k => I.ok.has _ (.inl k)) (fun k => I.ok.has _ (.inr k))
  refine wpAny_comprehension_free rfl hs (closure_ok fr) ok.kind (fun y hy e => by rw [ok.uniq y hy, e]) ?_
  refine thn (hi.run pins s σ H _ I h) fun _ _ hx => thn hx fun _ s2 ⟨it, fp, tn, J, G, e, I2, T, st2, f2, q⟩ => ?_
  subst e
  refine wpAny_newObj_type (newEnv_comp ?_)
  obtain ⟨D, hD⟩ : ∃ D, s2.heap.objs.size = D := ⟨_, rfl⟩
  rw [hD]
  obtain ⟨W, ⟨m0, w0⟩, turn⟩ := q D (I2.hok.fresh (Nat.le_of_eq hD))
  obtain ⟨s3, hs3⟩ : ∃ s3 : Shared, s3 = { s2 with heap := s2.heap.push { cls := .type "dict", data := .dict #[] } } := ⟨_, rfl⟩
  have h3 : s3.heap = s2.heap.push { cls := .type "dict", data := .dict #[] } := by rw [hs3]
  obtain ⟨G3, hG3⟩ : ∃ G3, G3 = upd G D (.dT []) := ⟨_, rfl⟩
  rw [← hG3] at w0
  have I3 : Inv X pins σ G3 s3 := by
    rw [hs3, hG3]
    refine I2.laid (t' := s2.toks) (fun b o e => Heap.get?_push_of_some _ e) (Nat.le_of_eq hD) ?_
    rw [← hD]
    exact dt_empty s2.heap I2.big
  have lt2 : ∀ b ∈ fp, b < s2.heap.objs.size := fun b hb => let ⟨_, e, _⟩ := T.obj _ _ st2 b hb; Heap.lt_size e
  have f3 : ∀ b ∈ fp, FpOk X pins G3 b ∧ b < s3.heap.objs.size := fun b hb => by
    have l := lt2 b hb
    refine ⟨⟨?_, (f2 b hb).2⟩, by rw [h3, Heap.size_push]; exact Nat.lt_succ_of_lt l⟩
    rw [hG3, upd_ne (by rw [← hD]; exact Nat.ne_of_lt l)]
    exact (f2 b hb).1
  have st3 : tn 0 s3.heap := T.keep _ _ _ st2 fun b _ o e => by rw [h3]; exact Heap.get?_push_of_some _ e
  obtain ⟨C, hC⟩ : ∃ C, C = s3.heap.objs.size := ⟨_, rfl⟩
  obtain ⟨cl, hcl⟩ : ∃ cl, cl = cellsFrom (s3.heap.objs.size + 1) scope.names (cloFrom X.env.cells scope.names []) := ⟨_, rfl⟩
  obtain ⟨ce, hce⟩ : ∃ ce, ce = compEnvC scope cl C X.env := ⟨_, rfl⟩
  have I4 := block_start I3 ok hN f3
  rw [← hcl, ← hC, ← hce] at I4
  have pg := hg s3 G3 C cl fp
  have pt := ht s3 G3 C cl fp
  have pk := hk s3 G3 C cl fp
  have pe := he s3 G3 C cl fp
  rw [← hce] at pg pt pk pe
  have cL : ce.locals = C := by rw [hce]; rfl
  obtain ⟨s4, hs4⟩ : ∃ s4 : Shared, s4 = { s3 with heap := pushCells (s3.heap.push { cls := .type "dict", data := .dict #[] }) scope.names } := ⟨_, rfl⟩
  have nfp : ∀ b ∈ fp, G3 b = none := fun b hb => (f3 b hb).1.1
  have post : ∀ s' m H', Inv X pins σ H' s' → Q (.ref D) H' → s'.heap.Ns C m → FpOk X pins H' C → compPost (model X.prog X.w) X.A X.xe none (EP X pins σ Q) (.ref D) C (.ok .next) s' := fun s' m H' I' q' hn ⟨f0, f1, f2, f3, f4, f5⟩ => ⟨m, hn, fun h'' sb =>
    ⟨.ref D, H', I'.turned (t' := s'.toks) (fun b o hb e => (sb.2 b hb).trans e) f0 f1 f3 f4 f5, rfl, q'⟩⟩
  have I4 : Inv (X.blk s3 G3 scope ce fp) [] (wipe σ (own.map (·.2))) G3 s4 := by
    rw [hs4]
    exact I4
  have st4 : tn 0 s4.heap := T.keep _ _ _ st3 fun b _ o e => by rw [hs4]; exact pushCells_keeps _ _ _ _ (Heap.get?_push_of_some _ e)
  have stat : ∀ {σ' : L2.St} {H' : Hp} {s' : Shared}, Inv (X.blk s3 G3 scope ce fp) [] σ' H' s' → (∀ b ∈ fp, H' b = none) → ∀ b ∈ fp, FpOk (X.blk s3 G3 scope ce fp) [] H' b := fun {σ' H' s'} I' hn b hb =>
    ⟨hn b hb, (I'.ok.exf b hb).1, I'.ok.exfs b hb, .inl hb, fun x c e => (I'.ok.exf b hb).2 x c e, fun p hp => by cases hp⟩
  have loop : codeAny (model X.prog X.w) X.A (.compLoop (.DictComp kx vx [⟨tg, iter, ifs, 0⟩] scope pos) 0 (.ref it) (.ref D) ce) (compPost (model X.prog X.w) X.A X.xe none (EP X pins σ Q) (.ref D) C) s4 := by
    refine compLoop_anyD (fun n s' => ∃ i H', Inv (X.blk s3 G3 scope ce fp) [] (wipe σ (own.map (·.2))) H' s' ∧ tn i s'.heap ∧ (∀ b ∈ fp, H' b = none) ∧ W i n H') ?_ m0 ⟨0, G3, I4, st4, nfp, w0⟩
    rintro n s5 ⟨i, G5, I5, st5, n5, w5⟩
    rcases turn i n G5 w5 with ⟨stop, qq⟩ | ⟨go, Nx, hNx, step⟩
    · refine thnF (T.done (X.blk s3 G3 scope ce fp) rfl rfl rfl hc i [] s5 _ G5 (fun _ _ => False) I5 (stat I5 n5) st5 stop) fun r s6 ⟨hr, I6⟩ => ?_
      subst hr
      have I7 : Inv X pins σ G5 s6 := I3.call' (ch := fp) I6.os I6.base I6.hok I6.bare fun b hb => ⟨(f3 b hb).1.2.2.2.1, (f3 b hb).1.2.1, (f3 b hb).1.2.2.2.2.1, (f3 b hb).1.2.2.2.2.2⟩
      have z : G5 ce.locals = none := I6.free
      obtain ⟨m, hn, _⟩ := I6.loc
      have hn : s6.heap.Ns ce.locals m := hn
      rw [cL] at hn z
      rw [hC] at z
      exact post s6 m G5 I7 qq hn (by rw [hC]; exact I3.fpOk (Nat.le_refl _) z)
    · refine thnF (T.item (X.blk s3 G3 scope ce fp) rfl rfl rfl hc i [] s5 _ G5 (fun _ _ => False) I5 (stat I5 n5) st5 go) fun r s6 ⟨u, hr, h6⟩ => ?_
      subst hr
      refine thnF h6 fun _ s7 ⟨x, G7, I7, r7, y7, st7, n7⟩ => ?_
      refine thnF (pg.run _ s7 _ G7 x u _ (I7.pinned (stat I7 n7) (T.obj _ _ st7)) r7 (step x G7 y7)) fun _ s8 ⟨τ, G8, I8, hw8, q8⟩ => ?_
      refine thnF (pt.run _ s8 τ G8 _ I8 q8) fun b s9 ⟨G9, I9, q9⟩ => ?_
      have fin : ∀ {s' : Shared} {H' : Hp}, Inv (X.blk s3 G3 scope ce fp) ([] ++ pinsAt fp s7.heap) τ H' s' → Nx H' → ∃ m, m < n ∧ ∃ i H', Inv (X.blk s3 G3 scope ce fp) [] (wipe σ (own.map (·.2))) H' s' ∧ tn i s'.heap ∧ (∀ b ∈ fp, H' b = none) ∧ W i m H' := fun {s' H'} I' nx => by
        obtain ⟨m', hm, w'⟩ := hNx H' nx
        have pin' : ∀ b ∈ fp, ∀ o, s7.heap.get? b = some o → s'.heap.get? b = some o ∧ H' b = none := fun b hb o e => by
          obtain ⟨z1, z2, _⟩ := I'.pin (b, o) (List.mem_append_right _ (List.mem_append_right _ (mem_pinsAt hb e)))
          exact ⟨z1, z2⟩
        have hl : (wipe σ (own.map (·.2))).length = τ.length := by rw [← hw8, wipe_length]
        refine ⟨m', hm, i + 1, H', (I'.unpinned (pins := [])).weak hl (fun j v e => (wipe_some (by rw [hw8]; exact e)).1), T.keep _ _ _ st7 fun b hb o e => (pin' b hb o e).1, fun b hb => ?_, w'⟩
        obtain ⟨o, e, _⟩ := T.obj _ _ st7 b hb
        exact (pin' b hb o e).2
      cases b with
      | false => exact fin I9 (by simpa using q9)
      | true =>
        simp only [if_true] at q9 ⊢
        refine thnF (pk.run _ s9 τ G9 _ I9 q9) fun z s10 ⟨yk, G10, I10, r10, q10⟩ => ?_
        refine thnF (pe.run _ s10 τ G10 _ I10 q10) fun z2 s11 ⟨yv, G11, I11, r11, kvs, k, a, ek, ha, hD11, hz11, nx⟩ => ?_
        subst ek
        obtain rfl : z = .ref a := r10
        exact d_dictSetT (X := X.blk s3 G3 scope ce fp) hu I11 hD11 hz11 ha r11 fun s12 I12 => fin I12 nx
  rw [hs4, hce, hcl, hC] at loop
  rw [hs4] at st4
  subst hs3
  exact codeAny_compStart_dict loop (T.self X.A 0 _ _ _ st4 loop)
end
end Tw

/-! ### update and sorted of dicts with tuple keys -/
namespace Tw
open PySem L2 PySem.Spec PyProof.Rows
def mergeT (kvs more : List (List L2.Key × V)) : List (List L2.Key × V) := more.foldl (fun acc p => putK acc p.1 p.2) kvs
theorem mergeT_le : ∀ (more kvs : List (List L2.Key × V)), (mergeT kvs more).length ≤ kvs.length + more.length
  | [], kvs => Nat.le_refl _
  | p :: r, kvs => by
    have h1 := mergeT_le r (putK kvs p.1 p.2)
    have h2 := length_putK kvs p.1 p.2
    have h3 : mergeT kvs (p :: r) = mergeT (putK kvs p.1 p.2) r := rfl
    rw [h3, List.length_cons]; omega
theorem kt_merge {H : Hp} {ms : List (List L2.Key × V)} {ys : List (List L2.Key × Addr × Value)} (r : KT H ms ys) : ∀ {kvs : List (List L2.Key × V)} {xs : List (List L2.Key × Addr × Value)}, KT H kvs xs → KT H (mergeT kvs ms) (storedAllH xs ys) := by
  unfold KT at r
  induction r with
  | nil => intro kvs xs h; exact h
  | @cons p q ps qs h t ih =>
    intro kvs xs h0
    obtain ⟨h1, h2, h3⟩ := h
    have z := h0.put p.1 h2 h3
    rw [h1] at z
    have z2 := ih z
    rw [← h1] at z2
    exact (by
      show KT H (mergeT (putK kvs p.1 p.2) ps) (storedAllH (storedH xs q.1 q.2.1 q.2.2) qs)
      rw [← h1]
      exact z2)
section
variable {X : Cx}
def rUpdT : V → List V → Hp → VK → Prop := fun x xs H Q => ∃ (a b : Addr) (ks ms : List (List L2.Key × V)), x = .ref a ∧ xs = [.ref b] ∧ a ≠ b ∧ H a = some (.dT ks) ∧ H b = some (.dT ms) ∧ ks ≠ [] ∧ ks.length + ms.length ≤ sizeLine ∧ Q .non (upd H a (.dT (mergeT ks ms)))
theorem mt_updT (hu : X.A.units + 1 < cLine) : MtR X "dict.update" rUpdT := by
  intro pins s σ H x xs v us Q I rx rxs h
  obtain ⟨a, b, ks, ms, rfl, rfl, ne, ha, hb, h0, hz, q⟩ := h
  cases rx
  obtain ⟨u1, rfl, r1⟩ := vals1 rxs
  cases r1
  obtain ⟨z1, hd1, xs1, rel1, dd1⟩ := dt_of I.hok ha
  obtain ⟨z2, hd2, xs2, rel2, dd2⟩ := dt_of I.hok hb
  have l1 : ks.length = xs1.length := Paired.length rel1
  have l2 : ms.length = xs2.length := Paired.length rel2
  refine PySem.call_update_dictH (tupleKind_room_in1 hu) ne hd2 dd1 dd2 (.inl fun e => h0 (List.length_eq_zero_iff.mp (by rw [l1, e]; rfl))) (by omega) fun h' e1 e2 hs => ?_
  obtain ⟨o, es, ep, hq, g2, g3, g4, _, g5⟩ := e1
  have I2 : Inv X pins σ (upd H a (.dT (mergeT ks ms))) { s with heap := h' } :=
    d_write (t' := s.toks) I (by rw [ha]; exact True.intro) hs ⟨o, hq⟩ ⟨Nat.le_trans (mergeT_le ms ks) hz, hd1, _, (kt_merge rel2 rel1).keeps (fun c ys ec => (by rw [upd_ne (ne_of ec ha (fun z => nomatch z))]; exact ec)), o, es, ep, hq, g2, g3, g4, g5⟩
  exact ⟨.non, _, I2, rfl, q⟩
theorem pe_updT {o e : Expr} {to : TE} {t : TA} {apos cpos : Pos} (hu : X.A.units + 1 < cLine) (ho : PE X o to) (ha : PA X [e] t)
    (hbase : attributeBase o "update" X.env (eval o X.env) = eval o X.env := by rfl)
    (hfew : ((backTo cpos (starEach [e] X.env)).all (fun x => !x.1) && (backToKw cpos (keywordEach [] X.env)).all (fun x => x.1.isSome) && decide ([e].length + ([] : List Keyword).length + (if ([] : List Keyword).isEmpty then 0 else 1) < 30)) = true := by rfl)
    (hline : (apos.endLine == cpos.line) = true := by rfl) (hs : starEach [e] X.env = (false, eval e X.env) :: starEach [] X.env := by rfl) (hplain : (backTo cpos (starEach [] X.env)).any (·.1) = false := by rfl) :
    PE X (.Call (.Attribute o "update" apos) [e] [] cpos) (tBM X.K "dict" rUpdT to t) :=
  pe_bm PySem.F.plainAttrs_dict PySem.F.slot_dict_update PySem.F.type_dict_update (mt_updT hu) ho ha hbase hfew hline hs hplain
/-- sorted(d), the keys pairs of numbers -/
def rSortDT : List V → Hp → VK → Prop := fun vs H Q => ∃ (d : Addr) (kvs : List (List L2.Key × V)) (B : Int), vs = [V.ref d] ∧ H d = some (.dT kvs) ∧ kvs.length < 64 ∧ (∀ p ∈ kvs, ∃ i j : Int, p.1 = [Sum.inl i, Sum.inl j] ∧ 0 ≤ i ∧ i < B ∧ 0 ≤ j ∧ j < B) ∧
  ∀ (bs cs : List Addr) (p : Addr), IsKeys H kvs bs → cs.Perm bs → cs.Pairwise (fun a b => ∀ i j k l : Int, H a = some (.tup [.int i, .int j]) → H b = some (.tup [.int k, .int l]) → TS.code B [i, j] ≤ TS.code B [k, l]) → H p = none → Q (.ref p) (upd H p (.lst (cs.map V.ref)))
def adrOf : Value → Addr
  | .ref a => a
  | _ => 0
theorem call_sort_dT (hc : X.calm = true) : CallR X (.builtin "sorted") rSortDT := by
  intro pins s σ H xs us Q I r h
  obtain ⟨d, kvs, B, rfl, hd, h64, hB, q⟩ := h
  obtain ⟨u, rfl, rx⟩ := r.one
  cases rx
  obtain ⟨z, hs, ks, pr, o, es, ep, ho, hx, hdt, he, hn⟩ := (show ObjOk X.prog X.w H s.heap d (.dT kvs) from I.hok d _ hd)
  have l1 : es.size = ks.length := size_of_entries he
  have l2 : kvs.length = ks.length := Paired.length pr
  have kof : ∀ b ∈ ks.map (fun x => x.2.1), ∃ i j : Int, H b = some (.tup [.int i, .int j]) ∧ 0 ≤ i ∧ i < B ∧ 0 ≤ j ∧ j < B := by
    have all : ∀ {l : List (List L2.Key × V)} {m : List (List L2.Key × Addr × Value)}, KT H l m → (∀ p ∈ l, ∃ i j : Int, p.1 = [Sum.inl i, Sum.inl j] ∧ 0 ≤ i ∧ i < B ∧ 0 ≤ j ∧ j < B) → ∀ b ∈ m.map (fun x => x.2.1), ∃ i j : Int, H b = some (.tup [.int i, .int j]) ∧ 0 ≤ i ∧ i < B ∧ 0 ≤ j ∧ j < B := by
      intro l m g
      induction g with
      | nil => intro _ b hb; exact nomatch hb
      | @cons p q ps qs hq t ih =>
        intro hl b hb
        rcases List.mem_cons.mp hb with e | hb
        · obtain ⟨i, j, e2, w⟩ := hl p (List.mem_cons_self ..)
          have z := hq.2.1
          rw [e2] at z
          rw [e]
          exact ⟨i, j, z, w⟩
        · exact ih (fun p hp => hl p (List.mem_cons_of_mem _ hp)) b hb
    exact all pr hB
  refine Calls.call_function_entry kind_sorted plain_sorted entry_sorted (args_sorted1 _) ?_
  unfold Builtin.«sorted»
  refine wpAny_bind (m := checkCount "sorted" 1 1 _) (wpAny_pure ?_)
  refine wpAny_bind (PySem.W.kdu_collect (A := X.A.in1) (kdl_raw hs hx hdt) (I.ok.hd hc) ho (by omega) fun h' tk acc kp it => ?_)
  have ea : acc.toList = ks.map fun x => Value.ref x.2.1 := by
    have hl : acc.toList.length = ks.length := by rw [Array.length_toList, it.1]; exact l1
    apply List.ext_getElem?
    intro j
    rw [List.getElem?_map]
    cases hj : acc.toList[j]? with
    | none => rw [List.getElem?_eq_none (by have h1 := List.getElem?_eq_none_iff.mp hj; omega)] <;> rfl
    | some v =>
      obtain ⟨en, hen, hv⟩ := it.2 j v (by rw [← Array.getElem?_toList]; exact hj)
      have qe := entry_at he j
      rw [hen] at qe
      cases hb : ks[j]? with
      | none => rw [hb] at qe; exact nomatch (show some en = none from qe)
      | some b =>
        rw [hb] at qe
        have e2 : en = entryOfKey (tupleKind (mixKind X.prog X.w)) b := Option.some.inj qe
        rw [hv, e2] <;> rfl
  have hlen : acc.toList.length = kvs.length := by rw [ea, List.length_map, l2]
  refine wpAny_bind (wpAny_newList ?_ (by omega))
  have ho' : (h'.push (seqObj "list" acc.toList.toArray 0)).get? h'.objs.size = some (seqObj "list" acc.toList.toArray 0) := Heap.get?_push_size _ rfl
  have kp2 : ∀ b o, s.heap.get? b = some o → (h'.push (seqObj "list" acc.toList.toArray 0)).get? b = some o := fun b o e => Heap.get?_push_of_some _ (kp b o e)
  have I1 : Inv X pins σ H { s with heap := h'.push (seqObj "list" acc.toList.toArray 0), toks := tk } := I.kept (t' := tk) kp2
  have tu : ∀ b i j, H b = some (.tup [.int i, .int j]) → TS.TupInts (h'.push (seqObj "list" acc.toList.toArray 0)) (.ref b) [i, j] := fun b i j hb => tupI_raw I1 (t := b) (ns := [i, j]) (.inl (.inl hb))
  refine wpAny_bind (wpAny_holding (wpAny_mono (TS.call_sort_tups (A := X.A.in1) (s := { s with heap := h'.push (seqObj "list" acc.toList.toArray 0), toks := tk }) (d := 2) (B := B) (Q := fun _ s' => EP X pins σ Q (.ref h'.objs.size) s') ho' (by omega) (by decide) (fun v hv => ?_) fun out h1 h2 => ?_) (fun _ s' x => wpAny_pure ⟨_, rfl, x⟩) fun _ _ e => e))
  · rw [ea] at hv
    obtain ⟨x, hx1, rfl⟩ := List.mem_map.mp hv
    obtain ⟨i, j, e, w⟩ := kof x.2.1 (List.mem_map.mpr ⟨x, hx1, rfl⟩)
    exact ⟨[i, j], tu _ _ _ e, rfl, fun m hm => by
      rcases List.mem_cons.mp hm with e | hm
      · rw [e]; exact ⟨w.1, w.2.1⟩
      · rw [List.mem_singleton.mp hm]; exact w.2.2⟩
  · have eb : acc.toList = (ks.map fun x => x.2.1).map Value.ref := by rw [ea, List.map_map] <;> rfl
    have h3 : ∀ u ∈ out.toList, u = Value.ref (adrOf u) := fun u hu => by
      have m := h1.mem_iff.mp hu
      rw [eb] at m
      obtain ⟨b, _, rfl⟩ := List.mem_map.mp m
      rfl
    have hp : (out.toList.map adrOf).Perm (ks.map fun x => x.2.1) := by
      have z := h1.map adrOf
      rw [eb, List.map_map] at z
      have e : (adrOf ∘ Value.ref) = id := rfl
      rw [e, List.map_id] at z
      exact z
    have eo : out.toList = (out.toList.map adrOf).map Value.ref := by
      rw [List.map_map]
      exact (List.map_id _).symm.trans (List.map_congr_left fun u hu => h3 u hu)
    obtain ⟨n, hat⟩ := sortedHeap_at (out := out) ho'
    have I0 : Inv X pins σ H { s with heap := h', toks := tk } := I.kept (t' := tk) kp
    have old : ∀ b o, h'.get? b = some o → (sortedHeap (h'.push (seqObj "list" acc.toList.toArray 0)) h'.objs.size acc.toList out).get? b = some o := fun b o e => by
      have lt := Heap.lt_size e
      rw [sortedHeap_old (Nat.ne_of_lt lt) (by rw [Heap.size_push]; exact Nat.lt_succ_of_lt lt)]
      exact Heap.get?_push_of_some _ e
    refine ⟨.ref h'.objs.size, upd H h'.objs.size (.lst ((out.toList.map adrOf).map V.ref)), I0.laid (t' := tk) old (Nat.le_refl _) ?_, rfl, q _ _ _ (isKeys_of pr) hp ?_ (I0.hok.fresh (Nat.le_refl _))⟩
    · refine ⟨?_, out.toList, n, ?_, hat⟩
      · rw [List.length_map, hp.length_eq, List.length_map, ← l2]; exact z
      · have zz := vals_refs (out.toList.map adrOf)
        rw [← eo] at zz
        exact zz
    · rw [List.pairwise_map]
      refine List.Pairwise.imp_of_mem (fun {u v} hu hv huv i j k l hi hk => ?_) h2
      rw [h3 u hu, h3 v hv, (tu _ _ _ hi).ints, (tu _ _ _ hk).ints] at huv
      exact huv
end
end Tw

/-! ### ==, != and len of instances by the text's own defs -/
namespace Tw
open PySem L2 PySem.Spec PyProof.Rows
section
variable {X : Cx} {CX : CXT} {k : Nat} {f C : Addr} {fd : FuncData} {ps : List Str} {sp : Sp} {E : XK}
theorem runGA {A : Around} {pins : List (Addr × Obj)} {σ : L2.St} {H : Hp} {s : Shared} {Q : VK} {us : List Value} {vs : List V} (F : FnG X.prog X.w X.K X.mg X.base CX k f fd ps sp) (hg : A.guards = some []) (hr : Room k A) (fr : A.frames = X.A.frames) (hb : Binds X.K fd ps []) (hx : Passes CX X E)
    (I : Inv X pins σ H s) (r : Vals vs us) (h : sp vs H Q E) : wpAny (model X.prog X.w) A (call (.ref f) us) (EP X pins σ Q) X.xe s := by
  have hl : us.length = ps.length := by rw [← r.length]; exact F.len _ _ _ _ h
  have hbi := hb s us I.kIn (by rw [List.append_nil]; exact hl)
  rw [List.append_nil] at hbi
  have e := I.env0
  have e0 : Env0 X.prog X.w X.K X.mg X.base A X.stack s H := ⟨by rw [fr]; exact e.frames, e.mod, e.bs, e.bsz, e.funs, e.frf, e.hok, e.bare⟩
  refine wpAny_call (codeAny_mono (F.run A X.stack s H ⟨us, []⟩ us vs Q E hg hr e0 hbi r h) fun rr s2 hq => ?_)
  cases rr with
  | error z => exact hx pins σ H s z s2 I hq
  | ok fl =>
    cases fl with
    | ret u => exact I.after hq
    | next => exact hq.elim
    | brk => exact hq.elim
    | cont => exact hq.elim
/-- x == y, x != y: instances of one class whose == stands in the text -/
def rOwn (C : Addr) (sp : Sp) (E : XK) (neg : Bool) : R2 := fun x y H Q => ∃ a b dx dy fs gs, x = .ref a ∧ y = .ref b ∧ H a = some (.ins C dx fs) ∧ H b = some (.ins C dy gs) ∧
  sp [.ref a, .ref b] H (fun v H' => ∃ t, v = .bl t ∧ Q (.bl (if neg then !t else t)) H') E
theorem op_own (F : FnG X.prog X.w X.K X.mg X.base CX k f fd ps sp) (hg : X.A.guards = some []) (hr : Room k X.A) (hu : X.A.units < cLine) (hb : Binds X.K fd ps []) (hx : Passes CX X E)
    (hs : PySem.W.findIn X.K (.ref C) "__eq__" = some (some (.ref f))) (hf : PySem.W.isFn X.K (.ref f) = true) : OpR X (compareOp .Eq) (rOwn C sp E false) := by
  intro pins s σ H x y v u Q I rx ry h
  obtain ⟨a, b, dx, dy, fs, gs, rfl, rfl, ha, hb', hsp⟩ := h
  cases rx
  cases ry
  obtain ⟨mA, J, _⟩ := ins_get I.hok ha
  obtain ⟨mB, J', _⟩ := ins_get I.hok hb'
  obtain ⟨od, J, _⟩ := J.look
  obtain ⟨od', J', _⟩ := J'.look
  obtain ⟨m, hF⟩ := I.fr
  have r2 : Vals [V.ref a, V.ref b] [Value.ref a, Value.ref b] := .cons rfl (.cons rfl .nil)
  refine PySem.W.cmp_K (op := .Eq) (tb := .ref C) hu hF I.ok.mod.kin J J'.type (by simp [PySem.W.notFirst]) hs hf ?_
  refine wpAny_mono (runGA (A := X.A) F hg hr rfl hb hx I r2 hsp) (fun r s' z => ?_) fun _ _ z => z
  obtain ⟨v, H', I', rv, t, rfl, q⟩ := z
  cases rv
  exact ⟨.bl t, H', I', rfl, q⟩
theorem ne_entry : entryFor table "object.__ne__" = some Builtin.«object.__ne__» := PySem.F.cmpEntry_ne
theorem op_ownNe (F : FnG X.prog X.w X.K X.mg X.base CX k f fd ps sp) (hg : X.A.guards = some []) (hr : Room (k + 1) X.A) (hu : X.A.units + 1 < cLine) (hb : Binds X.K fd ps []) (hx : Passes CX X E)
    (hs : PySem.W.findIn X.K (.ref C) "__eq__" = some (some (.ref f))) (hf : PySem.W.isFn X.K (.ref f) = true) (hn : PySem.W.findIn X.K (.ref C) "__ne__" = some (some (.builtin "object.__ne__"))) (hm : PySem.W.mroIn X.K C (.type "object") = some true) : OpR X (compareOp .NotEq) (rOwn C sp E true) := by
  intro pins s σ H x y v u Q I rx ry h
  obtain ⟨a, b, dx, dy, fs, gs, rfl, rfl, ha, hb', hsp⟩ := h
  cases rx
  cases ry
  obtain ⟨mA, J, _⟩ := ins_get I.hok ha
  obtain ⟨mB, J', _⟩ := ins_get I.hok hb'
  obtain ⟨od, J, _⟩ := J.look
  obtain ⟨od', J', _⟩ := J'.look
  have r2 : Vals [V.ref a, V.ref b] [Value.ref a, Value.ref b] := .cons rfl (.cons rfl .nil)
  have S : Slot "object" "__ne__" "object.__ne__" := .of (owner := "object") (n := "__ne__") (by rw [typeLookup_type, builtinLookup_eq_fast]; kernel_rfl) (by decide +kernel) (by decide +kernel) (by decide +kernel) (.inl (by decide +kernel)) (by rw [isSubtype_type]; kernel_rfl)
  have run : wpAny (model X.prog X.w) X.A.in1 (call (.ref f) [.ref a, .ref b]) (fun v s' => ∃ t, v = .bool t ∧ EP X pins σ Q (.bool (!t)) s') X.xe s := by
    refine wpAny_mono (runGA (A := X.A.in1) F hg hr.in1 rfl hb hx I r2 hsp) (fun r s' z => ?_) fun _ _ z => z
    obtain ⟨v, H', I', rv, t, rfl, q⟩ := z
    cases rv
    exact ⟨t, rfl, .bl (!t), H', I', rfl, q⟩
  have one : wpAny (model X.prog X.w) X.A (tryCompare (.ref a) "__ne__" (.ref b)) (fun r s' => ∃ v, r = some v ∧ EP X pins σ Q v s') X.xe s := by
    unfold tryCompare
    simp only [callSpecialIfBound?, bindSpecialIfBound?]
    refine wpAny_bind (wpAny_holding (wpAny_bind (wpAny_bind (wpAny_bind (J.type.here ((PySem.W.looks_findIn I.kIn hn).here ?_))))))
    simp only [S.bind]
    have nn : wpAny (model X.prog X.w) X.A.in1 (Builtin.«object.__ne__» ⟨[.ref a, .ref b], []⟩) (fun fin s' => ∃ t, fin = .done (.ret (.bool t)) ∧ EP X pins σ Q (.bool t) s') X.xe s := by
      unfold Builtin.«object.__ne__»
      refine wpAny_bind (m := slotArgs "__ne__" 1 _) (wpAny_pure ?_)
      refine wpAny_bind (wpAny_cRoomFor (show X.A.in1.units < cLine from hu) ?_)
      refine wpAny_bind (m := callSpecialIfBound? (.ref a) (Str.ofString "__eq__") [.ref b]) (PySem.W.ifBound_K I.kIn J hs hf (wpAny_mono run (fun r s' z => ?_) fun _ _ z => z))
      obtain ⟨t, rfl, q⟩ := z
      refine wpAny_bind (m := truthy (.bool t)) (wpAny_truthy_bool ?_)
      exact wpAny_pure ⟨_, rfl, q⟩
    have cl : wpAny (model X.prog X.w) X.A (call (.builtin "object.__ne__") [.ref a, .ref b]) (fun v s' => ∃ t, v = .bool t ∧ EP X pins σ Q (.bool t) s') X.xe s := by
      refine wpAny_call (codeAny_call_builtin S.plain ne_entry (PySem.W.check_slot PySem.F.cmpKind_ne PySem.F.cmpSplit_ne (J.type.andThen (PySem.W.looks_mroIn I.kIn hm)) (PySem.F.cmpArgs_ne _ _) ?_))
      refine wpAny_mono nn (fun fin s' z => ?_) fun _ _ z => z
      obtain ⟨t, rfl, q⟩ := z
      exact ⟨t, rfl, q⟩
    refine wpAny_bind (wpAny_askSetting (wpAny_ite ?_))
    split
    · exact wpAny_bind (wpAny_pure (wpAny_pure (wpAny_bind (wpAny_mono cl (fun v s' z => wpAny_pure (by
        obtain ⟨t, rfl, q⟩ := z
        exact wpAny_pure ⟨_, rfl, q⟩)) fun _ _ z => z))))
    · exact wpAny_tryCatch (wpAny_bind (wpAny_pure (wpAny_pure (wpAny_bind (wpAny_mono cl (fun v s' z => wpAny_pure (by
        obtain ⟨t, rfl, q⟩ := z
        exact wpAny_pure ⟨_, rfl, q⟩)) fun _ _ z => z)))))
  show wpAny (model X.prog X.w) X.A (richCompare .NotEq (.ref a) (.ref b)) (EP X pins σ Q) X.xe s
  unfold richCompare
  simp only [oneThing_ref]
  refine wpAny_holding (wpAny_bind (wpAny_cRoomFor (Nat.lt_of_succ_lt hu) ?_))
  refine wpAny_bind (J.type.here (wpAny_bind (J'.type.here ?_)))
  have e1 : (Value.ref C != Value.ref C) = false := by simp
  simp only [e1, Bool.false_eq_true, if_false]
  refine wpAny_bind (wpAny_pure ?_)
  simp only [Bool.false_eq_true, if_false]
  refine wpAny_bind (wpAny_mono one (fun r s' z => ?_) fun _ _ z => z)
  obtain ⟨v, rfl, q⟩ := z
  exact wpAny_pure q
end
end Tw
namespace Tw
open PySem L2 PySem.Spec PyProof.Rows
section
variable {X : Cx} {CX : CXT} {k : Nat} {f C : Addr} {fd : FuncData} {ps : List Str} {sp : Sp} {E : XK}
def rLenO (C : Addr) (sp : Sp) (E : XK) : List V → Hp → VK → Prop := fun xs H Q => ∃ a dx fs, xs = [.ref a] ∧ H a = some (.ins C dx fs) ∧ sp [.ref a] H (fun v H' => ∃ n : Int, v = .int n ∧ 0 ≤ n ∧ n < 2 ^ 63 ∧ Q (.int n) H') E
theorem call_lenO (F : FnG X.prog X.w X.K X.mg X.base CX k f fd ps sp) (hg : X.A.guards = some []) (hr : Room (k + 1) X.A) (hb : Binds X.K fd ps []) (hx : Passes CX X E)
    (hs : PySem.W.findIn X.K (.ref C) "__len__" = some (some (.ref f))) (hf : PySem.W.isFn X.K (.ref f) = true) : CallR X (.builtin "len") (rLenO C sp E) := by
  intro pins s σ H xs us Q I r h
  obtain ⟨a, dx, fs, rfl, ha, hsp⟩ := h
  obtain ⟨u, rfl, rx⟩ := r.one
  cases rx
  obtain ⟨mA, J, _⟩ := ins_get I.hok ha
  obtain ⟨od, J, _⟩ := J.look
  obtain ⟨m, hF⟩ := I.fr
  have r2 : Vals [V.ref a] [Value.ref a] := .cons rfl .nil
  refine PySem.W.len_K hF I.ok.mod.kin J hs hf (wpAny_mono (runGA (A := X.A.in1) F hg hr.in1 rfl hb hx I r2 hsp) (fun r s' z => ?_) fun _ _ z => z)
  obtain ⟨v, H', I', rv, n, rfl, h0, h1, q⟩ := z
  obtain ⟨t, rfl⟩ := rv
  exact ⟨⟨h0, h1⟩, .int n, H', I'.tok _, ⟨_, rfl⟩, q⟩
end
end Tw

/-! ### over data-level states: repr, membership, dicts with tuple keys, own == -/
namespace Tw
open PySem L2
theorem hu65 {A : Around} {k : Nat} (hr : Room k A) : A.units + 65 < cLine := by have := hr.un; omega
def kD : L2.Key → PyData
  | .inl i => .int i
  | .inr x => .str x
def tupK (k : List L2.Key) : PyData := .tuple (k.map kD)
section
variable {K : PySem.W.Frag} {H H' : Hp}
theorem keys_eq : ∀ {k : List L2.Key} {xs : List V}, VsOk K H xs ((k.map kD).map SV.d) → xs = k.map kV
  | [], [], _ => rfl
  | .inl i :: k, x :: xs, h => by rw [vok_int h.1, keys_eq h.2] <;> rfl
  | .inr z :: k, x :: xs, h => by rw [vok_str h.1, keys_eq h.2] <;> rfl
  | [], _ :: _, h => h.elim
  | _ :: _, [], h => h.elim
theorem eq_keys : ∀ (k : List L2.Key), VsOk K H (k.map kV) ((k.map kD).map SV.d)
  | [] => trivial
  | .inl i :: k => ⟨vint i, eq_keys k⟩
  | .inr z :: k => ⟨vstr z, eq_keys k⟩
theorem vok_key {v : V} {k : List L2.Key} (h : VOk K H v (.d (tupK k))) : ∃ a, v = .ref a ∧ H a = some (.tup (k.map kV)) := by
  obtain ⟨a, xs, e, h1, h2⟩ := vok_tup h
  rw [keys_eq h2] at h1
  exact ⟨a, e, h1⟩
theorem key_vok {a : Addr} {k : List L2.Key} (h : H a = some (.tup (k.map kV))) : VOk K H (.ref a) (.d (tupK k)) := tup_vok h (eq_keys k)
/-! dicts -/
def putSV {κ : Type} [DecidableEq κ] (kvs : List (κ × SV)) (k : κ) (s : SV) : List (κ × SV) :=
  if (kvs.any fun kv => decide (kv.1 = k)) = true then kvs.map (fun kv => if kv.1 = k then (kv.1, s) else kv) else kvs ++ [(k, s)]
theorem putSV_le {κ : Type} [DecidableEq κ] (kvs : List (κ × SV)) (k : κ) (s : SV) : (putSV kvs k s).length ≤ kvs.length + 1 := by
  unfold putSV
  split
  · rw [List.length_map]; omega
  · rw [List.length_append]; exact Nat.le_refl _
def putAllS {κ : Type} [DecidableEq κ] (kvs ps : List (κ × SV)) : List (κ × SV) := ps.foldl (fun acc p => putSV acc p.1 p.2) kvs
theorem putAllS_le {κ : Type} [DecidableEq κ] : ∀ (ps kvs : List (κ × SV)), (putAllS kvs ps).length ≤ kvs.length + ps.length
  | [], kvs => Nat.le_refl _
  | p :: r, kvs => by
    have h1 := putAllS_le r (putSV kvs p.1 p.2)
    have h2 := putSV_le kvs p.1 p.2
    have h3 : putAllS kvs (p :: r) = putAllS (putSV kvs p.1 p.2) r := rfl
    rw [h3, List.length_cons]; omega
theorem ks_any {κ : Type} [DecidableEq κ] {k : κ} : ∀ {vs : List (κ × V)} {fs : List (κ × SV)}, KsOk K H vs fs → (vs.any fun kv => decide (kv.1 = k)) = fs.any fun kv => decide (kv.1 = k)
  | [], [], _ => rfl
  | v :: vs, f :: fs, h => by rw [List.any_cons, List.any_cons, ks_any h.2.2, h.1]
  | [], _ :: _, h => h.elim
  | _ :: _, [], h => h.elim
theorem ks_app {κ : Type} : ∀ {vs ws : List (κ × V)} {fs gs : List (κ × SV)}, KsOk K H vs fs → KsOk K H ws gs → KsOk K H (vs ++ ws) (fs ++ gs)
  | [], _, [], _, _, b => b
  | _ :: _, _, _ :: _, _, h, b => ⟨h.1, h.2.1, ks_app h.2.2 b⟩
  | [], _, _ :: _, _, h, _ => h.elim
  | _ :: _, _, [], _, h, _ => h.elim
theorem ks_repl {κ : Type} [DecidableEq κ] {k : κ} {v : V} {s : SV} (hv : VOk K H v s) : ∀ {vs : List (κ × V)} {fs : List (κ × SV)}, KsOk K H vs fs → KsOk K H (vs.map fun kv => if kv.1 = k then (kv.1, v) else kv) (fs.map fun kv => if kv.1 = k then (kv.1, s) else kv)
  | [], [], _ => trivial
  | w :: vs, f :: fs, h => by
    rw [List.map_cons, List.map_cons, h.1]
    by_cases e : f.1 = k
    · rw [if_pos e, if_pos e]; exact ⟨rfl, hv, ks_repl hv h.2.2⟩
    · rw [if_neg e, if_neg e]; exact ⟨h.1, h.2.1, ks_repl hv h.2.2⟩
  | [], _ :: _, h => h.elim
  | _ :: _, [], h => h.elim
theorem ks_putK {κ : Type} [DecidableEq κ] {k : κ} {v : V} {s : SV} {vs : List (κ × V)} {fs : List (κ × SV)} (h : KsOk K H vs fs) (hv : VOk K H v s) : KsOk K H (putK vs k v) (putSV fs k s) := by
  unfold putK putSV
  rw [ks_any h]
  split
  · exact ks_repl hv h
  · exact ks_app h ⟨rfl, hv, trivial⟩
theorem ks_mergeT {ms : List (List L2.Key × V)} {gs : List (List L2.Key × SV)} : ∀ {vs : List (List L2.Key × V)} {fs : List (List L2.Key × SV)}, KsOk K H vs fs → KsOk K H ms gs → KsOk K H (mergeT vs ms) (putAllS fs gs) := by
  induction ms generalizing gs with
  | nil =>
    intro vs fs h g
    match gs, g with
    | [], _ => exact h
  | cons m ms ih =>
    intro vs fs h g
    match gs, g with
    | g0 :: gs, g =>
      obtain ⟨g1, g2, g3⟩ := g
      have z := ks_putK (k := m.1) h g2
      rw [g1] at z
      have z2 := ih z g3
      show KsOk K H (mergeT (putK vs m.1 m.2) ms) (putAllS (putSV fs g0.1 g0.2) gs)
      rw [g1]
      exact z2
theorem keys_vsok {kvs : List (List L2.Key × V)} {bs : List Addr} (h : IsKeys H kvs bs) : ∀ {ks : List (List L2.Key × SV)}, KsOk K H kvs ks → VsOk K H (bs.map V.ref) (ks.map fun k => SV.d (tupK k.1)) := by
  unfold IsKeys at h
  induction h with
  | nil =>
    intro ks g
    match ks, g with
    | [], _ => trivial
  | @cons p b ps bs hp t ih =>
    intro ks g
    match ks, g with
    | k :: ks, g =>
      refine ⟨?_, ih g.2.2⟩
      rw [g.1] at hp
      exact key_vok hp
end
section
variable {K : PySem.W.Frag} {S : Sl} {M : Ml} {ta tb tc te tk tv : TE} {tt : TT} {x y z s : SV} {o : MO} {d : PyData} {ds : List PyData} {l : Addr} {wi : TI} {g : TG}
theorem rc_repr (h1 : d.canLay0 = true) (h2 : d.depth ≤ 60) (h3 : d.showable = true) (h4 : d.shown.length ≤ 100000) : RC K (rRepr K) M [.d d] (.d (.str d.shown)) := fun B X T S σ H st vs hv Q q => by
  match vs, hv with
  | [v], hv => exact ⟨v, d, rfl, hv.1.1, h1, h2, h3, sz h4, q _ H (Same.refl H) (vstr _)⟩
theorem rv_inT {neg : Bool} (h1 : SeqAt.shaped d = true) (h2 : SeqAt.shaped (.tuple ds) = true) : RV K (rInT K neg) M (.d d) (.d (.tuple ds)) (.d (.bool (if neg then !(ds.any fun e => PyData.eqv e d) else ds.any fun e => PyData.eqv e d))) := fun B X T S σ H st v w hv hw Q q =>
  ⟨d, ds, hv.1, hw.1, h1, h2, q _ H (Same.refl H) (vbl _)⟩
theorem rv_inL {neg : Bool} (hm : (l, MO.lst (ds.map SV.d)) ∈ M) (h1 : SeqAt.shaped d = true) (h2 : SeqAt.shaped (.list ds) = true) : RV K (rInL K neg) M (.d d) (.m l) (.d (.bool (if neg then !(ds.any fun e => PyData.eqv e d) else ds.any fun e => PyData.eqv e d))) := fun B X T S σ H st v w hv hw Q q => by
  have e : w = .ref l := hw
  subst e
  obtain ⟨vs, g1, g2⟩ := st.at hm
  exact ⟨d, ds, hv.1, dp_lstN g1 (vsok_dp g2).1, h1, h2, q _ H (Same.refl H) (vbl _)⟩
/-- {k: v for ..}, the keys tuples -/
theorem evn_dcT {α : Type} {xs : List α} {enc : α → SV} {fS : α → Sl → Sl} {js vs : List Nat} {Mn : Ml} (key : α → List L2.Key) (f : α → SV) (h : EvI K wi S M (xs.map enc) Mn) (hM : ∀ q ∈ Mn, q ∈ M) (hj : ∀ j ∈ js, j ∈ vs) (hl : xs.length ≤ 50000)
    (hg : ∀ a, a ∈ xs → Tg K g (enc a) (fS a) js) (ht : ∀ a, a ∈ xs → EvT K tt (fS a (wipeS S vs)) M true) (hk : ∀ a, a ∈ xs → Ev K tk (fS a (wipeS S vs)) M (.d (tupK (key a)))) (he : ∀ a, a ∈ xs → Ev K tv (fS a (wipeS S vs)) M (f a)) :
    EvN K (tDcT wi g tt tk tv vs) S M (.dT (putAllS [] (xs.map fun a => (key a, f a)))) := fun B X T σ H st Q q =>
  h B X T σ H st _ fun J H1 G Y e1 st1 w hG hY D hD => by
    have stD : Sat K B X H1 S ((D, .dT []) :: M) σ (upd H1 D (.dT [])) := (st1.retup (Tups.refl H1)).new hD ⟨[], upd_same, trivial⟩
    let P : Nat → Hp → Prop := fun i H' => Sat K B X H1 S ((D, .dT (putAllS [] ((xs.take i).map fun a => (key a, f a)))) :: M) σ H' ∧ Same H1 H'
    have gok : ∀ i H', P i H' → G H' := fun i H' pv => hG H' pv.1.tp fun q hq => pv.1.mem q (List.mem_cons_of_mem _ (hM q hq))
    have hn : (xs.map enc).length = xs.length := List.length_map ..
    refine ⟨fun i m H' => m = xs.length - i ∧ i ≤ xs.length ∧ P i H', ⟨xs.length, by omega, Nat.zero_le _, by simpa [putAllS] using stD, same_new hD⟩, ?_⟩
    rintro i m H' ⟨rfl, hi, pv⟩
    rcases Nat.lt_or_ge i xs.length with hlt | hge
    · refine .inr ⟨w.goes i H' (by rw [hn]; exact hlt) (gok i H' pv), P (i + 1), fun H2 p2 => ⟨xs.length - (i + 1), by omega, rfl, hlt, p2⟩, fun v H'' y => ?_⟩
      have y := w.yields i H' v H'' (by rw [hn]; exact hlt) (gok i H' pv) y
      obtain ⟨e2, hv⟩ := hY i H' v H'' (by rw [hn]; exact hlt) (gok i H' pv) y
      have hx : xs[i]? = some xs[i] := List.getElem?_eq_getElem hlt
      have ha : xs[i] ∈ xs := List.getElem_mem hlt
      have hv' := hv (enc xs[i]) (by rw [List.getElem?_map, hx] <;> rfl)
      have st2 := pv.1.same e2
      have ek : Same H1 H'' := pv.2.trans e2
      refine hg _ ha B X H1 (wipeS S vs) M (wipe σ vs) H'' (st2.tail.wipe vs) v hv' _ fun σ2 st3 hw => ⟨by rw [hw vs hj, wipe_wipe], ?_⟩
      refine ht _ ha B X H1 σ2 H'' st3 _ fun H3 e3 st4 => ?_
      rw [if_pos rfl]
      refine hk _ ha B X H1 σ2 H3 st4 _ fun y1 H4 e4 st5 o5 => he _ ha B X H1 σ2 H4 st5 _ fun z1 H5 e5 st6 o6 => ?_
      obtain ⟨a, ea, ga⟩ := vok_key (vok_same e5 o5)
      have e35 := e3.trans (e4.trans e5)
      have st7 := st2.same e35
      obtain ⟨acc, g1, g2⟩ := st7.at (List.mem_cons_self ..)
      have hlen : acc.length ≤ 50000 := by
        have z := putAllS_le ((xs.take i).map fun a => (key a, f a)) []
        rw [List.length_map, List.length_nil] at z
        have z2 : (xs.take i).length ≤ xs.length := List.length_take_le' _ _
        rw [ksok_len g2]
        omega
      have tp := tups_wr (u := .dT (putK acc (key xs[i]) z1)) g1 (fun _ z => (nomatch z)) (fun _ _ z => (nomatch z))
      have etake : xs.take (i + 1) = xs.take i ++ [xs[i]] := by rw [List.take_succ, hx] <;> rfl
      have eput : putAllS [] ((xs.take (i + 1)).map fun a => (key a, f a)) = putSV (putAllS [] ((xs.take i).map fun a => (key a, f a))) (key xs[i]) (f xs[i]) := by
        unfold putAllS
        rw [etake, List.map_append, List.foldl_append] <;> rfl
      have st8 := st7.wr (n := 0) (mo' := .dT (putAllS [] ((xs.take (i + 1)).map fun a => (key a, f a)))) rfl rfl (fun u hu => by rw [g1] at hu; cases hu; exact ⟨fun _ z => (nomatch z), fun _ _ z => (nomatch z)⟩)
        ⟨_, upd_same, by rw [eput]; exact ksok_tups tp (ks_putK g2 o6)⟩
      refine ⟨acc, key xs[i], a, ea, ga, g1, szl (by omega), st8, fun b o hb => ?_⟩
      rw [upd_ne (ne_of_none hb hD)]
      exact (ek.trans e35) b o hb
    · have e : i = xs.length := by omega
      subst e
      have pv2 := pv.1
      rw [List.take_length] at pv2
      exact .inl ⟨by have z := w.stops H' (gok _ H' pv); rw [hn] at z; exact z, q D H' (e1.trans pv.2) (free_back e1 hD) (pv2.retup (st1.tp.trans pv2.tp))⟩
variable {ks : List (List L2.Key × SV)}
theorem rc_lenDT (hm : (l, MO.dT ks) ∈ M) : RC K rLenT M [.m l] (.d (.int ks.length)) := fun B X T S σ H st vs hv Q q => by
  match vs, hv with
  | [v], hv =>
    have e : v = .ref l := hv.1
    subst e
    obtain ⟨ys, h1, h2⟩ := st.at hm
    exact ⟨l, ys, rfl, h1, by rw [ksok_len h2]; exact q _ H (Same.refl H) (vint _)⟩
theorem rcn_listDT (hm : (l, MO.dT ks) ∈ M) : RCN K (fun xs H Q => ∃ d kvs, xs = [V.ref d] ∧ Rd H d (.dT kvs) ∧ ∀ p bs, H p = none → IsKeys H kvs bs → Q (.ref p) (upd H p (.lst (bs.map V.ref)))) M [.m l] (.lst (ks.map fun k => SV.d (tupK k.1))) := fun B X T S σ H st vs hv Q q => by
  match vs, hv with
  | [v], hv =>
    have e : v = .ref l := hv.1
    subst e
    obtain ⟨ys, h1, h2⟩ := st.at hm
    exact ⟨l, ys, rfl, .inl h1, fun p bs hp hk => q p _ (same_new hp) hp (st.new hp ⟨_, upd_same, vsok_tups (Same.tups (same_new hp)) (keys_vsok hk h2)⟩)⟩
end
end Tw

/-! ### pairs in order, update, own ==, slices -/
namespace Tw
open PySem L2
def kP (p : Int × Int) : List L2.Key := [.inl p.1, .inl p.2]
def dPair (p : Int × Int) : PyData := .tuple [.int p.1, .int p.2]
def dPairs (ps : List (Int × Int)) : PyData := .tuple (ps.map dPair)
theorem tupK_kP (p : Int × Int) : tupK (kP p) = dPair p := rfl
def leP (a b : Int × Int) : Bool := decide (a.1 < b.1 ∨ (a.1 = b.1 ∧ a.2 ≤ b.2))
def sortP (ps : List (Int × Int)) : List (Int × Int) := ps.mergeSort leP
theorem leP_trans (a b c : Int × Int) (h1 : leP a b = true) (h2 : leP b c = true) : leP a c = true := by
  simp only [leP, decide_eq_true_eq] at *
  omega
theorem leP_total (a b : Int × Int) : (leP a b || leP b a) = true := by
  simp only [leP, Bool.or_eq_true, decide_eq_true_eq]
  omega
theorem leP_anti {a b : Int × Int} (h1 : leP a b = true) (h2 : leP b a = true) : a = b := by
  simp only [leP, decide_eq_true_eq] at *
  have e1 : a.1 = b.1 := by omega
  have e2 : a.2 = b.2 := by omega
  exact Prod.ext e1 e2
theorem sortP_eq {ps qs : List (Int × Int)} (h1 : qs.Perm ps) (h2 : qs.Pairwise fun a b => leP a b = true) : qs = sortP ps :=
  List.Perm.eq_of_pairwise (le := fun a b => leP a b = true) (fun a b _ _ h1 h2 => leP_anti h1 h2) h2 (List.pairwise_mergeSort leP_trans leP_total ps) (h1.trans (List.mergeSort_perm ps leP).symm)
/-- what stands at the permuted addresses -/
theorem perm_paired {α β : Type} {R : α → β → Prop} {bs cs : List β} (h : cs.Perm bs) : ∀ {as : List α}, Paired R as bs → ∃ as', as'.Perm as ∧ Paired R as' cs := by
  induction h with
  | nil => intro as g; exact ⟨as, .refl _, g⟩
  | @cons b l1 l2 h ih =>
    intro as g
    cases g with
    | cons h1 t =>
      obtain ⟨as', p, g⟩ := ih t
      exact ⟨_, p.cons _, .cons h1 g⟩
  | @swap x y l =>
    intro as g
    cases g with
    | cons h1 t => cases t with
      | cons h2 t => exact ⟨_, .swap _ _ _, .cons h2 (.cons h1 t)⟩
  | @trans l1 l2 l3 h1 h2 ih1 ih2 =>
    intro as g
    obtain ⟨as1, p1, g1⟩ := ih2 g
    obtain ⟨as2, p2, g2⟩ := ih1 g1
    exact ⟨as2, p2.trans p1, g2⟩
theorem code2 {B a b c d : Int} (h1 : 0 ≤ a) (h2 : a < B) (h3 : 0 ≤ b) (h4 : b < B) (h5 : 0 ≤ c) (h6 : c < B) (h7 : 0 ≤ d) (h8 : d < B) (h : TS.code B [a, b] ≤ TS.code B [c, d]) : leP (a, b) (c, d) = true := by
  have e1 : TS.code B [a, b] = a * B + b := by simp [TS.code, Int.pow_succ]
  have e2 : TS.code B [c, d] = c * B + d := by simp [TS.code, Int.pow_succ]
  rw [e1, e2] at h
  simp only [leP, decide_eq_true_eq]
  rcases Int.lt_trichotomy a c with z | z | z
  · exact .inl z
  · subst z; exact .inr ⟨rfl, by omega⟩
  · have : (c + 1) * B ≤ a * B := Int.mul_le_mul_of_nonneg_right (by omega) (by omega)
    rw [Int.add_mul] at this
    omega
section
variable {K : PySem.W.Frag} {B : Hp} {X : List Addr} {T : Hp} {S : Sl} {M : Ml} {σ : St} {H H' : Hp}
variable {ta tb tc te tk tv : TE} {tt : TT} {x y z s : SV} {o : MO} {d : PyData} {ds : List PyData} {l : Addr} {wi : TI} {g : TG} {ks ms : List (List L2.Key × SV)} {ps : List (Int × Int)}
theorem paired_keys {kvs : List (List L2.Key × V)} {bs : List Addr} (h : IsKeys H kvs bs) : ∀ {ks : List (List L2.Key × SV)} {ps : List (Int × Int)}, KsOk K H kvs ks → ks.map (·.1) = ps.map kP → Paired (fun (p : Int × Int) (b : Addr) => H b = some (.tup [.int p.1, .int p.2])) ps bs := by
  unfold IsKeys at h
  induction h with
  | nil =>
    intro ks ps g e
    match ks, ps, g, e with
    | [], [], _, _ => exact .nil
  | @cons p b pl bl hp t ih =>
    intro ks ps g e
    match ks, ps, g, e with
    | k :: ks, q :: ps, g, e =>
      rw [List.map_cons, List.map_cons] at e
      obtain ⟨e1, e2⟩ := List.cons.inj e
      rw [g.1, e1] at hp
      exact .cons hp (ih g.2.2 e2)
theorem paired_vsok {bs : List Addr} (h : Paired (fun (p : Int × Int) (b : Addr) => H b = some (.tup [.int p.1, .int p.2])) ps bs) : VsOk K H (bs.map V.ref) (ps.map fun p => SV.d (dPair p)) := by
  induction h with
  | nil => trivial
  | @cons p b pl bl hp t ih => exact ⟨key_vok (k := kP p) hp, ih⟩
theorem paired_sorted {C : Int} {bs : List Addr} (h : Paired (fun (p : Int × Int) (b : Addr) => H b = some (.tup [.int p.1, .int p.2])) ps bs) (hb : ∀ p ∈ ps, 0 ≤ p.1 ∧ p.1 < C ∧ 0 ≤ p.2 ∧ p.2 < C)
    (g : bs.Pairwise (fun a b => ∀ i j k l : Int, H a = some (.tup [.int i, .int j]) → H b = some (.tup [.int k, .int l]) → TS.code C [i, j] ≤ TS.code C [k, l])) : ps.Pairwise fun a b => leP a b = true := by
  induction h with
  | nil => exact .nil
  | @cons p b pl bl hp t ih =>
    obtain ⟨g1, g2⟩ := List.pairwise_cons.mp g
    refine List.pairwise_cons.mpr ⟨fun q hq => ?_, ih (fun q hq => hb q (List.mem_cons_of_mem _ hq)) g2⟩
    have all : ∀ {pl : List (Int × Int)} {bl : List Addr}, Paired (fun (p : Int × Int) (b : Addr) => H b = some (.tup [.int p.1, .int p.2])) pl bl → ∀ q ∈ pl, ∃ b ∈ bl, H b = some (.tup [.int q.1, .int q.2]) := by
      intro pl bl t
      induction t with
      | nil => intro q hq; exact nomatch hq
      | @cons p' b' pl' bl' hp' t' ih' =>
        intro q hq
        rcases List.mem_cons.mp hq with e | hq
        · rw [e]; exact ⟨b', List.mem_cons_self .., hp'⟩
        · obtain ⟨c, hc, hh⟩ := ih' q hq
          exact ⟨c, List.mem_cons_of_mem _ hc, hh⟩
    obtain ⟨c, hc, hh⟩ := all t q hq
    obtain ⟨a1, a2, a3, a4⟩ := hb p (List.mem_cons_self ..)
    obtain ⟨b1, b2, b3, b4⟩ := hb q (List.mem_cons_of_mem _ hq)
    exact code2 a1 a2 a3 a4 b1 b2 b3 b4 (g1 c hc _ _ _ _ hp hh)
theorem rcn_sortDT {C : Int} (hm : (l, MO.dT ks) ∈ M) (hk : ks.map (·.1) = ps.map kP) (hl : ps.length < 64) (hb : ∀ p ∈ ps, 0 ≤ p.1 ∧ p.1 < C ∧ 0 ≤ p.2 ∧ p.2 < C) : RCN K rSortDT M [.m l] (.lst ((sortP ps).map fun p => SV.d (dPair p))) := fun B X T S σ H st vs hv Q q => by
  match vs, hv with
  | [v], hv =>
    have e : v = .ref l := hv.1
    subst e
    obtain ⟨ys, h1, h2⟩ := st.at hm
    have hlen : ks.length = ps.length := by have := congrArg List.length hk; simpa using this
    refine ⟨l, ys, C, rfl, h1, by rw [ksok_len h2, hlen]; exact hl, fun p hp => ?_, fun bs cs p hi hp hw hn => ?_⟩
    · have fst : ∀ {ys : List (List L2.Key × V)} {ks : List (List L2.Key × SV)}, KsOk K H ys ks → ys.map (·.1) = ks.map (·.1) := by
        intro ys
        induction ys with
        | nil =>
          intro ks g
          match ks, g with
          | [], _ => rfl
        | cons y ys ih =>
          intro ks g
          match ks, g with
          | k :: ks, g => rw [List.map_cons, List.map_cons, g.1, ih g.2.2]
      have z : p.1 ∈ ps.map kP := by rw [← hk, ← fst h2]; exact List.mem_map.mpr ⟨p, hp, rfl⟩
      obtain ⟨q, hq, e⟩ := List.mem_map.mp z
      exact ⟨q.1, q.2, e.symm, hb q hq⟩
    · obtain ⟨qs, e1, e2⟩ := perm_paired hp (paired_keys hi h2 hk)
      have e3 := sortP_eq e1 (paired_sorted e2 (fun p hp => hb p (e1.mem_iff.mp hp)) hw)
      refine q p _ (same_new hn) hn (st.new hn ⟨_, upd_same, vsok_tups (Same.tups (same_new hn)) ?_⟩)
      rw [← e3]
      exact paired_vsok e2
/-- found.update({..}) -/
theorem q_update {D : Ends} {tz : TS} {n : Nat} (st : Sat K B X T S M σ H) (ho : Ev K ta S M (.m l)) (h : EvN K te S M (.dT ms)) (hn : M[n]? = some (l, .dT ks)) (h0 : ks ≠ []) (hl : ks.length + ms.length ≤ 100000)
    (k : ∀ H', Sat K B X T S (M.set n (l, .dT (putAllS ks ms))) σ H' → tz D σ H') : tSeq (tDrop (tBM K "dict" rUpdT ta (tCons te tNil))) tz D σ H :=
  ho B X T σ H st _ fun v H1 e1 st1 o1 => by
    have hv : v = .ref l := o1
    subst hv
    obtain ⟨vs, h1, h2⟩ := st1.at (List.mem_of_getElem? hn)
    refine ⟨.inr (.inr (.inl ⟨rfl, .inr ⟨_, h1⟩⟩)), h B X T σ H1 st1 _ fun p H2 e2 f2 st2 => ?_⟩
    obtain ⟨ws, g1, g2⟩ := st2.at (List.mem_cons_self ..)
    have h1' := e2 _ _ h1
    have h2' := ksok_tups (Same.tups e2) h2
    have ne : l ≠ p := fun z => by subst z; rw [h1] at f2; cases f2
    refine ⟨l, p, vs, ws, rfl, rfl, ne, h1', g1, fun z => h0 (List.length_eq_zero_iff.mp (by rw [← ksok_len h2', z] <;> rfl)), sz (by rw [ksok_len h2', ksok_len g2]; exact hl), k _ ?_⟩
    have tp := tups_wr (u := .dT (mergeT vs ws)) h1' (fun _ z => (nomatch z)) (fun _ _ z => (nomatch z))
    exact st2.tail.wr hn rfl (fun u hu => by rw [h1'] at hu; cases hu; exact ⟨fun _ z => (nomatch z), fun _ _ z => (nomatch z)⟩) ⟨_, upd_same, ksok_tups tp (ks_mergeT h2' g2)⟩
theorem s_update {D : Ends} {n : Nat} (st : Sat K B X T S M σ H) (ho : Ev K ta S M (.m l)) (h : EvN K te S M (.dT ms)) (hn : M[n]? = some (l, .dT ks)) (h0 : ks ≠ []) (hl : ks.length + ms.length ≤ 100000)
    (k : ∀ H', Sat K B X T S (M.set n (l, .dT (putAllS ks ms))) σ H' → D.nx σ H') : tDrop (tBM K "dict" rUpdT ta (tCons te tNil)) D σ H := q_update (tz := fun D σ H => D.nx σ H) (D := D) st ho h hn h0 hl k
/-- a == b, a != b, of instances -/
theorem rv_own {C a b : Addr} {fs gs : List (Str × SV)} {neg t : Bool} {ok : List SV → Ml → SV → Prop} (ha : (a, MO.ins C fs) ∈ M) (hb : (b, MO.ins C gs) ∈ M) (M0 : Ml) (hM : M0.Sublist M) (hr : ∀ p ∈ M0, p.2.wr = false) (h : ok [.m a, .m b] M0 (.d (.bool t))) :
    RV K (rOwn C (spV K ok) E0 neg) M (.m a) (.m b) (.d (.bool (if neg then !t else t))) := fun B X T S σ H st v w hv hw Q q => by
  have e1 : v = .ref a := hv
  have e2 : w = .ref b := hw
  subst e1 e2
  obtain ⟨dx, vs, g1, _⟩ := st.at ha
  obtain ⟨dy, ws, g2, _⟩ := st.at hb
  refine ⟨a, b, dx, dy, vs, ws, rfl, rfl, g1, g2, [.m a, .m b], M0, _, ⟨rfl, rfl, trivial⟩, fun p hp => st.mem p (hM.subset hp), nodM st hM, hr, h, fun v H' e o => ?_⟩
  exact ⟨t, vok_bl o, q _ H' e (vbl _)⟩
theorem rc_lenO {C a : Addr} {fs : List (Str × SV)} {n : Int} {ok : List SV → Ml → SV → Prop} (ha : (a, MO.ins C fs) ∈ M) (M0 : Ml) (hM : M0.Sublist M) (hr : ∀ p ∈ M0, p.2.wr = false) (h : ok [.m a] M0 (.d (.int n))) (h0 : 0 ≤ n) (h1 : n < 2 ^ 63) :
    RC K (rLenO C (spV K ok) E0) M [.m a] (.d (.int n)) := fun B X T S σ H st vs hv Q q => by
  match vs, hv with
  | [v], hv =>
    have e1 : v = .ref a := hv.1
    subst e1
    obtain ⟨dx, vs, g1, _⟩ := st.at ha
    refine ⟨a, dx, vs, rfl, g1, [.m a], M0, _, ⟨rfl, trivial⟩, fun p hp => st.mem p (hM.subset hp), nodM st hM, hr, h, fun v H' e o => ?_⟩
    exact ⟨n, vok_int o, h0, h1, q _ H' e (vint _)⟩
theorem ev_chain {r r' : R2} {b : Bool} (ha : Ev K ta S M x) (hb : Ev K tb S M y) (hr : RV K r M x y (.d (.bool b))) (hc : b = true → Ev K tc S M z) (hr' : b = true → RV K r' M y z s) (hf : b = false → s = .d (.bool false)) : Ev K (tChain r r' ta tb tc) S M s := fun B X T σ H st Q q =>
  ha B X T σ H st _ fun v H1 e1 st1 o1 => hb B X T σ H1 st1 _ fun w H2 e2 st2 o2 => hr B X T S σ H2 st2 v w (vok_same e2 o1) o2 _ fun u H3 e3 o3 => by
    refine ⟨b, vok_bl o3, ?_⟩
    cases b with
    | true =>
      rw [if_pos rfl]
      exact hc rfl B X T σ H3 (st2.same e3) _ fun u H4 e4 st4 o4 => hr' rfl B X T S σ H4 st4 w u (vok_same (e3.trans e4) o2) o4 Q fun v5 H5 e5 o5 => q v5 H5 (e1.trans (e2.trans (e3.trans (e4.trans e5)))) (st4.same e5) o5
    | false =>
      have hs := hf rfl
      subst hs
      rw [if_neg (by decide)]
      exact q _ H3 (e1.trans (e2.trans e3)) (st2.same e3) (vbl _)
theorem vok_ints {v : V} {ns : List Int} (h : VOk K H v (.d (.tuple (ns.map PyData.int)))) : ∃ a, v = .ref a ∧ H a = some (.tup (ns.map V.int)) := by
  obtain ⟨a, xs, e, h1, h2⟩ := vok_tup h
  rw [List.map_map] at h2
  rw [vsok_ints (ns := ns) h2] at h1
  exact ⟨a, e, h1⟩
theorem rv_ltT {ns ms : List Int} : RV K (rLtT K) M (.d (.tuple (ns.map PyData.int))) (.d (.tuple (ms.map PyData.int))) (.d (.bool (HT.lexLt ns ms))) := fun B X T S σ H st v w hv hw Q q => by
  obtain ⟨a, rfl, h1⟩ := vok_ints hv
  obtain ⟨b, rfl, h2⟩ := vok_ints hw
  exact ⟨a, b, ns, ms, rfl, rfl, .inl (.inl h1), .inl (.inl h2), q _ H (Same.refl H) (vbl _)⟩
theorem rv_catT {ds es : List PyData} (hl : ds.length + es.length ≤ 100000) : RV K (rCatA K) M (.d (.tuple ds)) (.d (.tuple es)) (.d (.tuple (ds ++ es))) := fun B X T S σ H st v w hv hw Q q => by
  obtain ⟨a, xs, rfl, h1, h2⟩ := vok_tup hv
  obtain ⟨b, ys, rfl, h3, h4⟩ := vok_tup hw
  have l1 := vsok_len h2
  have l2 := vsok_len h4
  rw [List.length_map] at l1 l2
  refine ⟨a, b, xs, ys, rfl, rfl, .inl (.inl h1), .inl (.inl h3), sz (by omega), fun e => ?_, fun _ e => ?_, fun _ _ p hp => ?_⟩
  · have z : ds = [] := List.length_eq_zero_iff.mp (by rw [← l1, e] <;> rfl)
    subst z
    exact q _ H (Same.refl H) hw
  · have z : es = [] := List.length_eq_zero_iff.mp (by rw [← l2, e] <;> rfl)
    subst z
    rw [List.append_nil] at q
    exact q _ H (Same.refl H) hv
  · have e := same_new (H := H) (o := .tup (xs ++ ys)) hp
    exact q _ _ e (tup_vok upd_same (by rw [List.map_append]; exact vsok_app (vsok_tups (Same.tups e) h2) (vsok_tups (Same.tups e) h4)))
end
end Tw

/-! ### parts of tuples and lists -/
namespace Tw
open PySem L2
def EvO (K : PySem.W.Frag) (to : TO) (S : Sl) (M : Ml) (o : Option Int) : Prop := ∀ B X T σ H, Sat K B X T S M σ H → ∀ Q : Option Int → Hp → Prop, (∀ H', Same H H' → Sat K B X T S M σ H' → Q o H') → to σ H Q
def cutG {α : Type} (xs : List α) (lo hi : Option Int) : List α := (xs.drop (HT.sIx xs.length 0 lo)).take (HT.sIx xs.length xs.length hi - HT.sIx xs.length 0 lo)
section
variable {K : PySem.W.Frag} {S : Sl} {M : Ml} {te : TE} {tl th : TO} {lo hi : Option Int} {ds : List PyData} {xs : List SV} {i : Int} {l : Addr} {H : Hp}
theorem eo_none : EvO K tNoPart S M none := fun B X T σ H st Q q => q H (Same.refl H) st
theorem eo_some (h : Ev K te S M (.d (.int i))) : EvO K (tPart te) S M (some i) := fun B X T σ H st Q q =>
  h B X T σ H st _ fun v H1 e1 st1 o1 => by
    rw [vok_int o1]
    exact ⟨i, rfl, q H1 e1 st1⟩
theorem vsok_drop : ∀ {vs : List V} {ss : List SV} (n : Nat), VsOk K H vs ss → VsOk K H (vs.drop n) (ss.drop n)
  | vs, ss, 0, h => h
  | [], [], n + 1, _ => trivial
  | _ :: _, _ :: _, n + 1, h => vsok_drop n h.2
  | [], _ :: _, _ + 1, h => h.elim
  | _ :: _, [], _ + 1, h => h.elim
theorem vsok_take : ∀ {vs : List V} {ss : List SV} (n : Nat), VsOk K H vs ss → VsOk K H (vs.take n) (ss.take n)
  | vs, ss, 0, h => by rw [List.take_zero, List.take_zero]; trivial
  | [], [], n + 1, _ => trivial
  | _ :: _, _ :: _, n + 1, h => ⟨h.1, vsok_take n h.2⟩
  | [], _ :: _, _ + 1, h => h.elim
  | _ :: _, [], _ + 1, h => h.elim
theorem vsok_cut {vs : List V} {ss : List SV} (h : VsOk K H vs ss) : VsOk K H (cutV vs lo hi) (cutG ss lo hi) := by
  unfold cutV cutG
  rw [vsok_len h]
  exact vsok_take _ (vsok_drop _ h)
theorem cutG_map {α β : Type} (f : α → β) (xs : List α) : cutG (xs.map f) lo hi = (cutG xs lo hi).map f := by
  unfold cutG
  rw [List.length_map, List.map_take, List.map_drop]
theorem ev_slT (h : Ev K te S M (.d (.tuple ds))) (hl : EvO K tl S M lo) (hh : EvO K th S M hi) : Ev K (L2.tSl (rSlA K) te tl th) S M (.d (.tuple (cutG ds lo hi))) := fun B X T σ H st Q q =>
  h B X T σ H st _ fun v H1 e1 st1 o1 => hl B X T σ H1 st1 _ fun H2 e2 st2 => hh B X T σ H2 st2 _ fun H3 e3 st3 => by
    obtain ⟨a, ys, rfl, g1, g2⟩ := vok_tup (vok_same (e2.trans e3) o1)
    have e13 := e1.trans (e2.trans e3)
    have hlen := vsok_len g2
    rw [List.length_map] at hlen
    refine ⟨a, ys, rfl, .inl (.inl g1), fun w => ?_, fun _ p hp => ?_⟩
    · have e : cutG ds lo hi = ds := by
        unfold cutG
        rw [← hlen, w.1, w.2, hlen, List.drop_zero, Nat.sub_zero, List.take_length]
      rw [e] at q
      exact q _ H3 e13 st3 (tup_vok g1 g2)
    · have e := same_new (H := H3) (o := .tup (cutV ys lo hi)) hp
      exact q _ _ (e13.trans e) (st3.same e) (tup_vok upd_same (by rw [← cutG_map]; exact vsok_tups (Same.tups e) (vsok_cut g2)))
/-! for over a new list, a new tuple -/
theorem evi_tupM {xs : List SV} (h : Ev K te S M (.m l)) (hm : (l, MO.tup xs) ∈ M) : EvI K (iTup K te) S M xs [(l, .tup xs)] := fun B X T σ H st R r =>
  h B X T σ H st _ fun v H1 e1 st1 o1 => by
    have hv : v = .ref l := o1
    subst hv
    obtain ⟨vs, h1, h2⟩ := st1.at hm
    refine ⟨l, rfl, ⟨vs, .inl (.inl h1)⟩, r (Itt K l) H1 (fun H' => MOk K H' l (.tup xs)) (fun i H' x H'' => H'' = H' ∧ ∃ vs, H' l = some (.tup vs) ∧ VsOk K H' vs xs ∧ vs[i]? = some x) e1 st1 ⟨fun i H' hi g => ?_, fun H' g => ?_, fun i H' x H'' hi g y => ?_⟩ (fun H' _ g => g _ (List.mem_singleton.mpr rfl)) ?_⟩
    · obtain ⟨ws, g1, g2⟩ := g
      exact ⟨ws, ws[i]'(by rw [vsok_len g2]; exact hi), .inl (.inl g1), by simp⟩
    · obtain ⟨ws, g1, g2⟩ := g
      exact ⟨ws, .inl (.inl g1), Nat.le_of_eq (vsok_len g2)⟩
    · obtain ⟨ws, g1, g2⟩ := g
      exact ⟨y.1, ws, g1, g2, y.2 ws (.inl (.inl g1))⟩
    · rintro i H' x H'' hi g ⟨rfl, ws, g1, g2, y⟩
      refine ⟨Same.refl _, fun s hs => ?_⟩
      obtain ⟨s', h1', h2'⟩ := vsok_get g2 y
      rw [h1'] at hs
      rw [← Option.some.inj hs]
      exact h2'
theorem ev_ref (p : Addr) : Ev K (fun _ H Q => Q (.ref p) H) S M (.m p) := fun B X T σ H st Q q => q _ H (Same.refl H) st rfl
variable {B : Hp} {X : List Addr} {T : Hp} {σ : St} {D : Ends} {tz tu : TS} {g : TG} {its : List SV}
theorem q_forN (st : Sat K B X T S M σ H) (h : EvN K te S M (.lst its)) (Iv : Addr → Nat → Sl → Ml → Prop) (h0 : ∀ p, Iv p 0 S ((p, .lst its) :: M)) (hM : ∀ p i S' M', Iv p i S' M' → (p, MO.lst its) ∈ M')
    (hs : ∀ p i s S' M' σ' H' T', its[i]? = some s → Iv p i S' M' → Sat K B X T' S' M' σ' H' → ∀ v, VOk K H' v s → g v σ' H' fun σ2 H2 =>
      tu { D with nx := fun σ3 H3 => ∃ S3 M3, Iv p (i + 1) S3 M3 ∧ Sat K B X T' S3 M3 σ3 H3, ct := fun σ3 H3 => ∃ S3 M3, Iv p (i + 1) S3 M3 ∧ Sat K B X T' S3 M3 σ3 H3, bk := tz D } σ2 H2)
    (hd : ∀ p S' M' σ' H', Iv p its.length S' M' → Sat K B X T S' M' σ' H' → tz D σ' H') : tSeq (tFor (iList K te) g tu) tz D σ H :=
  h B X T σ H st _ fun p H1 e1 f1 st1 => q_for (wi := iList K fun _ H Q => Q (.ref p) H) st1 (evi_list (ev_ref p) (List.mem_cons_self ..)) (Iv p) (h0 p) (fun i S' M' iv q hq => by rw [List.mem_singleton.mp hq]; exact hM p i S' M' iv) (hs p) (hd p)
theorem q_forT (st : Sat K B X T S M σ H) (h : EvN K te S M (.tup its)) (Iv : Addr → Nat → Sl → Ml → Prop) (h0 : ∀ p, Iv p 0 S ((p, .tup its) :: M)) (hM : ∀ p i S' M', Iv p i S' M' → (p, MO.tup its) ∈ M')
    (hs : ∀ p i s S' M' σ' H' T', its[i]? = some s → Iv p i S' M' → Sat K B X T' S' M' σ' H' → ∀ v, VOk K H' v s → g v σ' H' fun σ2 H2 =>
      tu { D with nx := fun σ3 H3 => ∃ S3 M3, Iv p (i + 1) S3 M3 ∧ Sat K B X T' S3 M3 σ3 H3, ct := fun σ3 H3 => ∃ S3 M3, Iv p (i + 1) S3 M3 ∧ Sat K B X T' S3 M3 σ3 H3, bk := tz D } σ2 H2)
    (hd : ∀ p S' M' σ' H', Iv p its.length S' M' → Sat K B X T S' M' σ' H' → tz D σ' H') : tSeq (tFor (iTup K te) g tu) tz D σ H :=
  h B X T σ H st _ fun p H1 e1 f1 st1 => q_for (wi := iTup K fun _ H Q => Q (.ref p) H) st1 (evi_tupM (ev_ref p) (List.mem_cons_self ..)) (Iv p) (h0 p) (fun i S' M' iv q hq => by rw [List.mem_singleton.mp hq]; exact hM p i S' M' iv) (hs p) (hd p)
theorem s_forN (st : Sat K B X T S M σ H) (h : EvN K te S M (.lst its)) (Iv : Addr → Nat → Sl → Ml → Prop) (h0 : ∀ p, Iv p 0 S ((p, .lst its) :: M)) (hM : ∀ p i S' M', Iv p i S' M' → (p, MO.lst its) ∈ M')
    (hs : ∀ p i s S' M' σ' H' T', its[i]? = some s → Iv p i S' M' → Sat K B X T' S' M' σ' H' → ∀ v, VOk K H' v s → g v σ' H' fun σ2 H2 =>
      tu { D with nx := fun σ3 H3 => ∃ S3 M3, Iv p (i + 1) S3 M3 ∧ Sat K B X T' S3 M3 σ3 H3, ct := fun σ3 H3 => ∃ S3 M3, Iv p (i + 1) S3 M3 ∧ Sat K B X T' S3 M3 σ3 H3, bk := D.nx } σ2 H2)
    (hd : ∀ p S' M' σ' H', Iv p its.length S' M' → Sat K B X T S' M' σ' H' → D.nx σ' H') : tFor (iList K te) g tu D σ H := q_forN (tz := fun D σ H => D.nx σ H) (D := D) st h Iv h0 hM hs hd
end
/-! the rules' callees by name -/
structure NeO (K : PySem.W.Frag) (C : Addr) : Prop where
  ne : PySem.W.findIn K (.ref C) "__ne__" = some (some (.builtin "object.__ne__"))
  ob : PySem.W.mroIn K C (.type "object") = some true
section
variable {X : Cx} {k j : Nat} {C : Addr} {sp : Sp}
theorem op_eqO (c : Met X.prog X.w X.K X.mg X.base k C "__eq__" sp) (hg : X.A.guards = some []) (hr : Room j X.A) (hk : k ≤ j) : OpR X (compareOp .Eq) (rOwn C sp E0 false) := by
  obtain ⟨f, fd, ps, cl, me, F, b⟩ := c.ex
  exact op_own F hg (hr.mono hk) hr.units0 b pass0 me.at_ me.fn
theorem op_neO (c : Met X.prog X.w X.K X.mg X.base k C "__eq__" sp) (n : NeO X.K C) (hg : X.A.guards = some []) (hr : Room j X.A) (hk : k + 1 ≤ j) : OpR X (compareOp .NotEq) (rOwn C sp E0 true) := by
  obtain ⟨f, fd, ps, cl, me, F, b⟩ := c.ex
  exact op_ownNe F hg (hr.mono hk) (hu_of hr) b pass0 me.at_ me.fn n.ne n.ob
theorem call_lenM (c : Met X.prog X.w X.K X.mg X.base k C "__len__" sp) (hg : X.A.guards = some []) (hr : Room j X.A) (hk : k + 1 ≤ j) : CallR X (.builtin "len") (rLenO C sp E0) := by
  obtain ⟨f, fd, ps, cl, me, F, b⟩ := c.ex
  exact call_lenO F hg (hr.mono hk) b pass0 me.at_ me.fn
end
end Tw

/-! ### comprehensions without tests, all and any over them -/
namespace Tw
open PySem L2
section
variable {K : PySem.W.Frag} {S : Sl} {M : Ml} {te : TE} {l : Addr} {wi : TI} {g : TG}
theorem evn_map {α : Type} {xs : List α} {enc : α → SV} {fS : α → Sl → Sl} {js vs : List Nat} {Mn : Ml} (f : α → SV) (h : EvI K wi S M (xs.map enc) Mn) (hM : ∀ q ∈ Mn, q ∈ M) (hj : ∀ j ∈ js, j ∈ vs) (hl : xs.length ≤ 50000)
    (hg : ∀ a, a ∈ xs → Tg K g (enc a) (fS a) js) (he : ∀ a, a ∈ xs → Ev K te (fS a (wipeS S vs)) M (f a)) : EvN K (tLc wi g tYes te vs) S M (.lst (xs.map f)) := by
  have e := evn_lc (tt := tYes) (te := te) (fun _ => true) f h hM hj hl hg (fun _ _ => et_yes) fun a ha _ => he a ha
  rw [List.filter_eq_self.mpr (fun _ _ => rfl)] at e
  exact e
theorem rc_allM {α : Type} {f : α → Bool} {xs : List α} (hm : (l, MO.lst (xs.map fun a => SV.d (.bool (f a)))) ∈ M) : RC K (rAll K) M [.m l] (.d (.bool (xs.all f))) := by
  have e : xs.all f = (xs.map f).all id := by rw [List.all_map] <;> rfl
  rw [e]
  refine rc_all ?_
  rw [List.map_map]
  exact hm
theorem rc_anyM {α : Type} {f : α → Bool} {xs : List α} (hm : (l, MO.lst (xs.map fun a => SV.d (.bool (f a)))) ∈ M) : RC K (rAny K) M [.m l] (.d (.bool (xs.any f))) := by
  have e : xs.any f = (xs.map f).any id := by rw [List.any_map] <;> rfl
  rw [e]
  refine rc_any ?_
  rw [List.map_map]
  exact hm
/-- the answer is new -/
theorem q_retF {B : Hp} {X : List Addr} {T : Hp} {σ : St} {H : Hp} {D : Ends} {tz : TS} {o : MO} (st : Sat K B X T S M σ H) (h : EvN K te S M o) (k : ∀ p H', B p = none → Sat K B X T S ((p, o) :: M) σ H' → D.rt (.ref p) H') : tSeq (tRet te) tz D σ H := h B X T σ H st _ fun p H1 e1 f1 st1 => k p H1 (st.fresh f1).1 st1
theorem q_do {B : Hp} {X : List Addr} {T : Hp} {σ : St} {H : Hp} {D : Ends} {tz : TS} {s : SV} (st : Sat K B X T S M σ H) (h : Ev K te S M s) (k : ∀ H', Sat K B X T S M σ H' → tz D σ H') : tSeq (tDrop te) tz D σ H := h B X T σ H st _ fun v H1 e1 st1 o1 => k H1 st1
end
end Tw

/-! ### two new objects at once; comprehensions over new lists; how long a text is -/
namespace Tw
open PySem L2
section
variable {K : PySem.W.Frag} {B : Hp} {X : List Addr} {T : Hp} {S : Sl} {M : Ml} {σ : St} {H : Hp} {ta tb te te0 : TE} {o o' : MO} {D : Ends} {tz tu : TS} {g : TG} {tt : TT}
theorem q_tupNN {i j n : Nat} (st : Sat K B X T S M σ H) (h1 : EvN K ta S M o) (h2 : ∀ p, EvN K tb S ((p, o) :: M) o') (k : ∀ p p' σ' H', Sat K B X T ((S.set i (some (.m p))).set j (some (.m p'))) ((p', o') :: (p, o) :: M) σ' H' → tz D σ' H') (hn : 2 = n := by rfl) :
    tSeq (tAsg (tTup (tCons ta (tCons tb tNil))) (gTup K n (gCons (gName i) (gCons (gName j) gNil)))) tz D σ H :=
  h1 B X T σ H st _ fun p H1 e1 f1 st1 => h2 p B X T σ H1 st1 _ fun p' H2 e2 f2 st2 => by
    refine ⟨by show 2 ≤ sizeLine; decide, fun t ht => ?_⟩
    have e : Same H2 (upd H2 t (.tup [.ref p, .ref p'])) := same_new ht
    exact ⟨t, [.ref p, .ref p'], rfl, .inl (.inl upd_same), hn, .ref p, _, rfl, .ref p', _, rfl, rfl, k p p' _ _ (((st2.same e).set (s := .m p) rfl i).set (s := .m p') rfl j)⟩
theorem s_tupNN {i j n : Nat} (st : Sat K B X T S M σ H) (h1 : EvN K ta S M o) (h2 : ∀ p, EvN K tb S ((p, o) :: M) o') (k : ∀ p p' σ' H', Sat K B X T ((S.set i (some (.m p))).set j (some (.m p'))) ((p', o') :: (p, o) :: M) σ' H' → D.nx σ' H') (hn : 2 = n := by rfl) :
    tAsg (tTup (tCons ta (tCons tb tNil))) (gTup K n (gCons (gName i) (gCons (gName j) gNil))) D σ H := q_tupNN (tz := fun D σ H => D.nx σ H) (D := D) st h1 h2 k hn
/-- for x in (new, new) -/
theorem q_for2N (st : Sat K B X T S M σ H) (h1 : EvN K ta S M o) (h2 : ∀ p, EvN K tb S ((p, o) :: M) o') (Iv : Addr → Addr → Addr → Nat → Sl → Ml → Prop) (h0 : ∀ p p' t, Iv p p' t 0 S ((t, .tup [.m p, .m p']) :: (p', o') :: (p, o) :: M)) (hM : ∀ p p' t i S' M', Iv p p' t i S' M' → (t, MO.tup [.m p, .m p']) ∈ M')
    (hs : ∀ p p' t i s S' M' σ' H' T', [SV.m p, SV.m p'][i]? = some s → Iv p p' t i S' M' → Sat K B X T' S' M' σ' H' → ∀ v, VOk K H' v s → g v σ' H' fun σ2 H2 =>
      tu { D with nx := fun σ3 H3 => ∃ S3 M3, Iv p p' t (i + 1) S3 M3 ∧ Sat K B X T' S3 M3 σ3 H3, ct := fun σ3 H3 => ∃ S3 M3, Iv p p' t (i + 1) S3 M3 ∧ Sat K B X T' S3 M3 σ3 H3, bk := tz D } σ2 H2)
    (hd : ∀ p p' t S' M' σ' H', Iv p p' t 2 S' M' → Sat K B X T S' M' σ' H' → tz D σ' H') : tSeq (tFor (iTup K (tTup (tCons ta (tCons tb tNil)))) g tu) tz D σ H :=
  h1 B X T σ H st _ fun p H1 e1 f1 st1 => h2 p B X T σ H1 st1 _ fun p' H2 e2 f2 st2 => by
    refine ⟨by show 2 ≤ sizeLine; decide, fun t ht => ?_⟩
    have st3 : Sat K B X T S ((t, .tup [.m p, .m p']) :: (p', o') :: (p, o) :: M) σ (upd H2 t (.tup [.ref p, .ref p'])) := st2.new (o := .tup [.ref p, .ref p']) (mo := .tup [.m p, .m p']) ht ⟨_, upd_same, rfl, rfl, trivial⟩
    exact q_for (wi := iTup K fun _ H Q => Q (.ref t) H) st3 (evi_tupM (ev_ref t) (List.mem_cons_self ..)) (Iv p p' t) (h0 p p' t) (fun i S' M' iv q hq => by rw [List.mem_singleton.mp hq]; exact hM p p' t i S' M' iv) (hs p p' t) (hd p p' t)
/-- [.. for x in a new list] -/
theorem evn_lcN {α : Type} {xs : List α} {enc : α → SV} {fS : α → Sl → Sl} {js vs : List Nat} (p : α → Bool) (f : α → SV) (h : EvN K te0 S M (.lst (xs.map enc))) (hj : ∀ j ∈ js, j ∈ vs) (hl : xs.length ≤ 50000)
    (hg : ∀ a, a ∈ xs → Tg K g (enc a) (fS a) js) (ht : ∀ l a, a ∈ xs → EvT K tt (fS a (wipeS S vs)) ((l, .lst (xs.map enc)) :: M) (p a)) (he : ∀ l a, a ∈ xs → p a = true → Ev K te (fS a (wipeS S vs)) ((l, .lst (xs.map enc)) :: M) (f a)) :
    EvN K (tLc (iList K te0) g tt te vs) S M (.lst ((xs.filter p).map f)) := fun B X T σ H st Q q =>
  h B X T σ H st _ fun l H1 e1 f1 st1 => evn_lc (wi := iList K fun _ H Q => Q (.ref l) H) p f (evi_list (ev_ref l) (List.mem_cons_self ..)) (fun z hz => by rw [List.mem_singleton.mp hz]; exact List.mem_cons_self ..) hj hl hg (ht l) (he l) B X T σ H1 st1 Q fun p2 H2 e2 f2 st2 =>
    q p2 H2 (e1.trans e2) (free_back e1 f2) (st2.drop (List.Sublist.cons_cons _ (List.sublist_cons_self _ _)))
end
theorem any_int (ns : List Int) (i : Int) : ((ns.map PyData.int).any fun e => PyData.eqv e (.int i)) = decide (i ∈ ns) := by
  rw [Bool.eq_iff_iff]
  simp only [List.any_eq_true, List.mem_map, decide_eq_true_eq]
  constructor
  · rintro ⟨e, ⟨q, hq, rfl⟩, h⟩
    rw [eqv_int, decide_eq_true_eq] at h
    rw [← h]; exact hq
  · intro h
    exact ⟨_, ⟨i, h, rfl⟩, by rw [eqv_int]; simp⟩
theorem strLen_app (a b : Str) : (a ++ b).length = a.length + b.length := strLen_append a b
theorem piled_le {m : Nat} : ∀ (ts : List Str), (∀ t ∈ ts, t.length ≤ m) → piled ts ≤ ts.length * (m + 2)
  | [], _ => by rw [piled_nil]; exact Nat.zero_le _
  | t :: ts, h => by
    have h1 := h t (List.mem_cons_self ..)
    have h2 := piled_le ts fun t ht => h t (List.mem_cons_of_mem _ ht)
    rw [piled_cons, List.length_cons, Nat.succ_mul]
    omega
theorem join_le {m : Nat} (ts : List Str) (h : ∀ t ∈ ts, t.length ≤ m) : (Str.join ", " ts).length ≤ ts.length * (m + 2) := by
  cases ts with
  | nil =>
    have e : (Str.join ", " ([] : List Str)).length = 0 := by decide
    rw [e]; exact Nat.zero_le _
  | cons t ts =>
    have h1 := join_length_add (t :: ts) (by simp)
    have h2 := piled_le (t :: ts) h
    omega
theorem shownAll_mem {m : Nat} : ∀ {ds : List PyData}, (∀ d ∈ ds, d.shown.length ≤ m) → ∀ t ∈ PyData.shownAll ds, t.length ≤ m
  | [], _, t, ht => by rw [PyData.shownAll_nil] at ht; cases ht
  | d :: ds, h, t, ht => by
    rw [PyData.shownAll_cons] at ht
    rcases List.mem_cons.mp ht with e | ht
    · rw [e]; exact h d (List.mem_cons_self ..)
    · exact shownAll_mem (fun d hd => h d (List.mem_cons_of_mem _ hd)) t ht
theorem shown_tup_le {m : Nat} {ds : List PyData} (h : ∀ d ∈ ds, d.shown.length ≤ m) : (PyData.tuple ds).shown.length ≤ ds.length * (m + 2) + 3 := by
  rw [PyData.shown_tuple, strLen_app, strLen_app]
  have h1 := join_le _ (shownAll_mem h)
  rw [PyData.shownAll_length] at h1
  have h2 : ("(" : Str).length = 1 := by decide
  have h3 : ((if ds.length == 1 then ",)" else ")" : String) : Str).length ≤ 2 := by split <;> decide
  omega
theorem shown_int13 {i : Int} (h : i.natAbs < 1000) : (PyData.int i).shown.length ≤ 13 := PyData.shown_int_le (by omega)
theorem showable_int {i : Int} (h : i.natAbs < 1000) : (PyData.int i).showable = true := by
  have z := Nat.log2_le_self i.natAbs
  simp only [PyData.showable, decide_eq_true_eq]
  omega
theorem showable_all : ∀ {ds : List PyData}, (∀ d ∈ ds, d.showable = true) → PyData.showableAll ds = true
  | [], _ => by simp only [PyData.showableAll]
  | d :: ds, h => by
    simp only [PyData.showableAll, Bool.and_eq_true]
    exact ⟨h d (List.mem_cons_self ..), showable_all fun d hd => h d (List.mem_cons_of_mem _ hd)⟩
theorem showable_tup {ds : List PyData} (h : ∀ d ∈ ds, d.showable = true) : (PyData.tuple ds).showable = true := by
  simp only [PyData.showable]
  exact showable_all h
end Tw

namespace Tw
open PySem L2
def topS (i : Nat) : Stmt := PySem.Challenge.pw_bytoldways_k04_who_hears_in_the_end.main.body.getD i (.Pass ⟨0, 0, 0, 0⟩)
abbrev s_law_deck : Stmt := topS 25
theorem sc_law_deck : FnScope ["_law_script", "_law_cells", "_law_stir", "_law_cell"] ["_law_script"] (defScope s_law_deck) := ⟨rfl, rfl, rfl, by decide +kernel, rfl, by decide +kernel, by decide +kernel⟩
abbrev s_law_draw : Stmt := topS 26
theorem sc_law_draw : FnScope ["_law_deck_here", "_law_below", "_law_turn", "_law_figure", "_law_cell"] ["_law_deck_here", "_law_below"] (defScope s_law_draw) := ⟨rfl, rfl, rfl, by decide +kernel, rfl, by decide +kernel, by decide +kernel⟩
/-- built-ins that no name of the module hides -/
structure Bi (mg : Str → Option Value) : Prop where
  list : mg "list" = none
  int : mg "int" = none
  len : mg "len" = none
  all : mg "all" = none
  zip : mg "zip" = none
  isinstance : mg "isinstance" = none
  tuple : mg "tuple" = none
  sorted : mg "sorted" = none
  range : mg "range" = none
  repr : mg "repr" = none
  bool : mg "bool" = none
  str : mg "str" = none
section
variable {P : Program} {w : World} {K : PySem.W.Frag} {mg : Str → Option Value} {base : Heap}
/-- the deck of a script -/
def spDeck (K : PySem.W.Frag) : Sp := fun vs H Q _ => ∃ (a : Addr) (ns : List Int), vs = [.ref a] ∧ SqL K H a (ns.map V.int) ∧ ns.length ≤ 63 ∧ ∀ dk cl H', Same H H' → DeckAt H' dk cl 0 → H dk = none → H cl = none → Q (.ref dk) H'
theorem cal_deck (D : Def K mg "_law_deck" s_law_deck ["_law_script"]) (T : Bi mg) : Cal P w K mg base 1 "_law_deck" (spDeck K) := by
  refine cal_of (N := ["_law_script", "_law_cells", "_law_stir", "_law_cell"]) D sc_law_deck (fun vs H Q E h => ?_) (fun f cdv A outer s H vs Q E hg hr h => ?_)
  · obtain ⟨a, ns, rfl, _⟩ := h
    rfl
  · obtain ⟨a, ns, rfl, hS, hl, k⟩ := h
    have hu := hu_of hr
    refine ⟨_, (pss_cons (ps_par (i := 1) (j := 2) (by rfl) sc_law_deck.nd rfl rfl (by decide) rfl rfl (pa_cons (pe_callTy call_list_of (by rfl) T.list (by decide +kernel) (pa_cons (pe_slice sl_list (pv 0) po_none (po_some pe_int)) pa_nil)) (pa_cons pe_int pa_nil)) (by rfl))
      (pss_cons (ps_for PassesOwn.never rfl (pi_list (pv 1)) (pg_name (i := 3) sc_law_deck.nd rfl (Or.inl rfl))
        (pss_cons (ps_set (i := 2) sc_law_deck.nd rfl (Or.inl rfl) (pe_op op_mod (pe_callTy call_int1 (by rfl) T.int (by decide +kernel) (pa_cons (pe_op op_add (pe_op op_add (pe_op op_mul (pv 2) pe_int) (pe_op op_mod (pe_callTy call_int1 (by rfl) T.int (by decide +kernel) (pa_cons (pv 3) pa_nil)) pe_int)) pe_int) pa_nil)) pe_int)) pss_nil))
      (pss_cons (ps_ret (pe_disp (pps_cons pe_str (pe_revL (pv 1)) (pps_cons pe_str (pv 2) (pps_cons pe_str pe_int pps_nil))) (by rfl) (by rfl) (fun z => by cases z) (by decide))) pss_nil))), ?_⟩
    refine ⟨_, rfl, _, rfl, a, _, rfl, hS, fun p0 hp0 => ?_⟩
    refine ⟨p0, _, rfl, .inl (.inl (.inl upd_same)), fun p hp => ?_⟩
    refine ⟨_, _, rfl, ?_⟩
    have np : p ≠ p0 := fun e => by
      subst e
      rw [upd_same] at hp; cases hp
    generalize hcs : (cutV (ns.map V.int) none (some 63)) = cs at hp ⊢
    have hc : ∃ ms : List Int, cs = ms.map V.int ∧ ms.length ≤ 63 := by
      refine ⟨ns, ?_, hl⟩
      rw [← hcs]
      unfold cutV
      have e1 : HT.sIx (ns.map V.int).length 0 none = 0 := rfl
      have e2 : HT.sIx (ns.map V.int).length (ns.map V.int).length (some 63) = ns.length := by
        rw [List.length_map]
        show min (63 : Int).toNat ns.length = _
        omega
      rw [e1, e2, List.drop_zero, Nat.sub_zero]
      exact List.take_of_length_le (by rw [List.length_map]; exact Nat.le_refl _)
    obtain ⟨ms, rfl, hml⟩ := hc
    have s1 : Same H (upd (upd H p0 (.lst (ms.map V.int))) p (.lst (ms.map V.int))) := (same_new hp0).trans (same_new hp)
    generalize hH1 : upd (upd H p0 (.lst (ms.map V.int))) p (.lst (ms.map V.int)) = H1 at s1 ⊢
    have hpl : H1 p = some (.lst (ms.map V.int)) := by rw [← hH1]; exact upd_same
    have hpn : H p = none := by
      have z := hp
      rw [upd_ne np] at z
      exact z
    refine ⟨_, rfl, p, rfl, ⟨_, .inl (.inl hpl)⟩, for_list (K := K) (a := p) (xs := ms.map V.int) (fun i σ H2 => H2 = H1 ∧ ∃ (v : Option V) (st : Int), σ = [some (.ref a), some (.ref p), some (.int st), v] ∧ 0 ≤ st ∧ st < 2147483647)
      ⟨rfl, none, _, rfl, by decide, by decide⟩ (fun i σ H2 _ h => by rw [h.1]; exact .inl (.inl hpl)) ?_ ?_⟩
    · rintro i x σ H2 hx ⟨eH, v, st, rfl, h0, h1⟩
      subst eH
      obtain ⟨n, rfl⟩ : ∃ n, x = V.int n := by
        rw [List.getElem?_map] at hx
        cases q : ms[i]? with
        | none => rw [q] at hx; cases hx
        | some n => rw [q] at hx; exact ⟨n, (Option.some.inj hx).symm⟩
      refine ⟨_, rfl, _, _, rfl, rfl, .inr (by decide), _, rfl, .inl ⟨_, rfl, _, _, rfl, rfl, (show (0 : Int) < 2147483629 by decide), _, _, rfl, rfl, _, _, rfl, rfl, .inl ⟨_, rfl, _, _, rfl, rfl, (show (0 : Int) < 2147483587 by decide), rfl, _, _, rfl, ?_, ?_⟩⟩⟩
      · exact Int.emod_nonneg _ (by decide)
      · exact Int.lt_trans (Int.emod_lt_of_pos _ (by decide)) (by decide)
    · rintro σ H2 ⟨eH, v, st, rfl, h0, h1⟩
      rw [eH]
      intro dk hdk
      have ndp : dk ≠ p := fun e => by
        subst e
        rw [hpl] at hdk; cases hdk
      have s2 : Same H1 (upd H1 dk (.dK [])) := same_new hdk
      refine ⟨_, rfl, p, _, rfl, .inl (.inl (by rw [upd_ne ndp.symm]; exact hpl)), fun q hq => ?_⟩
      have nqd : q ≠ dk := fun e => by
        subst e
        rw [upd_same] at hq; cases hq
      have hq1 : H1 q = none := by
        have z := hq
        rw [upd_ne nqd] at z
        exact z
      refine ⟨_, rfl, by rw [upd_ne nqd.symm]; exact upd_same, deckK q st 0, rfl, by show 3 ≤ 15; decide, ?_⟩
      rw [deck_new]
      refine k dk q _ (s1.trans fun b o hb => ?_) ⟨nqd.symm, st, 0, ms.reverse, h0, h1, by decide, by decide, by rw [List.length_reverse]; exact hml, upd_same, ?_⟩ (free_back s1 hdk) (free_back s1 hq1)
      · rw [upd_ne (ne_of_none hb hdk), upd_ne (ne_of_none hb hq1), upd_ne (ne_of_none hb hdk)]; exact hb
      · rw [upd_ne nqd, upd_same, List.map_reverse]
/-- a draw: a number below, the deck goes on, all else stays -/
def okDraw (ss : List SV) (Rs : SV → Prop) : Prop := ∃ below : Int, ss = [.d (.int below)] ∧ 0 < below ∧ below < 1000000000 ∧ ∀ k : Int, 0 ≤ k → k < below → Rs (.d (.int k))
theorem cal_draw (D : Def K mg "_law_draw" s_law_draw ["_law_deck_here", "_law_below"]) (T : Bi mg) : Cal P w K mg base 1 "_law_draw" (spDk K 1 okDraw) := by
  refine cal_of (N := ["_law_deck_here", "_law_below", "_law_turn", "_law_figure", "_law_cell"]) D sc_law_draw (lenDk fun ss r h => by obtain ⟨b, rfl, _⟩ := h; rfl) (fun f cdv A outer s H vs Q E hg hr h => ?_)
  obtain ⟨dk, cl, m, us, ss, Rs, rfl, hus, ⟨below, rfl, hb0, hb1, hRs⟩, DA, hm, k⟩ := h
  have hu := hu_of hr
  have e1 : us = [.int below] := by
    match us, hus with
    | [v], hus => rw [vok_int hus.1]
  subst e1
  obtain ⟨ne, st, n, cs, a1, a2, a3, a4, a5, g1, g2⟩ := DA
  refine ⟨_, (pss_cons (ps_dput hu (pv 0) pe_str (pe_op op_add (pe_dget hu (pv 0) pe_str (fun _ _ => rfl)) pe_int) rfl)
      (pss_cons (ps_par (i := 2) (j := 3) (by rfl) sc_law_draw.nd rfl rfl (by decide) rfl rfl (pa_cons (pe_dget hu (pv 0) pe_str (fun _ _ => rfl)) (pa_cons (pe_dget hu (pv 0) pe_str (fun _ _ => rfl)) pa_nil)) (by rfl))
      (Evl.pss_cut (ps_if (pt_cmpR (r := rNeD K) (op_neD hr.units) (pe_dget hu (pv 0) pe_str (fun _ _ => rfl)) (pe_lst pa_nil) (nomark _))
        (pss_cons (ps_set (i := 4) sc_law_draw.nd rfl (Or.inl rfl) (pe_bm0 PySem.F.plainAttrs_list PySem.F.slot_list_pop PySem.F.type_list_pop mt_pop (pe_dget hu (pv 0) pe_str (fun _ _ => rfl))))
        (pss_cons (ps_if (pt_cmpR op_ge (pv 4) (pe_op op_pow pe_int pe_int) (nomark _))
          (pss_cons (ps_expr (pe_bm PySem.F.plainAttrs_list PySem.F.slot_list_append PySem.F.type_list_append mt_append (pe_dget hu (pv 0) pe_str (fun _ _ => rfl)) (pa_cons (pe_op op_fdiv (pv 4) (pv 1)) pa_nil)))
          (pss_cons (ps_ret (pe_op op_mod (pe_callTy call_int1 (by rfl) T.int (by decide +kernel) (pa_cons (pv 4) pa_nil)) (pv 1))) pss_nil))
          pss_nil)
        (pss_cons (ps_set (i := 3) sc_law_draw.nd rfl (Or.inl rfl) (pe_op op_add (pv 3) (pe_op op_mod (pe_callTy call_int1 (by rfl) T.int (by decide +kernel) (pa_cons (pv 4) pa_nil)) pe_int))) pss_nil)))
        pss_nil)
      (pss_cons (ps_set (i := 3) sc_law_draw.nd rfl (Or.inl rfl) (pe_op op_mod (pe_op op_mul (pe_callTy call_int1 (by rfl) T.int (by decide +kernel) (pa_cons (pe_op op_add (pe_op op_add (pe_op op_mod (pv 3) pe_int) (pe_op op_mul (pe_op op_mul pe_int (pv 2)) (pv 2))) pe_int) pa_nil)) pe_int) pe_int))
      (pss_cons (ps_set (i := 3) sc_law_draw.nd rfl (Or.inl rfl) (pe_op op_mod (pe_callTy call_int1 (by rfl) T.int (by decide +kernel) (pa_cons (pe_op op_add (pe_op op_add (pe_op op_mul (pv 3) (pv 3)) (pe_op op_mul pe_int (pv 2))) pe_int) pa_nil)) pe_int))
      (pss_cons (ps_ret (pe_op op_mod (pe_op op_fdiv (pe_op op_mod (pe_callTy call_int1 (by rfl) T.int (by decide +kernel) (pa_cons (pe_op op_mul (pv 3) pe_int) pa_nil)) pe_int) pe_int) (pv 1))) pss_nil)))))), ?_⟩
  refine ⟨_, rfl, dk, _, rfl, dg_draws g1, _, _, rfl, rfl, _, rfl, dk, _, rfl, dp_draws g1, ?_⟩
  generalize hH1 : upd H dk (.dK (deckK cl st (n + 1))) = H1
  have g1' : H1 dk = some (.dK (deckK cl st (n + 1))) := by rw [← hH1]; exact upd_same
  have g2' : H1 cl = some (.lst (cs.map V.int)) := by rw [← hH1, upd_ne ne.symm]; exact g2
  have hB : But dk cl H H1 := fun b o hb n1 n2 => by rw [← hH1, upd_ne n1]; exact hb
  refine ⟨_, rfl, dk, _, rfl, dg_draws g1', _, rfl, dk, _, rfl, dg_stir g1', _, _, rfl, ?_⟩
  -- behind the if: some figure
  refine ⟨fun σ' H' => ∃ (fig : Int) (c : Option V), σ' = [some (.ref dk), some (.int below), some (.int (n + 1)), some (.int fig), c] ∧ But dk cl H H' ∧ DeckAt H' dk cl (m + 1), ?_, ?_⟩
  · refine ⟨_, rfl, dk, _, rfl, dg_cells g1', Nat.zero_le _, fun q hq => ?_⟩
    have nq1 : q ≠ dk := fun e => by rw [e, g1'] at hq; cases hq
    have nq2 : q ≠ cl := fun e => by rw [e, g2'] at hq; cases hq
    have e2 : Same H1 (upd H1 q (.lst [])) := same_new hq
    generalize hH2 : upd H1 q (.lst []) = H2 at e2
    have g1'' := e2 _ _ g1'
    have g2'' := e2 _ _ g2'
    have hB2 : But dk cl H H2 := hB.trans (Tw.Same.but e2)
    have hq2 : H2 q = some (.lst []) := by rw [← hH2]; exact upd_same
    refine ⟨.list (cs.map PyData.int), .list [], dp_lstN g2'' (dpAll_ints cs), dp_lstN hq2 .nil, sh_shaped (sh_ints cs), sh_shaped sh_nil, _, rfl, ?_⟩
    rw [eqv_nil]
    refine ite2 (fun hz => ?_) (fun hz => ?_)
    rotate_left
    · exact ⟨st, none, rfl, hB2, ne, st, n + 1, cs, a1, a2, by omega, by omega, a5, g1'', g2''⟩
    · have hne : cs ≠ [] := fun e => by rw [e] at hz; simp at hz
      -- the last cell
      have hlast : (cs.map V.int)[(cs.map V.int).length - 1]? = some (.int (cs.getLast hne)) := by
        rw [List.length_map, List.getElem?_map, ← List.getLast?_eq_getElem?, List.getLast?_eq_some_getLast hne] <;> rfl
      have hdl : (cs.map V.int).dropLast = cs.dropLast.map V.int := by rw [List.map_dropLast]
      have hll : cs.dropLast.length ≤ 62 := by rw [List.length_dropLast]; omega
      refine ⟨_, rfl, dk, _, rfl, dg_cells g1'', .inl ⟨rfl, _, .inl (.inl g2'')⟩, cl, _, _, rfl, rfl, g2'', hlast, ?_⟩
      generalize cs.getLast hne = z
      rw [hdl]
      generalize hH3 : upd H2 cl (.lst (cs.dropLast.map V.int)) = H3
      have k1 : H3 dk = some (.dK (deckK cl st (n + 1))) := by rw [← hH3, upd_ne ne]; exact g1''
      have k2 : H3 cl = some (.lst (cs.dropLast.map V.int)) := by rw [← hH3]; exact upd_same
      have hB3 : But dk cl H H3 := hB2.trans fun b o hb n1 n2 => by rw [← hH3, upd_ne n2]; exact hb
      refine ⟨_, rfl, _, _, rfl, rfl, ⟨by decide, by decide, by decide⟩, _, _, rfl, rfl, _, rfl, ?_⟩
      refine ite2 (fun hz => ?_) (fun hz => ?_)
      · refine ⟨_, rfl, dk, _, rfl, dg_cells k1, .inl ⟨rfl, _, .inl (.inl k2)⟩, _, rfl, _, rfl, _, _, rfl, rfl, ⟨hb0, by omega⟩, cl, _, _, rfl, rfl, k2, szl (by rw [List.length_map]; omega), ?_⟩
        generalize hH4 : upd H3 cl (.lst (cs.dropLast.map V.int ++ [V.int (z / below)])) = H4
        have l1 : H4 dk = some (.dK (deckK cl st (n + 1))) := by rw [← hH4, upd_ne ne]; exact k1
        have l2 : H4 cl = some (.lst ((cs.dropLast ++ [z / below]).map V.int)) := by rw [← hH4, upd_same, List.map_append] <;> rfl
        have hB4 : But dk cl H H4 := hB3.trans fun b o hb n1 n2 => by rw [← hH4, upd_ne n2]; exact hb
        refine ⟨_, rfl, .inl ⟨_, rfl, _, rfl, _, _, rfl, rfl, hb0, ?_⟩⟩
        exact k _ _ _ (hRs (z % below) (Int.emod_nonneg _ (by omega)) (Int.emod_lt_of_pos _ hb0)) hB4 ⟨ne, st, n + 1, _, a1, a2, by omega, by omega, by rw [List.length_append]; show _ + 1 ≤ 63; omega, l1, l2⟩ (vint _)
      · refine ⟨_, rfl, _, rfl, .inl ⟨_, rfl, _, _, rfl, rfl, (show (0 : Int) < 2147483563 by decide), _, _, rfl, rfl, ?_⟩⟩
        exact ⟨_, _, rfl, hB3, ne, st, n + 1, _, a1, a2, by omega, by omega, by omega, k1, k2⟩
  · rintro σ' H' ⟨fig, c, rfl, hB', D'⟩
    have hn : -(2 ^ 64) < n + 1 ∧ n + 1 < 2 ^ 64 := by omega
    refine ⟨_, rfl, _, _, rfl, rfl, (show (0 : Int) < 2147483629 by decide), _, rfl, _, _, rfl, rfl, .inl (by decide), _, rfl, _, _, rfl, rfl, .inr hn, _, _, rfl, rfl, _, _, rfl, rfl, .inl ⟨_, rfl, _, _, rfl, rfl, .inr (by decide), _, _, rfl, rfl, (show (0 : Int) < 2147483647 by decide), ?_⟩⟩
    have hm1 : ∀ x : Int, -(2 ^ 64) < x % 2147483647 ∧ x % 2147483647 < 2 ^ 64 := fun x => by
      have p1 := Int.emod_nonneg x (show (2147483647 : Int) ≠ 0 by decide)
      have p2 := Int.emod_lt_of_pos x (show (0 : Int) < 2147483647 by decide)
      omega
    refine ⟨_, rfl, _, rfl, _, _, rfl, rfl, .inr (hm1 _), _, rfl, _, _, rfl, rfl, .inl (by decide), _, _, rfl, rfl, _, _, rfl, rfl, .inl ⟨_, rfl, _, _, rfl, rfl, (show (0 : Int) < 2147483579 by decide), ?_⟩⟩
    refine ⟨_, rfl, _, _, rfl, rfl, .inr (by decide), .inl ⟨_, rfl, _, _, rfl, rfl, (show (0 : Int) < 2147483549 by decide), _, _, rfl, rfl, ⟨by decide, by decide⟩, _, rfl, _, _, rfl, rfl, hb0, ?_⟩⟩
    exact k _ _ _ (hRs (_ % below) (Int.emod_nonneg _ (by omega)) (Int.emod_lt_of_pos _ hb0)) hB' D' (vint _)
section
variable {S : Sl} {M : Ml} {dk cl : Addr} {m i : Nat} {E : XK} {tb : TE} {b c : Int}
theorem ev_draw (hi : S[i]? = some (some (.m dk))) (hb : ∀ F, Ev K tb S (F ++ dkM dk cl m M) (.d (.int b))) (h0 : 0 < b) (h1 : b < 1000000000) (hm : m + 1 ≤ 1000000) :
    EvX K (tCall (spDk K 1 okDraw) [] E (tCons (tVar i) (tCons tb tNil))) S (dkM dk cl m M) (fun s M' => ∃ k : Int, s = .d (.int k) ∧ 0 ≤ k ∧ k < b ∧ M' = dkM dk cl (m + 1) M) :=
  EvX.mono (evx_dk hi (fun F => ea_cons (hb F) ea_nil) (Rs := fun s => ∃ k : Int, s = .d (.int k) ∧ 0 ≤ k ∧ k < b) ⟨b, rfl, h0, h1, fun k a z => ⟨k, rfl, a, z⟩⟩ hm) fun s M' h => by
    obtain ⟨⟨k, rfl, a, z⟩, rfl⟩ := h
    exact ⟨k, rfl, a, z, rfl⟩
def plusI (c : Int) : SV → SV
  | .d (.int k) => .d (.int (c + k))
  | x => x
/-- a number and a draw -/
theorem ev_drawP (hi : S[i]? = some (some (.m dk))) (hb : ∀ F, Ev K tb S (F ++ dkM dk cl m M) (.d (.int b))) (h0 : 0 < b) (h1 : b < 1000000000) (hm : m + 1 ≤ 1000000) :
    EvX K (tOp (rI0 fun i j => V.int (i + j)) (tC (.int c)) (tCall (spDk K 1 okDraw) [] E (tCons (tVar i) (tCons tb tNil)))) S (dkM dk cl m M) (fun s M' => ∃ k : Int, s = .d (.int (c + k)) ∧ 0 ≤ k ∧ k < b ∧ M' = dkM dk cl (m + 1) M) :=
  EvX.mono (evx_opC (fun F => ev_int) (ev_draw hi hb h0 h1 hm) (plusI c) (fun y M2 F h2 => by
    obtain ⟨k, rfl, a, z, rfl⟩ := h2
    exact rv_I0 fun H => vint _)) fun s M' h => by
    obtain ⟨y, ⟨k, rfl, a, z, rfl⟩, rfl⟩ := h
    exact ⟨k, rfl, a, z, rfl⟩
end
end
end Tw

namespace Tw
open PySem L2
abbrev s_law_rules : Stmt := topS 28
theorem sc_law_rules : FnScope ["_law_deck_here", "_law_many", "_law_found", "_law_often", "_law_p", "_law_q"] ["_law_deck_here", "_law_many"] (defScope s_law_rules) := ⟨rfl, rfl, rfl, by decide +kernel, rfl, by decide +kernel, by decide +kernel⟩
/-- the pairs (p, q) of different users, p fixed -/
def rowJ (p j : Nat) : List (Int × Int) := ((List.range j).filter fun q => decide (q ≠ p)).map fun (q : Nat) => ((p : Int), (q : Int))
def rowP (n p : Nat) : List (Int × Int) := rowJ p n
def allP (n i : Nat) : List (Int × Int) := (List.range i).flatMap fun p => rowP n p
theorem allP_succ (n i : Nat) : allP n (i + 1) = allP n i ++ rowP n i := by
  unfold allP
  rw [List.range_succ, List.flatMap_append]
  simp
theorem rowJ_yes {p j : Nat} (h : j ≠ p) : rowJ p (j + 1) = rowJ p j ++ [((p : Int), (j : Int))] := by
  unfold rowJ
  rw [List.range_succ, List.filter_append, List.map_append]
  simp [h]
theorem rowJ_no {p j : Nat} (h : j = p) : rowJ p (j + 1) = rowJ p j := by
  unfold rowJ
  rw [List.range_succ, List.filter_append, List.map_append]
  simp [h]
theorem rowJ_le (p j : Nat) : (rowJ p j).length ≤ j := by
  unfold rowJ
  rw [List.length_map]
  have h := List.length_filter_le (fun q => decide (q ≠ p)) (List.range j)
  rw [List.length_range] at h
  exact h
theorem allP_le (n i : Nat) : (allP n i).length ≤ i * n := by
  induction i with
  | zero => simp [allP]
  | succ i ih =>
    rw [allP_succ, List.length_append]
    have h : (rowP n i).length ≤ n := rowJ_le i n
    rw [Nat.succ_mul]; omega
/-- what _law_rules may draw -/
def okRules (ss : List SV) (Rs : SV → Prop) : Prop := ∃ n : Nat, ss = [.d (.int n)] ∧ n ≤ 4 ∧ ∀ ps : List (Int × Int), ps.Sublist (allP n n) → Rs (.d (dPairs ps))
section
variable {P : Program} {w : World} {K : PySem.W.Frag} {mg : Str → Option Value} {base : Heap}
theorem cal_rules (D : Def K mg "_law_rules" s_law_rules ["_law_deck_here", "_law_many"]) (T : Bi mg) (c__law_draw : Cal P w K mg base 1 "_law_draw" (spDk K 1 okDraw)) : Cal P w K mg base 2 "_law_rules" (spDk K 17 okRules) := by
  refine cal_of (N := ["_law_deck_here", "_law_many", "_law_found", "_law_often", "_law_p", "_law_q"]) D sc_law_rules (lenDk fun ss r h => by obtain ⟨b, rfl, _⟩ := h; rfl) (bodyDk fun f cdv A outer s H E hg hr dk cl m ss Rs ok hm => ?_)
  obtain ⟨n, rfl, hn, hRs⟩ := ok
  refine ⟨_, (pss_cons (ps_asg (pe_tup (pa_cons (pe_lst pa_nil) (pa_cons (pe_op op_add pe_int (pe_c c__law_draw hg hr (by decide) (by rfl) (pa_cons (pv 0) (pa_cons pe_int pa_nil)))) pa_nil))) (pg_tup (by rfl) (pgs_cons (pg_name (i := 2) sc_law_rules.nd rfl (Or.inl rfl)) (pgs_cons (pg_name (i := 3) sc_law_rules.nd rfl (Or.inr rfl)) pgs_nil))))
      (pss_cons (ps_for PassesOwn.never rfl (pi_range1 (by rfl) T.range (pa_cons (pv 1) pa_nil)) (pg_name (i := 4) sc_law_rules.nd rfl (Or.inr rfl))
        (pss_cons (ps_expr (pe_bm PySem.F.plainAttrs_list PySem.F.slot_list_extend PySem.F.type_list_extend mt_extend (pv 2) (pa_cons (pe_lc (own := [("_law_q", 5)]) (g := (gName 5))  (by rfl) sc_law_rules.nd (pi_range1 (by rfl) T.range (pa_cons (pv 1) pa_nil)) (blkOk_by (own := [("_law_q", 5)]) (N := ["_law_deck_here", "_law_many", "_law_found", "_law_often", "_law_p", "_law_q"]) (sc := defScope s_law_rules) (by decide +kernel)) (fun _ _ _ _ _ => (pg_name (i := 5) sc_law_rules.nd rfl (Or.inl rfl))) (fun _ _ _ _ _ => pts_one (PW.pt (pw_and (pt_cmpR op_ne (pv 5) (pv 4) (nomark _)) (pw_and1 (pt_cmpR op_eq (pe_c c__law_draw hg hr (by decide) (by rfl) (pa_cons (pv 0) (pa_cons (pv 3) pa_nil))) pe_int (nomark _)))))) (fun _ _ _ _ _ => (pe_tup (pa_cons (pv 4) (pa_cons (pv 5) pa_nil))))) pa_nil))) pss_nil))
      (pss_cons (ps_ret (pe_callTy call_tuple_of (by rfl) T.tuple (by decide +kernel) (pa_cons (pv 2) pa_nil))) pss_nil))), fun σ st Q q => ?_⟩
  have st : Sat K H [dk, cl] H [some (.m dk), some (.d (.int n)), none, none, none, none] ([] ++ dkM dk cl m []) σ H := st
  refine x_tup2 [] st (exa_cons (evx_new fun F => evn_lst ea_nil (by decide)) (R2 := fun x M1 ss M' => ∃ k : Int, ss = [.d (.int (2 + k))] ∧ 0 ≤ k ∧ k < 3 ∧ ∃ l, x = .m l ∧ M' = (l, .lst []) :: dkM dk cl (m + 1) []) ?_) ?_
  · rintro x M1 ⟨l, rfl, rfl⟩
    refine EvXA.mono (exa_cons (evx_frame [(l, .lst [])] (ev_drawP (b := 3) rfl (fun F => ev_int) (by decide) (by decide) (by omega))) fun _ _ _ => exa_nil) ?_
    rintro ss M' ⟨x, M1, xs, rfl, ⟨M2, rfl, k, rfl, h0, h1, rfl⟩, rfl, rfl⟩
    exact ⟨k, rfl, h0, h1, l, rfl, rfl⟩
  · rintro ss M' ⟨x, M1, xs, rfl, _, k, rfl, h0, h1, l, rfl, rfl⟩
    refine ⟨_, _, rfl, fun σ' H' st => ?_⟩
    have st : Sat K H [dk, cl] H [some (.m dk), some (.d (.int n)), some (.m l), some (.d (.int (2 + k))), none, none] ((l, .lst []) :: dkM dk cl (m + 1) []) σ' H' := st
    refine q_for st (evi_range1 (ea_cons (ev_var rfl) ea_nil) (by omega)) (fun i S M => ∃ (ps : List (Int × Int)) (m' : Nat) (x y : Option SV), S = [some (.m dk), some (.d (.int n)), some (.m l), some (.d (.int (2 + k))), x, y] ∧ M = (l, .lst ((ps.map dPair).map SV.d)) :: dkM dk cl m' [] ∧ ps.Sublist (allP n i) ∧ m' ≤ m + 1 + i * n)
      ⟨[], m + 1, none, none, rfl, rfl, List.nil_sublist _, by omega⟩ (fun _ _ _ _ _ h => nomatch h) ?_ ?_
    · rintro i s S' M' σ' H' T' hs ⟨ps, m', x, y, rfl, rfl, hps, hm'⟩ st v hv
      obtain ⟨hi, rfl⟩ := rg_get hs
      have hin : i < n := by omega
      have st2 : Sat K H [dk, cl] T' [some (.m dk), some (.d (.int n)), some (.m l), some (.d (.int (2 + k))), some (.d (.int i)), y] ((l, .lst ((ps.map dPair).map SV.d)) :: ([] ++ dkM dk cl m' [])) (σ'.set 4 (some v)) H' := st.set hv 4
      have hmul : (i + 1) * n ≤ 4 * 4 := Nat.mul_le_mul (by omega) hn
      have hmul2 : (i + 1) * n = i * n + n := Nat.succ_mul i n
      refine x_extend (M := dkM dk cl m' []) [] st2 (ev_var rfl) (evx_lc (xs := List.range n) (enc := fun (q : Nat) => .d (.int q)) (fS := fun q S => S.set 5 (some (.d (.int q)))) (js := [5]) (fun j acc M' => j ≤ n ∧ ∃ (qs : List (Int × Int)) (m2 : Nat), acc = (qs.map dPair).map SV.d ∧ qs.Sublist (rowJ i j) ∧ M' = dkM dk cl m2 [] ∧ m2 ≤ m' + j)
        (fun F => ?_) (fun j hj => hj) ?_ (fun q _ => tg_name) ⟨Nat.zero_le _, [], m', rfl, List.nil_sublist _, rfl, Nat.le_refl _⟩ ?_) ?_
      · have e := evi_range1 (K := K) (S := [some (.m dk), some (.d (.int n)), some (.m l), some (.d (.int (2 + k))), some (.d (.int i)), y]) (M := F ++ dkM dk cl m' []) (ta := tCons (tVar 1) tNil) (n := (n : Int)) (ea_cons (ev_var rfl) ea_nil) (by omega)
        exact e
      · rintro j acc M' ⟨hj, qs, m2, rfl, hq, _, _⟩
        rw [List.length_map, List.length_map]
        have h1 := hq.length_le
        have h2 := rowJ_le i j
        omega
      · rintro j q acc M' hq ⟨hj, qs, m2, rfl, hqs, rfl, hm2⟩
        have hjn : j < n := by
          rcases Nat.lt_or_ge j n with h | h
          · exact h
          · rw [List.getElem?_eq_none (by rw [List.length_range]; exact h)] at hq; cases hq
        rw [List.getElem?_range hjn] at hq
        cases hq
        refine ⟨fun b M2 => (b = false ∧ M2 = dkM dk cl m2 []) ∨ (j ≠ i ∧ M2 = dkM dk cl (m2 + 1) []), ?_, ?_, ?_⟩
        · refine EvXT.mono (evxt_and (Rb := fun _ b M' => M' = dkM dk cl (m2 + 1) []) (evxt_of (b := !decide ((j : Int) = (i : Int))) fun F => et_test (ev_op (ev_var rfl) (ev_var rfl) rv_neI)) ?_) ?_
          · rintro M1 ⟨_, rfl⟩
            refine evxt_test (evx_opR (x := .d (.int 0)) (ev_draw (b := 2 + k) rfl (fun F => ev_var rfl) (by omega) (by omega) (by omega)) (fun _ _ _ _ => ev_int) (fun y => match y with | .d (.int z) => .d (.bool (decide (z = 0))) | x => x) ?_) ?_
            · rintro y M' F ⟨z, rfl, _, _, rfl⟩
              exact rv_eqI
            · rintro s M' ⟨y, ⟨z, rfl, _, _, rfl⟩, rfl⟩
              exact ⟨_, rfl, rfl⟩
          · rintro b M' (⟨rfl, _, rfl⟩ | ⟨M1, ⟨h, rfl⟩, rfl⟩)
            · exact .inl ⟨rfl, rfl⟩
            · refine .inr ⟨fun e => ?_, rfl⟩
              subst e
              simp at h
        · rintro M2 (⟨_, rfl⟩ | ⟨hne, rfl⟩)
          · refine ⟨by omega, qs, m2, rfl, ?_, rfl, by omega⟩
            by_cases e : j = i
            · rw [rowJ_no e]; exact hqs
            · rw [rowJ_yes e]; exact hqs.trans (List.sublist_append_left _ _)
          · refine ⟨by omega, qs, m2 + 1, rfl, ?_, rfl, by omega⟩
            rw [rowJ_yes hne]; exact hqs.trans (List.sublist_append_left _ _)
        · rintro M2 (⟨h, _⟩ | ⟨hne, rfl⟩)
          · cases h
          · refine EvX.mono (evx_of (s := .d (dPair ((i : Int), (j : Int)))) fun F => ev_tup (ds := [.int i, .int j]) (ea_cons (ev_var rfl) (ea_cons (ev_var rfl) ea_nil)) (by simp)) ?_
            rintro s M' ⟨rfl, rfl⟩
            refine ⟨by omega, qs ++ [((i : Int), (j : Int))], m2 + 1, by simp, ?_, rfl, by omega⟩
            rw [rowJ_yes hne]
            exact hqs.append (List.Sublist.refl _)
      · rintro s M' ⟨p, acc, M1, rfl, rfl, hj, qs, m2, rfl, hqs, rfl, hm2⟩
        rw [List.length_range] at hqs hm2
        refine ⟨p, _, _, rfl, rfl, ?_, fun H' st3 => ⟨_, _, ⟨ps ++ qs, m2, _, _, rfl, ?_, ?_, by omega⟩, st3⟩⟩
        · simp only [List.length_map]
          have h1 := hps.length_le
          have h2 := allP_le n i
          have h3 := hqs.length_le
          have h4 := rowJ_le i n
          omega
        · rw [List.map_append, List.map_append] <;> rfl
        · rw [allP_succ]
          exact hps.append hqs
    · rintro S' M' σ' H' ⟨ps, m', x, y, rfl, rfl, hps, hm'⟩ st
      simp only [List.length_map, List.length_range, Int.toNat_natCast] at hps hm'
      have hmul : n * n ≤ 4 * 4 := Nat.mul_le_mul hn hn
      refine q_ret st (ev_cb (ea_cons (ev_var rfl) ea_nil) (rc_tupL (ds := ps.map dPair) (List.mem_cons_self ..))) fun v H2 st2 o2 => ?_
      exact q v _ _ H2 _ [_] [] m' (hRs ps hps) (by omega) st2 o2
end
end Tw

/-! ### the package's policies -/
namespace Tw
open PySem L2
abbrev s_is_integer : Stmt := topS 10
theorem sc_is_integer : FnScope ["thing"] ["thing"] (defScope s_is_integer) := ⟨rfl, rfl, rfl, by decide +kernel, rfl, by decide +kernel, by decide +kernel⟩
abbrev s_is_below : Stmt := topS 11
theorem sc_is_below : FnScope ["number", "thing"] ["number", "thing"] (defScope s_is_below) := ⟨rfl, rfl, rfl, by decide +kernel, rfl, by decide +kernel, by decide +kernel⟩
abbrev s_do_rise : Stmt := topS 12
theorem sc_do_rise : FnScope ["items", "one", "other"] ["items"] (defScope s_do_rise) := ⟨rfl, rfl, rfl, by decide +kernel, rfl, by decide +kernel, by decide +kernel⟩
abbrev s_is_pair : Stmt := topS 19
theorem sc_is_pair : FnScope ["users", "thing", "user"] ["users", "thing"] (defScope s_is_pair) := ⟨rfl, rfl, rfl, by decide +kernel, rfl, by decide +kernel, by decide +kernel⟩
abbrev s_check_alike : Stmt := topS 22
theorem sc_check_alike : FnScope ["one", "other"] ["one", "other"] (defScope s_check_alike) := ⟨rfl, rfl, rfl, by decide +kernel, rfl, by decide +kernel, by decide +kernel⟩
abbrev s_Policy_init : Stmt := inClass (topS 23) 0
theorem sc_Policy_init : FnScope ["self", "users", "pairs", "pair"] ["self", "users", "pairs"] (defScope s_Policy_init) := ⟨rfl, rfl, rfl, by decide +kernel, rfl, by decide +kernel, by decide +kernel⟩
abbrev s_Policy_len : Stmt := inClass (topS 23) 2
theorem sc_Policy_len : FnScope ["self"] ["self"] (defScope s_Policy_len) := ⟨rfl, rfl, rfl, by decide +kernel, rfl, by decide +kernel, by decide +kernel⟩
abbrev s_Policy_eq : Stmt := inClass (topS 23) 4
theorem sc_Policy_eq : FnScope ["self", "other"] ["self", "other"] (defScope s_Policy_eq) := ⟨rfl, rfl, rfl, by decide +kernel, rfl, by decide +kernel, by decide +kernel⟩
abbrev s_Policy_is_within : Stmt := inClass (topS 23) 9
theorem sc_Policy_is_within : FnScope ["self", "other", "pair"] ["self", "other"] (defScope s_Policy_is_within) := ⟨rfl, rfl, rfl, by decide +kernel, rfl, by decide +kernel, by decide +kernel⟩
abbrev s_Policy_going_on : Stmt := inClass (topS 23) 10
theorem sc_Policy_going_on : FnScope ["self", "found", "old", "pair", "one", "other", "further", "first", "last"] ["self"] (defScope s_Policy_going_on) := ⟨rfl, rfl, rfl, by decide +kernel, rfl, by decide +kernel, by decide +kernel⟩
/-- what the package's names stand for -/
structure Pol (K : PySem.W.Frag) (mg : Str → Option Value) (C : Addr) : Prop extends Bi mg where
  g_PAIR : GlobV mg "PAIR" (.int 2)
  g_Policy : GlobV mg "Policy" (.ref C)
  cl : Cls K C
  users : NoAttr K C "users"
  pairs : NoAttr K C "pairs"
  ci : ClsI K C
  ne : NeO K C
def goodP (n : Int) (p : Int × Int) : Bool := decide (0 ≤ p.1 ∧ p.1 < n ∧ 0 ≤ p.2 ∧ p.2 < n ∧ p.1 ≠ p.2)
def ltP (p q : Int × Int) : Bool := HT.lexLt [p.1, p.2] [q.1, q.2]
def riseP (ps : List (Int × Int)) : Bool := (ps.zip (ps.drop 1)).all fun q => ltP q.1 q.2
def goodPs (n : Int) (ps : List (Int × Int)) : Bool := decide (1 ≤ n) && ps.all (goodP n) && riseP ps && decide (ps.length ≤ 1000)
def polF (n : Int) (ps : List (Int × Int)) : List (Str × SV) := [("users", .d (.int n)), ("pairs", .d (dPairs ps))]
theorem sh_pair (p : Int × Int) : Sh 1 (dPair p) := fun d hd => by
  rcases List.mem_cons.mp hd with e | hd
  · rw [e]; exact True.intro
  · rw [List.mem_singleton.mp hd]; exact True.intro
theorem sh_pairs (ps : List (Int × Int)) : Sh 2 (dPairs ps) := fun d hd => by
  obtain ⟨p, _, rfl⟩ := List.mem_map.mp hd
  exact sh_pair p
theorem eqv_pair (p q : Int × Int) : PyData.eqv (dPair p) (dPair q) = decide (p = q) := by
  simp only [dPair, PyData.eqv, PyData.eqvAll, eqv_int]
  obtain ⟨a, b⟩ := p
  obtain ⟨c, d⟩ := q
  by_cases h1 : a = c <;> by_cases h2 : b = d <;> simp [h1, h2]
theorem eqv_pairs (ps qs : List (Int × Int)) : PyData.eqv (dPairs ps) (dPairs qs) = decide (ps = qs) := by
  simp only [dPairs, PyData.eqv, eqvAll_map eqv_pair]
theorem any_pair (qs : List (Int × Int)) (p : Int × Int) : ((qs.map dPair).any fun e => PyData.eqv e (dPair p)) = decide (p ∈ qs) := by
  rw [Bool.eq_iff_iff]
  simp only [List.any_eq_true, List.mem_map, decide_eq_true_eq]
  constructor
  · rintro ⟨e, ⟨q, hq, rfl⟩, h⟩
    rw [eqv_pair, decide_eq_true_eq] at h
    rw [← h]; exact hq
  · intro h
    exact ⟨_, ⟨p, h, rfl⟩, by rw [eqv_pair]; simp⟩
theorem kb_ii : kitB "int" "int" = some true := by decide +kernel
theorem kb_ib : kitB "int" "bool" = some false := by decide +kernel
theorem kb_tt : kitB "tuple" "tuple" = some true := by decide +kernel
def okIsInt (ss : List SV) (M : Ml) (r : SV) : Prop := ∃ i : Int, ss = [.d (.int i)] ∧ r = .d (.bool true)
def okBelow (ss : List SV) (M : Ml) (r : SV) : Prop := ∃ n i : Int, ss = [.d (.int n), .d (.int i)] ∧ r = .d (.bool (decide (0 ≤ i) && decide (i < n)))
def okRise (ss : List SV) (M : Ml) (r : SV) : Prop := ∃ ps : List (Int × Int), ss = [.d (dPairs ps)] ∧ ps.length ≤ 1000 ∧ r = .d (.bool (riseP ps))
def okPair (ss : List SV) (M : Ml) (r : SV) : Prop := ∃ (n : Int) (p : Int × Int), ss = [.d (.int n), .d (dPair p)] ∧ r = .d (.bool (goodP n p))
def okInit (ss : List SV) (fs : List (Str × SV)) : Prop := ∃ n ps, ss = [.d (.int n), .d (dPairs ps)] ∧ goodPs n ps = true ∧ fs = polF n ps
section
variable {P : Program} {w : World} {K : PySem.W.Frag} {mg : Str → Option Value} {base : Heap} {C : Addr}
theorem cal_isInt (D : Def K mg "is_integer" s_is_integer ["thing"]) (T : Bi mg) : Cal P w K mg base 1 "is_integer" (spV K okIsInt) := by
  refine cal_of (N := ["thing"]) D sc_is_integer (lenV fun ss M r h => by obtain ⟨i, rfl, _⟩ := h; rfl) (bodyV fun f cdv A outer s H E hg hr ss M0 r hw ok => ?_)
  obtain ⟨i, rfl, rfl⟩ := ok
  refine ⟨_, (pss_cons (ps_ret (pe_and (pe_callB call_isi (by rfl) T.isinstance (by decide +kernel) (pa_cons (pv 0) (pa_cons (pe_bltn (v := .ty "int") (u := .type "int") (by rfl) T.int (by decide +kernel) rfl) pa_nil))) (pe_one (pe_not (pe_callB call_isi (by rfl) T.isinstance (by decide +kernel) (pa_cons (pv 0) (pa_cons (pe_bltn (v := .ty "bool") (u := .type "bool") (by rfl) T.bool (by decide +kernel) rfl) pa_nil))))))) pss_nil), fun σ st Q q => ?_⟩
  refine q_ret st (ev_is (ev_andV (a := true) (b := !false) (ev_isi (ev_var rfl) kb_ii) fun _ => ev_notV (ev_isi (ev_var rfl) kb_ib)) rfl) fun v H2 st2 o2 => q _ _ _ _ _ st2 o2
theorem cal_below (D : Def K mg "is_below" s_is_below ["number", "thing"]) (T : Bi mg) (c_is_integer : Cal P w K mg base 1 "is_integer" (spV K okIsInt)) : Cal P w K mg base 2 "is_below" (spV K okBelow) := by
  refine cal_of (N := ["number", "thing"]) D sc_is_below (lenV fun ss M r h => by obtain ⟨n, i, rfl, _⟩ := h; rfl) (bodyV fun f cdv A outer s H E hg hr ss M0 r hw ok => ?_)
  obtain ⟨n, i, rfl, rfl⟩ := ok
  refine ⟨_, (pss_cons (ps_ret (pe_and (pe_c c_is_integer hg hr (by decide) (by rfl) (pa_cons (pv 1) pa_nil)) (pe_one (pe_chain op_le op_lt pe_int (pv 1) (pv 0))))) pss_nil), fun σ st Q q => ?_⟩
  refine q_ret st (ev_is (ev_andV (a := true) (b := decide (0 ≤ i) && decide (i < n)) (ev_call (ea_cons (ev_var rfl) ea_nil) [] nil_sub (fun _ h => nomatch h) ⟨i, rfl, rfl⟩) fun _ => ev_chain (b := decide (0 ≤ i)) ev_int (ev_var rfl) ?_ (fun _ => ev_var rfl) (fun hb => ?_) (fun hb => ?_)) ?_) fun v H2 st2 o2 => q _ _ _ _ _ st2 o2
  · exact rv_I0 fun H => vbl _
  · rw [hb]
    exact rv_I0 fun H => vbl _
  · rw [hb] <;> rfl
  · rfl
theorem cal_rise (D : Def K mg "do_rise" s_do_rise ["items"]) (T : Bi mg) : Cal P w K mg base 1 "do_rise" (spV K okRise) := by
  refine cal_of (N := ["items", "one", "other"]) D sc_do_rise (lenV fun ss M r h => by obtain ⟨i, rfl, _⟩ := h; rfl) (bodyV fun f cdv A outer s H E hg hr ss M0 r hw ok => ?_)
  obtain ⟨ps, rfl, hl, rfl⟩ := ok
  refine ⟨_, (pss_cons (ps_ret (pe_callB (cr_all rfl) (by rfl) T.all (by decide +kernel) (pa_cons (pe_lc (own := [("one", 1), ("other", 2)]) (g := (gTup K 2 (gCons (gName 1) (gCons (gName 2) gNil)))) (tt := tYes) (by rfl) sc_do_rise.nd (RZ.pi_zipA (by rfl) T.zip (pa_cons (pv 0) (pa_cons (pe_slice sl_tupA (pv 0) (po_some pe_int) po_none) pa_nil))) (blkOk_by (own := [("one", 1), ("other", 2)]) (N := ["items", "one", "other"]) (sc := defScope s_do_rise) (by decide +kernel)) (fun _ _ _ _ _ => (pg_tup (by rfl) (pgs_cons (pg_name (i := 1) sc_do_rise.nd rfl (Or.inl rfl)) (pgs_cons (pg_name (i := 2) sc_do_rise.nd rfl (Or.inl rfl)) pgs_nil)))) (fun _ _ _ _ _ => pts_nil) (fun _ _ _ _ _ => (pe_cmpR (r := rLtT K) (op_ltT hr.units0) (pv 1) (pv 2) (nomark _)))) pa_nil))) pss_nil), fun σ st Q q => ?_⟩
  have ez : ((ps.map dPair).zip (cutG (ps.map dPair) (some 1) none)).map (fun p => SV.d (.tuple [p.1, p.2])) = (ps.zip (ps.drop 1)).map fun q => SV.d (.tuple [dPair q.1, dPair q.2]) := by
    rw [cutG_map]
    have e : cutG ps (some 1) none = ps.drop 1 := by
      unfold cutG
      have e1 : HT.sIx ps.length 0 (some 1) = min 1 ps.length := rfl
      have e2 : HT.sIx ps.length ps.length none = ps.length := rfl
      rw [e1, e2]
      cases ps with
      | nil => rfl
      | cons p ps =>
        have e3 : min 1 (p :: ps).length = 1 := by rw [List.length_cons]; omega
        rw [e3]
        exact List.take_of_length_le (by rw [List.length_drop]; exact Nat.le_refl _)
    rw [e, List.zip_map, List.map_map] <;> rfl
  have hz : (ps.zip (ps.drop 1)).length ≤ 50000 := by rw [List.length_zip]; omega
  refine q_ret st (ev_cbN (evn_map (xs := ps.zip (ps.drop 1)) (enc := fun q => SV.d (.tuple [dPair q.1, dPair q.2])) (fS := fun q S => (S.set 1 (some (.d (dPair q.1)))).set 2 (some (.d (dPair q.2)))) (js := [1, 2]) (Mn := []) (fun q => SV.d (.bool (ltP q.1 q.2))) ?_ (fun _ h => nomatch h) (fun j hj => hj) hz (fun q _ => tg_pair) (fun q _ => ev_op (ev_var rfl) (ev_var rfl) ?_)) fun p => rc_allM (List.mem_cons_self ..)) fun v H2 st2 o2 => q _ _ _ _ _ st2 o2
  · rw [← ez]
    exact evi_zipT (ea_cons (ev_var rfl) (ea_cons (ev_slT (ev_var rfl) (eo_some ev_int) eo_none) ea_nil))
  · exact rv_ltT (ns := [q.1.1, q.1.2]) (ms := [q.2.1, q.2.2])
theorem cal_pair (D : Def K mg "is_pair" s_is_pair ["users", "thing"]) (T : Pol K mg C) (c_is_below : Cal P w K mg base 2 "is_below" (spV K okBelow)) : Cal P w K mg base 3 "is_pair" (spV K okPair) := by
  refine cal_of (N := ["users", "thing", "user"]) D sc_is_pair (lenV fun ss M r h => by obtain ⟨n, p, rfl, _⟩ := h; rfl) (bodyV fun f cdv A outer s H E hg hr ss M0 r hw ok => ?_)
  obtain ⟨n, p, rfl, rfl⟩ := ok
  refine ⟨_, (pss_cons (ps_if (PW.pt (pw_or (pt_not (pt_val (pe_callB call_isi (by rfl) T.isinstance (by decide +kernel) (pa_cons (pv 1) (pa_cons (pe_bltn (v := .ty "tuple") (u := .type "tuple") (by rfl) T.tuple (by decide +kernel) rfl) pa_nil))))) (pw_or (pt_cmpR op_ne (pe_callB call_len_seq (by rfl) T.len (by decide +kernel) (pa_cons (pv 1) pa_nil)) (pe_gv T.g_PAIR (by rfl)) (nomark _)) (pw_or1 (pt_not (pt_val (pe_callB (cr_all rfl) (by rfl) T.all (by decide +kernel) (pa_cons (pe_lc (own := [("user", 2)]) (g := (gName 2)) (tt := tYes) (by rfl) sc_is_pair.nd (pi_tup (pv 1)) (blkOk_by (own := [("user", 2)]) (N := ["users", "thing", "user"]) (sc := defScope s_is_pair) (by decide +kernel)) (fun _ _ _ _ _ => (pg_name (i := 2) sc_is_pair.nd rfl (Or.inl rfl))) (fun _ _ _ _ _ => pts_nil) (fun _ _ _ _ _ => (pe_c c_is_below hg hr (by decide) (by rfl) (pa_cons (pv 0) (pa_cons (pv 2) pa_nil))))) pa_nil))))))))
        (pss_cons (ps_ret pe_bl) pss_nil)
        pss_nil)
      (pss_cons (ps_ret (pe_cmpR op_ne (pe_ix ix_tup (pv 1) pe_int (fun _ _ => rfl)) (pe_ix ix_tup (pv 1) pe_int (fun _ _ => rfl)) (nomark _))) pss_nil)), fun σ st Q q => ?_⟩
  let bl : Int → Bool := fun i => decide (0 ≤ i) && decide (i < n)
  refine q_if (b := !(bl p.1 && bl p.2)) st (et_is (et_or (a := !true) (et_not (et_test (ev_isi (ev_var rfl) kb_tt))) fun _ => et_or (a := !decide ((2 : Int) = 2)) (et_B (ev_op (ev_cb (ea_cons (ev_var rfl) ea_nil) rc_lenT) ev_int rv_neI)) fun _ => et_not (et_test (ev_cbN (evn_map (xs := [p.1, p.2]) (enc := fun (i : Int) => SV.d (.int i)) (fS := fun i S => S.set 2 (some (.d (.int i)))) (js := [2]) (Mn := []) (fun i => SV.d (.bool (bl i))) (evi_tup (ds := [.int p.1, .int p.2]) (ev_var rfl)) (fun _ h => nomatch h) (fun j hj => hj) (by simp) (fun q _ => tg_name) (fun i _ => ev_call (ea_cons (ev_var rfl) (ea_cons (ev_var rfl) ea_nil)) [] nil_sub (fun _ h => nomatch h) ⟨n, i, rfl, rfl⟩)) fun l => rc_all (bs := [bl p.1, bl p.2]) (List.mem_cons_self ..)))) (by simp)) (fun hb H2 st2 => ?_) (fun hb H2 st2 => ?_)
  · refine q_ret st2 (ev_is (ev_bl (b := false)) ?_) fun v H2 st2 o2 => q _ _ _ _ _ st2 o2
    have e : goodP n p = false := by
      simp only [bl, Bool.not_eq_true', Bool.and_eq_false_iff, decide_eq_false_iff_not] at hb
      simp only [goodP, decide_eq_false_iff_not]
      omega
    rw [e]
  · refine q_ret st2 (ev_is (ev_op (ev_op (ev_var rfl) ev_int (rv_ixT (i := 0) (d := .int p.1) rfl)) (ev_op (ev_var rfl) ev_int (rv_ixT (i := 1) (d := .int p.2) rfl)) rv_neI) ?_) fun v H2 st2 o2 => q _ _ _ _ _ st2 o2
    have e : goodP n p = !decide (p.1 = p.2) := by
      simp only [bl, Bool.not_eq_false', Bool.and_eq_true, decide_eq_true_eq] at hb
      by_cases h : p.1 = p.2
      · simp only [goodP, h, decide_true, Bool.not_true, decide_eq_false_iff_not]
        omega
      · simp only [goodP, h, decide_false, Bool.not_false, decide_eq_true_eq]
        omega
    rw [e]
theorem good_of {n : Int} {ps : List (Int × Int)} (h : goodPs n ps = true) : 1 ≤ n ∧ (∀ p ∈ ps, goodP n p = true) ∧ riseP ps = true ∧ ps.length ≤ 1000 := by
  simp only [goodPs, Bool.and_eq_true, decide_eq_true_eq, List.all_eq_true] at h
  exact ⟨h.1.1.1, h.1.1.2, h.1.2, h.2⟩
theorem mak_init (D : IDef K mg "Policy" C "Policy.__init__" s_Policy_init ["self", "users", "pairs"]) (T : Pol K mg C) (c_is_integer : Cal P w K mg base 1 "is_integer" (spV K okIsInt)) (c_is_pair : Cal P w K mg base 3 "is_pair" (spV K okPair)) (c_do_rise : Cal P w K mg base 1 "do_rise" (spV K okRise)) : Mak P w K mg base 4 "Policy" C (spI K C okInit) := by
  refine mak_of (N := ["self", "users", "pairs", "pair"]) D sc_Policy_init (lenI fun ss r h => by obtain ⟨n, p, rfl, _⟩ := h; rfl) (bodyI fun f cdv A outer s H E hg hr a ss fs ok => ?_)
  obtain ⟨n, ps, rfl, hgood, rfl⟩ := ok
  obtain ⟨g1, g2, g3, g4⟩ := good_of hgood
  refine ⟨_, (pss_cons (ps_if (PW.pt (pw_or (pt_not (pt_val (pe_c c_is_integer hg hr (by decide) (by rfl) (pa_cons (pv 1) pa_nil)))) (pw_or1 (pt_cmpR op_lt (pv 1) pe_int (nomark _)))))
        (pss_cons ps_never pss_nil)
        pss_nil)
      (pss_cons (ps_if (PW.pt (pw_or (pt_not (pt_val (pe_callB call_isi (by rfl) T.isinstance (by decide +kernel) (pa_cons (pv 2) (pa_cons (pe_bltn (v := .ty "tuple") (u := .type "tuple") (by rfl) T.tuple (by decide +kernel) rfl) pa_nil))))) (pw_or (pt_not (pt_val (pe_callB (cr_all rfl) (by rfl) T.all (by decide +kernel) (pa_cons (pe_lc (own := [("pair", 3)]) (g := (gName 3)) (tt := tYes) (by rfl) sc_Policy_init.nd (pi_tup (pv 2)) (blkOk_by (own := [("pair", 3)]) (N := ["self", "users", "pairs", "pair"]) (sc := defScope s_Policy_init) (by decide +kernel)) (fun _ _ _ _ _ => (pg_name (i := 3) sc_Policy_init.nd rfl (Or.inl rfl))) (fun _ _ _ _ _ => pts_nil) (fun _ _ _ _ _ => (pe_c c_is_pair hg hr (by decide) (by rfl) (pa_cons (pv 1) (pa_cons (pv 3) pa_nil))))) pa_nil)))) (pw_or1 (pt_not (pt_val (pe_c c_do_rise hg hr (by decide) (by rfl) (pa_cons (pv 2) pa_nil))))))))
        (pss_cons ps_never pss_nil)
        pss_nil)
      (pss_cons (ps_fld (pv 0) (pv 1) rfl)
      (pss_cons (ps_fld (pv 0) (pv 2) rfl) pss_nil)))), fun σ st Q q => ?_⟩
  refine q_if (b := false) st (et_is (et_or (a := !true) (et_not (et_test (ev_call (ea_cons (ev_var rfl) ea_nil) [] nil_sub (fun _ h => nomatch h) ⟨n, rfl, rfl⟩))) fun _ => et_B (b := decide (n < 1)) (ev_op (ev_var rfl) ev_int (rv_I0 fun H => vbl _))) ?_) (fun hb _ _ => nomatch hb) (fun _ H1 st1 => ?_)
  · simp; omega
  refine q_if (b := false) st1 (et_is (et_or (a := !true) (et_not (et_test (ev_isi (d := dPairs ps) (ev_var rfl) kb_tt))) fun _ => et_or (a := !(ps.all (goodP n))) (et_not (et_test (ev_cbN (evn_map (xs := ps) (enc := fun p => SV.d (dPair p)) (fS := fun p S => S.set 3 (some (.d (dPair p)))) (js := [3]) (Mn := []) (fun p => SV.d (.bool (goodP n p))) ?_ (fun _ h => nomatch h) (fun j hj => hj) (by omega) (fun q _ => tg_name) (fun p _ => ev_call (ea_cons (ev_var rfl) (ea_cons (ev_var rfl) ea_nil)) [] nil_sub (fun _ h => nomatch h) ⟨n, p, rfl, rfl⟩)) fun l => rc_allM (List.mem_cons_self ..)))) fun _ => et_not (et_test (ev_call (r := .d (.bool (riseP ps))) (ea_cons (ev_var rfl) ea_nil) [] nil_sub (fun _ h => nomatch h) ⟨ps, rfl, g4, rfl⟩))) ?_) (fun hb _ _ => nomatch hb) (fun _ H2 st2 => ?_)
  · have e := evi_tup (K := K) (S := startS 4 [.m a, .d (.int n), .d (dPairs ps)]) (M := [(a, MO.wins C [])]) (te := tVar 2) (ds := ps.map dPair) (ev_var rfl)
    rw [List.map_map] at e
    exact e
  · rw [g3, List.all_eq_true.mpr g2] <;> rfl
  refine q_fld (n := 0) st2 (ev_var rfl) (ev_var rfl) rfl T.cl T.users (by decide) fun H3 st3 => ?_
  refine q_fld (n := 0) st3 (ev_var rfl) (ev_var rfl) rfl T.cl T.pairs (show 1 < 1000 by decide) fun H4 st4 => ?_
  exact q _ _ _ _ st4 (st4.mem _ (List.mem_cons_self ..))
/-! what goes on of a policy, as the text finds it -/
def addP (f : List (Int × Int)) (p : Int × Int) : List (Int × Int) := if p ∈ f then f else f ++ [p]
def addPs (f ps : List (Int × Int)) : List (Int × Int) := ps.foldl addP f
def furP (ps : List (Int × Int)) (p : Int × Int) : List Int := (ps.filter fun q => decide (q.1 = p.2) && !decide (q.2 = p.1)).map (·.2)
def stepP (ps f : List (Int × Int)) (p : Int × Int) : List (Int × Int) := addPs f (addPs [] ((furP ps p).map fun l => (p.1, l)))
def passP (ps f : List (Int × Int)) : List (Int × Int) := f.foldl (stepP ps) f
def goP (ps : List (Int × Int)) : Nat → List (Int × Int) → Int → List (Int × Int)
  | 0, f, _ => f
  | m + 1, f, old => if (f.length : Int) = old then f else goP ps m (passP ps f) f.length
/-- the loop ends within m turns, and no turn finds much -/
def goOk (n : Int) (ps : List (Int × Int)) : Nat → List (Int × Int) → Int → Bool
  | 0, _, _ => false
  | m + 1, f, old => f.all (goodP n) && decide (f.length < 64) && (decide ((f.length : Int) = old) || goOk n ps m (passP ps f) f.length)
def farP (ps : List (Int × Int)) : List (Int × Int) := sortP (goP ps 20 (addPs [] ps) (-1))
def farOk (n : Int) (ps : List (Int × Int)) : Bool := decide (ps.length ≤ 64) && goOk n ps 20 (addPs [] ps) (-1) && goodPs n (farP ps)
def trK (f : List (Int × Int)) : List (List L2.Key × SV) := f.map fun p => (kP p, .d (.bool true))
theorem kP_inj {p q : Int × Int} (h : kP p = kP q) : p = q := by
  unfold kP at h
  injection h with h1 h2
  injection h2 with h2 _
  injection h1 with h1
  injection h2 with h2
  exact Prod.ext h1 h2
theorem putSV_trK (f : List (Int × Int)) (p : Int × Int) : putSV (trK f) (kP p) (.d (.bool true)) = trK (addP f p) := by
  have ha : ((trK f).any fun kv => decide (kv.1 = kP p)) = decide (p ∈ f) := by
    rw [Bool.eq_iff_iff]
    simp only [trK, List.any_map, List.any_eq_true, Function.comp, decide_eq_true_eq]
    constructor
    · rintro ⟨q, hq, h⟩
      rw [← kP_inj h]; exact hq
    · intro h
      exact ⟨p, h, rfl⟩
  unfold putSV addP
  rw [ha]
  by_cases h : p ∈ f
  · rw [if_pos (by simpa using h), if_pos h]
    have e : ∀ kv ∈ trK f, (if kv.1 = kP p then (kv.1, SV.d (.bool true)) else kv) = kv := fun kv hk => by
      obtain ⟨q, _, rfl⟩ := List.mem_map.mp hk
      split <;> rfl
    rw [List.map_congr_left e, List.map_id']
  · rw [if_neg (by simpa using h), if_neg h]
    unfold trK
    rw [List.map_append] <;> rfl
theorem putAllS_trK : ∀ (ps f : List (Int × Int)), putAllS (trK f) (trK ps) = trK (addPs f ps)
  | [], f => rfl
  | p :: ps, f => by
    show putAllS (putSV (trK f) (kP p) (.d (.bool true))) (trK ps) = _
    rw [putSV_trK, putAllS_trK ps] <;> rfl
theorem addP_le (f : List (Int × Int)) (p : Int × Int) : f.length ≤ (addP f p).length ∧ (addP f p).length ≤ f.length + 1 := by
  unfold addP
  split
  · omega
  · rw [List.length_append]; simp
theorem addPs_le : ∀ (ps f : List (Int × Int)), f.length ≤ (addPs f ps).length ∧ (addPs f ps).length ≤ f.length + ps.length
  | [], f => ⟨Nat.le_refl _, Nat.le_refl _⟩
  | p :: ps, f => by
    have h1 := addP_le f p
    have h2 := addPs_le ps (addP f p)
    have e : addPs f (p :: ps) = addPs (addP f p) ps := rfl
    rw [e, List.length_cons]
    omega
theorem furP_le (ps : List (Int × Int)) (p : Int × Int) : (furP ps p).length ≤ ps.length := by
  unfold furP
  rw [List.length_map]
  exact List.length_filter_le _ _
theorem stepP_le (ps f : List (Int × Int)) (p : Int × Int) : f.length ≤ (stepP ps f p).length ∧ (stepP ps f p).length ≤ f.length + ps.length := by
  unfold stepP
  have h1 := addPs_le (addPs [] ((furP ps p).map fun l => (p.1, l))) f
  have h2 := addPs_le ((furP ps p).map fun l => (p.1, l)) []
  rw [List.length_map, List.length_nil] at h2
  have h3 := furP_le ps p
  omega
theorem foldP_le (ps : List (Int × Int)) : ∀ (l f : List (Int × Int)), f.length ≤ (l.foldl (stepP ps) f).length ∧ (l.foldl (stepP ps) f).length ≤ f.length + l.length * ps.length
  | [], f => ⟨Nat.le_refl _, by simp⟩
  | p :: l, f => by
    have h1 := stepP_le ps f p
    have h2 := foldP_le ps l (stepP ps f p)
    rw [List.foldl_cons, List.length_cons, Nat.succ_mul]
    omega
/-- a policy that stands -/
def IsPol (C : Addr) (M : Ml) (a : Addr) (n : Int) (ps : List (Int × Int)) : Prop := (a, MO.ins C (polF n ps)) ∈ M
def okLen (C : Addr) (ss : List SV) (M : Ml) (r : SV) : Prop := ∃ a n ps, ss = [.m a] ∧ IsPol C M a n ps ∧ r = .d (.int (ps.length : Nat))
def okEq (C : Addr) (ss : List SV) (M : Ml) (r : SV) : Prop := ∃ a b n m ps qs, ss = [.m a, .m b] ∧ IsPol C M a n ps ∧ IsPol C M b m qs ∧ r = .d (.bool (decide (n = m) && decide (ps = qs)))
def okAlike (C : Addr) (ss : List SV) (M : Ml) (r : SV) : Prop := ∃ a b n ps qs, ss = [.m a, .m b] ∧ IsPol C M a n ps ∧ IsPol C M b n qs ∧ r = .d .none
def okWithin (C : Addr) (ss : List SV) (M : Ml) (r : SV) : Prop := ∃ a b n ps qs, ss = [.m a, .m b] ∧ IsPol C M a n ps ∧ IsPol C M b n qs ∧ ps.length ≤ 1000 ∧ r = .d (.bool (ps.all fun p => decide (p ∈ qs)))
theorem met_len (D : MDef K C "__len__" "Policy.__len__" s_Policy_len ["self"]) (T : Pol K mg C) : Met P w K mg base 1 C "__len__" (spV K (okLen C)) := by
  refine met_of (N := ["self"]) D sc_Policy_len (lenV fun ss M r h => by obtain ⟨a, n, ps, rfl, _⟩ := h; rfl) (bodyV fun f cdv A outer s H E hg hr ss M0 r hw ok => ?_)
  obtain ⟨a, n, ps, rfl, hi, rfl⟩ := ok
  refine ⟨_, (pss_cons (ps_ret (pe_callB call_len_seq (by rfl) T.len (by decide +kernel) (pa_cons (pe_fld (pv 0) rfl) pa_nil))) pss_nil), fun σ st Q q => ?_⟩
  refine q_ret st (ev_is (ev_cb (ea_cons (ev_fld (ev_var rfl) hi T.cl T.pairs rfl) ea_nil) (rc_lenT (ds := ps.map dPair))) ?_) fun v H2 st2 o2 => q _ _ _ _ _ st2 o2
  rw [List.length_map]
theorem met_eq (D : MDef K C "__eq__" "Policy.__eq__" s_Policy_eq ["self", "other"]) (T : Pol K mg C) : Met P w K mg base 1 C "__eq__" (spV K (okEq C)) := by
  refine met_of (N := ["self", "other"]) D sc_Policy_eq (lenV fun ss M r h => by obtain ⟨a, b, n, m, ps, qs, rfl, _⟩ := h; rfl) (bodyV fun f cdv A outer s H E hg hr ss M0 r hw ok => ?_)
  obtain ⟨a, b, n, m, ps, qs, rfl, ha, hb, rfl⟩ := ok
  refine ⟨_, (pss_cons (ps_ret (pe_and (pe_callB call_isi (by rfl) T.isinstance (by decide +kernel) (pa_cons (pv 1) (pa_cons (pe_gv T.g_Policy (by rfl)) pa_nil))) (pe_and (pe_cmpR op_eq (pe_fld (pv 0) rfl) (pe_fld (pv 1) rfl) (nomark _)) (pe_one (pe_cmpR (r := rEqD K) (op_eqD hr.units) (pe_fld (pv 0) rfl) (pe_fld (pv 1) rfl) (nomark _)))))) pss_nil), fun σ st Q q => ?_⟩
  refine q_ret st (ev_is (ev_andV (a := true) (ev_isO T.ci (ev_var rfl) hb) fun _ => ev_andV (ev_op (ev_fld (ev_var rfl) ha T.cl T.users rfl) (ev_fld (ev_var rfl) hb T.cl T.users rfl) rv_eqI) fun _ => ev_op (ev_fld (ev_var rfl) ha T.cl T.pairs rfl) (ev_fld (ev_var rfl) hb T.cl T.pairs rfl) (rv_eqD rfl rfl (sh_shaped (sh_pairs ps)) (sh_shaped (sh_pairs qs)) (eqv_pairs ps qs))) rfl) fun v H2 st2 o2 => q _ _ _ _ _ st2 o2
theorem cal_alike (D : Def K mg "check_alike" s_check_alike ["one", "other"]) (T : Pol K mg C) : Cal P w K mg base 1 "check_alike" (spV K (okAlike C)) := by
  refine cal_of (N := ["one", "other"]) D sc_check_alike (lenV fun ss M r h => by obtain ⟨a, b, n, ps, qs, rfl, _⟩ := h; rfl) (bodyV fun f cdv A outer s H E hg hr ss M0 r hw ok => ?_)
  obtain ⟨a, b, n, ps, qs, rfl, ha, hb, rfl⟩ := ok
  refine ⟨_, (pss_cons (ps_if (pt_cmpR op_ne (pe_fld (pv 0) rfl) (pe_fld (pv 1) rfl) (nomark _))
        (pss_cons ps_never pss_nil)
        pss_nil) pss_nil), fun σ st Q q => ?_⟩
  refine q_if (b := false) st (et_is (et_B (ev_op (ev_fld (ev_var rfl) ha T.cl T.users rfl) (ev_fld (ev_var rfl) hb T.cl T.users rfl) rv_neI)) (by simp)) (fun hb _ _ => nomatch hb) (fun _ H1 st1 => ?_)
  exact q _ _ _ _ _ st1 ⟨.non, rfl⟩
theorem met_within (D : MDef K C "is_within" "Policy.is_within" s_Policy_is_within ["self", "other"]) (T : Pol K mg C) (c_check_alike : Cal P w K mg base 1 "check_alike" (spV K (okAlike C))) : Met P w K mg base 2 C "is_within" (spV K (okWithin C)) := by
  refine met_of (N := ["self", "other", "pair"]) D sc_Policy_is_within (lenV fun ss M r h => by obtain ⟨a, b, n, ps, qs, rfl, _⟩ := h; rfl) (bodyV fun f cdv A outer s H E hg hr ss M0 r hw ok => ?_)
  obtain ⟨a, b, n, ps, qs, rfl, ha, hb, hl, rfl⟩ := ok
  refine ⟨_, (pss_cons (ps_expr (pe_c c_check_alike hg hr (by decide) (by rfl) (pa_cons (pv 0) (pa_cons (pv 1) pa_nil))))
      (pss_cons (ps_ret (pe_callB (cr_all rfl) (by rfl) T.all (by decide +kernel) (pa_cons (pe_lc (own := [("pair", 2)]) (g := (gName 2)) (tt := tYes) (by rfl) sc_Policy_is_within.nd (pi_tup (pe_fld (pv 0) rfl)) (blkOk_by (own := [("pair", 2)]) (N := ["self", "other", "pair"]) (sc := defScope s_Policy_is_within) (by decide +kernel)) (fun _ _ _ _ _ => (pg_name (i := 2) sc_Policy_is_within.nd rfl (Or.inl rfl))) (fun _ _ _ _ _ => pts_nil) (fun _ _ _ _ _ => (pe_cmpR (r := rInT K false) (op_inT (hu65 hr)) (pv 2) (show PE _ _ (tFld K (tVar 1) "pairs") from pe_fld (pv 1) rfl) rfl))) pa_nil))) pss_nil)), fun σ st Q q => ?_⟩
  refine q_do st (ev_call (ea_cons (ev_var rfl) (ea_cons (ev_var rfl) ea_nil)) M0 (List.Sublist.refl _) hw ⟨a, b, n, ps, qs, rfl, ha, hb, rfl⟩) fun H1 st1 => ?_
  refine q_ret st1 (ev_cbN (evn_map (xs := ps) (enc := fun p => SV.d (dPair p)) (fS := fun p S => S.set 2 (some (.d (dPair p)))) (js := [2]) (Mn := []) (fun p => SV.d (.bool (decide (p ∈ qs)))) ?_ (fun _ h => nomatch h) (fun j hj => hj) (by omega) (fun q _ => tg_name) (fun p _ => ev_is (ev_op (ev_var rfl) (ev_fld (ev_var rfl) hb T.cl T.pairs rfl) (rv_inT (neg := false) (sh_shaped (sh_pair p)) (sh_shaped (sh_pairs qs)))) ?_)) fun l => rc_allM (List.mem_cons_self ..)) fun v H2 st2 o2 => q _ _ _ _ _ st2 o2
  · have e := evi_tup (K := K) (S := startS 3 [.m a, .m b]) (M := M0) (te := tFld K (tVar 0) "pairs") (ds := ps.map dPair) (ev_fld (ev_var rfl) ha T.cl T.pairs rfl)
    rw [List.map_map] at e
    exact e
  · rw [if_neg (by decide), any_pair]
def okFar (C : Addr) (ss : List SV) (M : Ml) (o : MO) : Prop := ∃ a n ps, ss = [.m a] ∧ IsPol C M a n ps ∧ farOk n ps = true ∧ o = .ins C (polF n (farP ps))
theorem met_far (D : MDef K C "going_on" "Policy.going_on" s_Policy_going_on ["self"]) (T : Pol K mg C) (c_Policy : Mak P w K mg base 4 "Policy" C (spI K C okInit)) : Met P w K mg base 6 C "going_on" (spN K (okFar C)) := by
  refine met_of (N := ["self", "found", "old", "pair", "one", "other", "further", "first", "last"]) D sc_Policy_going_on (lenN fun ss M r h => by obtain ⟨a, n, ps, rfl, _⟩ := h; rfl) (bodyN fun f cdv A outer s H E hg hr ss M0 r hw ok => ?_)
  obtain ⟨a, n, ps, rfl, hi, hok, rfl⟩ := ok
  simp only [farOk, Bool.and_eq_true, decide_eq_true_eq] at hok
  obtain ⟨⟨hpl, hgo⟩, hgd⟩ := hok
  have hu := hu_of hr
  refine ⟨_, (pss_cons (ps_par (i := 1) (j := 2) (by rfl) sc_Policy_going_on.nd rfl rfl (by decide) rfl rfl (pa_cons (pe_dcT (own := [("pair", 3)]) (g := (gName 3)) (tt := tYes) rfl hr.units0 sc_Policy_going_on.nd (pi_tup (pe_fld (pv 0) rfl)) (blkOk_by (own := [("pair", 3)]) (N := ["self", "found", "old", "pair", "one", "other", "further", "first", "last"]) (sc := defScope s_Policy_going_on) (by decide +kernel)) (fun _ _ _ _ _ => (pg_name (i := 3) sc_Policy_going_on.nd rfl (Or.inl rfl))) (fun _ _ _ _ _ => pts_nil) (fun _ _ _ _ _ => (pv 3)) (fun _ _ _ _ _ => pe_bl)) (pa_cons (pe_un un_neg pe_int) pa_nil)) (by rfl))
      (pss_cons (ps_while PassesOwn.never (pt_cmpR op_ne (pe_callB call_len_dT (by rfl) T.len (by decide +kernel) (pa_cons (pv 1) pa_nil)) (pv 2) (nomark _))
        (pss_cons (ps_set (i := 2) sc_Policy_going_on.nd rfl (Or.inl rfl) (pe_callB call_len_dT (by rfl) T.len (by decide +kernel) (pa_cons (pv 1) pa_nil)))
        (pss_cons (ps_for PassesOwn.never rfl (pi_list (pe_callTy (call_list_dT rfl) (by rfl) T.list (by decide +kernel) (pa_cons (pv 1) pa_nil))) (pg_tup (by rfl) (pgs_cons (pg_name (i := 4) sc_Policy_going_on.nd rfl (Or.inr rfl)) (pgs_cons (pg_name (i := 5) sc_Policy_going_on.nd rfl (Or.inr rfl)) pgs_nil)))
          (pss_cons (ps_setLc (i := 6) (own := [("first", 7), ("last", 8)]) (g := (gTup K 2 (gCons (gName 7) (gCons (gName 8) gNil))))  (by rfl) sc_Policy_going_on.nd rfl rfl (sw_true rfl rfl rfl (by decide +kernel)) (pi_tup (pe_fld (pv 0) rfl)) (blkOk_by (own := [("first", 7), ("last", 8)]) (N := ["self", "found", "old", "pair", "one", "other", "further", "first", "last"]) (sc := defScope s_Policy_going_on) (by decide +kernel)) (fun _ _ _ _ _ => (pg_tup (by rfl) (pgs_cons (pg_name (i := 7) sc_Policy_going_on.nd rfl (Or.inl rfl)) (pgs_cons (pg_name (i := 8) sc_Policy_going_on.nd rfl (Or.inl rfl)) pgs_nil)))) (fun _ _ _ _ _ => pts_one (PW.pt (pw_and (pt_cmpR op_eq (pv 7) (pv 5) (nomark _)) (pw_and1 (pt_cmpR op_ne (pv 8) (pv 4) (nomark _)))))) (fun _ _ _ _ _ => (pv 8)))
          (pss_cons (ps_expr (pe_updT hu (pv 1) (pa_cons (pe_dcT (own := [("last", 8)]) (g := (gName 8)) (tt := tYes) rfl hr.units0 sc_Policy_going_on.nd (pi_list (pv 6)) (blkOk_by (own := [("last", 8)]) (N := ["self", "found", "old", "pair", "one", "other", "further", "first", "last"]) (sc := defScope s_Policy_going_on) (by decide +kernel)) (fun _ _ _ _ _ => (pg_name (i := 8) sc_Policy_going_on.nd rfl (Or.inl rfl))) (fun _ _ _ _ _ => pts_nil) (fun _ _ _ _ _ => (pe_tup (pa_cons (pv 4) (pa_cons (pv 8) pa_nil)))) (fun _ _ _ _ _ => pe_bl)) pa_nil))) pss_nil))) pss_nil)))
      (pss_cons (ps_ret (pe_mk c_Policy hg hr (by decide) (by rfl) (pa_cons (pe_fld (pv 0) rfl) (pa_cons (pe_callTy call_tuple_of (by rfl) T.tuple (by decide +kernel) (pa_cons (pe_callB (call_sort_dT rfl) (by rfl) T.sorted (by decide +kernel) (pa_cons (pv 1) pa_nil)) pa_nil)) pa_nil)))) pss_nil))), fun σ st Q q => ?_⟩
  have st : Sat K H [] H [some (.m a), none, none, none, none, none, none, none, none] M0 σ H := st
  refine q_parN (y := .d (.int (-1))) st (evn_dcT (xs := ps) (enc := fun p => SV.d (dPair p)) (fS := fun p S => S.set 3 (some (.d (dPair p)))) (js := [3]) (Mn := []) kP (fun _ => .d (.bool true)) ?_ (fun _ h => nomatch h) (fun j hj => hj) (by omega) (fun q _ => tg_name) (fun p _ => et_yes) (fun p _ => ev_var rfl) (fun p _ => ev_bl)) (fun p => ?_) fun d σ1 H1 st1 => ?_
  · have e := evi_tup (K := K) (S := [some (.m a), none, none, none, none, none, none, none, none]) (M := M0) (te := tFld K (tVar 0) "pairs") (ds := ps.map dPair) (ev_fld (ev_var rfl) hi T.cl T.pairs rfl)
    rw [List.map_map] at e
    exact e
  · exact ev_un (g' := fun i => .d (.int (-i))) ev_int fun H => vint _
  have ed : (ps.map fun p => (kP p, SV.d (.bool true))) = trK ps := rfl
  rw [ed, show putAllS ([] : List (List L2.Key × SV)) (trK ps) = trK (addPs [] ps) from putAllS_trK ps []] at st1
  have st1 : Sat K H [] H [some (.m a), some (.m d), some (.d (.int (-1))), none, none, none, none, none, none] ((d, .dT (trK (addPs [] ps))) :: M0) σ1 H1 := st1
  refine q_while st1 (fun m S' M' => ∃ (fo : List (Int × Int)) (old : Int) (x3 x4 x5 x6 x7 x8 : Option SV) (N : Ml), S' = [some (.m a), some (.m d), some (.d (.int old)), x3, x4, x5, x6, x7, x8] ∧ M' = (d, .dT (trK fo)) :: (N ++ M0) ∧ goOk n ps m fo old = true ∧ farP ps = sortP (goP ps m fo old)) 20
    ⟨_, _, none, none, none, none, none, none, [], rfl, rfl, hgo, rfl⟩ ?_
  rintro m S' M' σ2 H2 ⟨fo, old, x3, x4, x5, x6, x7, x8, N, rfl, rfl, hm, hfar⟩ st2
  match m, hm, hfar with
  | m + 1, hm, hfar =>
  simp only [goOk, Bool.and_eq_true, Bool.or_eq_true, decide_eq_true_eq] at hm
  obtain ⟨⟨hall, h64⟩, hm⟩ := hm
  have hlen : (trK fo).length = fo.length := by unfold trK; rw [List.length_map]
  refine ⟨!decide ((fo.length : Int) = old), et_B (ev_op (ev_is (ev_cb (ea_cons (ev_var rfl) ea_nil) (rc_lenDT (List.mem_cons_self ..))) (by rw [hlen])) (ev_var rfl) rv_neI), fun hb H3 st3 => ?_, fun hb H3 st3 => ?_⟩
  · have hne : ¬ (fo.length : Int) = old := by simpa using hb
    refine q_set st3 (ev_is (ev_cb (ea_cons (ev_var rfl) ea_nil) (rc_lenDT (List.mem_cons_self ..))) (by rw [hlen])) fun σ4 H4 st4 => ?_
    have hgo2 : goOk n ps m (passP ps fo) fo.length = true := hm.resolve_left hne
    have hfar2 : farP ps = sortP (goP ps m (passP ps fo) fo.length) := by rw [hfar]; simp only [goP, if_neg hne]
    have st4 : Sat K H [] H [some (.m a), some (.m d), some (.d (.int (fo.length : Nat))), x3, x4, x5, x6, x7, x8] ((d, .dT (trK fo)) :: (N ++ M0)) σ4 H4 := st4
    have eits : (trK fo).map (fun k => SV.d (tupK k.1)) = fo.map fun p => SV.d (dPair p) := by unfold trK; rw [List.map_map] <;> rfl
    have el := evn_cb (K := K) (S := [some (.m a), some (.m d), some (.d (.int (fo.length : Nat))), x3, x4, x5, x6, x7, x8]) (M := (d, .dT (trK fo)) :: (N ++ M0)) (tas := tCons (tVar 1) tNil) (ea_cons (ev_var rfl) ea_nil) (rcn_listDT (l := d) (ks := trK fo) (List.mem_cons_self ..))
    rw [eits] at el
    refine q_forN st4 el (fun p i S' M' => ∃ (y4 y5 y6 y7 y8 : Option SV), S' = [some (.m a), some (.m d), some (.d (.int (fo.length : Nat))), x3, y4, y5, y6, y7, y8] ∧ M' = (p, .lst (fo.map fun p => SV.d (dPair p))) :: (d, .dT (trK ((fo.take i).foldl (stepP ps) fo))) :: (N ++ M0))
      (fun p => ⟨x4, x5, x6, x7, x8, rfl, rfl⟩) (fun p i S' M' h => by obtain ⟨_, _, _, _, _, _, rfl⟩ := h; exact List.mem_cons_self ..) ?_ ?_
    · rintro p i s S' M' σ5 H5 T5 hs ⟨y4, y5, y6, y7, y8, rfl, rfl⟩ st5 v hv
      rw [List.getElem?_map] at hs
      cases hq : fo[i]? with
      | none => rw [hq] at hs; cases hs
      | some r =>
      rw [hq] at hs
      have es : SV.d (dPair r) = s := Option.some.inj hs
      subst es
      refine tg_pair _ _ _ _ _ _ _ st5 v hv _ fun σ6 st6 _ => ?_
      have st6 : Sat K H [] T5 [some (.m a), some (.m d), some (.d (.int (fo.length : Nat))), x3, some (.d (.int r.1)), some (.d (.int r.2)), y6, y7, y8] ((p, .lst (fo.map fun p => SV.d (dPair p))) :: (d, .dT (trK ((fo.take i).foldl (stepP ps) fo))) :: (N ++ M0)) σ6 H5 := st6
      have efur : ((ps.filter fun q => decide (q.1 = r.2) && !decide (q.2 = r.1)).map fun q => SV.d (.int q.2)) = (furP ps r).map fun l => SV.d (.int l) := by unfold furP; rw [List.map_map] <;> rfl
      have eps := evi_tup (K := K) (S := [some (.m a), some (.m d), some (.d (.int (fo.length : Nat))), x3, some (.d (.int r.1)), some (.d (.int r.2)), y6, y7, y8]) (M := (p, .lst (fo.map fun p => SV.d (dPair p))) :: (d, .dT (trK ((fo.take i).foldl (stepP ps) fo))) :: (N ++ M0)) (te := tFld K (tVar 0) "pairs") (ds := ps.map dPair) (ev_fld (ev_var rfl) (List.mem_cons_of_mem _ (List.mem_cons_of_mem _ (List.mem_append_right _ hi))) T.cl T.pairs rfl)
      rw [List.map_map] at eps
      have elc := evn_lc (K := K) (xs := ps) (enc := fun q => SV.d (dPair q)) (fS := fun q S => (S.set 7 (some (.d (.int q.1)))).set 8 (some (.d (.int q.2)))) (js := [7, 8]) (vs := [7, 8]) (g := gTup K 2 (gCons (gName 7) (gCons (gName 8) gNil))) (tt := tAnd (tB (tOp rEq (tVar 7) (tVar 5))) (tB (tOp rNe (tVar 8) (tVar 4)))) (te := tVar 8) (Mn := []) (fun q => decide (q.1 = r.2) && !decide (q.2 = r.1)) (fun q => SV.d (.int q.2)) eps (fun _ h => nomatch h) (fun j hj => hj) (by omega) (fun q _ => tg_pair) (fun q _ => et_and (et_B (ev_op (ev_var rfl) (ev_var rfl) rv_eqI)) fun _ => et_B (ev_op (ev_var rfl) (ev_var rfl) rv_neI)) (fun q _ _ => ev_var rfl)
      rw [efur] at elc
      refine q_setN st6 elc fun fl σ7 H7 st7 => ?_
      have st7 : Sat K H [] T5 [some (.m a), some (.m d), some (.d (.int (fo.length : Nat))), x3, some (.d (.int r.1)), some (.d (.int r.2)), some (.m fl), y7, y8] ((fl, .lst ((furP ps r).map fun l => SV.d (.int l))) :: (p, .lst (fo.map fun p => SV.d (dPair p))) :: (d, .dT (trK ((fo.take i).foldl (stepP ps) fo))) :: (N ++ M0)) σ7 H7 := st7
      have hi' : i < fo.length := by
        rcases Nat.lt_or_ge i fo.length with h | h
        · exact h
        · rw [List.getElem?_eq_none h] at hq; cases hq
      have b1 := foldP_le ps (fo.take i) fo
      have b2 : (fo.take i).length ≤ 64 := Nat.le_trans (List.length_take_le' _ _) (by omega)
      have b3 : (fo.take i).length * ps.length ≤ 64 * 64 := Nat.mul_le_mul b2 hpl
      have b4 := addPs_le ((furP ps r).map fun l => (r.1, l)) []
      rw [List.length_map, List.length_nil] at b4
      have b5 := furP_le ps r
      have edc := evn_dcT (K := K) (S := [some (.m a), some (.m d), some (.d (.int (fo.length : Nat))), x3, some (.d (.int r.1)), some (.d (.int r.2)), some (.m fl), y7, y8]) (M := (fl, .lst ((furP ps r).map fun l => SV.d (.int l))) :: (p, .lst (fo.map fun p => SV.d (dPair p))) :: (d, .dT (trK ((fo.take i).foldl (stepP ps) fo))) :: (N ++ M0)) (wi := iList K (tVar 6)) (g := gName 8) (tt := tYes) (tk := tTup (tCons (tVar 4) (tCons (tVar 8) tNil))) (tv := tC (.bl true)) (xs := furP ps r) (enc := fun l => SV.d (.int l)) (fS := fun l S => S.set 8 (some (.d (.int l)))) (js := [8]) (vs := [8]) (fun l => kP (r.1, l)) (fun _ => .d (.bool true)) (evi_list (l := fl) (ev_var rfl) (List.mem_cons_self ..)) (fun z hz => by rw [List.mem_singleton.mp hz]; exact List.mem_cons_self ..) (fun j hj => hj) (by omega) (fun q _ => tg_name) (fun q _ => et_yes) (fun l _ => ev_tup (ds := [.int r.1, .int l]) (ea_cons (ev_var rfl) (ea_cons (ev_var rfl) ea_nil)) (by simp)) (fun l _ => ev_bl)
      have e2 : ((furP ps r).map fun l => (kP (r.1, l), SV.d (.bool true))) = trK ((furP ps r).map fun l => (r.1, l)) := by unfold trK; rw [List.map_map] <;> rfl
      rw [e2, show putAllS ([] : List (List L2.Key × SV)) (trK ((furP ps r).map fun l => (r.1, l))) = trK (addPs [] ((furP ps r).map fun l => (r.1, l))) from putAllS_trK _ []] at edc
      refine q_update (n := 2) st7 (ev_var rfl) edc rfl (fun z => ?_) ?_ fun H8 st8 => ?_
      · have z := congrArg List.length z
        unfold trK at z
        rw [List.length_map, List.length_nil] at z
        omega
      · unfold trK
        rw [List.length_map, List.length_map]
        omega
      · refine ⟨_, _, ⟨some (.d (.int r.1)), some (.d (.int r.2)), some (.m fl), y7, y8, rfl, rfl⟩, ?_⟩
        have e3 : (fo.take (i + 1)).foldl (stepP ps) fo = stepP ps ((fo.take i).foldl (stepP ps) fo) r := by rw [List.take_succ, hq, List.foldl_append] <;> rfl
        rw [putAllS_trK] at st8
        rw [e3]
        exact st8.drop (List.sublist_cons_self ..)
    · rintro p S' M' σ5 H5 ⟨y4, y5, y6, y7, y8, rfl, rfl⟩ st5
      rw [List.length_map, List.take_length] at st5
      exact ⟨m, Nat.lt_succ_self m, _, _, ⟨passP ps fo, fo.length, x3, y4, y5, y6, y7, y8, N, rfl, rfl, hgo2, hfar2⟩, st5.drop (List.sublist_cons_self ..)⟩
  · have he : (fo.length : Int) = old := by simpa using hb
    have hfar2 : farP ps = sortP fo := by rw [hfar]; simp only [goP, if_pos he]
    have hb2 : ∀ p ∈ fo, 0 ≤ p.1 ∧ p.1 < n ∧ 0 ≤ p.2 ∧ p.2 < n := fun p hp => by
      have z := List.all_eq_true.mp hall p hp
      simp only [goodP, decide_eq_true_eq] at z
      omega
    refine q_retF st3 (evn_make (fs := polF n (farP ps)) (ss := [.d (.int n), .d (dPairs (farP ps))]) (ea_cons (ev_fld (ev_var rfl) (List.mem_cons_of_mem _ (List.mem_append_right _ hi)) T.cl T.users rfl) (ea_cons (ev_cbN (o := .lst (((farP ps).map dPair).map SV.d)) ?_ fun l => rc_tupL (ds := (farP ps).map dPair) (List.mem_cons_self ..)) ea_nil)) ⟨n, farP ps, rfl, hgd, rfl⟩) fun p H4 fr st4 => q _ _ _ _ _ fr st4 (st4.at (List.mem_cons_self ..))
    rw [hfar2, List.map_map]
    exact evn_cb (ea_cons (ev_var rfl) ea_nil) (rcn_sortDT (l := d) (ks := trK fo) (ps := fo) (C := n) (List.mem_cons_self ..) (by unfold trK; rw [List.map_map] <;> rfl) h64 hb2)
end
end Tw

/-! ### the law's own defs: k04 -/
namespace Tw
open PySem L2
abbrev s_law_led : Stmt := topS 29
theorem sc_law_led : FnScope ["_law_rules_here", "_law_many", "_law_found", "_law_p", "_law_met", "_law_edge", "_law_at", "_law_fresh", "_law_k", "_law_q"] ["_law_rules_here", "_law_many"] (defScope s_law_led) := ⟨rfl, rfl, rfl, by decide +kernel, rfl, by decide +kernel, by decide +kernel⟩
abbrev s_law_is_right : Stmt := topS 30
theorem sc_law_is_right : FnScope ["_law_many", "_law_rules_here", "_law_code", "_law_due", "_law_far"] ["_law_many", "_law_rules_here"] (defScope s_law_is_right) := ⟨rfl, rfl, rfl, by decide +kernel, rfl, by decide +kernel, by decide +kernel⟩
/-! the walk from each user -/
def freshI (ps : List (Int × Int)) (a : Int) (met : List Int) : List Int := (ps.filter fun q => decide (q.1 = a) && !decide (q.2 ∈ met)).map (·.2)
def ledR (ps : List (Int × Int)) : Nat → List Int → List Int → List Int
  | 0, met, _ => met
  | m + 1, met, edge => match edge.getLast? with
    | none => met
    | some a => ledR ps m (met ++ freshI ps a met) (edge.dropLast ++ freshI ps a met)
def ledOk (ps : List (Int × Int)) : Nat → List Int → List Int → Bool
  | 0, _, _ => false
  | m + 1, met, edge => decide (met.length < 64) && decide (edge.length ≤ 64) && match edge.getLast? with
    | none => true
    | some a => ledOk ps m (met ++ freshI ps a met) (edge.dropLast ++ freshI ps a met)
def metL (ps : List (Int × Int)) (p : Int) : List Int := ledR ps 40 [p] [p]
def rowL (ps : List (Int × Int)) (p : Int) : List (Int × Int) := ((sortI (metL ps p)).filter fun q => !decide (q = p)).map fun q => (p, q)
def ledP (ps : List (Int × Int)) (i : Nat) : List (Int × Int) := (List.range i).flatMap fun (p : Nat) => rowL ps (p : Int)
def ledAll (n : Nat) (ps : List (Int × Int)) : Bool := decide (ps.length ≤ 64) && decide (n ≤ 99) && (List.range n).all fun (p : Nat) => ledOk ps 40 [(p : Int)] [(p : Int)] && decide ((metL ps p).length < 64)
theorem ledP_succ (ps : List (Int × Int)) (i : Nat) : ledP ps (i + 1) = ledP ps i ++ rowL ps i := by
  unfold ledP
  rw [List.range_succ, List.flatMap_append]
  simp
theorem rowL_le (ps : List (Int × Int)) (p : Int) : (rowL ps p).length ≤ (metL ps p).length := by
  unfold rowL
  rw [List.length_map]
  refine Nat.le_trans (List.length_filter_le _ _) ?_
  unfold sortI
  rw [List.length_mergeSort]
  exact Nat.le_refl _
def okLed (ss : List SV) (M : Ml) (r : SV) : Prop := ∃ (n : Nat) (ps : List (Int × Int)), ss = [.d (dPairs ps), .d (.int n)] ∧ ledAll n ps = true ∧ r = .d (dPairs (ledP ps n))
section
variable {P : Program} {w : World} {K : PySem.W.Frag} {mg : Str → Option Value} {base : Heap} {C : Addr}
theorem cal_led (D : Def K mg "_law_led" s_law_led ["_law_rules_here", "_law_many"]) (T : Bi mg) : Cal P w K mg base 1 "_law_led" (spV K okLed) := by
  refine cal_of (N := ["_law_rules_here", "_law_many", "_law_found", "_law_p", "_law_met", "_law_edge", "_law_at", "_law_fresh", "_law_k", "_law_q"]) D sc_law_led (lenV fun ss M r h => by obtain ⟨n, ps, rfl, _⟩ := h; rfl) (bodyV fun f cdv A outer s H E hg hr ss M0 r hw ok => ?_)
  obtain ⟨n, ps, rfl, hall, rfl⟩ := ok
  simp only [ledAll, Bool.and_eq_true, decide_eq_true_eq, List.all_eq_true] at hall
  obtain ⟨⟨hpl, hn⟩, hall⟩ := hall
  refine ⟨_, (pss_cons (ps_set (i := 2) sc_law_led.nd rfl (Or.inl rfl) (pe_lst pa_nil))
      (pss_cons (ps_for PassesOwn.never rfl (pi_range1 (by rfl) T.range (pa_cons (pv 1) pa_nil)) (pg_name (i := 3) sc_law_led.nd rfl (Or.inr rfl))
        (pss_cons (ps_asg (pe_tup (pa_cons (pe_lst (pa_cons (pv 3) pa_nil)) (pa_cons (pe_lst (pa_cons (pv 3) pa_nil)) pa_nil))) (pg_tup (by rfl) (pgs_cons (pg_name (i := 4) sc_law_led.nd rfl (Or.inr rfl)) (pgs_cons (pg_name (i := 5) sc_law_led.nd rfl (Or.inl rfl)) pgs_nil))))
        (pss_cons (ps_while PassesOwn.never (pt_cmpR (r := rNeD K) (op_neD hr.units) (pv 5) (pe_lst pa_nil) (nomark _))
          (pss_cons (ps_set (i := 6) sc_law_led.nd rfl (Or.inr rfl) (pe_bm0 PySem.F.plainAttrs_list PySem.F.slot_list_pop PySem.F.type_list_pop mt_pop (pv 5)))
          (pss_cons (ps_setLc (i := 7) (own := [("_law_k", 8), ("_law_q", 9)]) (g := (gTup K 2 (gCons (gName 8) (gCons (gName 9) gNil))))  (by rfl) sc_law_led.nd rfl rfl (sw_true rfl rfl rfl (by decide +kernel)) (pi_tup (pv 0)) (blkOk_by (own := [("_law_k", 8), ("_law_q", 9)]) (N := ["_law_rules_here", "_law_many", "_law_found", "_law_p", "_law_met", "_law_edge", "_law_at", "_law_fresh", "_law_k", "_law_q"]) (sc := defScope s_law_led) (by decide +kernel)) (fun _ _ _ _ _ => (pg_tup (by rfl) (pgs_cons (pg_name (i := 8) sc_law_led.nd rfl (Or.inl rfl)) (pgs_cons (pg_name (i := 9) sc_law_led.nd rfl (Or.inl rfl)) pgs_nil)))) (fun _ _ _ _ _ => pts_one (PW.pt (pw_and (pt_cmpR op_eq (pv 8) (pv 6) (nomark _)) (pw_and1 (pt_cmpR (r := rInL K true) (op_notInL (hu65 hr)) (pv 9) (pv 4) rfl))))) (fun _ _ _ _ _ => (pv 9)))
          (pss_cons (ps_asg (pe_tup (pa_cons (pe_op op_cat (pv 4) (pv 7)) (pa_cons (pe_op op_cat (pv 5) (pv 7)) pa_nil))) (pg_tup (by rfl) (pgs_cons (pg_name (i := 4) sc_law_led.nd rfl (Or.inr rfl)) (pgs_cons (pg_name (i := 5) sc_law_led.nd rfl (Or.inl rfl)) pgs_nil)))) pss_nil))))
        (pss_cons (ps_expr (pe_bm PySem.F.plainAttrs_list PySem.F.slot_list_extend PySem.F.type_list_extend mt_extend (pv 2) (pa_cons (pe_lc (own := [("_law_q", 9)]) (g := (gName 9))  (by rfl) sc_law_led.nd (pi_list (pe_callB cr_sorted (by rfl) T.sorted (by decide +kernel) (pa_cons (pv 4) pa_nil))) (blkOk_by (own := [("_law_q", 9)]) (N := ["_law_rules_here", "_law_many", "_law_found", "_law_p", "_law_met", "_law_edge", "_law_at", "_law_fresh", "_law_k", "_law_q"]) (sc := defScope s_law_led) (by decide +kernel)) (fun _ _ _ _ _ => (pg_name (i := 9) sc_law_led.nd rfl (Or.inl rfl))) (fun _ _ _ _ _ => pts_one (pt_cmpR op_ne (pv 9) (pv 3) (nomark _))) (fun _ _ _ _ _ => (pe_tup (pa_cons (pv 3) (pa_cons (pv 9) pa_nil))))) pa_nil))) pss_nil))))
      (pss_cons (ps_ret (pe_callTy call_tuple_of (by rfl) T.tuple (by decide +kernel) (pa_cons (pv 2) pa_nil))) pss_nil))), fun σ st Q q => ?_⟩
  have st : Sat K H [] H [some (.d (dPairs ps)), some (.d (.int n)), none, none, none, none, none, none, none, none] M0 σ H := st
  refine q_setN st (evn_lst ea_nil (by decide)) fun l σ1 H1 st1 => ?_
  have st1 : Sat K H [] H [some (.d (dPairs ps)), some (.d (.int n)), some (.m l), none, none, none, none, none, none, none] ((l, .lst []) :: M0) σ1 H1 := st1
  refine q_for st1 (evi_range1 (ea_cons (ev_var rfl) ea_nil) (by omega)) (fun i S' M' => ∃ (x3 x4 x5 x6 x7 x8 x9 : Option SV), S' = [some (.d (dPairs ps)), some (.d (.int n)), some (.m l), x3, x4, x5, x6, x7, x8, x9] ∧ M' = (l, .lst ((ledP ps i).map fun p => SV.d (dPair p))) :: M0 ∧ (ledP ps i).length ≤ i * 64)
    ⟨none, none, none, none, none, none, none, rfl, rfl, by simp [ledP]⟩ (fun _ _ _ _ _ h => nomatch h) ?_ ?_
  · rintro i s S' M' σ2 H2 T2 hs ⟨x3, x4, x5, x6, x7, x8, x9, rfl, rfl, hlen⟩ st2 v hv
    obtain ⟨hi, rfl⟩ := rg_get hs
    have hin : i < n := by omega
    obtain ⟨hok, hmet⟩ := hall i (List.mem_range.mpr hin)
    have st3 : Sat K H [] T2 [some (.d (dPairs ps)), some (.d (.int n)), some (.m l), some (.d (.int i)), x4, x5, x6, x7, x8, x9] ((l, .lst ((ledP ps i).map fun p => SV.d (dPair p))) :: M0) (σ2.set 3 (some v)) H2 := st2.set hv 3
    refine q_tupNN st3 (evn_lst (ss := [.d (.int i)]) (ea_cons (ev_var rfl) ea_nil) (by simp)) (fun p => evn_lst (ss := [.d (.int i)]) (ea_cons (ev_var rfl) ea_nil) (by simp)) fun m1 e1 σ4 H4 st4 => ?_
    have st4 : Sat K H [] T2 [some (.d (dPairs ps)), some (.d (.int n)), some (.m l), some (.d (.int i)), some (.m m1), some (.m e1), x6, x7, x8, x9] ((e1, .lst (([(i : Int)]).map fun z => SV.d (.int z))) :: (m1, .lst (([(i : Int)]).map fun z => SV.d (.int z))) :: (l, .lst ((ledP ps i).map fun p => SV.d (dPair p))) :: M0) σ4 H4 := st4
    refine q_while st4 (fun m S' M' => ∃ (met edge : List Int) (ma ea : Addr) (y6 y7 y8 y9 : Option SV), S' = [some (.d (dPairs ps)), some (.d (.int n)), some (.m l), some (.d (.int i)), some (.m ma), some (.m ea), y6, y7, y8, y9] ∧ M' = (ea, .lst (edge.map fun z => SV.d (.int z))) :: (ma, .lst (met.map fun z => SV.d (.int z))) :: (l, .lst ((ledP ps i).map fun p => SV.d (dPair p))) :: M0 ∧ ledOk ps m met edge = true ∧ metL ps i = ledR ps m met edge) 40
      ⟨_, _, m1, e1, x6, x7, x8, x9, rfl, rfl, hok, rfl⟩ ?_
    rintro m S' M' σ5 H5 ⟨met, edge, ma, ea, y6, y7, y8, y9, rfl, rfl, hm, hr'⟩ st5
    match m, hm, hr' with
    | m + 1, hm, hr' =>
    simp only [ledOk, Bool.and_eq_true, decide_eq_true_eq] at hm
    obtain ⟨⟨h64, he64⟩, hm⟩ := hm
    have sme : ∀ (zs : List Int), (zs.map PyData.int).map SV.d = zs.map fun z => SV.d (.int z) := fun zs => by rw [List.map_map] <;> rfl
    refine ⟨!edge.isEmpty, et_B (ev_opN (o := .lst []) (ev_var rfl) (evn_lst ea_nil (by decide)) fun z => rv_neD (d := .list (edge.map PyData.int)) (e := .list []) ⟨_, rfl, by rw [sme]; exact List.mem_cons_of_mem _ (List.mem_cons_self ..)⟩ ⟨[], rfl, List.mem_cons_self ..⟩ (sh_shaped (sh_ints _)) (sh_shaped sh_nil) (by rw [eqv_nil, List.isEmpty_map])), fun hb H6 st6 => ?_, fun hb H6 st6 => ?_⟩
    · have hne : edge ≠ [] := fun z => by rw [z] at hb; cases hb
      obtain ⟨a, ha⟩ : ∃ a, edge.getLast? = some a := ⟨_, List.getLast?_eq_some_getLast hne⟩
      rw [ha] at hm
      have hr2 : metL ps i = ledR ps m (met ++ freshI ps a met) (edge.dropLast ++ freshI ps a met) := by rw [hr']; simp only [ledR, ha]
      have hlast : (edge.map fun z => SV.d (.int z))[(edge.map fun z => SV.d (.int z)).length - 1]? = some (SV.d (.int a)) := by
        rw [List.length_map, List.getElem?_map, ← List.getLast?_eq_getElem?, ha] <;> rfl
      refine q_pop (n := 0) st6 (ev_var rfl) rfl hlast fun σ7 H7 st7 => ?_
      rw [← List.map_dropLast] at st7
      have st7 : Sat K H [] T2 [some (.d (dPairs ps)), some (.d (.int n)), some (.m l), some (.d (.int i)), some (.m ma), some (.m ea), some (.d (.int a)), y7, y8, y9] ((ea, .lst (edge.dropLast.map fun z => SV.d (.int z))) :: (ma, .lst (met.map fun z => SV.d (.int z))) :: (l, .lst ((ledP ps i).map fun p => SV.d (dPair p))) :: M0) σ7 H7 := st7
      have eps := evi_tup (K := K) (S := [some (.d (dPairs ps)), some (.d (.int n)), some (.m l), some (.d (.int i)), some (.m ma), some (.m ea), some (.d (.int a)), y7, y8, y9]) (M := (ea, .lst (edge.dropLast.map fun z => SV.d (.int z))) :: (ma, .lst (met.map fun z => SV.d (.int z))) :: (l, .lst ((ledP ps i).map fun p => SV.d (dPair p))) :: M0) (te := tVar 0) (ds := ps.map dPair) (ev_var rfl)
      rw [List.map_map] at eps
      have elc := evn_lc (K := K) (xs := ps) (enc := fun q => SV.d (dPair q)) (fS := fun q S => (S.set 8 (some (.d (.int q.1)))).set 9 (some (.d (.int q.2)))) (js := [8, 9]) (vs := [8, 9]) (g := gTup K 2 (gCons (gName 8) (gCons (gName 9) gNil))) (tt := tAnd (tB (tOp rEq (tVar 8) (tVar 6))) (tB (tOp (rInL K true) (tVar 9) (tVar 4)))) (te := tVar 9) (Mn := []) (fun q => decide (q.1 = a) && !decide (q.2 ∈ met)) (fun q => SV.d (.int q.2)) eps (fun _ h => nomatch h) (fun j hj => hj) (by omega) (fun q _ => tg_pair) (fun q _ => et_and (et_B (ev_op (ev_var rfl) (ev_var rfl) rv_eqI)) fun _ => et_B (ev_is (ev_op (ev_var rfl) (ev_var rfl) (rv_inL (neg := true) (l := ma) (ds := met.map PyData.int) (by rw [sme]; exact List.mem_cons_of_mem _ (List.mem_cons_self ..)) rfl (sh_shaped (sh_ints _)))) (by rw [if_pos rfl, any_int]))) (fun q _ _ => ev_var rfl)
      have efr : ((ps.filter fun q => decide (q.1 = a) && !decide (q.2 ∈ met)).map fun q => SV.d (.int q.2)) = (freshI ps a met).map fun z => SV.d (.int z) := by unfold freshI; rw [List.map_map] <;> rfl
      rw [efr] at elc
      refine q_setN st7 elc fun fl σ8 H8 st8 => ?_
      have st8 : Sat K H [] T2 [some (.d (dPairs ps)), some (.d (.int n)), some (.m l), some (.d (.int i)), some (.m ma), some (.m ea), some (.d (.int a)), some (.m fl), y8, y9] ((fl, .lst ((freshI ps a met).map fun z => SV.d (.int z))) :: (ea, .lst (edge.dropLast.map fun z => SV.d (.int z))) :: (ma, .lst (met.map fun z => SV.d (.int z))) :: (l, .lst ((ledP ps i).map fun p => SV.d (dPair p))) :: M0) σ8 H8 := st8
      have hf : (freshI ps a met).length ≤ 64 := by
        unfold freshI
        rw [List.length_map]
        exact Nat.le_trans (List.length_filter_le _ _) hpl
      have hd : edge.dropLast.length ≤ 64 := by rw [List.length_dropLast]; omega
      refine q_tupNN st8 (evn_op (ev_var rfl) (ev_var rfl) (rvn_cat (a := ma) (b := fl) (List.mem_cons_of_mem _ (List.mem_cons_of_mem _ (List.mem_cons_self ..))) (List.mem_cons_self ..) (by rw [List.length_map, List.length_map]; omega))) (fun z => evn_op (ev_var rfl) (ev_var rfl) (rvn_cat (a := ea) (b := fl) (List.mem_cons_of_mem _ (List.mem_cons_of_mem _ (List.mem_cons_self ..))) (List.mem_cons_of_mem _ (List.mem_cons_self ..)) (by rw [List.length_map, List.length_map]; omega))) fun m2 e2 σ9 H9 st9 => ?_
      rw [← List.map_append, ← List.map_append] at st9
      refine ⟨m, Nat.lt_succ_self m, _, _, ⟨_, _, m2, e2, some (.d (.int a)), some (.m fl), y8, y9, rfl, rfl, hm, hr2⟩, st9.drop ?_⟩
      exact List.Sublist.cons_cons _ (List.Sublist.cons_cons _ (List.Sublist.cons _ (List.Sublist.cons _ (List.Sublist.cons _ (List.Sublist.refl _)))))
    · have hnil : edge = [] := by
        cases edge with
        | nil => rfl
        | cons => cases hb
      subst hnil
      have hmt : metL ps i = met := by rw [hr'] <;> rfl
      have hrow : (rowL ps i).length < 64 := Nat.lt_of_le_of_lt (rowL_le ps i) hmet
      have erow : (((sortI met).filter fun z => !decide (z = (i : Int))).map fun z => SV.d (dPair ((i : Int), z))) = (rowL ps i).map fun p => SV.d (dPair p) := by unfold rowL; rw [hmt, List.map_map] <;> rfl
      have hi64 : (ledP ps i).length ≤ 99 * 64 := Nat.le_trans hlen (Nat.mul_le_mul_right _ (by omega))
      have hso : (sortI met).length < 64 := by unfold sortI; rw [List.length_mergeSort]; exact h64
      have ele := evn_lcN (K := K) (S := [some (.d (dPairs ps)), some (.d (.int n)), some (.m l), some (.d (.int i)), some (.m ma), some (.m ea), y6, y7, y8, y9]) (M := (ea, .lst (([] : List Int).map fun z => SV.d (.int z))) :: (ma, .lst (met.map fun z => SV.d (.int z))) :: (l, .lst ((ledP ps i).map fun p => SV.d (dPair p))) :: M0) (te0 := tCB (rSorted K) (tCons (tVar 4) tNil)) (xs := sortI met) (enc := fun z => SV.d (.int z)) (fS := fun z S => S.set 9 (some (.d (.int z)))) (js := [9]) (vs := [9]) (g := gName 9) (tt := tB (tOp rNe (tVar 9) (tVar 3))) (te := tTup (tCons (tVar 3) (tCons (tVar 9) tNil))) (fun z => !decide (z = (i : Int))) (fun z => SV.d (dPair ((i : Int), z))) (evn_cb (ea_cons (ev_var rfl) ea_nil) (rcn_sortI (l := ma) (List.mem_cons_of_mem _ (List.mem_cons_self ..)) h64)) (fun j hj => hj) (by omega) (fun z _ => tg_name) (fun _ z _ => et_B (ev_op (ev_var rfl) (ev_var rfl) rv_neI)) (fun _ z _ _ => ev_tup (ds := [.int i, .int z]) (ea_cons (ev_var rfl) (ea_cons (ev_var rfl) ea_nil)) (by simp))
      rw [erow] at ele
      refine q_extend (n := 2) st6 (ev_var rfl) ele rfl (by rw [List.length_map, List.length_map]; omega) fun H7 st7 => ?_
      refine ⟨_, _, ⟨some (.d (.int i)), some (.m ma), some (.m ea), y6, y7, y8, y9, rfl, rfl, ?_⟩, ?_⟩
      · rw [ledP_succ, List.length_append, Nat.succ_mul]
        omega
      · rw [← List.map_append] at st7
        rw [ledP_succ]
        exact st7.drop (List.Sublist.cons _ (List.Sublist.cons _ (List.Sublist.refl _)))
  · rintro S' M' σ2 H2 ⟨x3, x4, x5, x6, x7, x8, x9, rfl, rfl, hlen⟩ st2
    rw [List.length_map, List.length_range, Int.toNat_natCast] at st2
    have e : (ledP ps n).map (fun p => SV.d (dPair p)) = ((ledP ps n).map dPair).map SV.d := by rw [List.map_map] <;> rfl
    rw [e] at st2
    exact q_ret st2 (ev_cb (ea_cons (ev_var rfl) ea_nil) (rc_tupL (ds := (ledP ps n).map dPair) (List.mem_cons_self ..))) fun v H3 st3 o3 => q _ _ _ _ _ st3 o3
/-- what is asked of a policy, by the mirrors -/
def rightOk (n : Nat) (ps : List (Int × Int)) : Bool := goodPs n ps && farOk n ps && ledAll n ps && decide (farP ps = ledP ps n) && (ps.all fun p => decide (p ∈ farP ps)) && farOk n (farP ps) && decide (farP (farP ps) = farP ps)
def okRight (ss : List SV) (M : Ml) (r : SV) : Prop := ∃ (n : Nat) (ps : List (Int × Int)), ss = [.d (.int n), .d (dPairs ps)] ∧ rightOk n ps = true ∧ r = .d (.bool true)
theorem shown_pairs {n : Int} {ps : List (Int × Int)} (hn : n ≤ 999) (h : ∀ p ∈ ps, goodP n p = true) (hl : ps.length ≤ 1000) : (dPairs ps).shown.length ≤ 35003 ∧ (dPairs ps).showable = true := by
  have pr : ∀ d ∈ ps.map dPair, d.shown.length ≤ 33 ∧ d.showable = true := fun d hd => by
    obtain ⟨p, hp, rfl⟩ := List.mem_map.mp hd
    have g := h p hp
    simp only [goodP, decide_eq_true_eq] at g
    have sh : ∀ d ∈ [PyData.int p.1, PyData.int p.2], d.shown.length ≤ 13 ∧ d.showable = true := fun d hd => by
      rcases List.mem_cons.mp hd with e | hd
      · rw [e]; exact ⟨shown_int13 (by omega), showable_int (by omega)⟩
      · rw [List.mem_singleton.mp hd]; exact ⟨shown_int13 (by omega), showable_int (by omega)⟩
    refine ⟨?_, showable_tup fun d hd => (sh d hd).2⟩
    have z := shown_tup_le fun d hd => (sh d hd).1
    rw [show [PyData.int p.1, PyData.int p.2].length = 2 from rfl] at z
    exact Nat.le_trans z (by decide)
  refine ⟨?_, showable_tup fun d hd => (pr d hd).2⟩
  have z := shown_tup_le fun d hd => (pr d hd).1
  rw [List.length_map] at z
  refine Nat.le_trans z ?_
  omega
theorem cal_right (D : Def K mg "_law_is_right" s_law_is_right ["_law_many", "_law_rules_here"]) (T : Pol K mg C) (c_Policy : Mak P w K mg base 4 "Policy" C (spI K C okInit)) (c__law_led : Cal P w K mg base 1 "_law_led" (spV K okLed))
    (c_Policy_going_on : Met P w K mg base 6 C "going_on" (spN K (okFar C))) (c_Policy_is_within : Met P w K mg base 2 C "is_within" (spV K (okWithin C))) (c_Policy___eq__ : Met P w K mg base 1 C "__eq__" (spV K (okEq C))) : Cal P w K mg base 7 "_law_is_right" (spV K okRight) := by
  refine cal_of (N := ["_law_many", "_law_rules_here", "_law_code", "_law_due", "_law_far"]) D sc_law_is_right (lenV fun ss M r h => by obtain ⟨n, ps, rfl, _⟩ := h; rfl) (bodyV fun f cdv A outer s H E hg hr ss M0 r hw ok => ?_)
  obtain ⟨n, ps, rfl, hok, rfl⟩ := ok
  simp only [rightOk, Bool.and_eq_true, decide_eq_true_eq] at hok
  obtain ⟨⟨⟨⟨⟨⟨h1, h2⟩, h3⟩, h4⟩, h5⟩, h6⟩, h7⟩ := hok
  have hn : n ≤ 99 := by
    simp only [ledAll, Bool.and_eq_true, decide_eq_true_eq] at h3
    exact h3.1.2
  have g1 := good_of h1
  have hfg : goodPs n (farP ps) = true := by
    simp only [farOk, Bool.and_eq_true] at h2
    exact h2.2
  have g2 := good_of hfg
  have n_Policy := T.ne
  refine ⟨_, (pss_cons (ps_par (i := 2) (j := 3) (by rfl) sc_law_is_right.nd rfl rfl (by decide) rfl rfl (pa_cons (pe_mk c_Policy hg hr (by decide) (by rfl) (pa_cons (pv 0) (pa_cons (pv 1) pa_nil))) (pa_cons (pe_c c__law_led hg hr (by decide) (by rfl) (pa_cons (pv 1) (pa_cons (pv 0) pa_nil))) pa_nil)) (by rfl))
      (pss_cons (ps_for PassesOwn.never rfl (pi_tup (pe_tup (pa_cons (pe_mt0 c_Policy_going_on hg hr (by decide) (pv 2)) (pa_cons (pe_mt0 c_Policy_going_on hg hr (by decide) (pv 2)) pa_nil)))) (pg_name (i := 4) sc_law_is_right.nd rfl (Or.inl rfl))
        (pss_cons (ps_if (PW.pt (pw_or (pt_not (pt_val (pe_callB call_isi (by rfl) T.isinstance (by decide +kernel) (pa_cons (pv 4) (pa_cons (pe_gv T.g_Policy (by rfl)) pa_nil))))) (pw_or1 (pt_cmpR op_ne (pe_callB (call_repr hg hr.units) (by rfl) T.repr (by decide +kernel) (pa_cons (pe_tup (pa_cons (pe_fld (pv 4) rfl) (pa_cons (pe_fld (pv 4) rfl) pa_nil))) pa_nil)) (pe_callB (call_repr hg hr.units) (by rfl) T.repr (by decide +kernel) (pa_cons (pe_tup (pa_cons (pv 0) (pa_cons (pv 3) pa_nil))) pa_nil)) (nomark _)))))
          (pss_cons (ps_ret pe_bl) pss_nil)
          pss_nil)
        (pss_cons (ps_if (PW.pt (pw_or (pt_not (pt_val (pe_mt c_Policy_is_within hg hr (by decide) (pv 2) (pa_cons (pv 4) pa_nil)))) (pw_or1 (pt_cmpR (op_neO c_Policy___eq__ n_Policy hg hr (by decide)) (pe_mt0 c_Policy_going_on hg hr (by decide) (pv 4)) (pv 4) (nomark _)))))
          (pss_cons (ps_ret pe_bl) pss_nil)
          pss_nil) pss_nil)))
      (pss_cons (ps_ret (pe_cmpR (op_eqO c_Policy___eq__ hg hr (by decide)) (pv 2) (pe_mk c_Policy hg hr (by decide) (by rfl) (pa_cons (pv 0) (pa_cons (pv 1) pa_nil))) (nomark _))) pss_nil))), fun σ st Q q => ?_⟩
  have st : Sat K H [] H [some (.d (.int n)), some (.d (dPairs ps)), none, none, none] M0 σ H := st
  refine q_parN st (evn_make (fs := polF n ps) (ss := [.d (.int n), .d (dPairs ps)]) (ea_cons (ev_var rfl) (ea_cons (ev_var rfl) ea_nil)) ⟨n, ps, rfl, h1, rfl⟩) (fun p => ev_call (r := .d (dPairs (ledP ps n))) (ea_cons (ev_var rfl) (ea_cons (ev_var rfl) ea_nil)) [] nil_sub (fun _ h => nomatch h) ⟨n, ps, rfl, h3, rfl⟩) fun c σ1 H1 st1 => ?_
  have st1 : Sat K H [] H [some (.d (.int n)), some (.d (dPairs ps)), some (.m c), some (.d (dPairs (ledP ps n))), none] ((c, .ins C (polF n ps)) :: M0) σ1 H1 := st1
  have rd1 : ∀ q ∈ [(c, MO.ins C (polF n ps))], q.2.wr = false := fun q hq => by rw [List.mem_singleton.mp hq] <;> rfl
  refine q_for2N (o := .ins C (polF n (farP ps))) (o' := .ins C (polF n (farP ps))) st1 (evn_meth (ev_var rfl) (List.mem_cons_self ..) rfl ea_nil [(c, .ins C (polF n ps))] (List.Sublist.cons_cons _ (List.nil_sublist _)) rd1 ⟨c, n, ps, rfl, List.mem_cons_self .., h2, rfl⟩)
    (fun p => evn_meth (ev_var rfl) (List.mem_cons_of_mem _ (List.mem_cons_self ..)) rfl ea_nil [(c, .ins C (polF n ps))] (List.Sublist.cons _ (List.Sublist.cons_cons _ (List.nil_sublist _))) rd1 ⟨c, n, ps, rfl, List.mem_cons_self .., h2, rfl⟩)
    (fun p p' t i S' M' => ∃ x4 : Option SV, S' = [some (.d (.int n)), some (.d (dPairs ps)), some (.m c), some (.d (dPairs (ledP ps n))), x4] ∧ M' = (t, .tup [.m p, .m p']) :: (p', .ins C (polF n (farP ps))) :: (p, .ins C (polF n (farP ps))) :: (c, .ins C (polF n ps)) :: M0)
    (fun p p' t => ⟨none, rfl, rfl⟩) (fun p p' t i S' M' h => by obtain ⟨_, _, rfl⟩ := h; exact List.mem_cons_self ..) ?_ ?_
  · rintro p p' t i s S' M' σ2 H2 T2 hs ⟨x4, rfl, rfl⟩ st2 v hv
    obtain ⟨z, rfl, hz⟩ : ∃ z, s = .m z ∧ (z, MO.ins C (polF n (farP ps))) ∈ [(p', MO.ins C (polF n (farP ps))), (p, MO.ins C (polF n (farP ps)))] := by
      match i, hs with
      | 0, hs => exact ⟨p, (Option.some.inj hs).symm, List.mem_cons_of_mem _ (List.mem_cons_self ..)⟩
      | 1, hs => exact ⟨p', (Option.some.inj hs).symm, List.mem_cons_self ..⟩
    have st3 : Sat K H [] T2 [some (.d (.int n)), some (.d (dPairs ps)), some (.m c), some (.d (dPairs (ledP ps n))), some (.m z)] ((t, .tup [.m p, .m p']) :: (p', .ins C (polF n (farP ps))) :: (p, .ins C (polF n (farP ps))) :: (c, .ins C (polF n ps)) :: M0) (σ2.set 4 (some v)) H2 := st2.set hv 4
    have hzM : (z, MO.ins C (polF n (farP ps))) ∈ ((t, MO.tup [.m p, .m p']) :: (p', MO.ins C (polF n (farP ps))) :: (p, MO.ins C (polF n (farP ps))) :: (c, MO.ins C (polF n ps)) :: M0) := List.mem_cons_of_mem _ (List.mem_append_left ((c, MO.ins C (polF n ps)) :: M0) hz)
    have rd3 : ∀ q ∈ [(p', MO.ins C (polF n (farP ps))), (p, MO.ins C (polF n (farP ps))), (c, MO.ins C (polF n ps))], q.2.wr = false := fun q hq => by
      rcases List.mem_cons.mp hq with e | hq
      · rw [e] <;> rfl
      · rcases List.mem_cons.mp hq with e | hq
        · rw [e] <;> rfl
        · rw [List.mem_singleton.mp hq] <;> rfl
    have hz3 : (z, MO.ins C (polF n (farP ps))) ∈ [(p', MO.ins C (polF n (farP ps))), (p, MO.ins C (polF n (farP ps))), (c, MO.ins C (polF n ps))] := List.mem_append_left [(c, MO.ins C (polF n ps))] hz
    have hc3 : (c, MO.ins C (polF n ps)) ∈ [(p', MO.ins C (polF n (farP ps))), (p, MO.ins C (polF n (farP ps))), (c, MO.ins C (polF n ps))] := List.mem_cons_of_mem _ (List.mem_cons_of_mem _ (List.mem_cons_self ..))
    have sub3 : [(p', MO.ins C (polF n (farP ps))), (p, MO.ins C (polF n (farP ps))), (c, MO.ins C (polF n ps))].Sublist ((t, MO.tup [.m p, .m p']) :: (p', MO.ins C (polF n (farP ps))) :: (p, MO.ins C (polF n (farP ps))) :: (c, MO.ins C (polF n ps)) :: M0) := List.Sublist.cons _ (List.Sublist.cons_cons _ (List.Sublist.cons_cons _ (List.Sublist.cons_cons _ (List.nil_sublist _))))
    have big : ∀ qs, (∀ p ∈ qs, goodP n p = true) → qs.length ≤ 1000 → (PyData.tuple [.int n, dPairs qs]).canLay0 = true ∧ (PyData.tuple [.int n, dPairs qs]).depth ≤ 60 ∧ (PyData.tuple [.int n, dPairs qs]).showable = true ∧ (PyData.tuple [.int n, dPairs qs]).shown.length ≤ 100000 := fun qs a1 a2 => by
      obtain ⟨b1, b2⟩ := shown_pairs (by omega) a1 a2
      have sh : Sh 3 (PyData.tuple [.int n, dPairs qs]) := fun d hd => by
        rcases List.mem_cons.mp hd with e | hd
        · rw [e]; exact True.intro
        · rw [List.mem_singleton.mp hd]; exact sh_pairs qs
      obtain ⟨s1, s2⟩ := sh_ok 3 _ sh
      have al : ∀ d ∈ [PyData.int n, dPairs qs], d.shown.length ≤ 35003 ∧ d.showable = true := fun d hd => by
        rcases List.mem_cons.mp hd with e | hd
        · rw [e]; exact ⟨Nat.le_trans (shown_int13 (by omega)) (by decide), showable_int (by omega)⟩
        · rw [List.mem_singleton.mp hd]; exact ⟨b1, b2⟩
      have z := shown_tup_le fun d hd => (al d hd).1
      exact ⟨s1, by omega, showable_tup fun d hd => (al d hd).2, Nat.le_trans z (show 2 * (35003 + 2) + 3 ≤ 100000 by decide)⟩
    obtain ⟨k1, k2, k3, k4⟩ := big (farP ps) g2.2.1 g2.2.2.2
    refine q_if (b := false) st3 (et_is (et_or (a := !true) (et_not (et_test (ev_isO T.ci (ev_var rfl) hzM))) fun _ => et_B (ev_op (ev_cb (ea_cons (ev_tup (ds := [.int n, dPairs (farP ps)]) (ea_cons (ev_fld (ev_var rfl) hzM T.cl T.users rfl) (ea_cons (ev_fld (ev_var rfl) hzM T.cl T.pairs rfl) ea_nil)) (by simp)) ea_nil) (rc_repr k1 k2 k3 k4)) (ev_cb (ea_cons (ev_tup (ds := [.int n, dPairs (ledP ps n)]) (ea_cons (ev_var rfl) (ea_cons (ev_var rfl) ea_nil)) (by simp)) ea_nil) (rc_repr (by rw [← h4]; exact k1) (by rw [← h4]; exact k2) (by rw [← h4]; exact k3) (by rw [← h4]; exact k4))) rv_neS)) (by rw [h4]; simp)) (fun hb _ _ => nomatch hb) (fun _ H3 st4 => ?_)
    refine q_if (b := false) st4 (et_is (et_or (a := !(ps.all fun p => decide (p ∈ farP ps))) (et_not (et_test (ev_meth (ev_var rfl) (sub3.subset hc3) rfl (ea_cons (ev_var rfl) ea_nil) _ sub3 rd3 ⟨c, z, n, ps, farP ps, rfl, hc3, hz3, g1.2.2.2, rfl⟩))) fun _ => et_B (ev_opN1 (o := .ins C (polF n (farP (farP ps)))) (evn_meth (ev_var rfl) hzM rfl ea_nil _ sub3 rd3 ⟨z, n, farP ps, rfl, hz3, h6, rfl⟩) (fun y => ev_var rfl) (fun y => rv_own (C := C) (neg := true) (a := y) (b := z) (t := decide ((n : Int) = n) && decide (farP (farP ps) = farP ps)) (List.mem_cons_self ..) (List.mem_cons_of_mem _ hzM) ((y, .ins C (polF n (farP (farP ps)))) :: [(p', MO.ins C (polF n (farP ps))), (p, MO.ins C (polF n (farP ps))), (c, MO.ins C (polF n ps))]) (List.Sublist.cons_cons _ sub3) (fun q hq => (List.mem_cons.mp hq).elim (fun e => by rw [e] <;> rfl) (rd3 q)) ⟨y, z, n, n, farP (farP ps), farP ps, rfl, List.mem_cons_self .., List.mem_cons_of_mem _ hz3, rfl⟩))) ?_) (fun hb _ _ => nomatch hb) (fun _ H4 st5 => ?_)
    · rw [h5, h7]; simp
    · exact ⟨_, _, ⟨some (.m z), rfl, rfl⟩, st5⟩
  · rintro p p' t S' M' σ2 H2 ⟨x4, rfl, rfl⟩ st2
    refine q_ret st2 (ev_is (ev_opN (o := .ins C (polF n ps)) (ev_var rfl) (evn_make (fs := polF n ps) (ss := [.d (.int n), .d (dPairs ps)]) (ea_cons (ev_var rfl) (ea_cons (ev_var rfl) ea_nil)) ⟨n, ps, rfl, h1, rfl⟩) fun y => rv_own (C := C) (neg := false) (a := c) (b := y) (t := decide ((n : Int) = n) && decide (ps = ps)) (List.mem_cons_of_mem _ (List.mem_cons_of_mem _ (List.mem_cons_of_mem _ (List.mem_cons_of_mem _ (List.mem_cons_self ..))))) (List.mem_cons_self ..) [(y, .ins C (polF n ps)), (c, .ins C (polF n ps))] (List.Sublist.cons_cons _ (List.Sublist.cons _ (List.Sublist.cons _ (List.Sublist.cons _ (List.Sublist.cons_cons _ (List.nil_sublist _)))))) (fun q hq => (List.mem_cons.mp hq).elim (fun e => by rw [e] <;> rfl) (rd1 q)) ⟨c, y, n, n, ps, ps, rfl, List.mem_cons_of_mem _ (List.mem_cons_self ..), List.mem_cons_self .., rfl⟩) ?_) fun v H3 st3 o3 => q _ _ _ _ _ st3 o3
    simp
end
end Tw

/-! ### plain: what goes on of a policy is what the walks find -/
namespace Tw
open PySem L2
inductive Way (ps : List (Int × Int)) : Int → Int → Prop
  | one {a b : Int} : (a, b) ∈ ps → Way ps a b
  | more {a b c : Int} : Way ps a b → (b, c) ∈ ps → Way ps a c
section
variable {ps f l : List (Int × Int)} {p q : Int × Int} {a b c : Int} {n : Nat}
theorem Way.trans (h : Way ps a b) (g : Way ps b c) : Way ps a c := by
  induction g with
  | one e => exact .more h e
  | more _ e ih => exact .more ih e
theorem mem_addP : q ∈ addP f p ↔ q ∈ f ∨ q = p := by
  unfold addP
  split
  · next h => exact ⟨.inl, fun z => z.elim id fun e => e ▸ h⟩
  · simp
theorem nodup_addP (h : f.Nodup) : (addP f p).Nodup := by
  unfold addP
  split
  · exact h
  · next hp => exact List.nodup_append.mpr ⟨h, by simp, fun x hx y hy e => by rw [List.mem_singleton.mp hy] at e; exact hp (e ▸ hx)⟩
theorem pre_addP : f <+: addP f p := by
  unfold addP
  split
  · exact List.prefix_refl _
  · exact List.prefix_append _ _
theorem mem_addPs : ∀ {l f : List (Int × Int)}, q ∈ addPs f l ↔ q ∈ f ∨ q ∈ l
  | [], f => by simp [addPs]
  | p :: l, f => by
    show q ∈ addPs (addP f p) l ↔ _
    rw [mem_addPs, mem_addP, List.mem_cons]
    exact or_assoc
theorem nodup_addPs : ∀ {l f : List (Int × Int)}, f.Nodup → (addPs f l).Nodup
  | [], _, h => h
  | _ :: l, _, h => nodup_addPs (l := l) (nodup_addP h)
theorem pre_addPs : ∀ {l f : List (Int × Int)}, f <+: addPs f l
  | [], _ => List.prefix_refl _
  | _ :: l, _ => pre_addP.trans (pre_addPs (l := l))
theorem mem_furP {z : Int} : z ∈ furP ps p ↔ (p.2, z) ∈ ps ∧ z ≠ p.1 := by
  unfold furP
  simp only [List.mem_map, List.mem_filter, Bool.and_eq_true, decide_eq_true_eq, Bool.not_eq_true', decide_eq_false_iff_not]
  constructor
  · rintro ⟨⟨x, y⟩, ⟨h1, h2, h3⟩, rfl⟩
    simp only at h2 h3
    exact ⟨h2 ▸ h1, h3⟩
  · rintro ⟨h1, h2⟩
    exact ⟨(p.2, z), ⟨h1, rfl, h2⟩, rfl⟩
def Nxt (ps : List (Int × Int)) (p q : Int × Int) : Prop := q.1 = p.1 ∧ (p.2, q.2) ∈ ps ∧ q.2 ≠ p.1
theorem mem_stepP : q ∈ stepP ps f p ↔ q ∈ f ∨ Nxt ps p q := by
  unfold stepP
  rw [mem_addPs, mem_addPs]
  simp only [List.not_mem_nil, false_or, List.mem_map, mem_furP]
  refine or_congr Iff.rfl ⟨?_, fun h => ⟨q.2, h.2, Prod.ext h.1.symm rfl⟩⟩
  rintro ⟨z, h, rfl⟩
  exact ⟨rfl, h⟩
theorem mem_foldP : ∀ {l f : List (Int × Int)}, q ∈ l.foldl (stepP ps) f ↔ q ∈ f ∨ ∃ p ∈ l, Nxt ps p q
  | [], f => by simp
  | p :: l, f => by
    rw [List.foldl_cons, mem_foldP, mem_stepP, or_assoc]
    simp
theorem nodup_foldP : ∀ {l f : List (Int × Int)}, f.Nodup → (l.foldl (stepP ps) f).Nodup
  | [], _, h => h
  | _ :: l, _, h => nodup_foldP (l := l) (nodup_addPs h)
theorem pre_foldP : ∀ {l f : List (Int × Int)}, f <+: l.foldl (stepP ps) f
  | [], _ => List.prefix_refl _
  | _ :: l, _ => pre_addPs.trans (pre_foldP (l := l))
structure GoI (ps f : List (Int × Int)) : Prop where
  sound : ∀ p ∈ f, Way ps p.1 p.2 ∧ p.1 ≠ p.2
  has : ∀ p ∈ ps, p ∈ f
  nd : f.Nodup
def Clo (ps f : List (Int × Int)) : Prop := ∀ p ∈ f, ∀ q, Nxt ps p q → q ∈ f
theorem GoI.pass (h : GoI ps f) : GoI ps (passP ps f) := by
  refine ⟨fun q hq => ?_, fun p hp => mem_foldP.mpr (.inl (h.has p hp)), nodup_foldP h.nd⟩
  rcases mem_foldP.mp hq with z | ⟨p, hp, h1, h2, h3⟩
  · exact h.sound q z
  · rw [h1]
    exact ⟨.more (h.sound p hp).1 h2, fun e => h3 e.symm⟩
theorem clo_of (e : (passP ps f).length = f.length) : passP ps f = f ∧ Clo ps f := by
  have z : passP ps f = f := ((pre_foldP (ps := ps) (l := f) (f := f)).eq_of_length e.symm).symm
  refine ⟨z, fun p hp q hq => ?_⟩
  have w : q ∈ passP ps f := mem_foldP.mpr (.inr ⟨p, hp, hq⟩)
  rw [z] at w
  exact w
theorem goP_spec {n : Int} : ∀ (m : Nat) (f : List (Int × Int)) (old : Int), GoI ps f → ((f.length : Int) = old → Clo ps f) → goOk n ps m f old = true → GoI ps (goP ps m f old) ∧ Clo ps (goP ps m f old)
  | 0, _, _, _, _, h => by cases h
  | m + 1, f, old, g, c, h => by
    by_cases e : (f.length : Int) = old
    · simp only [goP, if_pos e]; exact ⟨g, c e⟩
    · simp only [goP, if_neg e]
      simp only [goOk, Bool.and_eq_true, Bool.or_eq_true, decide_eq_true_eq] at h
      refine goP_spec m _ _ g.pass (fun e2 => ?_) (h.2.resolve_left e)
      obtain ⟨z, w⟩ := clo_of (ps := ps) (f := f) (Int.ofNat.inj e2)
      rw [z]; exact w
theorem go_mem (g : GoI ps f) (c : Clo ps f) : q ∈ f ↔ q.1 ≠ q.2 ∧ Way ps q.1 q.2 := by
  refine ⟨fun h => ⟨(g.sound q h).2, (g.sound q h).1⟩, fun ⟨h1, h2⟩ => ?_⟩
  have key : ∀ {a b : Int}, Way ps a b → a ≠ b → (a, b) ∈ f := by
    intro a b h
    induction h with
    | one e => intro _; exact g.has _ e
    | @more b c' h e ih =>
      intro hne
      by_cases hab : a = b
      · subst hab; exact g.has _ e
      · exact c (a, b) (ih hab) (a, c') ⟨rfl, e, fun z => hne z.symm⟩
  exact key h2 h1
/-! how many there can be -/
theorem grid_le (h : ∀ p ∈ f, goodP n p = true) (nd : f.Nodup) : f.length ≤ n * n := by
  have z := L2.nat_nodup_len (f.map fun p => p.1.toNat * n + p.2.toNat) (List.range (n * n)) ?_ ?_
  · rw [List.length_map, List.length_range] at z; exact z
  · refine List.pairwise_map.mpr (nd.imp_of_mem fun {p q} hp hq hne e => hne ?_)
    have g1 := h p hp
    have g2 := h q hq
    simp only [goodP, decide_eq_true_eq] at g1 g2
    have b1 : p.2.toNat < n := by omega
    have b2 : q.2.toNat < n := by omega
    have e1 : p.1.toNat = q.1.toNat := by
      have d1 : (p.1.toNat * n + p.2.toNat) / n = p.1.toNat := by rw [Nat.mul_comm, Nat.mul_add_div (by omega), Nat.div_eq_of_lt b1, Nat.add_zero]
      have d2 : (q.1.toNat * n + q.2.toNat) / n = q.1.toNat := by rw [Nat.mul_comm, Nat.mul_add_div (by omega), Nat.div_eq_of_lt b2, Nat.add_zero]
      rw [← d1, ← d2, e]
    have e2 : p.2.toNat = q.2.toNat := by rw [e1] at e; omega
    exact Prod.ext (by omega) (by omega)
  · intro x hx
    obtain ⟨p, hp, rfl⟩ := List.mem_map.mp hx
    have g1 := h p hp
    simp only [goodP, decide_eq_true_eq] at g1
    have b1 : p.2.toNat < n := by omega
    have b2 : p.1.toNat + 1 ≤ n := by omega
    have b3 := Nat.mul_le_mul_right n b2
    rw [Nat.add_mul] at b3
    rw [List.mem_range]
    omega
theorem way_in (h : ∀ p ∈ ps, goodP n p = true) (w : Way ps a b) : 0 ≤ a ∧ a < n ∧ 0 ≤ b ∧ b < n := by
  induction w with
  | one e =>
    have g := h _ e
    simp only [goodP, decide_eq_true_eq] at g
    omega
  | more _ e ih =>
    have g := h _ e
    simp only [goodP, decide_eq_true_eq] at g
    omega
theorem GoI.good (h : ∀ p ∈ ps, goodP n p = true) (g : GoI ps f) : ∀ p ∈ f, goodP n p = true := fun p hp => by
  have z := way_in h (g.sound p hp).1
  have w := (g.sound p hp).2
  simp only [goodP, decide_eq_true_eq]
  exact ⟨z.1, z.2.1, z.2.2.1, z.2.2.2, w⟩
theorem goOk_of (h : ∀ p ∈ ps, goodP n p = true) (hn : n ≤ 4) : ∀ (m : Nat) (f : List (Int × Int)) (old : Int), GoI ps f → 1 ≤ m → ((f.length : Int) ≠ old → n * n + 2 ≤ m + f.length) → goOk n ps m f old = true
  | 0, _, _, _, h1, _ => by omega
  | m + 1, f, old, g, _, h2 => by
    have gd := g.good h
    have bd := grid_le gd g.nd
    have hnn : n * n ≤ 4 * 4 := Nat.mul_le_mul hn hn
    simp only [goOk, Bool.and_eq_true, Bool.or_eq_true, decide_eq_true_eq, List.all_eq_true]
    refine ⟨⟨gd, by omega⟩, ?_⟩
    by_cases e : (f.length : Int) = old
    · exact .inl e
    · have z := h2 e
      have ple := (pre_foldP (ps := ps) (l := f) (f := f)).length_le
      refine .inr (goOk_of h hn m _ _ g.pass (by omega) fun e2 => ?_)
      have e3 : (passP ps f).length ≠ f.length := fun w => e2 (by rw [w])
      have ple : f.length ≤ (passP ps f).length := ple
      omega
/-- strictly ascending -/
def ltL (p q : Int × Int) : Prop := leP p q = true ∧ p ≠ q
theorem ltL_irr : ¬ ltL p p := fun h => h.2 rfl
theorem ltL_trans {r : Int × Int} (h1 : ltL p q) (h2 : ltL q r) : ltL p r := ⟨leP_trans _ _ _ h1.1 h2.1, fun e => by
  subst e
  exact h1.2 (leP_anti h1.1 h2.1)⟩
theorem eq_of_rise : ∀ {l m : List (Int × Int)}, l.Pairwise ltL → m.Pairwise ltL → (∀ x, x ∈ l ↔ x ∈ m) → l = m
  | [], [], _, _, _ => rfl
  | [], y :: m, _, _, h => by have z := (h y).mpr (List.mem_cons_self ..); cases z
  | x :: l, [], _, _, h => by have z := (h x).mp (List.mem_cons_self ..); cases z
  | x :: l, y :: m, h1, h2, h => by
    obtain ⟨a1, a2⟩ := List.pairwise_cons.mp h1
    obtain ⟨b1, b2⟩ := List.pairwise_cons.mp h2
    have e : x = y := by
      rcases List.mem_cons.mp ((h x).mp (List.mem_cons_self ..)) with z | z
      · exact z
      · rcases List.mem_cons.mp ((h y).mpr (List.mem_cons_self ..)) with w | w
        · exact w.symm
        · exact absurd (ltL_trans (a1 y w) (b1 x z)) ltL_irr
    subst e
    rw [eq_of_rise a2 b2 fun z => ?_]
    constructor
    · intro hz
      rcases List.mem_cons.mp ((h z).mp (List.mem_cons_of_mem _ hz)) with w | w
      · subst w; exact absurd (a1 z hz) ltL_irr
      · exact w
    · intro hz
      rcases List.mem_cons.mp ((h z).mpr (List.mem_cons_of_mem _ hz)) with w | w
      · subst w; exact absurd (b1 z hz) ltL_irr
      · exact w
theorem rise_of : ∀ {l : List (Int × Int)}, l.Pairwise ltL → riseP l = true
  | [], _ => rfl
  | [_], _ => rfl
  | p :: q :: r, h => by
    obtain ⟨h1, h2⟩ := List.pairwise_cons.mp h
    have ih := rise_of h2
    have e : riseP (p :: q :: r) = (ltP p q && riseP (q :: r)) := rfl
    rw [e, ih, Bool.and_true]
    obtain ⟨z1, z2⟩ := h1 q (List.mem_cons_self ..)
    unfold ltP
    simp only [leP, decide_eq_true_eq] at z1
    simp only [HT.lexLt]
    split
    · next e1 =>
      split
      · next e2 => exact absurd (Prod.ext e1 e2) z2
      · simp; omega
    · simp; omega
theorem sort_rise (h : f.Nodup) : (sortP f).Pairwise ltL := by
  have h1 : (sortP f).Pairwise fun a b => leP a b = true := List.pairwise_mergeSort leP_trans leP_total f
  have h2 : (sortP f).Nodup := (List.mergeSort_perm f leP).nodup_iff.mpr h
  exact h1.imp₂ (fun _ _ a b => ⟨a, b⟩) h2
theorem mem_sort : q ∈ sortP f ↔ q ∈ f := (List.mergeSort_perm f leP).mem_iff
theorem rise_nodup (h : f.Pairwise ltL) : f.Nodup := h.imp fun z => z.2
/-- what far is -/
theorem far_spec (hn : n ≤ 4) (h : ∀ p ∈ ps, goodP n p = true) (hr : ps.Pairwise ltL) : goOk n ps 20 (addPs [] ps) (-1) = true ∧ (farP ps).Pairwise ltL ∧ ∀ q, q ∈ farP ps ↔ q.1 ≠ q.2 ∧ Way ps q.1 q.2 := by
  have g0 : GoI ps (addPs [] ps) := by
    refine ⟨fun p hp => ?_, fun p hp => mem_addPs.mpr (.inr hp), nodup_addPs List.nodup_nil⟩
    have hp : p ∈ ps := (mem_addPs.mp hp).resolve_left (by simp)
    have g := h p hp
    simp only [goodP, decide_eq_true_eq] at g
    exact ⟨.one hp, g.2.2.2.2⟩
  have hnn : n * n ≤ 4 * 4 := Nat.mul_le_mul hn hn
  have ok := goOk_of h hn 20 _ (-1) g0 (by omega) fun _ => by omega
  obtain ⟨g1, c1⟩ := goP_spec 20 _ (-1) g0 (fun e => by omega) ok
  exact ⟨ok, sort_rise g1.nd, fun q => by unfold farP; rw [mem_sort]; exact go_mem g1 c1⟩
end
/-! the walks -/
section
variable {ps : List (Int × Int)} {met edge : List Int} {s a x : Int} {n : Nat}
theorem mem_freshI : x ∈ freshI ps a met ↔ (a, x) ∈ ps ∧ x ∉ met := by
  unfold freshI
  simp only [List.mem_map, List.mem_filter, Bool.and_eq_true, decide_eq_true_eq, Bool.not_eq_true', decide_eq_false_iff_not]
  constructor
  · rintro ⟨⟨y, z⟩, ⟨h1, h2, h3⟩, rfl⟩
    simp only at h2 h3
    exact ⟨h2 ▸ h1, h3⟩
  · rintro ⟨h1, h2⟩
    exact ⟨(a, x), ⟨h1, rfl, h2⟩, rfl⟩
theorem nodup_freshI (h : ps.Nodup) : (freshI ps a met).Nodup := by
  unfold freshI
  refine List.pairwise_map.mpr ((h.filter _).imp_of_mem fun {p q} hp hq hne e => hne ?_)
  simp only [List.mem_filter, Bool.and_eq_true, decide_eq_true_eq] at hp hq
  exact Prod.ext (hp.2.1.trans hq.2.1.symm) e
structure LedI (ps : List (Int × Int)) (s : Int) (met edge : List Int) : Prop where
  st : s ∈ met
  sound : ∀ x ∈ met, x = s ∨ Way ps s x
  sub : ∀ x ∈ edge, x ∈ met
  done : ∀ x ∈ met, x ∉ edge → ∀ y, (x, y) ∈ ps → y ∈ met
  nd : met.Nodup
theorem LedI.step (hp : ps.Nodup) {ys : List Int} (g : LedI ps s met (ys ++ [a])) : LedI ps s (met ++ freshI ps a met) (ys ++ freshI ps a met) := by
  have ham : a ∈ met := g.sub a (by simp)
  refine ⟨List.mem_append_left _ g.st, fun x hx => ?_, fun x hx => ?_, fun x hx hn y hy => ?_, ?_⟩
  · rcases List.mem_append.mp hx with z | z
    · exact g.sound x z
    · have e := (mem_freshI.mp z).1
      rcases g.sound a ham with w | w
      · subst w; exact .inr (.one e)
      · exact .inr (.more w e)
  · rcases List.mem_append.mp hx with z | z
    · exact List.mem_append_left _ (g.sub x (List.mem_append_left _ z))
    · exact List.mem_append_right _ z
  · rw [List.mem_append, not_or] at hn
    have hx : x ∈ met := (List.mem_append.mp hx).resolve_right hn.2
    by_cases e : x = a
    · subst e
      by_cases hm : y ∈ met
      · exact List.mem_append_left _ hm
      · exact List.mem_append_right _ (mem_freshI.mpr ⟨hy, hm⟩)
    · refine List.mem_append_left _ (g.done x hx ?_ y hy)
      rw [List.mem_append, not_or]
      exact ⟨hn.1, fun z => e (List.mem_singleton.mp z)⟩
  · refine List.nodup_append.mpr ⟨g.nd, nodup_freshI hp, fun y hy z hz e => ?_⟩
    subst e
    exact (mem_freshI.mp hz).2 hy
theorem ledR_spec (hp : ps.Nodup) : ∀ (m : Nat) (met edge : List Int), LedI ps s met edge → ledOk ps m met edge = true → (ledR ps m met edge).Nodup ∧ ∀ x, x ∈ ledR ps m met edge ↔ x = s ∨ Way ps s x
  | 0, _, _, _, h => by cases h
  | m + 1, met, edge, g, h => by
    simp only [ledOk, Bool.and_eq_true, decide_eq_true_eq] at h
    simp only [ledR]
    cases he : edge.getLast? with
    | none =>
      have e0 : edge = [] := List.getLast?_eq_none_iff.mp he
      subst e0
      refine ⟨g.nd, fun x => ⟨g.sound x, fun hx => ?_⟩⟩
      have cl : ∀ y, Way ps s y → y ∈ met := fun y w => by
        induction w with
        | one e => exact g.done _ g.st (by simp) _ e
        | more _ e ih => exact g.done _ ih (by simp) _ e
      rcases hx with e | w
      · subst e; exact g.st
      · exact cl x w
    | some a =>
      rw [he] at h
      obtain ⟨ys, e0⟩ := List.getLast?_eq_some_iff.mp he
      subst e0
      rw [List.dropLast_concat] at h ⊢
      exact ledR_spec hp m _ _ (g.step hp) h.2
theorem met_le (h : ∀ x ∈ met, 0 ≤ x ∧ x < n) (nd : met.Nodup) : met.length ≤ n := by
  have z := L2.nat_nodup_len (met.map Int.toNat) (List.range n) ?_ ?_
  · rw [List.length_map, List.length_range] at z; exact z
  · refine List.pairwise_map.mpr (nd.imp_of_mem fun {p q} hp hq hne e => hne ?_)
    have g1 := h p hp
    have g2 := h q hq
    omega
  · intro x hx
    obtain ⟨p, hp, rfl⟩ := List.mem_map.mp hx
    have g1 := h p hp
    rw [List.mem_range]
    omega
theorem ledOk_of (h : ∀ p ∈ ps, goodP n p = true) (hp : ps.Nodup) (hn : n ≤ 4) (hs : 0 ≤ s ∧ s < n) : ∀ (m : Nat) (met edge : List Int), LedI ps s met edge → m ≤ 64 → edge.length + n + 1 ≤ m + met.length → ledOk ps m met edge = true
  | 0, met, edge, g, _, h2 => by
    have z := met_le (n := n) (fun x hx => (g.sound x hx).elim (fun e => by rw [e]; exact hs) fun w => by have z := way_in h w; omega) g.nd
    omega
  | m + 1, met, edge, g, h1, h2 => by
    have z := met_le (n := n) (fun x hx => (g.sound x hx).elim (fun e => by rw [e]; exact hs) fun w => by have z := way_in h w; omega) g.nd
    simp only [ledOk, Bool.and_eq_true, decide_eq_true_eq]
    refine ⟨⟨by omega, by omega⟩, ?_⟩
    cases he : edge.getLast? with
    | none => rfl
    | some a =>
      obtain ⟨ys, e0⟩ := List.getLast?_eq_some_iff.mp he
      subst e0
      simp only [List.dropLast_concat]
      refine ledOk_of h hp hn hs m _ _ (g.step hp) (by omega) ?_
      rw [List.length_append, List.length_append]
      rw [List.length_append] at h2
      simp only [List.length_cons, List.length_nil] at h2
      omega
theorem met_spec (h : ∀ p ∈ ps, goodP n p = true) (hp : ps.Nodup) (hn : n ≤ 4) (hs : 0 ≤ s ∧ s < n) : ledOk ps 40 [s] [s] = true ∧ (metL ps s).length ≤ n ∧ (metL ps s).Nodup ∧ ∀ x, x ∈ metL ps s ↔ x = s ∨ Way ps s x := by
  have g0 : LedI ps s [s] [s] := ⟨by simp, fun x hx => .inl (List.mem_singleton.mp hx), fun x hx => hx, fun x hx hn => absurd hx hn, by simp⟩
  have ok := ledOk_of h hp hn hs 40 _ _ g0 (by omega) (by simp; omega)
  obtain ⟨z1, z2⟩ := ledR_spec hp 40 _ _ g0 ok
  refine ⟨ok, met_le (fun x hx => ?_) z1, z1, z2⟩
  rcases (z2 x).mp hx with e | w
  · rw [e]; exact hs
  · have z := way_in h w; omega
theorem row_spec (h : ∀ p ∈ ps, goodP n p = true) (hp : ps.Nodup) (hn : n ≤ 4) (hs : 0 ≤ s ∧ s < n) : (rowL ps s).Pairwise ltL ∧ ∀ q, q ∈ rowL ps s ↔ q.1 = s ∧ q.2 ≠ s ∧ Way ps s q.2 := by
  obtain ⟨_, _, nd, me⟩ := met_spec h hp hn hs
  have pm : (sortI (metL ps s)).Perm (metL ps s) := List.mergeSort_perm _ _
  have le : (sortI (metL ps s)).Pairwise (fun a b => a ≤ b) := by
    have z := List.pairwise_mergeSort (le := fun (a b : Int) => decide (a ≤ b)) (fun a b c h1 h2 => by simp at *; omega) (fun a b => by simp; omega) (metL ps s)
    exact z.imp fun h => by simpa using h
  have ne : (sortI (metL ps s)).Nodup := pm.nodup_iff.mpr nd
  refine ⟨?_, fun q => ?_⟩
  · unfold rowL
    refine List.pairwise_map.mpr ((List.Pairwise.imp₂ (fun a b h1 h2 => And.intro h1 h2) le ne).filter _ |>.imp fun {a b} z => ⟨?_, fun e => z.2 (congrArg Prod.snd e)⟩)
    simp only [leP, decide_eq_true_eq]
    exact .inr ⟨by trivial, z.1⟩
  · unfold rowL
    simp only [List.mem_map, List.mem_filter, Bool.not_eq_true', decide_eq_false_iff_not, pm.mem_iff, me]
    constructor
    · rintro ⟨z, ⟨h1, h2⟩, rfl⟩
      exact ⟨rfl, h2, h1.resolve_left h2⟩
    · rintro ⟨h1, h2, h3⟩
      exact ⟨q.2, ⟨.inr h3, h2⟩, Prod.ext h1.symm rfl⟩
theorem ledP_spec (h : ∀ p ∈ ps, goodP n p = true) (hp : ps.Nodup) (hn : n ≤ 4) : ∀ i, i ≤ n → (ledP ps i).Pairwise ltL ∧ ∀ q, q ∈ ledP ps i ↔ (0 ≤ q.1 ∧ q.1 < i) ∧ q.1 ≠ q.2 ∧ Way ps q.1 q.2
  | 0, _ => by
    refine ⟨by simp [ledP], fun q => ?_⟩
    simp only [ledP, List.range_zero, List.flatMap_nil, List.not_mem_nil, false_iff]
    omega
  | i + 1, hi => by
    obtain ⟨z1, z2⟩ := ledP_spec h hp hn i (by omega)
    obtain ⟨w1, w2⟩ := row_spec (s := (i : Int)) h hp hn (by omega)
    rw [ledP_succ]
    refine ⟨List.pairwise_append.mpr ⟨z1, w1, fun p hp' q hq => ?_⟩, fun q => ?_⟩
    · have e1 := ((z2 p).mp hp').1
      have e2 := ((w2 q).mp hq).1
      refine ⟨?_, fun e => ?_⟩
      · simp only [leP, decide_eq_true_eq]; omega
      · rw [e] at e1; omega
    · rw [List.mem_append, z2, w2]
      constructor
      · rintro (⟨a1, a2, a3⟩ | ⟨a1, a2, a3⟩)
        · exact ⟨by omega, a2, a3⟩
        · exact ⟨by omega, by omega, by rw [a1]; exact a3⟩
      · rintro ⟨a1, a2, a3⟩
        by_cases e : q.1 = i
        · exact .inr ⟨e, by omega, by rw [← e]; exact a3⟩
        · exact .inl ⟨by omega, a2, a3⟩
theorem far_good (hn : n ≤ 4) (h : ∀ p ∈ ps, goodP n p = true) (hr : ps.Pairwise ltL) : (∀ p ∈ farP ps, goodP n p = true) ∧ (farP ps).length ≤ 16 := by
  obtain ⟨_, f1, f2⟩ := far_spec hn h hr
  have g : ∀ p ∈ farP ps, goodP n p = true := fun p hp => by
    obtain ⟨a1, a2⟩ := (f2 p).mp hp
    have z := way_in h a2
    simp only [goodP, decide_eq_true_eq]
    exact ⟨z.1, z.2.1, z.2.2.1, z.2.2.2, a1⟩
  have hnn : n * n ≤ 4 * 4 := Nat.mul_le_mul hn hn
  exact ⟨g, Nat.le_trans (grid_le g (rise_nodup f1)) hnn⟩
theorem goodPs_of (h1 : 1 ≤ n) (h : ∀ p ∈ ps, goodP n p = true) (hr : ps.Pairwise ltL) (hl : ps.length ≤ 1000) : goodPs n ps = true := by
  simp only [goodPs, Bool.and_eq_true, decide_eq_true_eq, List.all_eq_true]
  exact ⟨⟨⟨by omega, h⟩, rise_of hr⟩, hl⟩
theorem farOk_of (h1 : 1 ≤ n) (hn : n ≤ 4) (h : ∀ p ∈ ps, goodP n p = true) (hr : ps.Pairwise ltL) (hl : ps.length ≤ 64) : farOk n ps = true := by
  obtain ⟨f0, f1, f2⟩ := far_spec hn h hr
  obtain ⟨g1, g2⟩ := far_good hn h hr
  simp only [farOk, Bool.and_eq_true, decide_eq_true_eq]
  exact ⟨⟨hl, f0⟩, goodPs_of h1 g1 f1 (by omega)⟩
theorem way_far (hn : n ≤ 4) (h : ∀ p ∈ ps, goodP n p = true) (hr : ps.Pairwise ltL) {a b : Int} (w : Way (farP ps) a b) : Way ps a b := by
  obtain ⟨_, f1, f2⟩ := far_spec hn h hr
  induction w with
  | one e => exact ((f2 _).mp e).2
  | more _ e ih => exact ih.trans ((f2 _).mp e).2
theorem rightOk_of (h1 : 1 ≤ n) (hn : n ≤ 4) (h : ∀ p ∈ ps, goodP n p = true) (hr : ps.Pairwise ltL) (hl : ps.length ≤ 64) : rightOk n ps = true := by
  obtain ⟨f0, f1, f2⟩ := far_spec hn h hr
  obtain ⟨g1, g2⟩ := far_good hn h hr
  obtain ⟨l1, l2⟩ := ledP_spec h (rise_nodup hr) hn n (Nat.le_refl n)
  have e1 : farP ps = ledP ps n := eq_of_rise f1 l1 fun q => by
    rw [f2, l2]
    refine ⟨fun z => ⟨?_, z⟩, fun z => z.2⟩
    have w := way_in h z.2
    exact ⟨w.1, w.2.1⟩
  have e2 : farP (farP ps) = farP ps := by
    obtain ⟨_, k1, k2⟩ := far_spec hn g1 f1
    refine eq_of_rise k1 f1 fun q => ?_
    rw [k2, f2]
    exact and_congr_right fun hne => ⟨way_far hn h hr, fun w => .one ((f2 q).mpr ⟨hne, w⟩)⟩
  simp only [rightOk, Bool.and_eq_true, decide_eq_true_eq, List.all_eq_true]
  refine ⟨⟨⟨⟨⟨⟨goodPs_of h1 h hr (by omega), farOk_of h1 hn h hr hl⟩, ?_⟩, e1⟩, fun p hp => ?_⟩, farOk_of h1 hn g1 f1 (by omega)⟩, e2⟩
  · simp only [ledAll, Bool.and_eq_true, decide_eq_true_eq, List.all_eq_true]
    refine ⟨⟨hl, by omega⟩, fun i hi => ?_⟩
    have hi := List.mem_range.mp hi
    obtain ⟨m1, m2, _⟩ := met_spec (s := (i : Int)) h (rise_nodup hr) hn (by omega)
    exact ⟨m1, by omega⟩
  · have g := h p hp
    simp only [goodP, decide_eq_true_eq] at g
    exact (f2 p).mpr ⟨g.2.2.2.2, .one hp⟩
end
theorem all_facts : ∀ n : Nat, 1 ≤ n → n ≤ 4 → (allP n n).Pairwise (fun p q => leP p q = true ∧ p ≠ q) ∧ (∀ p ∈ allP n n, goodP n p = true) ∧ (allP n n).length ≤ 64
  | 1, _, _ => by decide +kernel
  | 2, _, _ => by decide +kernel
  | 3, _, _ => by decide +kernel
  | 4, _, _ => by decide +kernel
  | 0, h, _ => absurd h (by decide)
  | n + 5, _, h => absurd h (by omega)
theorem right_all {n : Nat} {ps : List (Int × Int)} (h1 : 1 ≤ n) (h4 : n ≤ 4) (hs : ps.Sublist (allP n n)) : rightOk n ps = true := by
  obtain ⟨a, b, c⟩ := all_facts n h1 h4
  exact rightOk_of h1 h4 (fun p hp => b p (hs.subset hp)) (List.Pairwise.sublist hs a) (Nat.le_trans hs.length_le c)
end Tw

/-! ### the law k04 -/
namespace Tw
open PySem L2
abbrev s_law : Stmt := topS 31
theorem sc_law : FnScope ["_law_script", "_law_deck_here", "_law_go", "_law_many", "_law_row", "_law_back", "_law_rules_here", "_law_size"] ["_law_script"] (defScope s_law) := ⟨rfl, rfl, rfl, by decide +kernel, rfl, by decide +kernel, by decide +kernel⟩
section
variable {K : PySem.W.Frag} {B : Hp} {X : List Addr} {T : Hp} {S : Sl} {M : Ml} {σ : St} {H : Hp} {tas : TA} {D : Ends} {tz : TS} {E : XK}
theorem q_deck {i j : Nat} {a : Addr} {ns : List Int} (st : Sat K B X T S [] σ H) (hi : S[i]? = some (some (.m a))) (hs : SqL K H a (ns.map V.int)) (hl : ns.length ≤ 63)
    (k : ∀ dk cl σ' H', Sat K B X T (S.set j (some (.m dk))) (dkM dk cl 0 []) σ' H' → tz D σ' H') : tSeq (tAsg (tCall (spDeck K) [] E (tCons (tVar i) tNil)) (gName j)) tz D σ H := by
  obtain ⟨v, h1, h2⟩ := st.sl i _ hi
  have hv : v = .ref a := h2
  subst hv
  refine ⟨_, h1, a, ns, rfl, hs, hl, fun dk cl H' e DA f1 f2 => k dk cl _ _ (Sat.set ?_ (s := .m dk) rfl j)⟩
  obtain ⟨ne, s0, n0, cs, a1, a2, a3, a4, a5, g1, g2⟩ := DA
  have b := st.same e
  refine ⟨b.len, b.sl, fun p hp => ?_, by simp [dkM, ne], fun p hp _ => ?_, b.old, b.kp, b.tp⟩
  · rcases List.mem_cons.mp hp with z | hp
    · subst z; exact ⟨s0, n0, a1, a2, a3, a4, g1⟩
    · rw [List.mem_singleton.mp hp]; exact ⟨cs, a5, g2⟩
  · rcases List.mem_cons.mp hp with z | hp
    · subst z; exact .inl (st.fresh f1).1
    · rw [List.mem_singleton.mp hp]; exact .inl (st.fresh f2).1
theorem evx_callV {ok : List SV → Ml → SV → Prop} {R : List SV → Ml → Prop} {Rr : SV → Ml → Prop} (ha : EvXA K tas S M R) (h : ∀ ss M', R ss M' → ∃ r, ok ss [] r ∧ Rr r M') : EvX K (tCall (spV K ok) [] E tas) S M Rr := fun B X T σ H F st Q q => ha B X T σ H F st _ fun vs H1 ss M1 r1 t1 st1 o1 => by
  obtain ⟨r, hr, hR⟩ := h ss M1 r1
  exact ⟨ss, [], r, by rw [List.append_nil]; exact o1, fun _ z => (nomatch z), List.nodup_nil, fun _ z => (nomatch z), hr, fun v H2 e2 o2 => q v H2 r M1 hR (t1.trans (Same.tups e2)) (st1.same e2) o2⟩
theorem fnB_of {P : Program} {w : World} {mg : Str → Option Value} {base : Heap} {k : Nat} {x qual : Str} {st : Stmt} {f : Addr} {fd : FuncData} {N ps : List Str} {sp : Sp} (F : Fun K x qual st f fd) (S : FnScope N ps (defScope st)) (len : ∀ vs H Q E, sp vs H Q E → vs.length = ps.length) (b : Body P w K mg base k qual st N sp) : FnG P w K mg base CX0 (k + 1) f fd ps sp :=
  fnG_of F S len fun cdv A outer s H vs Q E hg hr h => let ⟨t, h1, q⟩ := b f cdv A outer s H vs Q E hg hr h; ⟨t, h1.nox, q⟩
/-- the law itself -/
def spLaw (K : PySem.W.Frag) : Sp := fun vs H Q _ => ∃ (a : Addr) (ns : List Int), vs = [.ref a] ∧ SqL K H a (ns.map V.int) ∧ ns.length ≤ 63 ∧ ∀ H', Q (.bl true) H'
end
def rowE : List (Int × Int) := [(0, 1), (1, 2), (2, 3)]
def backE : List (Int × Int) := [(1, 0), (2, 1), (3, 2)]
def ringE : List (Int × Int) := [(0, 1), (1, 0), (2, 3), (3, 2)]
def handE : List (List (Int × Int) × Nat) := [(rowE, 6), (backE, 6), (rowE ++ [(3, 0)], 12), ([(0, 3)] ++ backE, 12)]
def handD (q : List (Int × Int) × Nat) : PyData := .tuple [dPairs q.1, .int q.2]
theorem hand_ok : ∀ q ∈ handE, rightOk 4 q.1 = true ∧ (farP q.1).length = q.2 := by
  have h1 : ∀ q ∈ handE, q.1.isSublist (allP 4 4) = true ∧ (goP q.1 20 (addPs [] q.1) (-1)).length = q.2 := by decide +kernel
  intro q hq
  obtain ⟨a, b⟩ := h1 q hq
  refine ⟨right_all (by decide) (by decide) (List.isSublist_iff_sublist.mp a), ?_⟩
  unfold farP sortP
  rw [List.length_mergeSort]
  exact b
theorem ring_ok : rightOk 4 ringE = true := right_all (by decide) (by decide) (List.isSublist_iff_sublist.mp (by decide +kernel))
theorem ring_far : farP ringE = ringE := by
  have h : goP ringE 20 (addPs [] ringE) (-1) = ringE := by decide +kernel
  unfold farP
  rw [h]
  exact (sortP_eq (.refl _) (by decide +kernel)).symm
theorem right_good {n : Nat} {ps : List (Int × Int)} (h : rightOk n ps = true) : goodPs n ps = true ∧ farOk n ps = true := by
  simp only [rightOk, Bool.and_eq_true] at h
  exact ⟨h.1.1.1.1.1.1, h.1.1.1.1.1.2⟩
theorem ev_pr {K : PySem.W.Frag} {S : Sl} {M : Ml} {a b : Int} : Ev K (tTup (tCons (tC (.int a)) (tCons (tC (.int b)) tNil))) S M (.d (dPair (a, b))) := ev_tup (ds := [.int a, .int b]) (ea_cons ev_int (ea_cons ev_int ea_nil)) (by simp)
section
variable {P : Program} {w : World} {K : PySem.W.Frag} {mg : Str → Option Value} {base : Heap} {C : Addr}
theorem fn_law {f : Addr} {fd : FuncData} (F : Fun K "law" "law" s_law f fd) (T : Pol K mg C) (c_Policy : Mak P w K mg base 4 "Policy" C (spI K C okInit)) (c__law_deck : Cal P w K mg base 1 "_law_deck" (spDeck K)) (c__law_draw : Cal P w K mg base 1 "_law_draw" (spDk K 1 okDraw)) (c__law_rules : Cal P w K mg base 2 "_law_rules" (spDk K 17 okRules)) (c__law_is_right : Cal P w K mg base 7 "_law_is_right" (spV K okRight))
    (c_Policy_going_on : Met P w K mg base 6 C "going_on" (spN K (okFar C))) (c_Policy___len__ : Met P w K mg base 1 C "__len__" (spV K (okLen C))) (c_Policy___eq__ : Met P w K mg base 1 C "__eq__" (spV K (okEq C))) : FnG P w K mg base CX0 8 f fd ["_law_script"] (spLaw K) := by
  refine fnB_of (N := ["_law_script", "_law_deck_here", "_law_go", "_law_many", "_law_row", "_law_back", "_law_rules_here", "_law_size"]) F sc_law (fun vs H Q E h => ?_) (fun f cdv A outer s H vs Q E hg hr h => ?_)
  · obtain ⟨a, ns, rfl, _⟩ := h
    rfl
  obtain ⟨a, ns, rfl, hS, hl, k⟩ := h
  have n_Policy := T.ne
  have st : Sat K H [] H [some (.m a), none, none, none, none, none, none, none] [] (L2.start ["_law_script", "_law_deck_here", "_law_go", "_law_many", "_law_row", "_law_back", "_law_rules_here", "_law_size"] [.ref a]) H := sat_start (N := ["_law_script", "_law_deck_here", "_law_go", "_law_many", "_law_row", "_law_back", "_law_rules_here", "_law_size"]) (vs := [.ref a]) (ss := [.m a]) ⟨rfl, trivial⟩ (fun _ z => (nomatch z)) List.nodup_nil (fun _ z => (nomatch z))
  generalize L2.start ["_law_script", "_law_deck_here", "_law_go", "_law_many", "_law_row", "_law_back", "_law_rules_here", "_law_size"] [.ref a] = σ at st
  have ht : ∃ t, PSs (BCx P w K mg base ["_law_script", "_law_deck_here", "_law_go", "_law_many", "_law_row", "_law_back", "_law_rules_here", "_law_size"] "law" s_law f cdv A outer s H E) (defBody s_law) t ∧ ∀ Q : VK, (∀ H', Q (.bl true) H') → t { nx := fun _ H' => Q .non H', rt := Q } σ H := by
    refine ⟨_, (pss_cons (ps_set (i := 1) sc_law.nd rfl (Or.inl rfl) (pe_c c__law_deck hg hr (by decide) (by rfl) (pa_cons (pv 0) pa_nil)))
      (pss_cons (ps_for PassesOwn.never rfl (pi_range1 (by rfl) T.range (pa_cons pe_int pa_nil)) (pg_name (i := 2) sc_law.nd rfl (Or.inl rfl))
        (pss_cons (ps_set (i := 3) sc_law.nd rfl (Or.inl rfl) (pe_op op_add pe_int (pe_c c__law_draw hg hr (by decide) (by rfl) (pa_cons (pv 1) (pa_cons pe_int pa_nil)))))
        (pss_cons (ps_if (pt_not (pt_val (pe_c c__law_is_right hg hr (by decide) (by rfl) (pa_cons (pv 3) (pa_cons (pe_c c__law_rules hg hr (by decide) (by rfl) (pa_cons (pv 1) (pa_cons (pv 3) pa_nil))) pa_nil)))))
          (pss_cons (ps_ret pe_bl) pss_nil)
          pss_nil) pss_nil)))
      (pss_cons (ps_asg (pe_tup (pa_cons (pe_tup (pa_cons (pe_tup (pa_cons pe_int (pa_cons pe_int pa_nil))) (pa_cons (pe_tup (pa_cons pe_int (pa_cons pe_int pa_nil))) (pa_cons (pe_tup (pa_cons pe_int (pa_cons pe_int pa_nil))) pa_nil)))) (pa_cons (pe_tup (pa_cons (pe_tup (pa_cons pe_int (pa_cons pe_int pa_nil))) (pa_cons (pe_tup (pa_cons pe_int (pa_cons pe_int pa_nil))) (pa_cons (pe_tup (pa_cons pe_int (pa_cons pe_int pa_nil))) pa_nil)))) pa_nil))) (pg_tup (by rfl) (pgs_cons (pg_name (i := 4) sc_law.nd rfl (Or.inl rfl)) (pgs_cons (pg_name (i := 5) sc_law.nd rfl (Or.inl rfl)) pgs_nil))))
      (pss_cons (ps_for PassesOwn.never rfl (pi_tup (pe_tup (pa_cons (pe_tup (pa_cons (pv 4) (pa_cons pe_int pa_nil))) (pa_cons (pe_tup (pa_cons (pv 5) (pa_cons pe_int pa_nil))) (pa_cons (pe_tup (pa_cons (pe_op op_catA (pv 4) (pe_tup (pa_cons (pe_tup (pa_cons pe_int (pa_cons pe_int pa_nil))) pa_nil))) (pa_cons pe_int pa_nil))) (pa_cons (pe_tup (pa_cons (pe_op op_catA (pe_tup (pa_cons (pe_tup (pa_cons pe_int (pa_cons pe_int pa_nil))) pa_nil)) (pv 5)) (pa_cons pe_int pa_nil))) pa_nil)))))) (pg_tup (by rfl) (pgs_cons (pg_name (i := 6) sc_law.nd rfl (Or.inl rfl)) (pgs_cons (pg_name (i := 7) sc_law.nd rfl (Or.inl rfl)) pgs_nil)))
        (pss_cons (ps_if (PW.pt (pw_or (pt_not (pt_val (pe_c c__law_is_right hg hr (by decide) (by rfl) (pa_cons pe_int (pa_cons (pv 6) pa_nil))))) (pw_or1 (pt_cmpR op_ne (pe_callB (call_lenM c_Policy___len__ hg hr (by decide)) (by rfl) T.len (by decide +kernel) (pa_cons (pe_mt0 c_Policy_going_on hg hr (by decide) (pe_mk c_Policy hg hr (by decide) (by rfl) (pa_cons pe_int (pa_cons (pv 6) pa_nil)))) pa_nil)) (pv 7) (nomark _)))))
          (pss_cons (ps_ret pe_bl) pss_nil)
          pss_nil) pss_nil))
      (pss_cons (ps_ret (pe_cmpR (op_eqO c_Policy___eq__ hg hr (by decide)) (pe_mt0 c_Policy_going_on hg hr (by decide) (pe_mk c_Policy hg hr (by decide) (by rfl) (pa_cons pe_int (pa_cons (pe_tup (pa_cons (pe_tup (pa_cons pe_int (pa_cons pe_int pa_nil))) (pa_cons (pe_tup (pa_cons pe_int (pa_cons pe_int pa_nil))) (pa_cons (pe_tup (pa_cons pe_int (pa_cons pe_int pa_nil))) (pa_cons (pe_tup (pa_cons pe_int (pa_cons pe_int pa_nil))) pa_nil))))) pa_nil)))) (pe_mk c_Policy hg hr (by decide) (by rfl) (pa_cons pe_int (pa_cons (pe_tup (pa_cons (pe_tup (pa_cons pe_int (pa_cons pe_int pa_nil))) (pa_cons (pe_tup (pa_cons pe_int (pa_cons pe_int pa_nil))) (pa_cons (pe_tup (pa_cons pe_int (pa_cons pe_int pa_nil))) (pa_cons (pe_tup (pa_cons pe_int (pa_cons pe_int pa_nil))) pa_nil))))) pa_nil))) (nomark _))) pss_nil))))), fun Q k => ?_⟩
    refine q_deck st rfl hS hl fun dk cl σ1 H1 st1 => ?_
    have st1 : Sat K H [] H [some (.m a), some (.m dk), none, none, none, none, none, none] (dkM dk cl 0 []) σ1 H1 := st1
    refine q_for st1 (evi_range1 (ea_cons ev_int ea_nil) (by omega)) (fun i S' M' => ∃ (x2 x3 : Option SV) (m : Nat), S' = [some (.m a), some (.m dk), x2, x3, none, none, none, none] ∧ M' = dkM dk cl m [] ∧ m ≤ i * 18) ⟨none, none, 0, rfl, rfl, by omega⟩ (fun _ _ _ _ _ h => nomatch h) ?_ ?_
    · rintro i s S' M' σ2 H2 T2 hs ⟨x2, x3, m, rfl, rfl, hm⟩ st2 v hv
      obtain ⟨hi, rfl⟩ := rg_get hs
      have hi : i < 14 := hi
      have st3 : Sat K H [] T2 [some (.m a), some (.m dk), some (.d (.int i)), x3, none, none, none, none] ([] ++ dkM dk cl m []) (σ2.set 2 (some v)) H2 := st2.set hv 2
      refine x_set [] st3 (ev_drawP (b := 4) rfl (fun F => ev_int) (by decide) (by decide) (by omega)) ?_
      rintro s M' σ4 H4 ⟨kk, rfl, k0, k1, rfl⟩ st4
      obtain ⟨n, hn⟩ : ∃ n : Nat, (1 + kk : Int) = n := ⟨(1 + kk).toNat, by omega⟩
      rw [hn] at st4
      have h1n : 1 ≤ n := by omega
      have h4n : n ≤ 4 := by omega
      have st4 : Sat K H [] T2 [some (.m a), some (.m dk), some (.d (.int i)), some (.d (.int n)), none, none, none, none] ([] ++ dkM dk cl (m + 1) []) σ4 H4 := st4
      refine x_if (Rb := fun b M' => b = false ∧ M' = dkM dk cl (m + 1 + 17) []) [] st4 (EvXT.mono (evxt_not (Ra := fun b M' => b = true ∧ M' = dkM dk cl (m + 1 + 17) []) (evxt_test (evx_callV (Rr := fun s M' => s = .d (.bool true) ∧ M' = dkM dk cl (m + 1 + 17) []) (exa_cons (evx_of (s := .d (.int n)) fun F => ev_var rfl) (R2 := fun x M1 ss M' => x = .d (.int n) → M1 = dkM dk cl (m + 1) [] → ∃ ps : List (Int × Int), ss = [.d (dPairs ps)] ∧ ps.Sublist (allP n n) ∧ M' = dkM dk cl (m + 1 + 17) []) ?_) ?_) ?_)) ?_) ?_ ?_
      · rintro x M1 ⟨rfl, rfl⟩
        refine EvXA.mono (exa_cons (evx_dk (Rs := fun s => ∃ ps : List (Int × Int), s = .d (dPairs ps) ∧ ps.Sublist (allP n n)) (c := 17) rfl (fun F => ea_cons (ev_var rfl) ea_nil) ⟨n, rfl, h4n, fun ps h => ⟨ps, rfl, h⟩⟩ (by omega)) fun _ _ _ => exa_nil) ?_
        rintro ss M' ⟨x, M1, xs, rfl, ⟨⟨ps, rfl, hps⟩, rfl⟩, rfl, rfl⟩ _ _
        exact ⟨ps, rfl, hps, rfl⟩
      · rintro ss M' ⟨x, M1, xs, rfl, ⟨rfl, rfl⟩, h⟩
        obtain ⟨ps, rfl, hps, rfl⟩ := h rfl rfl
        exact ⟨_, ⟨n, ps, rfl, right_all h1n h4n hps, rfl⟩, rfl, rfl⟩
      · rintro s M' ⟨rfl, rfl⟩
        exact ⟨true, rfl, rfl, rfl⟩
      · rintro b M' ⟨b', rfl, rfl, rfl⟩
        exact ⟨rfl, rfl⟩
      · rintro M' H5 ⟨h, _⟩ st5
        cases h
      · rintro M' H5 ⟨_, rfl⟩ st5
        exact ⟨_, _, ⟨some (.d (.int i)), some (.d (.int n)), m + 1 + 17, rfl, rfl, by omega⟩, st5⟩
    · rintro S' M' σ2 H2 ⟨x2, x3, m, rfl, rfl, hm⟩ st2
      refine q_asg2 st2 (ev_tup (ds := [dPairs rowE, dPairs backE]) (ea_cons (ev_tup (ds := rowE.map dPair) (ea_cons ev_pr (ea_cons ev_pr (ea_cons ev_pr ea_nil))) (by decide)) (ea_cons (ev_tup (ds := backE.map dPair) (ea_cons ev_pr (ea_cons ev_pr (ea_cons ev_pr ea_nil))) (by decide)) ea_nil)) (by simp)) tg_pair fun σ3 H3 st3 => ?_
      have st3 : Sat K H [] H [some (.m a), some (.m dk), x2, x3, some (.d (dPairs rowE)), some (.d (dPairs backE)), none, none] (dkM dk cl m []) σ3 H3 := st3
      refine q_for st3 (evi_tup (ds := handE.map handD) (ev_tup (ds := handE.map handD) (ea_cons (ev_tup (ds := [dPairs rowE, .int 6]) (ea_cons (ev_var rfl) (ea_cons ev_int ea_nil)) (by simp)) (ea_cons (ev_tup (ds := [dPairs backE, .int 6]) (ea_cons (ev_var rfl) (ea_cons ev_int ea_nil)) (by simp)) (ea_cons (ev_tup (ds := [dPairs (rowE ++ [(3, 0)]), .int 12]) (ea_cons (ev_op (ev_var rfl) (ev_tup (ds := [dPair (3, 0)]) (ea_cons ev_pr ea_nil) (by simp)) (rv_catT (ds := rowE.map dPair) (es := [dPair (3, 0)]) (by decide))) (ea_cons ev_int ea_nil)) (by simp)) (ea_cons (ev_tup (ds := [dPairs ([(0, 3)] ++ backE), .int 12]) (ea_cons (ev_op (ev_tup (ds := [dPair (0, 3)]) (ea_cons ev_pr ea_nil) (by simp)) (ev_var rfl) (rv_catT (ds := [dPair (0, 3)]) (es := backE.map dPair) (by decide))) (ea_cons ev_int ea_nil)) (by simp)) ea_nil)))) (by decide)))
        (fun i S' M' => ∃ (x6 x7 : Option SV), S' = [some (.m a), some (.m dk), x2, x3, some (.d (dPairs rowE)), some (.d (dPairs backE)), x6, x7] ∧ M' = dkM dk cl m []) ⟨none, none, rfl, rfl⟩ (fun _ _ _ _ _ h => nomatch h) ?_ ?_
      · rintro i s S' M' σ4 H4 T4 hs ⟨x6, x7, rfl, rfl⟩ st4 v hv
        rw [List.map_map, List.getElem?_map] at hs
        cases hq : handE[i]? with
        | none => rw [hq] at hs; cases hs
        | some q =>
        rw [hq] at hs
        have es : SV.d (handD q) = s := Option.some.inj hs
        subst es
        obtain ⟨hr1, hln⟩ := hand_ok q (List.mem_of_getElem? hq)
        obtain ⟨hgd, hfo⟩ := right_good hr1
        refine tg_pair _ _ _ _ _ _ _ st4 v hv _ fun σ5 st5 _ => ?_
        have st5 : Sat K H [] T4 [some (.m a), some (.m dk), x2, x3, some (.d (dPairs rowE)), some (.d (dPairs backE)), some (.d (dPairs q.1)), some (.d (.int q.2))] (dkM dk cl m []) σ5 H4 := st5
        refine q_if (b := false) st5 (et_is (et_or (a := !true) (et_not (et_test (ev_call (ea_cons ev_int (ea_cons (ev_var rfl) ea_nil)) [] nil_sub (fun _ h => nomatch h) ⟨4, q.1, rfl, hr1, rfl⟩))) fun _ => et_B (ev_op (ev_cbN (o := .ins C (polF 4 (farP q.1))) (evn_meth1 (C := C) (fs := polF 4 q.1) (evn_make (ss := [.d (.int 4), .d (dPairs q.1)]) (ea_cons ev_int (ea_cons (ev_var rfl) ea_nil)) ⟨4, q.1, rfl, hgd, rfl⟩) rfl (fun p => ea_nil) (fun p => [(p, .ins C (polF 4 q.1))]) (fun p => List.Sublist.cons_cons _ (List.nil_sublist _)) (fun p z hz => by rw [List.mem_singleton.mp hz] <;> rfl) fun p => ⟨p, 4, q.1, rfl, List.mem_cons_self .., hfo, rfl⟩) fun p => rc_lenO (C := C) (ok := okLen C) (n := ((farP q.1).length : Nat)) (List.mem_cons_self ..) [(p, .ins C (polF 4 (farP q.1)))] (List.Sublist.cons_cons _ (List.nil_sublist _)) (fun z hz => by rw [List.mem_singleton.mp hz] <;> rfl) ⟨p, 4, farP q.1, rfl, List.mem_cons_self .., rfl⟩ (by omega) ?_) (ev_var rfl) rv_neI)) ?_) (fun hb _ _ => nomatch hb) (fun _ H5 st6 => ?_)
        · have z : (farP q.1).length ≤ 1000 := by
            simp only [farOk, Bool.and_eq_true] at hfo
            exact (good_of hfo.2).2.2.2
          omega
        · rw [hln]; simp
        · exact ⟨_, _, ⟨some (.d (dPairs q.1)), some (.d (.int q.2)), rfl, rfl⟩, st6⟩
      · rintro S' M' σ4 H4 ⟨x6, x7, rfl, rfl⟩ st4
        obtain ⟨hgd, hfo⟩ := right_good ring_ok
        have er : ∀ S M, EvA K (tCons (tC (.int 4)) (tCons (tTup (tCons (tTup (tCons (tC (.int 0)) (tCons (tC (.int 1)) tNil))) (tCons (tTup (tCons (tC (.int 1)) (tCons (tC (.int 0)) tNil))) (tCons (tTup (tCons (tC (.int 2)) (tCons (tC (.int 3)) tNil))) (tCons (tTup (tCons (tC (.int 3)) (tCons (tC (.int 2)) tNil))) tNil))))) tNil)) S M [.d (.int 4), .d (dPairs ringE)] := fun S M => ea_cons ev_int (ea_cons (ev_tup (ds := ringE.map dPair) (ea_cons ev_pr (ea_cons ev_pr (ea_cons ev_pr (ea_cons ev_pr ea_nil)))) (by decide)) ea_nil)
        refine q_ret st4 (ev_is (ev_opNN (o := .ins C (polF 4 (farP ringE))) (o' := .ins C (polF 4 ringE)) (evn_meth1 (C := C) (fs := polF 4 ringE) (evn_make (er _ _) ⟨4, ringE, rfl, hgd, rfl⟩) rfl (fun p => ea_nil) (fun p => [(p, .ins C (polF 4 ringE))]) (fun p => List.Sublist.cons_cons _ (List.nil_sublist _)) (fun p z hz => by rw [List.mem_singleton.mp hz] <;> rfl) fun p => ⟨p, 4, ringE, rfl, List.mem_cons_self .., hfo, rfl⟩) (fun p => evn_make (er _ _) ⟨4, ringE, rfl, hgd, rfl⟩) fun p p' => rv_own (C := C) (neg := false) (a := p) (b := p') (t := decide ((4 : Int) = 4) && decide (farP ringE = ringE)) (List.mem_cons_of_mem _ (List.mem_cons_self ..)) (List.mem_cons_self ..) [(p', .ins C (polF 4 ringE)), (p, .ins C (polF 4 (farP ringE)))] (List.Sublist.cons_cons _ (List.Sublist.cons_cons _ (List.nil_sublist _))) (fun z hz => (List.mem_cons.mp hz).elim (fun e => by rw [e] <;> rfl) (fun hz => by rw [List.mem_singleton.mp hz] <;> rfl)) ⟨p, p', 4, 4, farP ringE, ringE, rfl, List.mem_cons_of_mem _ (List.mem_cons_self ..), List.mem_cons_self .., rfl⟩) (y := .d (.bool true)) ?_) fun v H5 st5 o5 => ?_
        · rw [ring_far]; simp
        · rw [vok_bl o5]
          exact k H5
  obtain ⟨t, h1, h2⟩ := ht
  exact ⟨t, h1, h2 Q k⟩
end
end Tw

open Tw
theorem Tw.kit_same {K : PySem.W.Frag} {C : PySem.Addr} : PySem.W.kitOne K (.ref C) (.ref C) = some true := by
  unfold PySem.W.kitOne
  rw [if_pos (by simp)]
open PySem L2 in
theorem Tw.all_mk {l : PySem.W.OpenLaw} {w : World} {K : PySem.W.Frag} {h : Heap} {mg : Str → Option Value} {fa C_Policy f1 f2 f3 f4 f5 f6 f7 f8 f9 f10 f11 f12 f13 f14 f15 f16 : Addr} {t_PAIR : Tok} (X : K.In h) (G : h.Ns mainGlobals mg) (hfa : mg "law" = some (.ref fa))
    {od1 an1 : Option Addr} {sl1 : Array (Option Value)} {oc1 kV1 dc1 pm1 cd1 ct1 : Value}
    {od2 an2 : Option Addr} {sl2 : Array (Option Value)} {oc2 kV2 dc2 pm2 cd2 ct2 : Value}
    {od3 an3 : Option Addr} {sl3 : Array (Option Value)} {oc3 kV3 dc3 pm3 cd3 ct3 : Value}
    {od4 an4 : Option Addr} {sl4 : Array (Option Value)} {oc4 kV4 dc4 pm4 cd4 ct4 : Value}
    {od5 an5 : Option Addr} {sl5 : Array (Option Value)} {oc5 kV5 dc5 pm5 cd5 ct5 : Value}
    {od6 an6 : Option Addr} {sl6 : Array (Option Value)} {oc6 kV6 dc6 pm6 cd6 ct6 : Value}
    {od7 an7 : Option Addr} {sl7 : Array (Option Value)} {oc7 kV7 dc7 pm7 cd7 ct7 : Value}
    {od8 an8 : Option Addr} {sl8 : Array (Option Value)} {oc8 kV8 dc8 pm8 cd8 ct8 : Value}
    {od9 an9 : Option Addr} {sl9 : Array (Option Value)} {oc9 kV9 dc9 pm9 cd9 ct9 : Value}
    {od10 an10 : Option Addr} {sl10 : Array (Option Value)} {oc10 kV10 dc10 pm10 cd10 ct10 : Value}
    {od11 an11 : Option Addr} {sl11 : Array (Option Value)} {oc11 kV11 dc11 pm11 cd11 ct11 : Value}
    {od12 an12 : Option Addr} {sl12 : Array (Option Value)} {oc12 kV12 dc12 pm12 cd12 ct12 : Value}
    {od13 an13 : Option Addr} {sl13 : Array (Option Value)} {oc13 kV13 dc13 pm13 cd13 ct13 : Value}
    {od14 an14 : Option Addr} {sl14 : Array (Option Value)} {oc14 kV14 dc14 pm14 cd14 ct14 : Value}
    {od15 an15 : Option Addr} {sl15 : Array (Option Value)} {oc15 kV15 dc15 pm15 cd15 ct15 : Value}
    {od16 an16 : Option Addr} {sl16 : Array (Option Value)} {oc16 kV16 dc16 pm16 cd16 ct16 : Value}
    (nCPolicy : PySem.W.nsIn K mainGlobals "Policy" = some (some (.ref C_Policy)))
    (pgPolicy : PySem.W.plainGet K C_Policy Str.empty = true)
    (hdPolicy : PySem.W.hasDictIn K C_Policy = true)
    (poPolicy : PySem.W.plainOver K C_Policy = true)
    (saPolicy : PySem.W.findIn K (.ref C_Policy) "__setattr__" = some (some (.builtin "object.__setattr__")))
    (mkPolicy : PySem.W.makesIn K C_Policy = true)
    (kcPolicy : PySem.W.keepIn K (.ref C_Policy) = true)
    (noPolicyusers : PySem.W.findIn K (.ref C_Policy) "users" = some none)
    (noPolicypairs : PySem.W.findIn K (.ref C_Policy) "pairs" = some none)
    (haPolicy : PySem.W.findIn K (.ref C_Policy) "__class__" = some (some (.builtin "object.__class__")))
    (omPolicy : PySem.W.mroIn K C_Policy (.type "object") = some true)
    (nePolicy : PySem.W.findIn K (.ref C_Policy) "__ne__" = some (some (.builtin "object.__ne__")))
    (hnG : PySem.W.specialIn K (.builtin "object.__class__") "__get__" = some (some (.builtin "getset_descriptor.__get__")))
    (htk : PySem.W.takesIn K (.builtin "object.__class__") = some true)
    (a1 : PySem.W.nsIn K mainGlobals "is_integer" = some (some (.ref f1)))
    (l1 : K.lookup f1 = some ⟨oc1, od1, .func (PySem.W.fnOf "is_integer" "is_integer" (defArgs s_is_integer) (defBody s_is_integer) (defScope s_is_integer) .none kV1 dc1 pm1 an1 cd1 ct1), sl1⟩)
    (c1 : PySem.W.codeIn K cd1 "is_integer" = true)
    (k1 : PySem.W.keepIn K (.ref f1) = true)
    (a2 : PySem.W.nsIn K mainGlobals "is_below" = some (some (.ref f2)))
    (l2 : K.lookup f2 = some ⟨oc2, od2, .func (PySem.W.fnOf "is_below" "is_below" (defArgs s_is_below) (defBody s_is_below) (defScope s_is_below) .none kV2 dc2 pm2 an2 cd2 ct2), sl2⟩)
    (c2 : PySem.W.codeIn K cd2 "is_below" = true)
    (k2 : PySem.W.keepIn K (.ref f2) = true)
    (a3 : PySem.W.nsIn K mainGlobals "do_rise" = some (some (.ref f3)))
    (l3 : K.lookup f3 = some ⟨oc3, od3, .func (PySem.W.fnOf "do_rise" "do_rise" (defArgs s_do_rise) (defBody s_do_rise) (defScope s_do_rise) .none kV3 dc3 pm3 an3 cd3 ct3), sl3⟩)
    (c3 : PySem.W.codeIn K cd3 "do_rise" = true)
    (k3 : PySem.W.keepIn K (.ref f3) = true)
    (a4 : PySem.W.nsIn K mainGlobals "is_pair" = some (some (.ref f4)))
    (l4 : K.lookup f4 = some ⟨oc4, od4, .func (PySem.W.fnOf "is_pair" "is_pair" (defArgs s_is_pair) (defBody s_is_pair) (defScope s_is_pair) .none kV4 dc4 pm4 an4 cd4 ct4), sl4⟩)
    (c4 : PySem.W.codeIn K cd4 "is_pair" = true)
    (k4 : PySem.W.keepIn K (.ref f4) = true)
    (a5 : PySem.W.nsIn K mainGlobals "check_alike" = some (some (.ref f5)))
    (l5 : K.lookup f5 = some ⟨oc5, od5, .func (PySem.W.fnOf "check_alike" "check_alike" (defArgs s_check_alike) (defBody s_check_alike) (defScope s_check_alike) .none kV5 dc5 pm5 an5 cd5 ct5), sl5⟩)
    (c5 : PySem.W.codeIn K cd5 "check_alike" = true)
    (k5 : PySem.W.keepIn K (.ref f5) = true)
    (a6 : PySem.W.findIn K (.ref C_Policy) "__init__" = some (some (.ref f6)))
    (i6 : PySem.W.isFn K (.ref f6) = true)
    (l6 : K.lookup f6 = some ⟨oc6, od6, .func (PySem.W.fnOf "__init__" "Policy.__init__" (defArgs s_Policy_init) (defBody s_Policy_init) (defScope s_Policy_init) .none kV6 dc6 pm6 an6 cd6 ct6), sl6⟩)
    (c6 : PySem.W.codeIn K cd6 "Policy.__init__" = true)
    (k6 : PySem.W.keepIn K (.ref f6) = true)
    (a7 : PySem.W.findIn K (.ref C_Policy) "__len__" = some (some (.ref f7)))
    (i7 : PySem.W.isFn K (.ref f7) = true)
    (l7 : K.lookup f7 = some ⟨oc7, od7, .func (PySem.W.fnOf "__len__" "Policy.__len__" (defArgs s_Policy_len) (defBody s_Policy_len) (defScope s_Policy_len) .none kV7 dc7 pm7 an7 cd7 ct7), sl7⟩)
    (c7 : PySem.W.codeIn K cd7 "Policy.__len__" = true)
    (k7 : PySem.W.keepIn K (.ref f7) = true)
    (a8 : PySem.W.findIn K (.ref C_Policy) "__eq__" = some (some (.ref f8)))
    (i8 : PySem.W.isFn K (.ref f8) = true)
    (l8 : K.lookup f8 = some ⟨oc8, od8, .func (PySem.W.fnOf "__eq__" "Policy.__eq__" (defArgs s_Policy_eq) (defBody s_Policy_eq) (defScope s_Policy_eq) .none kV8 dc8 pm8 an8 cd8 ct8), sl8⟩)
    (c8 : PySem.W.codeIn K cd8 "Policy.__eq__" = true)
    (k8 : PySem.W.keepIn K (.ref f8) = true)
    (a9 : PySem.W.findIn K (.ref C_Policy) "is_within" = some (some (.ref f9)))
    (i9 : PySem.W.isFn K (.ref f9) = true)
    (l9 : K.lookup f9 = some ⟨oc9, od9, .func (PySem.W.fnOf "is_within" "Policy.is_within" (defArgs s_Policy_is_within) (defBody s_Policy_is_within) (defScope s_Policy_is_within) .none kV9 dc9 pm9 an9 cd9 ct9), sl9⟩)
    (c9 : PySem.W.codeIn K cd9 "Policy.is_within" = true)
    (k9 : PySem.W.keepIn K (.ref f9) = true)
    (a10 : PySem.W.findIn K (.ref C_Policy) "going_on" = some (some (.ref f10)))
    (i10 : PySem.W.isFn K (.ref f10) = true)
    (l10 : K.lookup f10 = some ⟨oc10, od10, .func (PySem.W.fnOf "going_on" "Policy.going_on" (defArgs s_Policy_going_on) (defBody s_Policy_going_on) (defScope s_Policy_going_on) .none kV10 dc10 pm10 an10 cd10 ct10), sl10⟩)
    (c10 : PySem.W.codeIn K cd10 "Policy.going_on" = true)
    (k10 : PySem.W.keepIn K (.ref f10) = true)
    (a11 : PySem.W.nsIn K mainGlobals "_law_deck" = some (some (.ref f11)))
    (l11 : K.lookup f11 = some ⟨oc11, od11, .func (PySem.W.fnOf "_law_deck" "_law_deck" (defArgs s_law_deck) (defBody s_law_deck) (defScope s_law_deck) .none kV11 dc11 pm11 an11 cd11 ct11), sl11⟩)
    (c11 : PySem.W.codeIn K cd11 "_law_deck" = true)
    (k11 : PySem.W.keepIn K (.ref f11) = true)
    (a12 : PySem.W.nsIn K mainGlobals "_law_draw" = some (some (.ref f12)))
    (l12 : K.lookup f12 = some ⟨oc12, od12, .func (PySem.W.fnOf "_law_draw" "_law_draw" (defArgs s_law_draw) (defBody s_law_draw) (defScope s_law_draw) .none kV12 dc12 pm12 an12 cd12 ct12), sl12⟩)
    (c12 : PySem.W.codeIn K cd12 "_law_draw" = true)
    (k12 : PySem.W.keepIn K (.ref f12) = true)
    (a13 : PySem.W.nsIn K mainGlobals "_law_rules" = some (some (.ref f13)))
    (l13 : K.lookup f13 = some ⟨oc13, od13, .func (PySem.W.fnOf "_law_rules" "_law_rules" (defArgs s_law_rules) (defBody s_law_rules) (defScope s_law_rules) .none kV13 dc13 pm13 an13 cd13 ct13), sl13⟩)
    (c13 : PySem.W.codeIn K cd13 "_law_rules" = true)
    (k13 : PySem.W.keepIn K (.ref f13) = true)
    (a14 : PySem.W.nsIn K mainGlobals "_law_led" = some (some (.ref f14)))
    (l14 : K.lookup f14 = some ⟨oc14, od14, .func (PySem.W.fnOf "_law_led" "_law_led" (defArgs s_law_led) (defBody s_law_led) (defScope s_law_led) .none kV14 dc14 pm14 an14 cd14 ct14), sl14⟩)
    (c14 : PySem.W.codeIn K cd14 "_law_led" = true)
    (k14 : PySem.W.keepIn K (.ref f14) = true)
    (a15 : PySem.W.nsIn K mainGlobals "_law_is_right" = some (some (.ref f15)))
    (l15 : K.lookup f15 = some ⟨oc15, od15, .func (PySem.W.fnOf "_law_is_right" "_law_is_right" (defArgs s_law_is_right) (defBody s_law_is_right) (defScope s_law_is_right) .none kV15 dc15 pm15 an15 cd15 ct15), sl15⟩)
    (c15 : PySem.W.codeIn K cd15 "_law_is_right" = true)
    (k15 : PySem.W.keepIn K (.ref f15) = true)
    (a16 : PySem.W.nsIn K mainGlobals "law" = some (some (.ref f16)))
    (l16 : K.lookup f16 = some ⟨oc16, od16, .func (PySem.W.fnOf "law" "law" (defArgs s_law) (defBody s_law) (defScope s_law) .none kV16 dc16 pm16 an16 cd16 ct16), sl16⟩)
    (c16 : PySem.W.codeIn K cd16 "law" = true)
    (k16 : PySem.W.keepIn K (.ref f16) = true)
    (z_list : PySem.W.nsIn K mainGlobals "list" = some none)
    (z_int : PySem.W.nsIn K mainGlobals "int" = some none)
    (z_len : PySem.W.nsIn K mainGlobals "len" = some none)
    (z_all : PySem.W.nsIn K mainGlobals "all" = some none)
    (z_zip : PySem.W.nsIn K mainGlobals "zip" = some none)
    (z_isinstance : PySem.W.nsIn K mainGlobals "isinstance" = some none)
    (z_tuple : PySem.W.nsIn K mainGlobals "tuple" = some none)
    (z_sorted : PySem.W.nsIn K mainGlobals "sorted" = some none)
    (z_range : PySem.W.nsIn K mainGlobals "range" = some none)
    (z_repr : PySem.W.nsIn K mainGlobals "repr" = some none)
    (z_bool : PySem.W.nsIn K mainGlobals "bool" = some none)
    (z_str : PySem.W.nsIn K mainGlobals "str" = some none)
    (g_PAIR : PySem.W.nsIn K mainGlobals "PAIR" = some (some (.int 2 t_PAIR))) :
    ∃ fd : FuncData, (∀ (s : Shared) (v : Value), BindsTo s fd ⟨[v], []⟩ [("_law_script", v)]) ∧ ∀ base : Heap, K.In base → base.Ns mainGlobals mg → FnG l.prog w K mg base CX0 8 fa fd ["_law_script"] (spLaw K) := by
  have e := hfa.symm.trans (PySem.W.mg_of X G a16)
  cases e
  have B : Bi mg := ⟨PySem.W.mg_none_of X G z_list, PySem.W.mg_none_of X G z_int, PySem.W.mg_none_of X G z_len, PySem.W.mg_none_of X G z_all, PySem.W.mg_none_of X G z_zip, PySem.W.mg_none_of X G z_isinstance, PySem.W.mg_none_of X G z_tuple, PySem.W.mg_none_of X G z_sorted, PySem.W.mg_none_of X G z_range, PySem.W.mg_none_of X G z_repr, PySem.W.mg_none_of X G z_bool, PySem.W.mg_none_of X G z_str⟩
  have F1 := fun_mk (st := s_is_integer) l1 c1 k1
  have b1 := F1.binds (ps := ["thing"]) fun _ _ _ _ _ _ us hl => match us, hl with | [_], _ => rfl
  have d_is_integer : Def K mg "is_integer" s_is_integer ["thing"] := ⟨⟨_, _, F1, PySem.W.mg_of X G a1, b1⟩⟩
  have F2 := fun_mk (st := s_is_below) l2 c2 k2
  have b2 := F2.binds (ps := ["number", "thing"]) fun _ _ _ _ _ _ us hl => match us, hl with | [_, _], _ => rfl
  have d_is_below : Def K mg "is_below" s_is_below ["number", "thing"] := ⟨⟨_, _, F2, PySem.W.mg_of X G a2, b2⟩⟩
  have F3 := fun_mk (st := s_do_rise) l3 c3 k3
  have b3 := F3.binds (ps := ["items"]) fun _ _ _ _ _ _ us hl => match us, hl with | [_], _ => rfl
  have d_do_rise : Def K mg "do_rise" s_do_rise ["items"] := ⟨⟨_, _, F3, PySem.W.mg_of X G a3, b3⟩⟩
  have F4 := fun_mk (st := s_is_pair) l4 c4 k4
  have b4 := F4.binds (ps := ["users", "thing"]) fun _ _ _ _ _ _ us hl => match us, hl with | [_, _], _ => rfl
  have d_is_pair : Def K mg "is_pair" s_is_pair ["users", "thing"] := ⟨⟨_, _, F4, PySem.W.mg_of X G a4, b4⟩⟩
  have F5 := fun_mk (st := s_check_alike) l5 c5 k5
  have b5 := F5.binds (ps := ["one", "other"]) fun _ _ _ _ _ _ us hl => match us, hl with | [_, _], _ => rfl
  have d_check_alike : Def K mg "check_alike" s_check_alike ["one", "other"] := ⟨⟨_, _, F5, PySem.W.mg_of X G a5, b5⟩⟩
  have F6 := fun_mk (st := s_Policy_init) l6 c6 k6
  have b6 := F6.binds (ps := ["self", "users", "pairs"]) fun _ _ _ _ _ _ us hl => match us, hl with | [_, _, _], _ => rfl
  have d_Policy_init : IDef K mg "Policy" C_Policy "Policy.__init__" s_Policy_init ["self", "users", "pairs"] := ⟨⟨_, _, F6, ⟨mkPolicy, a6, i6, kcPolicy⟩, b6⟩, PySem.W.mg_of X G nCPolicy, ⟨pgPolicy, hdPolicy, poPolicy, saPolicy⟩⟩
  have F7 := fun_mk (st := s_Policy_len) l7 c7 k7
  have b7 := F7.binds (ps := ["self"]) fun _ _ _ _ _ _ us hl => match us, hl with | [_], _ => rfl
  have d_Policy_len : MDef K C_Policy "__len__" "Policy.__len__" s_Policy_len ["self"] := ⟨⟨_, _, F7, ⟨a7, i7, k7⟩, b7⟩, ⟨pgPolicy, hdPolicy, poPolicy, saPolicy⟩⟩
  have F8 := fun_mk (st := s_Policy_eq) l8 c8 k8
  have b8 := F8.binds (ps := ["self", "other"]) fun _ _ _ _ _ _ us hl => match us, hl with | [_, _], _ => rfl
  have d_Policy_eq : MDef K C_Policy "__eq__" "Policy.__eq__" s_Policy_eq ["self", "other"] := ⟨⟨_, _, F8, ⟨a8, i8, k8⟩, b8⟩, ⟨pgPolicy, hdPolicy, poPolicy, saPolicy⟩⟩
  have F9 := fun_mk (st := s_Policy_is_within) l9 c9 k9
  have b9 := F9.binds (ps := ["self", "other"]) fun _ _ _ _ _ _ us hl => match us, hl with | [_, _], _ => rfl
  have d_Policy_is_within : MDef K C_Policy "is_within" "Policy.is_within" s_Policy_is_within ["self", "other"] := ⟨⟨_, _, F9, ⟨a9, i9, k9⟩, b9⟩, ⟨pgPolicy, hdPolicy, poPolicy, saPolicy⟩⟩
  have F10 := fun_mk (st := s_Policy_going_on) l10 c10 k10
  have b10 := F10.binds (ps := ["self"]) fun _ _ _ _ _ _ us hl => match us, hl with | [_], _ => rfl
  have d_Policy_going_on : MDef K C_Policy "going_on" "Policy.going_on" s_Policy_going_on ["self"] := ⟨⟨_, _, F10, ⟨a10, i10, k10⟩, b10⟩, ⟨pgPolicy, hdPolicy, poPolicy, saPolicy⟩⟩
  have F11 := fun_mk (st := s_law_deck) l11 c11 k11
  have b11 := F11.binds (ps := ["_law_script"]) fun _ _ _ _ _ _ us hl => match us, hl with | [_], _ => rfl
  have d_law_deck : Def K mg "_law_deck" s_law_deck ["_law_script"] := ⟨⟨_, _, F11, PySem.W.mg_of X G a11, b11⟩⟩
  have F12 := fun_mk (st := s_law_draw) l12 c12 k12
  have b12 := F12.binds (ps := ["_law_deck_here", "_law_below"]) fun _ _ _ _ _ _ us hl => match us, hl with | [_, _], _ => rfl
  have d_law_draw : Def K mg "_law_draw" s_law_draw ["_law_deck_here", "_law_below"] := ⟨⟨_, _, F12, PySem.W.mg_of X G a12, b12⟩⟩
  have F13 := fun_mk (st := s_law_rules) l13 c13 k13
  have b13 := F13.binds (ps := ["_law_deck_here", "_law_many"]) fun _ _ _ _ _ _ us hl => match us, hl with | [_, _], _ => rfl
  have d_law_rules : Def K mg "_law_rules" s_law_rules ["_law_deck_here", "_law_many"] := ⟨⟨_, _, F13, PySem.W.mg_of X G a13, b13⟩⟩
  have F14 := fun_mk (st := s_law_led) l14 c14 k14
  have b14 := F14.binds (ps := ["_law_rules_here", "_law_many"]) fun _ _ _ _ _ _ us hl => match us, hl with | [_, _], _ => rfl
  have d_law_led : Def K mg "_law_led" s_law_led ["_law_rules_here", "_law_many"] := ⟨⟨_, _, F14, PySem.W.mg_of X G a14, b14⟩⟩
  have F15 := fun_mk (st := s_law_is_right) l15 c15 k15
  have b15 := F15.binds (ps := ["_law_many", "_law_rules_here"]) fun _ _ _ _ _ _ us hl => match us, hl with | [_, _], _ => rfl
  have d_law_is_right : Def K mg "_law_is_right" s_law_is_right ["_law_many", "_law_rules_here"] := ⟨⟨_, _, F15, PySem.W.mg_of X G a15, b15⟩⟩
  have F16 := fun_mk (st := s_law) l16 c16 k16
  have b16 := F16.binds (ps := ["_law_script"]) fun _ _ _ _ _ _ us hl => match us, hl with | [_], _ => rfl
  have T : Pol K mg C_Policy := { B with g_PAIR := ⟨_, PySem.W.mg_of X G g_PAIR, _, rfl⟩, g_Policy := ⟨_, PySem.W.mg_of X G nCPolicy, rfl⟩, cl := ⟨pgPolicy, hdPolicy, poPolicy, saPolicy⟩, users := noPolicyusers, pairs := noPolicypairs, ci := ⟨⟨pgPolicy, hdPolicy, poPolicy, saPolicy⟩, haPolicy, hnG, htk, omPolicy, kit_same⟩, ne := ⟨nePolicy, omPolicy⟩ }
  refine ⟨PySem.W.fnOf "law" "law" (defArgs s_law) (defBody s_law) (defScope s_law) .none kV16 dc16 pm16 an16 cd16 ct16, fun s v => .of_eq rfl, fun base _ _ => ?_⟩
  have x1 := cal_isInt (P := l.prog) (w := w) (base := base) d_is_integer B
  have x2 := cal_below (P := l.prog) (w := w) (base := base) d_is_below B x1
  have x3 := cal_rise (P := l.prog) (w := w) (base := base) d_do_rise B
  have x4 := cal_pair d_is_pair T x2
  have x5 := cal_alike (P := l.prog) (w := w) (base := base) d_check_alike T
  have y1 := mak_init d_Policy_init T x1 x4 x3
  have y2 := met_len (P := l.prog) (w := w) (base := base) d_Policy_len T
  have y3 := met_eq (P := l.prog) (w := w) (base := base) d_Policy_eq T
  have y4 := met_within d_Policy_is_within T x5
  have y5 := met_far d_Policy_going_on T y1
  have z1 := cal_deck (P := l.prog) (w := w) (base := base) d_law_deck B
  have z2 := cal_draw (P := l.prog) (w := w) (base := base) d_law_draw B
  have z3 := cal_rules d_law_rules B z2
  have z4 := cal_led (P := l.prog) (w := w) (base := base) d_law_led B
  have z5 := cal_right d_law_is_right T y1 z4 y5 y4 y3
  exact fn_law F16 T y1 z1 z2 z3 z5 y5 y2 y3
open PySem PySem.W PyProof.Rows
set_option maxRecDepth 100000 in
set_option maxHeartbeats 0 in
theorem PySem.Challenge.cw_bytoldways_k04_who_hears_in_the_end_holds : PySem.Challenge.rw_bytoldways_k04_who_hears_in_the_end.Holds := by
  w_on; o_law; k_head; (case hw => w_witness2)
  k_fill
  refine Tw.walkG (l := PySem.Challenge.rw_bytoldways_k04_who_hears_in_the_end) (n := 63) (k := 8) (x := "_law_script") (CX := fun _ => L2.CX0) (sp := Tw.spLaw) rfl (by decide) rfl ⟨rfl, by decide, by decide⟩ (fun w h Y => PySem.W.kIn_of Y) ?F (fun K H a ns hl hS => ⟨a, ns, rfl, hS, hl, fun _ => rfl⟩) (fun _ _ _ _ _ z => z)
  case F =>
    intro w mg fa h KX G hmg
    refine' Tw.all_mk KX G hmg ?nCPolicy ?pgPolicy ?hdPolicy ?poPolicy ?saPolicy ?mkPolicy ?kcPolicy ?noPolicyusers ?noPolicypairs ?haPolicy ?omPolicy ?nePolicy ?hnG ?htk ?a1 ?l1 ?c1 ?k1 ?a2 ?l2 ?c2 ?k2 ?a3 ?l3 ?c3 ?k3 ?a4 ?l4 ?c4 ?k4 ?a5 ?l5 ?c5 ?k5 ?a6 ?i6 ?l6 ?c6 ?k6 ?a7 ?i7 ?l7 ?c7 ?k7 ?a8 ?i8 ?l8 ?c8 ?k8 ?a9 ?i9 ?l9 ?c9 ?k9 ?a10 ?i10 ?l10 ?c10 ?k10 ?a11 ?l11 ?c11 ?k11 ?a12 ?l12 ?c12 ?k12 ?a13 ?l13 ?c13 ?k13 ?a14 ?l14 ?c14 ?k14 ?a15 ?l15 ?c15 ?k15 ?a16 ?l16 ?c16 ?k16 ?z_list ?z_int ?z_len ?z_all ?z_zip ?z_isinstance ?z_tuple ?z_sorted ?z_range ?z_repr ?z_bool ?z_str ?g_PAIR
    (case nCPolicy => k_is); (case pgPolicy => k_is); (case hdPolicy => k_is); (case poPolicy => k_is); (case saPolicy => k_is); (case mkPolicy => k_is)
    (case kcPolicy => k_is); (case noPolicyusers => k_is); (case noPolicypairs => k_is); (case haPolicy => k_is); (case omPolicy => k_is); (case nePolicy => k_is)
    (case hnG => k_is); (case htk => k_is); (case a1 => k_is); (case l1 => k_is); (case c1 => k_is); (case k1 => k_is)
    (case a2 => k_is); (case l2 => k_is); (case c2 => k_is); (case k2 => k_is); (case a3 => k_is); (case l3 => k_is)
    (case c3 => k_is); (case k3 => k_is); (case a4 => k_is); (case l4 => k_is); (case c4 => k_is); (case k4 => k_is)
    (case a5 => k_is); (case l5 => k_is); (case c5 => k_is); (case k5 => k_is); (case a6 => k_is); (case i6 => k_is)
    (case l6 => k_is); (case c6 => k_is); (case k6 => k_is); (case a7 => k_is); (case i7 => k_is); (case l7 => k_is)
    (case c7 => k_is); (case k7 => k_is); (case a8 => k_is); (case i8 => k_is); (case l8 => k_is); (case c8 => k_is)
    (case k8 => k_is); (case a9 => k_is); (case i9 => k_is); (case l9 => k_is); (case c9 => k_is); (case k9 => k_is)
    (case a10 => k_is); (case i10 => k_is); (case l10 => k_is); (case c10 => k_is); (case k10 => k_is); (case a11 => k_is)
    (case l11 => k_is); (case c11 => k_is); (case k11 => k_is); (case a12 => k_is); (case l12 => k_is); (case c12 => k_is)
    (case k12 => k_is); (case a13 => k_is); (case l13 => k_is); (case c13 => k_is); (case k13 => k_is); (case a14 => k_is)
    (case l14 => k_is); (case c14 => k_is); (case k14 => k_is); (case a15 => k_is); (case l15 => k_is); (case c15 => k_is)
    (case k15 => k_is); (case a16 => k_is); (case l16 => k_is); (case c16 => k_is); (case k16 => k_is); (case z_list => k_is)
    (case z_int => k_is); (case z_len => k_is); (case z_all => k_is); (case z_zip => k_is); (case z_isinstance => k_is); (case z_tuple => k_is)
    (case z_sorted => k_is); (case z_range => k_is); (case z_repr => k_is); (case z_bool => k_is); (case z_str => k_is); (case g_PAIR => k_is)
