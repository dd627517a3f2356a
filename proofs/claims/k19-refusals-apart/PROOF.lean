import PyProof.Rows.All
import Wide.All
import OpenK.AllK
import Wide.FinOn
import HandS.ForMost
import HandS.Exc
import HandS.TryOnly
import HandS.ExcOwn
import HandS.WordsExc
import HandS.IsInst
import HandS.Wide
import HandS.WideBits
import HandS.Flow
import HandS.Evl
import HandS.TryMany
import HandS.Style
import HandS.SortKw
import KE.DatumOrd
import HandS.ExcIs
import HandS.HotCalls
import KE.KExcIs
import HandS.ExcInit
import HandS.ExcField
import HandS.Deep
import HandS.Iter
import HandS.Text
import HandS.Codes
import HandS.StrMore
import HandS.Replace
import HandS.Zip
import HandS.SortInts
import KE.DataCmp
import HandS.Head0
import HandS.Head1
import HandS.Head2
import HandS.HeadEnd
import HandS.HeadHook1
import HandS.HeadHook2
import PyProof.ListOps
import HandS.More
import HandS.Nested
import HandS.Conv
import HandS.RevRange
import HandS.SortRule
import HandS.Flt
import HandS.EndBits
import HandS.EndTab
import HandS.HeadHook4
import PySem.Challenge.RW_bitrail_k19_refusals_apart
set_option Elab.async false
set_option linter.all false
set_option maxRecDepth 100000
set_option maxHeartbeats 4000000
namespace Bt
open PySem L2
theorem n1 {α β : Type} {f : α → β} : List.map f [] = [] := rfl
theorem n2 {α : Type} {l : List α} {L : List (List α)} : (l :: L).flatten = l ++ L.flatten := List.flatten_cons
theorem n3 {α : Type} : ([] : List (List α)).flatten = [] := rfl
theorem n4 {α : Type} {a : α} {l m : List α} : (a :: l) ++ m = a :: (l ++ m) := rfl
theorem n5 {α : Type} {l : List α} : [] ++ l = l := rfl
theorem n6 {α : Type} {l : List α} : l ++ [] = l := List.append_nil l
theorem n7 {α : Type} {l m n : List α} : (l ++ m) ++ n = l ++ (m ++ n) := List.append_assoc l m n
theorem hd_ {α : Type} {a : α} {l : List α} : a ∈ a :: l := List.Mem.head _
theorem tl_ {α : Type} {a b : α} {l : List α} (h : a ∈ l) : a ∈ b :: l := List.Mem.tail _ h

abbrev Cell := Addr × HO
abbrev Ex (H H' : Hp) : Prop := ∀ a o, H a = some o → H' a = some o
theorem Ex.refl (H : Hp) : Ex H H := fun _ _ h => h
theorem Ex.trans {H H1 H2 : Hp} (a : Ex H H1) (b : Ex H1 H2) : Ex H H2 := fun x o h => b x o (a x o h)
theorem Ex.new {H : Hp} {p : Addr} {o : HO} (h : H p = none) : Ex H (upd H p o) := fun a u e => by
  rw [upd_ne (ne_of_none e h)]
  exact e
theorem Ex.back {H H' : Hp} {p : Addr} (e : Ex H H') (h : H' p = none) : H p = none := by
  cases h1 : H p with
  | none => rfl
  | some o =>
    rw [e p o h1] at h
    cases h
theorem Ex.rd {H H' : Hp} {a : Addr} {u : HO} (e : Ex H H') (h : Rd H a u) : Rd H' a u := by
  rcases h with h | ⟨o, h⟩
  · exact Or.inl (e a _ h)
  · exact Or.inr ⟨o, e a _ h⟩
theorem Ex.l {K : PySem.W.Frag} {H H' : Hp} {a : Addr} {xs : List V} (e : Ex H H') (h : SqL K H a xs) : SqL K H' a xs := by
  rcases h with h | h
  · exact Or.inl (e.rd h)
  · exact Or.inr h
theorem Ex.t {K : PySem.W.Frag} {H H' : Hp} {a : Addr} {xs : List V} (e : Ex H H') (h : SqT K H a xs) : SqT K H' a xs := by
  rcases h with h | h
  · exact Or.inl (e.rd h)
  · exact Or.inr h

structure Own (R H : Hp) (L : List Cell) : Prop where
  ex : Ex R H
  at_ : ∀ c ∈ L, H c.1 = some c.2
  fr : ∀ c ∈ L, R c.1 = none
  nd : (L.map (·.1)).Nodup

section
variable {R H H' : Hp} {L L' A B C : List Cell} {a p q : Addr} {o o' : HO}
theorem Own.start (H : Hp) : Own H H [] := ⟨Ex.refl H, fun _ h => (nomatch h), fun _ h => (nomatch h), List.Pairwise.nil⟩
theorem Own.mem (O : Own R H L) (h : (a, o) ∈ L) : H a = some o := O.at_ _ h
theorem Own.tl {c1 : Cell} (O : Own R H (c1 :: L)) : Own R H L :=
  ⟨O.ex, fun c h => O.at_ c (List.Mem.tail _ h), fun c h => O.fr c (List.Mem.tail _ h), (List.nodup_cons.mp O.nd).2⟩
theorem Own.ext (O : Own R H L) (e : Ex H H') : Own R H' L := ⟨O.ex.trans e, fun c h => e _ _ (O.at_ c h), O.fr, O.nd⟩
theorem Own.notin (O : Own R H L) (h : H p = none) : p ∉ L.map (·.1) := fun m => by
  obtain ⟨c, hc, e⟩ := List.mem_map.mp m
  have := O.at_ c hc
  rw [e, h] at this
  cases this
theorem Own.ext1 (O : Own R H L) (e : Ex H H') (h : H p = none) (h' : H' p = some o) : Own R H' ((p, o) :: L) :=
  ⟨O.ex.trans e, fun c hc => by
    rcases List.mem_cons.mp hc with rfl | hc
    · exact h'
    · exact e _ _ (O.at_ c hc), fun c hc => by
    rcases List.mem_cons.mp hc with rfl | hc
    · exact O.ex.back h
    · exact O.fr c hc, List.nodup_cons.mpr ⟨O.notin h, O.nd⟩⟩
theorem Own.new (O : Own R H L) (h : H p = none) : Own R (upd H p o) ((p, o) :: L) := O.ext1 (Ex.new h) h upd_same
theorem Own.app (O : Own R H L) (N : Own H H' A) : Own R H' (A ++ L) :=
  ⟨O.ex.trans N.ex, fun c hc => by
    rcases List.mem_append.mp hc with hc | hc
    · exact N.at_ c hc
    · exact N.ex _ _ (O.at_ c hc), fun c hc => by
    rcases List.mem_append.mp hc with hc | hc
    · exact O.ex.back (N.fr c hc)
    · exact O.fr c hc, by
    rw [List.map_append]
    refine List.nodup_append.mpr ⟨N.nd, O.nd, fun x hx y hy e => ?_⟩
    subst e
    obtain ⟨c, hc, e⟩ := List.mem_map.mp hx
    have := N.fr c hc
    rw [e] at this
    exact O.notin this hy⟩
theorem Own.put (O : Own R H (A ++ (p, o) :: B)) : Own R (upd H p o') (A ++ (p, o') :: B) := by
  have nd := O.nd
  rw [List.map_append, List.map_cons] at nd
  have nA : p ∉ A.map (·.1) := fun m => by
    have := (List.nodup_append.mp nd).2.2
    exact this _ m p (List.Mem.head _) rfl
  have nB : p ∉ B.map (·.1) := (List.nodup_cons.mp (List.nodup_append.mp nd).2.1).1
  have hp : R p = none := O.fr (p, o) (by simp)
  refine ⟨fun b u e => ?_, fun c hc => ?_, fun c hc => ?_, by rw [List.map_append, List.map_cons]; exact nd⟩
  · rw [upd_ne (ne_of_none e hp)]
    exact O.ex _ _ e
  · rcases List.mem_append.mp hc with hA | hc
    · rw [upd_ne (fun e : c.1 = p => nA (by rw [← e]; exact List.mem_map_of_mem hA))]
      exact O.at_ c (List.mem_append.mpr (Or.inl hA))
    · rcases List.mem_cons.mp hc with rfl | hB
      · exact upd_same
      · rw [upd_ne (fun e : c.1 = p => nB (by rw [← e]; exact List.mem_map_of_mem hB))]
        exact O.at_ c (List.mem_append.mpr (Or.inr (List.mem_cons_of_mem _ hB)))
  · rcases List.mem_append.mp hc with hA | hc
    · exact O.fr c (List.mem_append.mpr (Or.inl hA))
    · rcases List.mem_cons.mp hc with rfl | hB
      · exact hp
      · exact O.fr c (List.mem_append.mpr (Or.inr (List.mem_cons_of_mem _ hB)))
theorem Own.put0 (O : Own R H ((p, o) :: B)) : Own R (upd H p o') ((p, o') :: B) := Own.put (A := []) O
theorem Own.put1 {c1 : Cell} (O : Own R H (c1 :: (p, o) :: B)) : Own R (upd H p o') (c1 :: (p, o') :: B) := Own.put (A := [c1]) O
theorem Own.sub (O : Own R H L) (e : L'.Sublist L) : Own R H L' :=
  ⟨O.ex, fun c h => O.at_ c (e.subset h), fun c h => O.fr c (e.subset h), List.Nodup.sublist (e.map _) O.nd⟩
end

def RetV (v : V) (H : Hp) (Q : VK) : Prop := ∀ H', Ex H H' → Q v H'
def RetL (xs : List V) (H : Hp) (Q : VK) : Prop := ∀ p H', H p = none → Ex H H' → H' p = some (.lst xs) → Q (.ref p) H'
def RetT (xs : List V) (H : Hp) (Q : VK) : Prop := ∀ p H', H p = none → Ex H H' → H' p = some (.tup xs) → Q (.ref p) H'
section
variable {R H : Hp} {L : List Cell} {Q : VK} {v : V} {xs : List V}
theorem Own.retV (O : Own R H L) (k : ∀ H', Own R H' L → Q v H') : RetV v H Q := fun H' e => k H' (O.ext e)
theorem Own.retL (O : Own R H L) (k : ∀ p H', Own R H' ((p, .lst xs) :: L) → Q (.ref p) H') : RetL xs H Q := fun p H' h e h' => k p H' (O.ext1 e h h')
theorem Own.retT (O : Own R H L) (k : ∀ p H', Own R H' ((p, .tup xs) :: L) → Q (.ref p) H') : RetT xs H Q := fun p H' h e h' => k p H' (O.ext1 e h h')
theorem RetV.go {H0 H : Hp} {L : List Cell} {v : V} {Q : VK} (k : RetV v H0 Q) (O : Own H0 H L) : Q v H := k H O.ex
theorem RetL.go {H0 H : Hp} {L : List Cell} {xs : List V} {Q : VK} {p : Addr} (k : RetL xs H0 Q) (O : Own H0 H L) (h : (p, HO.lst xs) ∈ L) : Q (.ref p) H := k p H (O.fr _ h) O.ex (O.at_ _ h)
theorem RetT.go {H0 H : Hp} {L : List Cell} {xs : List V} {Q : VK} {p : Addr} (k : RetT xs H0 Q) (O : Own H0 H L) (h : (p, HO.tup xs) ∈ L) : Q (.ref p) H := k p H (O.fr _ h) O.ex (O.at_ _ h)
end

end Bt

set_option Elab.async false
set_option linter.all false
set_option maxRecDepth 100000
set_option maxHeartbeats 4000000
namespace Bt
open PySem L2

section
variable {α β γ S R T : Type}
def ltv (a : α) (f : α → Option β) : Option β := f a
theorem ltvE {a : α} {f : α → Option β} {r : β} (h : ltv a f = some r) : ∃ x, a = x ∧ f x = some r := ⟨a, rfl, h⟩
def bnd (a : Option α) (f : α → Option β) : Option β := match a with
  | some x => f x
  | none => none
theorem bndE {a : Option α} {f : α → Option β} {r : β} (h : bnd a f = some r) : ∃ x, a = some x ∧ f x = some r := by
  cases a with
  | none => cases h
  | some x => exact ⟨x, rfl, h⟩
def ifB (c : Bool) (a b : α) : α := match c with
  | true => a
  | false => b
theorem ifT {c : Bool} {a b r : α} (h : ifB c a b = r) (hc : c = true) : a = r := by subst hc; exact h
theorem ifF {c : Bool} {a b r : α} (h : ifB c a b = r) (hc : c = false) : b = r := by subst hc; exact h
inductive Fl (S R : Type) where
  | nx (s : S)
  | rt (r : R)
  | bk (s : S)
def finK (rest : S → Option R) : Fl S R → Option R
  | .nx s => rest s
  | .rt r => some r
  | .bk _ => none
def fin (a : Option (Fl S R)) (rest : S → Option R) : Option R := bnd a (finK rest)
theorem finRt {rest : S → Option R} {v r : R} (h : finK rest (.rt v) = some r) : v = r := Option.some.inj h
def loopM (f : α → S → Option S) : List α → S → Option S
  | [], s => some s
  | x :: r, s => bnd (f x s) (loopM f r)
theorem loopM_nil {f : α → S → Option S} {s out : S} (h : loopM f [] s = some out) : out = s := (Option.some.inj h).symm
theorem loopM_cons {f : α → S → Option S} {x : α} {r : List α} {s out : S} (h : loopM f (x :: r) s = some out) : ∃ s', f x s = some s' ∧ loopM f r s' = some out := bndE h
def contF (go : S → Option (Fl S R)) : Fl S R → Option (Fl S R)
  | .nx s => go s
  | .rt r => some (.rt r)
  | .bk s => some (.nx s)
def loopF (f : α → S → Option (Fl S R)) : List α → S → Option (Fl S R)
  | [], s => some (.nx s)
  | x :: r, s => bnd (f x s) (contF (loopF f r))
theorem loopF_nil {f : α → S → Option (Fl S R)} {s : S} {out : Fl S R} (h : loopF f [] s = some out) : Fl.nx s = out := Option.some.inj h
theorem loopF_cons {f : α → S → Option (Fl S R)} {x : α} {r : List α} {s : S} {out : Fl S R} (h : loopF f (x :: r) s = some out) : ∃ fl, f x s = some fl ∧ contF (loopF f r) fl = some out := bndE h
theorem contRt {go : S → Option (Fl S R)} {v : R} {out : Fl S R} (h : contF go (.rt v) = some out) : Fl.rt v = out := Option.some.inj h
def whileM (c : S → Option Bool) (f : S → Option S) : Nat → S → Option S
  | 0, _ => none
  | n + 1, s => bnd (c s) fun b => ifB b (bnd (f s) (whileM c f n)) (some s)
theorem whileM_zero {c : S → Option Bool} {f : S → Option S} {s out : S} (h : whileM c f 0 s = some out) : False := nomatch h
theorem whileM_succ {c : S → Option Bool} {f : S → Option S} {n : Nat} {s out : S} (h : whileM c f (n + 1) s = some out) : ∃ b, c s = some b ∧ ifB b (bnd (f s) (whileM c f n)) (some s) = some out := bndE h
def compM (f : α → Option β) : List α → List β → Option (List β)
  | [], acc => some acc
  | x :: r, acc => bnd (f x) fun y => if acc.length < 16777216 then compM f r (acc ++ [y]) else none
theorem compM_cons {f : α → Option β} {x : α} {r : List α} {acc out : List β} (h : compM f (x :: r) acc = some out) : ∃ y, f x = some y ∧ acc.length < 16777216 ∧ compM f r (acc ++ [y]) = some out := by
  obtain ⟨y, h1, h2⟩ := bndE (show bnd (f x) (fun y => if acc.length < 16777216 then compM f r (acc ++ [y]) else none) = some out from h)
  by_cases c : acc.length < 16777216
  · rw [if_pos c] at h2
    exact ⟨y, h1, c, h2⟩
  · rw [if_neg c] at h2
    cases h2
theorem compM_nil {f : α → Option β} {acc out : List β} (h : compM f [] acc = some out) : out = acc := (Option.some.inj h).symm
def compT (c : α → Option Bool) (f : α → Option β) : List α → List β → Option (List β)
  | [], acc => some acc
  | x :: r, acc => bnd (c x) fun b => ifB b (bnd (f x) fun y => if acc.length < 16777216 then compT c f r (acc ++ [y]) else none) (compT c f r acc)
theorem compT_nil {c : α → Option Bool} {f : α → Option β} {acc out : List β} (h : compT c f [] acc = some out) : out = acc := (Option.some.inj h).symm
theorem compT_cons {c : α → Option Bool} {f : α → Option β} {x : α} {r : List α} {acc out : List β} (h : compT c f (x :: r) acc = some out) :
    ∃ b, c x = some b ∧ ifB b (bnd (f x) fun y => if acc.length < 16777216 then compT c f r (acc ++ [y]) else none) (compT c f r acc) = some out := bndE h
theorem compT_yes {c : α → Option Bool} {f : α → Option β} {x : α} {r : List α} {acc out : List β} (h : (bnd (f x) fun y => if acc.length < 16777216 then compT c f r (acc ++ [y]) else none) = some out) :
    ∃ y, f x = some y ∧ acc.length < 16777216 ∧ compT c f r (acc ++ [y]) = some out := by
  obtain ⟨y, h1, h2⟩ := bndE h
  by_cases c : acc.length < 16777216
  · rw [if_pos c] at h2
    exact ⟨y, h1, c, h2⟩
  · rw [if_neg c] at h2
    cases h2
end
section
variable {α : Type}
def grd (c : Prop) [Decidable c] (a : α) : Option α := if c then some a else none
theorem grdE {c : Prop} [Decidable c] {a r : α} (h : grd c a = some r) : c ∧ a = r := by
  unfold grd at h
  by_cases hc : c
  · rw [if_pos hc] at h
    exact ⟨hc, Option.some.inj h⟩
  · rw [if_neg hc] at h
    cases h
theorem grd_of {c : Prop} [Decidable c] {a : α} (h : c) : grd c a = some a := if_pos h
def appG (xs : List α) (y : α) : Option (List α) := grd (xs.length < 16777216) (xs ++ [y])
def catG (xs ys : List α) : Option (List α) := grd (xs.length + ys.length ≤ 16777216) (xs ++ ys)
def repG (xs : List α) (k : Int) : Option (List α) := grd (-(2 ^ 63) ≤ k ∧ k < 2 ^ 63 ∧ xs.length * k.toNat ≤ 16777216) (List.flatten (List.replicate k.toNat xs))
def cutL (xs : List α) (lo hi : Option Int) : List α := (xs.drop (HT.sIx xs.length 0 lo)).take (HT.sIx xs.length xs.length hi - HT.sIx xs.length 0 lo)
def rangeI (lo hi : Int) : List Int := (List.range (hi - lo).toNat).map fun (i : Nat) => lo + (i : Int)
def rng1 (hi : Int) : Option (List Int) := grd (-(2 ^ 62) ≤ hi ∧ hi < 2 ^ 62) (rangeI 0 hi)
end
def modG (i j : Int) : Option Int := grd (0 < j) (i % j)
def fdivG (i j : Int) : Option Int := grd (0 < j ∧ j.natAbs.log2 < 9000) (i / j)
def mulG (i j : Int) : Option Int := grd (i.natAbs.log2 + j.natAbs.log2 < 1000000) (i * j)
def shlG (i j : Int) : Option Int := grd (0 ≤ j ∧ (Builtin.Int.intBits i : Int) + j ≤ 2 ^ 27) (i * 2 ^ j.toNat)
def shrG (i j : Int) : Option Int := grd (0 ≤ j) (i / 2 ^ j.toNat)
def powG (i j : Int) : Option Int := grd (0 ≤ j ∧ j ≤ 1000000 ∧ i.natAbs < 2 ^ 64) (i ^ j.toNat)

section
variable {K : PySem.W.Frag} {σ : St} {H R : Hp} {L : List Cell} {Q : VK} {i j t : Int} {x y z v : V} {a b p q : Addr} {α : Type} {f : α → V} {xs ys zs : List α} {xs' ys' : List Int}
theorem k_mul (h : mulG i j = some t) (k : Q (.int t) H) : rI CMulW (fun i j => .int (i * j)) (.int i) (.int j) H Q := by
  obtain ⟨c, rfl⟩ := grdE h
  exact ⟨_, _, rfl, rfl, c, k⟩
theorem k_mod (h : modG i j = some t) (k : Q (.int t) H) : rI (fun _ j => 0 < j) (fun i j => .int (i % j)) (.int i) (.int j) H Q := by
  obtain ⟨c, rfl⟩ := grdE h
  exact ⟨_, _, rfl, rfl, c, k⟩
theorem k_fdiv (h : fdivG i j = some t) (k : Q (.int t) H) : rI CDivW (fun i j => .int (i / j)) (.int i) (.int j) H Q := by
  obtain ⟨c, rfl⟩ := grdE h
  exact ⟨_, _, rfl, rfl, c, k⟩
theorem k_shl (h : shlG i j = some t) (k : Q (.int t) H) : rI CShl (fun i j => .int (i * 2 ^ j.toNat)) (.int i) (.int j) H Q := by
  obtain ⟨c, rfl⟩ := grdE h
  exact ⟨_, _, rfl, rfl, c, k⟩
theorem k_shr (h : shrG i j = some t) (k : Q (.int t) H) : rI (fun _ j => 0 ≤ j) (fun i j => .int (i / 2 ^ j.toNat)) (.int i) (.int j) H Q := by
  obtain ⟨c, rfl⟩ := grdE h
  exact ⟨_, _, rfl, rfl, c, k⟩
theorem k_pow (h : powG i j = some t) (k : Q (.int t) H) : rI CPow (fun i j => .int (i ^ j.toNat)) (.int i) (.int j) H Q := by
  obtain ⟨c, rfl⟩ := grdE h
  exact ⟨_, _, rfl, rfl, c, k⟩
theorem dec_int (i j : Int) : decide (V.int i = V.int j) = decide (i = j) := by
  by_cases h : i = j
  · subst h; simp
  · have : ¬ V.int i = V.int j := fun e => h (V.int.inj e)
    simp [h, this]
theorem k_eqI (k : Q (.bl (decide (i = j))) H) : rEq (.int i) (.int j) H Q := ⟨rfl, by rw [dec_int]; exact k⟩
theorem k_neI (k : Q (.bl (!decide (i = j))) H) : rNe (.int i) (.int j) H Q := ⟨rfl, by rw [dec_int]; exact k⟩
theorem dpI : ∀ (ns : List Int), DpAll K H (ns.map V.int) (ns.map PyData.int)
  | [] => .nil
  | n :: r => .cons (.int n) (dpI r)
theorem sh_I (ns : List Int) : SeqAt.shaped (.list (ns.map PyData.int)) = true := by
  have h1 : ∀ ns : List Int, PyData.canLayAll0 (ns.map PyData.int) = true := fun ns => by
    induction ns with
    | nil => rfl
    | cons n r ih => simpa [PyData.canLayAll0, PyData.canLay0] using ih
  have h2 : ∀ ns : List Int, PyData.depthAll (ns.map PyData.int) = 0 := fun ns => by
    induction ns with
    | nil => rfl
    | cons n r ih => simpa [PyData.depthAll, PyData.depth] using ih
  simp [SeqAt.shaped, PyData.canLay0, h1, PyData.depth, h2]
theorem ev_I : ∀ (ns ms : List Int), PyData.eqv (.list (ns.map PyData.int)) (.list (ms.map PyData.int)) = decide (ns = ms) := by
  have h : ∀ (ns ms : List Int), PyData.eqvAll (ns.map PyData.int) (ms.map PyData.int) = decide (ns = ms) := fun ns => by
    induction ns with
    | nil => intro ms; cases ms <;> simp [PyData.eqvAll]
    | cons n r ih =>
      intro ms
      cases ms with
      | nil => simp [PyData.eqvAll]
      | cons m s =>
        simp only [List.map_cons, PyData.eqvAll, PyData.eqv, ih, List.cons.injEq, Bool.decide_and]
        rw [Bool.beq_eq_decide_eq]
  exact fun ns ms => by simpa only [PyData.eqv] using h ns ms
theorem k_eqLI (ha : SqL K H a (xs'.map V.int)) (hb : SqL K H b (ys'.map V.int)) (k : Q (.bl (decide (xs' = ys'))) H) : rEqD K (.ref a) (.ref b) H Q :=
  ⟨_, _, .lst ha (dpI _), .lst hb (dpI _), sh_I _, sh_I _, by rw [ev_I]; exact k⟩
theorem k_neLI (ha : SqL K H a (xs'.map V.int)) (hb : SqL K H b (ys'.map V.int)) (k : Q (.bl (!decide (xs' = ys'))) H) : rNeD K (.ref a) (.ref b) H Q :=
  ⟨_, _, .lst ha (dpI _), .lst hb (dpI _), sh_I _, sh_I _, by rw [ev_I]; exact k⟩
theorem at_map {xs : List α} {i : Int} {x : α} (h : atI xs i = some x) (f : α → V) : atI (xs.map f) i = some (f x) := by
  unfold atI at h ⊢
  rw [List.length_map]
  cases e : ixN xs.length i with
  | none => rw [e] at h; cases h
  | some j =>
    rw [e] at h
    show (xs.map f)[j]? = some (f x)
    rw [List.getElem?_map, (show xs[j]? = some x from h)]
    rfl
theorem k_ixL {x : α} (hs : SqL K H a (xs.map f)) (h : atI xs i = some x) (k : Q (f x) H) : rIxL K (.ref a) (.int i) H Q := ⟨a, _, i, _, rfl, rfl, hs, at_map h f, k⟩
theorem map_snoc (xs : List α) (x : α) (f : α → V) : xs.map f ++ [f x] = (xs ++ [x]).map f := by rw [List.map_append]; rfl
theorem k_app {x : α} {g : HO → List Cell} (hl : H a = some (.lst (xs.map f))) (hp : ∀ o', Own R (upd H a o') (g o')) (h : appG xs x = some ys) (k : ∀ H', Own R H' (g (.lst (ys.map f))) → Q .non H') : rAppend (.ref a) [f x] H Q := by
  obtain ⟨c, rfl⟩ := grdE h
  refine ⟨a, _, _, rfl, rfl, hl, by rw [List.length_map]; exact c, ?_⟩
  rw [map_snoc]
  exact k _ (hp _)
theorem map_cut (xs : List α) (lo hi : Option Int) (f : α → V) : cutV (xs.map f) lo hi = (cutL xs lo hi).map f := by
  unfold cutV cutL
  rw [List.length_map, ← List.map_drop, ← List.map_take]
theorem k_cut {lo hi : Option Int} (O : Own R H L) (hs : SqL K H a (xs.map f)) (k : ∀ p H', Own R H' ((p, .lst ((cutL xs lo hi).map f)) :: L) → Q (.ref p) H') : rSlL K (.ref a) lo hi H Q :=
  ⟨a, _, rfl, hs, fun p hp => by rw [map_cut]; exact k p _ (O.new hp)⟩
theorem k_cat {ys zs : List α} (O : Own R H L) (h1 : H a = some (.lst (xs.map f))) (h2 : H b = some (.lst (ys.map f))) (h : catG xs ys = some zs) (k : ∀ p H', Own R H' ((p, .lst (zs.map f)) :: L) → Q (.ref p) H') : rCat (.ref a) (.ref b) H Q := by
  obtain ⟨c, rfl⟩ := grdE h
  exact ⟨a, b, _, _, rfl, rfl, h1, h2, by rw [List.length_map, List.length_map]; exact c, fun p hp => by rw [← List.map_append]; exact k p _ (O.new hp)⟩
theorem x_and {c d e : Bool} {tt uu : TT} {QB : Bool → Hp → Prop} (O : Own R H L) (h1 : ∀ Q1 : Bool → Hp → Prop, (∀ H', Own R H' L → Q1 c H') → tt σ H Q1) (h2 : c = true → e = d ∧ ∀ H', Own R H' L → ∀ Q2 : Bool → Hp → Prop, (∀ H'', Own R H'' L → Q2 e H'') → uu σ H' Q2)
    (h3 : c = false → false = d) (k : ∀ H', Own R H' L → QB d H') : tAnd tt uu σ H QB := by
  refine h1 _ fun H' O' => ?_
  cases c with
  | true =>
    obtain ⟨e1, g2⟩ := h2 rfl
    subst e1
    exact g2 H' O' QB k
  | false =>
    rw [← h3 rfl] at k
    exact k H' O'
theorem x_or {c d e : Bool} {tt uu : TT} {QB : Bool → Hp → Prop} (O : Own R H L) (h1 : ∀ Q1 : Bool → Hp → Prop, (∀ H', Own R H' L → Q1 c H') → tt σ H Q1) (h2 : c = false → e = d ∧ ∀ H', Own R H' L → ∀ Q2 : Bool → Hp → Prop, (∀ H'', Own R H'' L → Q2 e H'') → uu σ H' Q2)
    (h3 : c = true → true = d) (k : ∀ H', Own R H' L → QB d H') : tOr tt uu σ H QB := by
  refine h1 _ fun H' O' => ?_
  cases c with
  | false =>
    obtain ⟨e1, g2⟩ := h2 rfl
    subst e1
    exact g2 H' O' QB k
  | true =>
    rw [← h3 rfl] at k
    exact k H' O'
theorem x_andV {c d e : Bool} {tt uu : TE} (O : Own R H L) (h1 : ∀ Q1 : VK, (∀ H', Own R H' L → Q1 (.bl c) H') → tt σ H Q1) (h2 : c = true → e = d ∧ ∀ H', Own R H' L → ∀ Q2 : VK, (∀ H'', Own R H'' L → Q2 (.bl e) H'') → uu σ H' Q2)
    (h3 : c = false → false = d) (k : ∀ H', Own R H' L → Q (.bl d) H') : tAndV tt uu σ H Q := by
  refine h1 _ fun H' O' => ⟨_, rfl, ?_⟩
  cases c with
  | true =>
    obtain ⟨e1, g2⟩ := h2 rfl
    subst e1
    exact g2 H' O' Q k
  | false =>
    rw [← h3 rfl] at k
    exact k H' O'
theorem x_chain {r r' : R2} {c d e : Bool} {ta tb tc : TE} (O : Own R H L) (h1 : ∀ Q1 : VK, (∀ H', Own R H' L → Q1 x H') → ta σ H Q1) (h2 : ∀ H', Own R H' L → ∀ Q1 : VK, (∀ H', Own R H' L → Q1 y H') → tb σ H' Q1) (h3 : ∀ H' (Q1 : VK), Q1 (.bl c) H' → r x y H' Q1)
    (h4 : c = true → e = d ∧ ∀ H', Own R H' L → ∀ Q1 : VK, (∀ H', Own R H' L → Q1 z H') → tc σ H' Q1) (h5 : ∀ H' (Q1 : VK), Q1 (.bl e) H' → r' y z H' Q1) (h6 : c = false → false = d) (k : ∀ H', Own R H' L → Q (.bl d) H') : tChain r r' ta tb tc σ H Q := by
  refine h1 _ fun H1 O1 => h2 H1 O1 _ fun H2 O2 => h3 H2 _ ⟨c, rfl, ?_⟩
  cases c with
  | true =>
    obtain ⟨e1, g4⟩ := h4 rfl
    subst e1
    exact g4 H2 O2 _ fun H3 O3 => h5 H3 _ (k H3 O3)
  | false =>
    rw [← h6 rfl] at k
    exact k H2 O2
theorem x_if {c : Bool} {tt : TT} {ta tb : TE} (O : Own R H L) (h1 : ∀ Q1 : Bool → Hp → Prop, (∀ H', Own R H' L → Q1 c H') → tt σ H Q1) (h2 : c = true → x = v ∧ ∀ H', Own R H' L → ∀ Q2 : VK, (∀ H'', Own R H'' L → Q2 x H'') → ta σ H' Q2)
    (h3 : c = false → y = v ∧ ∀ H', Own R H' L → ∀ Q2 : VK, (∀ H'', Own R H'' L → Q2 y H'') → tb σ H' Q2) (k : ∀ H', Own R H' L → Q v H') : tIf tt ta tb σ H Q := by
  refine h1 _ fun H' O' => ?_
  cases c with
  | true =>
    obtain ⟨e1, g2⟩ := h2 rfl
    subst e1
    exact g2 H' O' Q k
  | false =>
    obtain ⟨e1, g3⟩ := h3 rfl
    subst e1
    exact g3 H' O' Q k
theorem iteS {c : Bool} {A B : Prop} (h1 : c = true → A) (h2 : c = false → B) : if c = true then A else B := by
  cases c with
  | true => rw [if_pos rfl]; exact h1 rfl
  | false => rw [if_neg Bool.false_ne_true]; exact h2 rfl
theorem k_forL {g : TG} {tb : TS} {D : Ends} (J : List α → St → Hp → Prop) (h0 : J xs σ H) (hl : ∀ r σ H, J r σ H → SqL K H a (xs.map f))
    (hs : ∀ x r σ H, J (x :: r) σ H → g (f x) σ H fun σ2 H2 => tb { D with nx := J r, ct := J r, bk := D.nx } σ2 H2) (hd : ∀ σ H, J [] σ H → D.nx σ H) :
    ∃ W : Nat → Nat → St → Hp → Prop, (∃ m, W 0 m σ H) ∧ ∀ i m σ H, W i m σ H →
      ((Itl K a).stop i H ∧ D.nx σ H) ∨ ((Itl K a).go i H ∧ ∃ N : St → Hp → Prop, (∀ σ' H', N σ' H' → ∃ m', m' < m ∧ W (i + 1) m' σ' H') ∧ ∀ x H', (Itl K a).yld i H x H' → g x σ H' fun σ2 H2 => tb { D with nx := N, ct := N, bk := D.nx } σ2 H2) := by
  refine for_list (xs := xs.map f) (fun i σ H => J (xs.drop i) σ H) h0 (fun i σ H _ => hl _ σ H) (fun i x σ H hi hJ => ?_) fun σ H hJ => ?_
  · rw [List.getElem?_map] at hi
    cases e : xs[i]? with
    | none => rw [e] at hi; cases hi
    | some y =>
      rw [e] at hi
      cases hi
      have e2 : xs.drop i = y :: xs.drop (i + 1) := by
        obtain ⟨h1, h2⟩ := List.getElem?_eq_some_iff.mp e
        rw [← h2]
        exact List.drop_eq_getElem_cons h1
      rw [e2] at hJ
      exact hs y _ σ H hJ
  · rw [List.length_map, List.drop_length] at hJ
    exact hd σ H hJ
theorem k_forR {lo : Int} {n : Nat} {g : TG} {tb : TS} {D : Ends} (J : List Int → St → Hp → Prop) (h0 : J ((List.range n).map fun (i : Nat) => lo + (i : Int)) σ H)
    (hs : ∀ x r σ H, J (x :: r) σ H → g (.int x) σ H fun σ2 H2 => tb { D with nx := J r, ct := J r, bk := D.nx } σ2 H2) (hd : ∀ σ H, J [] σ H → D.nx σ H) :
    ∃ W : Nat → Nat → St → Hp → Prop, (∃ m, W 0 m σ H) ∧ ∀ i m σ H, W i m σ H →
      ((Itr lo n).stop i H ∧ D.nx σ H) ∨ ((Itr lo n).go i H ∧ ∃ N : St → Hp → Prop, (∀ σ' H', N σ' H' → ∃ m', m' < m ∧ W (i + 1) m' σ' H') ∧ ∀ x H', (Itr lo n).yld i H x H' → g x σ H' fun σ2 H2 => tb { D with nx := N, ct := N, bk := D.nx } σ2 H2) := by
  refine for_range (fun i σ H => J (((List.range n).map fun (i : Nat) => lo + (i : Int)).drop i) σ H) h0 (fun i σ H hi hJ => ?_) fun σ H hJ => ?_
  · have e2 : ((List.range n).map fun (i : Nat) => lo + (i : Int)).drop i = (lo + (i : Int)) :: ((List.range n).map fun (i : Nat) => lo + (i : Int)).drop (i + 1) := by
      have h1 : i < ((List.range n).map fun (i : Nat) => lo + (i : Int)).length := by simpa using hi
      rw [List.drop_eq_getElem_cons h1]
      simp
    rw [e2] at hJ
    exact hs _ _ σ H hJ
  · have e : ((List.range n).map fun (i : Nat) => lo + (i : Int)).drop n = [] := List.drop_eq_nil_of_le (by simp)
    rw [e] at hJ
    exact hd σ H hJ
theorem k_lcL {g : TG} {te : TE} {vs : List Nat} {D : Addr} {Qd : Hp → Prop} (J : List α → Hp → Prop) (h0 : J xs (upd H D (.lst []))) (hl : ∀ r H, J r H → SqL K H a (xs.map f))
    (hs : ∀ x r H, J (x :: r) H → g (f x) (wipe σ vs) H fun σ2 H2 => wipe σ2 vs = wipe σ vs ∧ te σ2 H2 fun y H4 => ∃ acc, H4 D = some (.lst acc) ∧ acc.length < sizeLine ∧ J r (upd H4 D (.lst (acc ++ [y])))) (hd : ∀ H, J [] H → Qd H) :
    ∃ W : Nat → Nat → Hp → Prop, (∃ m, W 0 m (upd H D (.lst []))) ∧ ∀ i m H, W i m H →
      ((Itl K a).stop i H ∧ Qd H) ∨ ((Itl K a).go i H ∧ ∃ Nx : Hp → Prop, (∀ H', Nx H' → ∃ m', m' < m ∧ W (i + 1) m' H') ∧ ∀ x H', (Itl K a).yld i H x H' → g x (wipe σ vs) H' fun σ2 H2 => wipe σ2 vs = wipe σ vs ∧ tYes σ2 H2 fun b H3 =>
        if b = true then te σ2 H3 fun y H4 => ∃ acc, H4 D = some (.lst acc) ∧ acc.length < sizeLine ∧ Nx (upd H4 D (.lst (acc ++ [y]))) else Nx H3) := by
  refine lc_list (xs := xs.map f) (fun i H => J (xs.drop i) H) h0 (fun i H _ => hl _ H) (fun i x H hi hJ => ?_) fun H hJ => ?_
  · rw [List.getElem?_map] at hi
    cases e : xs[i]? with
    | none => rw [e] at hi; cases hi
    | some y =>
      rw [e] at hi
      cases hi
      have e2 : xs.drop i = y :: xs.drop (i + 1) := by
        obtain ⟨h1, h2⟩ := List.getElem?_eq_some_iff.mp e
        rw [← h2]
        exact List.drop_eq_getElem_cons h1
      rw [e2] at hJ
      exact hs y _ H hJ
  · rw [List.length_map, List.drop_length] at hJ
    exact hd H hJ
theorem k_lcR {lo : Int} {n : Nat} {g : TG} {te : TE} {vs : List Nat} {D : Addr} {Qd : Hp → Prop} (J : List Int → Hp → Prop) (h0 : J ((List.range n).map fun (i : Nat) => lo + (i : Int)) (upd H D (.lst [])))
    (hs : ∀ x r H, J (x :: r) H → g (.int x) (wipe σ vs) H fun σ2 H2 => wipe σ2 vs = wipe σ vs ∧ te σ2 H2 fun y H4 => ∃ acc, H4 D = some (.lst acc) ∧ acc.length < sizeLine ∧ J r (upd H4 D (.lst (acc ++ [y])))) (hd : ∀ H, J [] H → Qd H) :
    ∃ W : Nat → Nat → Hp → Prop, (∃ m, W 0 m (upd H D (.lst []))) ∧ ∀ i m H, W i m H →
      ((Itr lo n).stop i H ∧ Qd H) ∨ ((Itr lo n).go i H ∧ ∃ Nx : Hp → Prop, (∀ H', Nx H' → ∃ m', m' < m ∧ W (i + 1) m' H') ∧ ∀ x H', (Itr lo n).yld i H x H' → g x (wipe σ vs) H' fun σ2 H2 => wipe σ2 vs = wipe σ vs ∧ tYes σ2 H2 fun b H3 =>
        if b = true then te σ2 H3 fun y H4 => ∃ acc, H4 D = some (.lst acc) ∧ acc.length < sizeLine ∧ Nx (upd H4 D (.lst (acc ++ [y]))) else Nx H3) := by
  refine lc_range (fun i H => J (((List.range n).map fun (i : Nat) => lo + (i : Int)).drop i) H) h0 (fun i H hi hJ => ?_) fun H hJ => ?_
  · have e2 : ((List.range n).map fun (i : Nat) => lo + (i : Int)).drop i = (lo + (i : Int)) :: ((List.range n).map fun (i : Nat) => lo + (i : Int)).drop (i + 1) := by
      have h1 : i < ((List.range n).map fun (i : Nat) => lo + (i : Int)).length := by simpa using hi
      rw [List.drop_eq_getElem_cons h1]
      simp
    rw [e2] at hJ
    exact hs _ _ H hJ
  · have e : ((List.range n).map fun (i : Nat) => lo + (i : Int)).drop n = [] := List.drop_eq_nil_of_le (by simp)
    rw [e] at hJ
    exact hd H hJ
end
end Bt

set_option Elab.async false
set_option linter.all false
set_option maxRecDepth 100000
set_option maxHeartbeats 4000000
namespace Bt
open PySem L2
def Gv (mg : Str → Option Value) (x : Str) (v : V) : Prop := ∃ u, mg x = some u ∧ RelV v u
theorem pe_gv {X : Cx} {x : Str} {v : V} {pos : Pos} (hg : Gl X x) (h : Gv X.mg x v) (hd : (x == ("__debug__" : Str)) = false := by decide) : PE X (.Name x pos) (tC v) := by
  obtain ⟨u, h1, h2⟩ := h
  exact pe_glob hg h1 h2 hd
section
variable {α S T R' : Type}
theorem finNx {rest : S → Option R'} {s : S} {r : R'} (h : finK rest (.nx s) = some r) : rest s = some r := h
end
section
variable {K : PySem.W.Frag} {σ : St} {H R : Hp} {L L' : List Cell} {Q : VK} {a b p : Addr} {α : Type} {f : α → V} {xs ys zs : List α}
theorem Own.sel (O : Own R H L) (is : List Nat) (hd : is.Nodup) (e : is.map (fun i => L[i]?) = L'.map some) : Own R H L' := by
  have hm : ∀ c ∈ L', c ∈ L := fun c hc => by
    have h1 : some c ∈ is.map (fun i => L[i]?) := by rw [e]; exact List.mem_map_of_mem hc
    obtain ⟨i, _, h2⟩ := List.mem_map.mp h1
    exact List.mem_of_getElem? h2
  refine ⟨O.ex, fun c h => O.at_ c (hm c h), fun c h => O.fr c (hm c h), ?_⟩
  clear hm
  induction is generalizing L' with
  | nil =>
    cases L' with
    | nil => exact List.Pairwise.nil
    | cons c r => simp at e
  | cons i is ih =>
    cases L' with
    | nil => simp at e
    | cons c r =>
      simp only [List.map_cons, List.cons.injEq] at e
      obtain ⟨e1, e2⟩ := e
      obtain ⟨n1, n2⟩ := List.nodup_cons.mp hd
      refine List.nodup_cons.mpr ⟨fun m => ?_, ih n2 e2⟩
      obtain ⟨d, hdm, ed⟩ := List.mem_map.mp m
      have h1 : some d ∈ is.map (fun i => L[i]?) := by rw [e2]; exact List.mem_map_of_mem hdm
      obtain ⟨j, hj, h2⟩ := List.mem_map.mp h1
      have g1 : (L.map (·.1))[i]? = some c.1 := by rw [List.getElem?_map, e1]; rfl
      have g2 : (L.map (·.1))[j]? = some c.1 := by
        rw [List.getElem?_map, h2]
        exact congrArg some ed
      have : i = j := nd_ix O.nd g1 g2
      subst this
      exact n1 hj
def pickL (L : List Cell) (is : List Nat) : List Cell := is.filterMap fun i => L[i]?
theorem pick_some (L : List Cell) : ∀ is : List Nat, (∀ i ∈ is, i < L.length) → is.map (fun i => L[i]?) = (pickL L is).map some
  | [], _ => rfl
  | i :: r, h => by
    have h1 := h i (List.Mem.head _)
    have ih := pick_some L r fun j hj => h j (List.Mem.tail _ hj)
    unfold pickL at ih ⊢
    rw [List.map_cons, List.filterMap_cons, ih, List.getElem?_eq_getElem h1]
    rfl
theorem Own.pk (O : Own R H L) (is : List Nat) (hd : is.Nodup) (e : pickL L is = L') : Own R H L' := by
  subst e
  have hm : pickL L is = pickL L (is.filter fun i => decide (i < L.length)) := by
    unfold pickL
    clear hd
    induction is with
    | nil => rfl
    | cons i r ih =>
      rw [List.filterMap_cons, List.filter_cons, ih]
      by_cases h : i < L.length
      · rw [decide_eq_true h, if_pos rfl, List.filterMap_cons]
      · rw [decide_eq_false h, if_neg (by simp), List.getElem?_eq_none (by omega)]
  rw [hm]
  exact O.sel _ (hd.filter _) (pick_some L _ fun i hi => by
    obtain ⟨_, h⟩ := List.mem_filter.mp hi
    exact of_decide_eq_true h)
theorem a_set {v v' : V} {nx : St → Hp → Prop} {i : Nat} (e : v = v') (k : nx (σ.set i (some v')) H) : nx (σ.set i (some v)) H := by rw [e]; exact k
theorem k_rep {k : Int} (O : Own R H L) (h1 : H a = some (.lst (xs.map f))) (h : repG xs k = some zs) (q : ∀ p H', Own R H' ((p, .lst (zs.map f)) :: L) → Q (.ref p) H') : rRep (.ref a) (.int k) H Q := by
  obtain ⟨⟨c1, c2, c3⟩, rfl⟩ := grdE h
  refine ⟨a, k, _, rfl, rfl, h1, c1, c2, by rw [List.length_map]; exact c3, fun p hp => ?_⟩
  have e : ∀ n : Nat, (List.replicate n (xs.map f)).flatten = (List.replicate n xs).flatten.map f := fun n => by
    induction n with
    | zero => rfl
    | succ n ih => rw [List.replicate_succ, List.flatten_cons, ih, List.replicate_succ, List.flatten_cons, List.map_append]
  first
    | (rw [e]; exact q p _ (O.new hp))
    | (show Q (.ref p) _; simpa only [e] using q p _ (O.new hp))
end
end Bt
namespace Bt
open PySem L2
@[irreducible] def rNewL (xs : List V) (H : Hp) (Q : VK) : Prop := xs.length ≤ sizeLine ∧ ∀ p, H p = none → Q (.ref p) (upd H p (.lst xs))
@[irreducible] def rNewT (xs : List V) (H : Hp) (Q : VK) : Prop := xs.length ≤ sizeLine ∧ ∀ p, H p = none → Q (.ref p) (upd H p (.tup xs))
@[irreducible] def rLenQ (K : PySem.W.Frag) (xs : List V) (H : Hp) (Q : VK) : Prop := ∃ p ys, xs = [V.ref p] ∧ (SqL K H p ys ∨ SqT K H p ys) ∧ Q (.int ys.length) H
@[irreducible] def rListQ (K : PySem.W.Frag) (xs : List V) (H : Hp) (Q : VK) : Prop := ∃ p ys, xs = [V.ref p] ∧ (SqL K H p ys ∨ SqT K H p ys) ∧ ∀ l, H l = none → Q (.ref l) (upd H l (.lst ys))
section
variable {X : Cx}
theorem pe_lstQ {es : List Expr} {t : TA} {pos : Pos} (h : PE X (.List es pos) (tLst t)) : PE X (.List es pos) (fun σ H Q => t σ H fun xs H1 => rNewL xs H1 Q) := by
  unfold rNewL
  exact h
theorem pe_tupQ {es : List Expr} {k : Nat} {t : TA} {pos : Pos} (h : PE X (.Tuple es k pos) (tTup t)) : PE X (.Tuple es k pos) (fun σ H Q => t σ H fun xs H1 => rNewT xs H1 Q) := by
  unfold rNewT
  exact h
theorem call_lenQ : CallR X (.builtin "len") (rLenQ X.K) := by
  have e : rLenQ X.K = fun xs H Q => ∃ p ys, xs = [V.ref p] ∧ (SqL X.K H p ys ∨ SqT X.K H p ys) ∧ Q (.int ys.length) H := by
    funext xs H Q
    unfold rLenQ
    rfl
  rw [e]
  exact call_len_seq
theorem call_listQ : CallR X (.type "list") (rListQ X.K) := by
  have e : rListQ X.K = fun xs H Q => ∃ p ys, xs = [V.ref p] ∧ (SqL X.K H p ys ∨ SqT X.K H p ys) ∧ ∀ l, H l = none → Q (.ref l) (upd H l (.lst ys)) := by
    funext xs H Q
    unfold rListQ
    rfl
  rw [e]
  exact call_list_of
end
section
variable {K : PySem.W.Frag} {σ : St} {H R : Hp} {L L' : List Cell} {Q : VK} {a b p : Addr} {α : Type} {f : α → V} {xs ys zs : List α}
theorem x_nil {QA : List V → Hp → Prop} (h : QA [] H) : tNil σ H QA := h
theorem x_np {QO : Option Int → Hp → Prop} (h : QO none H) : tNoPart σ H QO := h
theorem n_lst {zs : List V} (O : Own R H L) (e : xs.map f = zs) (hz : zs.length ≤ sizeLine) (k : ∀ p H', Own R H' ((p, .lst (xs.map f)) :: L) → Q (.ref p) H') : rNewL zs H Q := by
  subst e
  unfold rNewL
  exact ⟨hz, fun p hp => k p _ (O.new hp)⟩
theorem n_lenT {K : PySem.W.Frag} {H : Hp} {Q : VK} {a : Addr} {ys : List V} {n : Nat} (hs : SqT K H a ys) (hn : ys.length = n) (q : Q (.int (n : Int)) H) : rLenQ K [.ref a] H Q := by
  unfold rLenQ
  exact ⟨a, ys, rfl, .inr hs, by rw [hn]; exact q⟩
theorem n_len (h : SqL K H a (xs.map f)) (k : Q (.int (xs.length : Int)) H) : rLenQ K [.ref a] H Q := by
  unfold rLenQ
  exact ⟨a, _, rfl, .inl h, by rw [List.length_map]; exact k⟩
theorem n_list {ys : List V} (O : Own R H L) (h : SqL K H a ys) (k : ∀ p H', Own R H' ((p, .lst ys) :: L) → Q (.ref p) H') : rListQ K [.ref a] H Q := by
  unfold rListQ
  exact ⟨a, _, rfl, .inl h, fun l hl => k l _ (O.new hl)⟩
theorem rng1E {j : Int} {xs : List Int} (h : rng1 j = some xs) : -(2 ^ 62) ≤ j ∧ j < 2 ^ 62 ∧ ((List.range j.toNat).map fun (i : Nat) => (0 : Int) + (i : Int)) = xs := by
  obtain ⟨⟨c1, c2⟩, rfl⟩ := grdE h
  exact ⟨c1, c2, by unfold rangeI; rw [Int.sub_zero]⟩
end
end Bt
namespace Bt
open PySem L2
section
variable {K : PySem.W.Frag} {σ : St} {H : Hp} {Q : VK} {D : Ends} {t u ts : TS} {te ta tb tl : TE} {tr : TA} {c : TT} {v : V} {i : Nat} {r : R2} {QB : Bool → Hp → Prop} {QA : List V → Hp → Prop} {QO : Option Int → Hp → Prop} {R : It → Hp → Prop}
theorem o_seq {n b k : St → Hp → Prop} {w : VK} (h : t (Ends.mk (u (Ends.mk n w b k)) w b k) σ H) : tSeq t u (Ends.mk n w b k) σ H := h
theorem o_asg {n b k : St → Hp → Prop} {w : VK} (h : te σ H fun x H1 => n (σ.set i (some x)) H1) : tAsg te (gName i) (Ends.mk n w b k) σ H := h
theorem o_drop {n b k : St → Hp → Prop} {w : VK} (h : te σ H fun _ H1 => n σ H1) : tDrop te (Ends.mk n w b k) σ H := h
theorem o_ret {n b k : St → Hp → Prop} {w : VK} (h : te σ H w) : tRet te (Ends.mk n w b k) σ H := h
theorem o_ifs {n b k : St → Hp → Prop} {w : VK} (h : c σ H fun z H1 => if z = true then t (Ends.mk n w b k) σ H1 else u (Ends.mk n w b k) σ H1) : tIfS c t u (Ends.mk n w b k) σ H := h
theorem o_next {n b k : St → Hp → Prop} {w : VK} (h : n σ H) : tNext (Ends.mk n w b k) σ H := h
theorem o_cut {n b k : St → Hp → Prop} {w : VK} (Mid : St → Hp → Prop) (h1 : t (Ends.mk Mid w b k) σ H) (h2 : ∀ σ' H', Mid σ' H' → u (Ends.mk n w b k) σ' H') : Evl.tCut t u (Ends.mk n w b k) σ H := ⟨Mid, h1, h2⟩
theorem o_op (h : ta σ H fun x H1 => tb σ H1 fun y H2 => r x y H2 Q) : tOp r ta tb σ H Q := h
theorem o_c (h : Q v H) : tC v σ H Q := h
theorem o_cons (h : ta σ H fun x H1 => tr σ H1 fun xs H2 => QA (x :: xs) H2) : tCons ta tr σ H QA := h
theorem o_call {sp : Sp} {dvs : List V} {E : XK} (h : tr σ H fun vs H1 => sp (vs ++ dvs) H1 Q E) : tCall sp dvs E tr σ H Q := h
theorem o_for {wi : TI} {g : TG} {n b k : St → Hp → Prop} {w : VK} (h : wi σ H fun J H1 => ∃ W : Nat → Nat → St → Hp → Prop, (∃ m, W 0 m σ H1) ∧ ∀ i m σ H, W i m σ H →
    (J.stop i H ∧ n σ H) ∨ (J.go i H ∧ ∃ N : St → Hp → Prop, (∀ σ' H', N σ' H' → ∃ m', m' < m ∧ W (i + 1) m' σ' H') ∧ ∀ x H', J.yld i H x H' → g x σ H' fun σ2 H2 => ts (Ends.mk N w n N) σ2 H2)) : tFor wi g ts (Ends.mk n w b k) σ H := h
theorem o_ir1 (h : tr σ H fun vs H1 => ∃ j : Int, vs = [.int j] ∧ -(2 ^ 62) ≤ j ∧ j < 2 ^ 62 ∧ R (Itr 0 j.toNat) H1) : iRng1 tr σ H R := h
variable {α : Type} {f : α → V} {xs : List α} {a : Addr} {g : TG} {n b k : St → Hp → Prop} {w : VK}
theorem q_forL {j : Nat} (J : List α → St → Hp → Prop) (h0 : J xs σ H) (hl : ∀ r σ H, J r σ H → SqL K H a (xs.map f))
    (hs : ∀ x r σ H, J (x :: r) σ H → ts (Ends.mk (J r) w n (J r)) (σ.set j (some (f x))) H) (hd : ∀ σ H, J [] σ H → n σ H) :
    ∃ W : Nat → Nat → St → Hp → Prop, (∃ m, W 0 m σ H) ∧ ∀ i m σ H, W i m σ H →
      ((Itl K a).stop i H ∧ n σ H) ∨ ((Itl K a).go i H ∧ ∃ N : St → Hp → Prop, (∀ σ' H', N σ' H' → ∃ m', m' < m ∧ W (i + 1) m' σ' H') ∧ ∀ x H', (Itl K a).yld i H x H' → gName j x σ H' fun σ2 H2 => ts (Ends.mk N w n N) σ2 H2) :=
  k_forL (D := Ends.mk n w (fun _ _ => False) fun _ _ => False) (g := gName j) (tb := ts) J h0 hl hs hd
theorem q_forR {j : Nat} {lo : Int} {m : Nat} (J : List Int → St → Hp → Prop) (h0 : J ((List.range m).map fun (i : Nat) => lo + (i : Int)) σ H)
    (hs : ∀ x r σ H, J (x :: r) σ H → ts (Ends.mk (J r) w n (J r)) (σ.set j (some (.int x))) H) (hd : ∀ σ H, J [] σ H → n σ H) :
    ∃ W : Nat → Nat → St → Hp → Prop, (∃ m, W 0 m σ H) ∧ ∀ i m' σ H, W i m' σ H →
      ((Itr lo m).stop i H ∧ n σ H) ∨ ((Itr lo m).go i H ∧ ∃ N : St → Hp → Prop, (∀ σ' H', N σ' H' → ∃ m'', m'' < m' ∧ W (i + 1) m'' σ' H') ∧ ∀ x H', (Itr lo m).yld i H x H' → gName j x σ H' fun σ2 H2 => ts (Ends.mk N w n N) σ2 H2) :=
  k_forR (D := Ends.mk n w (fun _ _ => False) fun _ _ => False) (g := gName j) (tb := ts) J h0 hs hd
end
end Bt
namespace Bt
open PySem L2
theorem def_mk {K : PySem.W.Frag} {h : Heap} {mg : Str → Option Value} {name qual : Str} {st : Stmt} {f : Addr} {od an : Option Addr} {sl : Array (Option Value)} {oc kV dc pm cd ct : Value} (X : K.In h) (G : h.Ns mainGlobals mg)
    (a : PySem.W.nsIn K mainGlobals name = some (some (.ref f))) (l : K.lookup f = some ⟨oc, od, .func (PySem.W.fnOf name qual (defArgs st) (defBody st) (defScope st) .none kV dc pm an cd ct), sl⟩) (c : PySem.W.codeIn K cd qual = true) (k : PySem.W.keepIn K (.ref f) = true) :
    ∃ f fd, Fun K name qual st f fd ∧ mg name = some (.ref f) := ⟨f, _, fun_mk l c k, PySem.W.mg_of X G a⟩
theorem gv_int {K : PySem.W.Frag} {h : Heap} {mg : Str → Option Value} {x : Str} {i : Int} {t : Tok} (X : K.In h) (G : h.Ns mainGlobals mg) (a : PySem.W.nsIn K mainGlobals x = some (some (.int i t))) : Gv mg x (.int i) := ⟨_, PySem.W.mg_of X G a, _, rfl⟩
end Bt
namespace Bt
open PySem L2
section
variable {K : PySem.W.Frag} {σ : St} {H R : Hp} {L : List Cell} {Q : VK} {a p : Addr} {i : Int} {x v : V} {S R' : Type}
def FUEL : Nat := 100000
theorem whileM_end {c : Bool} {s out : S} {f : Option S} (h : ifB c f (some s) = some out) (hc : c = false) : out = s := (Option.some.inj (ifF h hc)).symm
theorem o_while {tc : TT} {ts : TS} {n b k : St → Hp → Prop} {w : VK} (J : Nat → St → Hp → Prop) (m : Nat) (h0 : J m σ H) (hz : ∀ σ H, J 0 σ H → False)
    (hs : ∀ m σ H, J (m + 1) σ H → tc σ H fun z H1 => if z = true then ∃ N : St → Hp → Prop, (∀ σ' H', N σ' H' → ∃ m', m' < m + 1 ∧ J m' σ' H') ∧ ts (Ends.mk N w n N) σ H1 else n σ H1) : tWhile tc ts (Ends.mk n w b k) σ H := by
  refine ⟨J, ⟨m, h0⟩, fun m σ H hJ => ?_⟩
  cases m with
  | zero => exact (hz σ H hJ).elim
  | succ m => exact hs m σ H hJ
theorem o_turn {J : Nat → St → Hp → Prop} {m : Nat} {ts : TS} {n : St → Hp → Prop} {w : VK} (h : ts (Ends.mk (J m) w n (J m)) σ H) :
    ∃ N : St → Hp → Prop, (∀ σ' H', N σ' H' → ∃ m', m' < m + 1 ∧ J m' σ' H') ∧ ts (Ends.mk N w n N) σ H := ⟨J m, fun _ _ hJ => ⟨m, Nat.lt_succ_self m, hJ⟩, h⟩
theorem n_tup {zs : List V} (O : Own R H L) (hz : zs.length ≤ sizeLine) (k : ∀ p H', Own R H' ((p, .tup zs) :: L) → Q (.ref p) H') : rNewT zs H Q := by
  unfold rNewT
  exact ⟨hz, fun p hp => k p _ (O.new hp)⟩
theorem k_ixT {xs : List V} (hs : SqT K H a xs) (h : atI xs i = some v) (k : Q v H) : rIxT K (.ref a) (.int i) H Q := ⟨a, xs, i, v, rfl, rfl, hs, h, k⟩
end
end Bt
namespace Bt
open PySem L2
section
variable {K : PySem.W.Frag} {σ : St} {H R : Hp} {L : List Cell} {Q : VK} {a p : Addr} {i : Int} {x v : V} {α : Type} {f : α → V} {xs : List α}
theorem k_lcLt {g : TG} {tt : TT} {te : TE} {vs : List Nat} {D : Addr} {Qd : Hp → Prop} (J : List α → Hp → Prop) (h0 : J xs (upd H D (.lst []))) (hl : ∀ r H, J r H → SqL K H a (xs.map f))
    (hs : ∀ x r H, J (x :: r) H → g (f x) (wipe σ vs) H fun σ2 H2 => wipe σ2 vs = wipe σ vs ∧ tt σ2 H2 fun b H3 => if b = true then te σ2 H3 fun y H4 => ∃ acc, H4 D = some (.lst acc) ∧ acc.length < sizeLine ∧ J r (upd H4 D (.lst (acc ++ [y]))) else J r H3) (hd : ∀ H, J [] H → Qd H) :
    ∃ W : Nat → Nat → Hp → Prop, (∃ m, W 0 m (upd H D (.lst []))) ∧ ∀ i m H, W i m H →
      ((Itl K a).stop i H ∧ Qd H) ∨ ((Itl K a).go i H ∧ ∃ Nx : Hp → Prop, (∀ H', Nx H' → ∃ m', m' < m ∧ W (i + 1) m' H') ∧ ∀ x H', (Itl K a).yld i H x H' → g x (wipe σ vs) H' fun σ2 H2 => wipe σ2 vs = wipe σ vs ∧ tt σ2 H2 fun b H3 =>
        if b = true then te σ2 H3 fun y H4 => ∃ acc, H4 D = some (.lst acc) ∧ acc.length < sizeLine ∧ Nx (upd H4 D (.lst (acc ++ [y]))) else Nx H3) := by
  refine lc_list (xs := xs.map f) (fun i H => J (xs.drop i) H) h0 (fun i H _ => hl _ H) (fun i x H hi hJ => ?_) fun H hJ => ?_
  · rw [List.getElem?_map] at hi
    cases e : xs[i]? with
    | none => rw [e] at hi; cases hi
    | some y =>
      rw [e] at hi
      cases hi
      have e2 : xs.drop i = y :: xs.drop (i + 1) := by
        obtain ⟨h1, h2⟩ := List.getElem?_eq_some_iff.mp e
        rw [← h2]
        exact List.drop_eq_getElem_cons h1
      rw [e2] at hJ
      exact hs y _ H hJ
  · rw [List.length_map, List.drop_length] at hJ
    exact hd H hJ
def enumI {α : Type} : Nat → List α → List (Int × α)
  | _, [] => []
  | n, x :: r => ((n : Int), x) :: enumI (n + 1) r
theorem enumI_drop {α : Type} : ∀ (xs : List α) (n i : Nat) (x : α), xs[i]? = some x → (enumI n xs).drop i = (((n + i : Nat) : Int), x) :: (enumI n xs).drop (i + 1)
  | [], _, _, _, h => by simp at h
  | y :: r, n, 0, x, h => by
    cases (Option.some.inj h)
    rfl
  | y :: r, n, i + 1, x, h => by
    have ih := enumI_drop r (n + 1) i x (by simpa using h)
    show (enumI (n + 1) r).drop i = _ :: (enumI (n + 1) r).drop (i + 1)
    rw [ih]
    have : n + 1 + i = n + (i + 1) := by omega
    rw [this]
theorem enumI_len {α : Type} : ∀ (xs : List α) (n : Nat), (enumI n xs).length = xs.length
  | [], _ => rfl
  | x :: r, n => by show (enumI (n + 1) r).length + 1 = r.length + 1; rw [enumI_len r]
theorem q_forE {i1 i2 : Nat} {ts : TS} {n b k : St → Hp → Prop} {w : VK} {KK : PySem.W.Frag} (J : List (Int × α) → St → Hp → Prop) (h0 : J (enumI 0 xs) σ H) (hl : ∀ r σ H, J r σ H → SqL K H a (xs.map f)) (hx : ∀ r σ H H', J r σ H → Ex H H' → J r σ H')
    (hs : ∀ j x r σ H, J ((j, x) :: r) σ H → ts (Ends.mk (J r) w n (J r)) ((σ.set i1 (some (.int j))).set i2 (some (f x))) H) (hd : ∀ σ H, J [] σ H → n σ H) :
    ∃ W : Nat → Nat → St → Hp → Prop, (∃ m, W 0 m σ H) ∧ ∀ i m σ H, W i m σ H →
      ((Ite K a).stop i H ∧ n σ H) ∨ ((Ite K a).go i H ∧ ∃ N : St → Hp → Prop, (∀ σ' H', N σ' H' → ∃ m', m' < m ∧ W (i + 1) m' σ' H') ∧ ∀ x H', (Ite K a).yld i H x H' → gTup KK 2 (gCons (gName i1) (gCons (gName i2) gNil)) x σ H' fun σ2 H2 => ts (Ends.mk N w n N) σ2 H2) := by
  refine ⟨fun i m σ H => m = xs.length - i ∧ i ≤ xs.length ∧ J ((enumI 0 xs).drop i) σ H, ⟨xs.length, by simp, Nat.zero_le _, h0⟩, ?_⟩
  rintro i m σ H ⟨rfl, hi, hJ⟩
  have hS := hl _ σ H hJ
  by_cases hlt : i < xs.length
  · have e : xs[i]? = some xs[i] := List.getElem?_eq_getElem hlt
    have e1 : (xs.map f)[i]? = some (f xs[i]) := by rw [List.getElem?_map, e]; rfl
    have e2 := enumI_drop xs 0 i xs[i] e
    rw [e2] at hJ
    refine .inr ⟨⟨_, _, hS, e1⟩, J ((enumI 0 xs).drop (i + 1)), fun σ' H' hJ' => ⟨_, by omega, rfl, hlt, hJ'⟩, fun y H' hy => ?_⟩
    obtain ⟨T, x, rfl, hT, rfl, hq⟩ := hy
    have hxx := hq _ hS
    rw [e1] at hxx
    cases hxx
    refine ⟨T, _, rfl, SqT.of upd_same, rfl, _, _, rfl, _, _, rfl, rfl, ?_⟩
    have hJ2 := hx _ _ _ (upd H T (.tup [.int ((i : Nat) : Int), f xs[i]])) hJ (Ex.new hT)
    have e3 : ((0 + i : Nat) : Int) = (i : Int) := by omega
    rw [e3] at hJ2
    exact hs _ _ _ _ _ hJ2
  · have e : (enumI 0 xs).drop i = [] := List.drop_eq_nil_of_le (by rw [enumI_len]; omega)
    rw [e] at hJ
    exact .inl ⟨⟨_, hS, by rw [List.length_map]; omega⟩, hd σ H hJ⟩
end
end Bt
namespace Bt
open PySem L2
inductive Er where
  | NoBits | NoName | NoKey | NoFrame | NoPost | NoThing | NoStrip | NoRail
  | NoWire (i : Int) | NoRow (i : Int)
  deriving DecidableEq
structure Eds where
  NoBits : Addr
  NoName : Addr
  NoKey : Addr
  NoFrame : Addr
  NoPost : Addr
  NoThing : Addr
  NoStrip : Addr
  NoRail : Addr
  NoWire : Addr
  NoRow : Addr
  RailError : Addr
def Eds.of (d : Eds) : Er → Addr
  | .NoBits => d.NoBits
  | .NoName => d.NoName
  | .NoKey => d.NoKey
  | .NoFrame => d.NoFrame
  | .NoPost => d.NoPost
  | .NoThing => d.NoThing
  | .NoStrip => d.NoStrip
  | .NoRail => d.NoRail
  | .NoWire _ => d.NoWire
  | .NoRow _ => d.NoRow
inductive Rs (R : Type) where
  | ok (r : R)
  | er (e : Er)
def RetE (d : Eds) (e : Er) (H : Hp) (E : XK) : Prop := match e with
  | .NoWire i => ∀ H' a, H a = none → Ex H H' → H' a = some (.xd [(("at" : Str), .int i)]) → E (.ref d.NoWire) (some a) H'
  | .NoRow i => ∀ H' a, H a = none → Ex H H' → H' a = some (.xd [(("word" : Str), .int i)]) → E (.ref d.NoRow) (some a) H'
  | e => ∀ H', Ex H H' → E (.ref (d.of e)) none H'
def RetR {R : Type} (P : R → Prop) (d : Eds) (r : Rs R) (H : Hp) (E : XK) : Prop := match r with
  | .ok r => P r
  | .er e => RetE d e H E
section
variable {α β S R' : Type} {d : Eds} {H H0 : Hp} {E : XK} {L : List Cell}
theorem RetE.go {e : Er} (k : RetE d e H0 E) (O : Own H0 H L) : RetE d e H E := by
  cases e <;> first
    | exact fun H' h => k H' (O.ex.trans h)
    | exact fun H' a ha h => k H' a (O.ex.back ha) (O.ex.trans h)
theorem RetR.ok {P : α → Prop} {y : α} (h : P y) : RetR P d (.ok y) H E := h
theorem RetR.split {P : α → Prop} {x : Rs α} (h2 : ∀ e, x = .er e → RetE d e H E) (h1 : ∀ y, x = .ok y → P y) : RetR P d x H E := by
  cases x with
  | ok y => exact h1 y rfl
  | er e => exact h2 e rfl
def contR (f : α → Option (Rs β)) : Rs α → Option (Rs β)
  | .ok x => f x
  | .er e => some (.er e)
def bndR (a : Option (Rs α)) (f : α → Option (Rs β)) : Option (Rs β) := bnd a (contR f)
def contRF (f : α → Option (Fl S (Rs β))) : Rs α → Option (Fl S (Rs β))
  | .ok x => f x
  | .er e => some (.rt (.er e))
def bndRF (a : Option (Rs α)) (f : α → Option (Fl S (Rs β))) : Option (Fl S (Rs β)) := bnd a (contRF f)
def contO (f : α → Option β) : Rs α → Option β
  | .ok x => f x
  | .er _ => none
def bndO (a : Option (Rs α)) (f : α → Option β) : Option β := bnd a (contO f)
theorem bndRE {a : Option (Rs α)} {f : α → Option (Rs β)} {r : Rs β} (h : bndR a f = some r) : ∃ x, a = some x ∧ contR f x = some r := bndE h
theorem bndRFE {a : Option (Rs α)} {f : α → Option (Fl S (Rs β))} {r : Fl S (Rs β)} (h : bndRF a f = some r) : ∃ x, a = some x ∧ contRF f x = some r := bndE h
theorem okR {f : α → Option (Rs β)} {y : α} {r : Rs β} (h : contR f (.ok y) = some r) : f y = some r := h
theorem okRF {f : α → Option (Fl S (Rs β))} {y : α} {r : Fl S (Rs β)} (h : contRF f (.ok y) = some r) : f y = some r := h
theorem erR {f : α → Option (Rs β)} {e : Er} {r : Rs β} (h : contR f (.er e) = some r) : Rs.er e = r := Option.some.inj h
theorem erRF {f : α → Option (Fl S (Rs β))} {e : Er} {r : Fl S (Rs β)} (h : contRF f (.er e) = some r) : Fl.rt (Rs.er e) = r := Option.some.inj h
theorem bndOE {a : Option (Rs α)} {f : α → Option β} {r : β} (h : bndO a f = some r) : ∃ y, a = some (.ok y) ∧ f y = some r := by
  obtain ⟨x, h1, h2⟩ := bndE h
  cases x with
  | ok y => exact ⟨y, h1, h2⟩
  | er e => cases h2
end
structure ErrC (K : PySem.W.Frag) (mg : Str → Option Value) (x : Str) (C : Addr) : Prop where
  g : mg x = some (.ref C)
  ex : PySem.W.excIn K C [.type "ValueError", .type "Exception", .type "BaseException", .type "object"] "ValueError.__new__" = true
  kp : PySem.W.keepIn K (.ref C) = true
  b : PySem.W.subIn K (.ref C) (.type "BaseException") = some true
  t : PySem.W.typeIn K (.ref C) = some (.type "type")
end Bt
namespace Bt
open PySem L2
end Bt
namespace Bt
open PySem L2
inductive Ek where
  | NoBits | NoName | NoKey | NoFrame | NoPost | NoThing | NoStrip | NoRail | NoWire | NoRow
  deriving DecidableEq
def Er.k : Er → Ek
  | .NoBits => .NoBits
  | .NoName => .NoName
  | .NoKey => .NoKey
  | .NoFrame => .NoFrame
  | .NoPost => .NoPost
  | .NoThing => .NoThing
  | .NoStrip => .NoStrip
  | .NoRail => .NoRail
  | .NoWire _ => .NoWire
  | .NoRow _ => .NoRow
def tryR {α β : Type} (x : Rs α) (f : α → β) (g : Er → β) : β := match x with
  | .ok y => f y
  | .er e => g e
theorem tryOk {α β : Type} {y : α} {f : α → β} {g : Er → β} {r : β} (h : tryR (.ok y) f g = r) : f y = r := h
theorem tryEr {α β : Type} {e : Er} {f : α → β} {g : Er → β} {r : β} (h : tryR (.er e) f g = r) : g e = r := h
theorem exm_mk {K : PySem.W.Frag} {C S : Addr} {r : Bool} (h1 : PySem.W.subIn K (.ref S) (.type "BaseException") = some true) (h2 : (PySem.W.clsIn K S).isSome = true) (h3 : PySem.W.typeIn K (.ref S) = some (.type "type")) (h4 : PySem.W.subIn K (.ref C) (.ref S) = some r) :
    PySem.W.exmOne K (.ref C) (.ref S) = some r := by
  have e1 : (PySem.W.subIn K (.ref S) (.type "BaseException") == some true) = true := by rw [h1] <;> rfl
  have e2 : ((PySem.W.clsIn K S).isSome && PySem.W.typeIn K (.ref S) == some (.type "type")) = true := by
    rw [h2, h3] <;> rfl
  unfold PySem.W.exmOne
  rw [if_pos e1]
  unfold PySem.W.kitCls
  dsimp only
  rw [if_pos e2]
  exact h4
end Bt
namespace Bt
open PySem L2
end Bt
namespace Bt
open PySem L2
section
variable {α : Type} {R H : Hp} {Q : VK} {a : Addr} {xs ys : List α} {y : α} {f : α → V}
end
end Bt

set_option Elab.async false
set_option linter.all false
set_option maxRecDepth 100000
set_option maxHeartbeats 4000000
namespace Bt
open PySem L2 PyProof.Rows
section
variable {X : Cx}
variable {K : PySem.W.Frag} {H : Hp} {Q : VK} {a : Addr} {ns : List Int} {d : Int} {t tk : TA} {r : List V → List V → Hp → VK → Prop} {σ : L2.St}
end
end Bt

set_option Elab.async false
set_option linter.all false
set_option maxRecDepth 100000
set_option maxHeartbeats 4000000
namespace Bt
open PySem L2
inductive All2 {α β : Type} (P : α → β → Prop) : List α → List β → Prop
  | nil : All2 P [] []
  | cons {a : α} {b : β} {as : List α} {bs : List β} : P a b → All2 P as bs → All2 P (a :: as) (b :: bs)
section
variable {α β : Type} {P Q : α → β → Prop} {as cs : List α} {bs ds : List β} {a : α} {b : β}
theorem All2.mp (f : ∀ a b, P a b → Q a b) (h : All2 P as bs) : All2 Q as bs := by
  induction h with
  | nil => exact .nil
  | cons h _ ih => exact .cons (f _ _ h) ih
theorem All2.app (h : All2 P as bs) (k : All2 P cs ds) : All2 P (as ++ cs) (bs ++ ds) := by
  induction h with
  | nil => exact k
  | cons h _ ih => exact .cons h ih
theorem All2.snoc (h : All2 P as bs) (k : P a b) : All2 P (as ++ [a]) (bs ++ [b]) := h.app (.cons k .nil)
theorem All2.len (h : All2 P as bs) : as.length = bs.length := by
  induction h with
  | nil => rfl
  | cons _ _ ih => simp [ih]
theorem All2.get (h : All2 P as bs) : ∀ {i : Nat} {b : β}, bs[i]? = some b → ∃ a, as[i]? = some a ∧ P a b := by
  induction h with
  | nil => intro i b e; simp at e
  | cons h _ ih =>
    intro i b e
    cases i with
    | zero => cases Option.some.inj e; exact ⟨_, rfl, h⟩
    | succ i => exact ih (by simpa using e)
theorem All2.drop (h : All2 P as bs) : ∀ n, All2 P (as.drop n) (bs.drop n) := by
  induction h with
  | nil => intro n; simp; exact .nil
  | cons h t ih =>
    intro n
    cases n with
    | zero => exact .cons h t
    | succ n => exact ih n
theorem All2.take (h : All2 P as bs) : ∀ n, All2 P (as.take n) (bs.take n) := by
  induction h with
  | nil => intro n; simp; exact .nil
  | cons h t ih =>
    intro n
    cases n with
    | zero => exact .nil
    | succ n => exact .cons h (ih n)
theorem All2.set (h : All2 P as bs) (k : P a b) : ∀ n, All2 P (as.set n a) (bs.set n b) := by
  induction h with
  | nil => intro n; exact .nil
  | cons h t ih =>
    intro n
    cases n with
    | zero => exact .cons k t
    | succ n => exact .cons h (ih n)
end
abbrev Rp (α : Type) := Hp → V → α → Prop
def Mono {α : Type} (P : Rp α) : Prop := ∀ F F' v x, Ex F F' → P F v x → P F' v x
def rI : Rp Int := fun _ v a => v = .int a
def rB : Rp Bool := fun _ v a => v = .bl a
def rS : Rp Str := fun _ v a => v = .str a
def rL {α : Type} (P : Rp α) : Rp (List α) := fun F v xs => ∃ p vs, v = .ref p ∧ F p = some (.lst vs) ∧ All2 (P F) vs xs
def rT2 {α β : Type} (P : Rp α) (Q : Rp β) : Rp (α × β) := fun F v x => ∃ p a b, v = .ref p ∧ F p = some (.tup [a, b]) ∧ P F a x.1 ∧ Q F b x.2
def rT3 {α β γ : Type} (P : Rp α) (Q : Rp β) (R : Rp γ) : Rp (α × β × γ) := fun F v x => ∃ p a b c, v = .ref p ∧ F p = some (.tup [a, b, c]) ∧ P F a x.1 ∧ Q F b x.2.1 ∧ R F c x.2.2
theorem mI : Mono rI := fun _ _ _ _ _ h => h
theorem mB : Mono rB := fun _ _ _ _ _ h => h
theorem mL {α : Type} {P : Rp α} (m : Mono P) : Mono (rL P) := fun F F' v x e ⟨p, vs, h1, h2, h3⟩ => ⟨p, vs, h1, e _ _ h2, h3.mp fun a b h => m F F' a b e h⟩
theorem mA {α : Type} {P : Rp α} (m : Mono P) {F F' : Hp} {vs : List V} {xs : List α} (e : Ex F F') (h : All2 (P F) vs xs) : All2 (P F') vs xs := h.mp fun a b h => m F F' a b e h
theorem mT2 {α β : Type} {P : Rp α} {Q : Rp β} (m : Mono P) (n : Mono Q) : Mono (rT2 P Q) := fun F F' v x e ⟨p, a, b, h1, h2, h3, h4⟩ => ⟨p, a, b, h1, e _ _ h2, m _ _ _ _ e h3, n _ _ _ _ e h4⟩
theorem mT3 {α β γ : Type} {P : Rp α} {Q : Rp β} {R : Rp γ} (m : Mono P) (n : Mono Q) (o : Mono R) : Mono (rT3 P Q R) := fun F F' v x e ⟨p, a, b, c, h1, h2, h3, h4, h5⟩ => ⟨p, a, b, c, h1, e _ _ h2, m _ _ _ _ e h3, n _ _ _ _ e h4, o _ _ _ _ e h5⟩
theorem aI {F : Hp} : ∀ {vs : List V} {xs : List Int}, All2 (rI F) vs xs → vs = xs.map V.int
  | _, _, .nil => rfl
  | _, _, .cons h t => by rw [show _ = _ from h, aI t]; rfl
theorem aB {F : Hp} : ∀ {vs : List V} {xs : List Bool}, All2 (rB F) vs xs → vs = xs.map V.bl
  | _, _, .nil => rfl
  | _, _, .cons h t => by rw [show _ = _ from h, aB t]; rfl
theorem aS {F : Hp} : ∀ {vs : List V} {xs : List Str}, All2 (rS F) vs xs → vs = xs.map V.str
  | _, _, .nil => rfl
  | _, _, .cons h t => by rw [show _ = _ from h, aS t]; rfl
theorem iA {F : Hp} : ∀ (xs : List Int), All2 (rI F) (xs.map V.int) xs
  | [] => .nil
  | x :: r => .cons rfl (iA r)
theorem bA {F : Hp} : ∀ (xs : List Bool), All2 (rB F) (xs.map V.bl) xs
  | [] => .nil
  | x :: r => .cons rfl (bA r)
theorem fI {F : Hp} {v : V} {xs : List Int} (h : rL rI F v xs) : ∃ p, v = .ref p ∧ F p = some (.lst (xs.map V.int)) := by
  obtain ⟨p, vs, h1, h2, h3⟩ := h
  rw [aI h3] at h2
  exact ⟨p, h1, h2⟩
theorem fB {F : Hp} {v : V} {xs : List Bool} (h : rL rB F v xs) : ∃ p, v = .ref p ∧ F p = some (.lst (xs.map V.bl)) := by
  obtain ⟨p, vs, h1, h2, h3⟩ := h
  rw [aB h3] at h2
  exact ⟨p, h1, h2⟩
theorem gI {F : Hp} {p : Addr} {xs : List Int} (h : F p = some (.lst (xs.map V.int))) : rL rI F (.ref p) xs := ⟨p, _, rfl, h, iA xs⟩
theorem gB {F : Hp} {p : Addr} {xs : List Bool} (h : F p = some (.lst (xs.map V.bl))) : rL rB F (.ref p) xs := ⟨p, _, rfl, h, bA xs⟩
def ovr (R H X : Hp) : Hp := fun a => if R a ≠ none ∨ H a = none then X a else none
theorem ovr_some {R H X : Hp} {a : Addr} {u : HO} (h : ovr R H X a = some u) : (R a ≠ none ∨ H a = none) ∧ X a = some u := by
  unfold ovr at h
  split at h
  · exact ⟨by assumption, h⟩
  · cases h
theorem ovr_mk {R H X : Hp} {a : Addr} {u : HO} (h : R a ≠ none ∨ H a = none) (k : X a = some u) : ovr R H X a = some u := by
  unfold ovr
  rw [if_pos h]
  exact k
theorem ovr_ex {R H X : Hp} : Ex (ovr R H X) X := fun a o h => by
  unfold ovr at h
  split at h
  · exact h
  · cases h
theorem ovr_mono {R H X Y : Hp} (e : Ex X Y) : Ex (ovr R H X) (ovr R H Y) := fun a o h => by
  unfold ovr at h ⊢
  split at h
  · rename_i c
    rw [if_pos c]
    exact e _ _ h
  · cases h
theorem ovr_start {R H : Hp} (e : Ex R H) : Ex R (ovr R H H) := fun a o h => by
  unfold ovr
  rw [if_pos (.inl (by rw [h]; simp))]
  exact e _ _ h
section
variable {R H H' F H0 R0 : Hp} {L : List Cell} {p : Addr} {o : HO}
theorem Own.freeze (O : Own R H ((p, o) :: L)) : Own (upd R p o) H L :=
  ⟨fun a u h => by
    by_cases e : a = p
    · subst e
      rw [upd_same] at h
      cases h
      exact O.at_ _ (List.Mem.head _)
    · rw [upd_ne e] at h
      exact O.ex _ _ h, fun c h => O.at_ c (List.Mem.tail _ h), fun c h => by
    have hne : c.1 ≠ p := fun e => (List.nodup_cons.mp O.nd).1 (by rw [← e]; exact List.mem_map_of_mem (f := (·.1)) h)
    rw [upd_ne hne]
    exact O.fr c (List.Mem.tail _ h), (List.nodup_cons.mp O.nd).2⟩
theorem Own.frz (O : Own R H ((p, o) :: L)) : ∃ R', Own R' H L ∧ Ex R R' ∧ R' p = some o := ⟨_, O.freeze, Ex.new (O.fr _ (List.Mem.head _)), upd_same⟩
theorem Own.frzO (O : Own R H ((p, o) :: L)) (e0 : Ex H0 R) : ∃ R', Own R' H L ∧ Ex R R' ∧ ovr R0 H0 R' p = some o := ⟨_, O.freeze, Ex.new (O.fr _ (List.Mem.head _)), by
  unfold ovr
  rw [if_pos (.inr (e0.back (O.fr _ (List.Mem.head _))))]
  exact upd_same⟩
theorem Own.grow (O : Own R H L) (e : Ex H H') : ∃ R', Own R' H' L ∧ Ex R R' ∧ ∀ F, Ex F R → Ex (ovr F H H') R' := by
  refine ⟨fun a => if H a = none then H' a else R a, ⟨fun a u h => ?_, fun c h => e _ _ (O.at_ c h), fun c h => ?_, O.nd⟩, fun a u h => ?_, fun F hF a u h => ?_⟩
  · by_cases c : H a = none
    · rw [if_pos c] at h; exact h
    · rw [if_neg c] at h; exact e _ _ (O.ex _ _ h)
  · rw [if_neg (by rw [O.at_ c h]; simp)]
    exact O.fr c h
  · show (if H a = none then H' a else R a) = some u
    rw [if_neg (by rw [O.ex _ _ h]; simp)]
    exact h
  · unfold ovr at h
    split at h
    · rename_i q
      rcases q with q | q
      · cases hf : F a with
        | none => exact absurd hf q
        | some w =>
          have h1 := O.ex _ _ (hF _ _ hf)
          have h2 := e _ _ h1
          rw [h] at h2
          cases h2
          show (if H a = none then H' a else R a) = some u
          rw [if_neg (by rw [h1]; simp)]
          exact hF _ _ hf
      · show (if H a = none then H' a else R a) = some u
        rw [if_pos q]
        exact h
    · cases h
end
section
variable {α : Type} {P : Rp α} {R H F H0 R0 : Hp} {L : List Cell} {r : α} {Q : VK} {v : V}
theorem RetV.goR {v : V} (k : RetV v H0 Q) (O : Own R H L) (e0 : Ex H0 R) : Q v H := k H (e0.trans O.ex)
theorem RetL.goR {xs : List V} {p : Addr} (k : RetL xs H0 Q) (O : Own R H L) (e0 : Ex H0 R) (h : (p, HO.lst xs) ∈ L) : Q (.ref p) H := k p H (e0.back (O.fr _ h)) (e0.trans O.ex) (O.at_ _ h)
theorem RetT.goR {xs : List V} {p : Addr} (k : RetT xs H0 Q) (O : Own R H L) (e0 : Ex H0 R) (h : (p, HO.tup xs) ∈ L) : Q (.ref p) H := k p H (e0.back (O.fr _ h)) (e0.trans O.ex) (O.at_ _ h)
end
structure De {α : Type} [DecidableEq α] (P : Rp α) where
  d : α → PyData
  dp : ∀ (K : PySem.W.Frag) F v a, P F v a → Dp K F v (d a)
  ok : ∀ a, PyData.canLay0 (d a) = true
  n : Nat
  dep : ∀ a, PyData.depth (d a) ≤ n
  eq : ∀ a b, PyData.eqv (d a) (d b) = decide (a = b)
def deB : De rB where
  d := PyData.bool
  dp := fun K F v a h => by rw [show v = V.bl a from h]; exact .bl a
  ok := fun _ => rfl
  n := 0
  dep := fun _ => Nat.le_refl _
  eq := fun a b => by simp only [PyData.eqv]; rw [Bool.beq_eq_decide_eq]
section
variable {α β γ : Type} [DecidableEq α] [DecidableEq β] [DecidableEq γ]
theorem de_all {P : Rp α} (e : De P) {K : PySem.W.Frag} {F : Hp} : ∀ {vs : List V} {xs : List α}, All2 (P F) vs xs → DpAll K F vs (xs.map e.d)
  | _, _, .nil => .nil
  | _, _, .cons h t => .cons (e.dp K F _ _ h) (de_all e t)
theorem ok_all {P : Rp α} (e : De P) : ∀ xs : List α, PyData.canLayAll0 (xs.map e.d) = true
  | [] => rfl
  | x :: r => by simp only [List.map_cons, PyData.canLayAll0, e.ok x, ok_all e r, Bool.and_self]
theorem dep_all {P : Rp α} (e : De P) : ∀ xs : List α, PyData.depthAll (xs.map e.d) ≤ e.n
  | [] => by simp [PyData.depthAll]
  | x :: r => by
    have h1 := e.dep x
    have h2 := dep_all e r
    simp only [List.map_cons, PyData.depthAll]
    omega
theorem eq_all {P : Rp α} (e : De P) : ∀ xs ys : List α, PyData.eqvAll (xs.map e.d) (ys.map e.d) = decide (xs = ys)
  | [], [] => by simp [PyData.eqvAll]
  | [], y :: s => by simp [PyData.eqvAll]
  | x :: r, [] => by simp [PyData.eqvAll]
  | x :: r, y :: s => by simp only [List.map_cons, PyData.eqvAll, e.eq x y, eq_all e r s, List.cons.injEq, Bool.decide_and]
def deL {P : Rp α} (e : De P) : De (rL P) where
  d := fun xs => .list (xs.map e.d)
  dp := fun K F v xs ⟨p, vs, h1, h2, h3⟩ => by
    subst h1
    exact .lst (SqL.of h2) (de_all e h3)
  ok := fun xs => by simp only [PyData.canLay0]; exact ok_all e xs
  n := e.n + 1
  dep := fun xs => by
    have := dep_all e xs
    simp only [PyData.depth]
    omega
  eq := fun xs ys => by simp only [PyData.eqv]; exact eq_all e xs ys
end
section
variable {α : Type} [DecidableEq α] {P : Rp α} {K : PySem.W.Frag} {F F' H : Hp} {v w : V} {x y : α} {Q : VK}
theorem sh_de (e : De P) (h : e.n ≤ 64) (x : α) : SeqAt.shaped (e.d x) = true := by
  have h1 := e.dep x
  simp only [SeqAt.shaped, e.ok, Bool.true_and]
  exact decide_eq_true (by omega)
theorem k_eqN (e : De P) (m : Mono P) (h : e.n ≤ 64) (h1 : P F v x) (e1 : Ex F H) (h2 : P F' w y) (e2 : Ex F' H) (k : Q (.bl (decide (x = y))) H) : rEqD K v w H Q :=
  ⟨_, _, e.dp K H _ _ (m _ _ _ _ e1 h1), e.dp K H _ _ (m _ _ _ _ e2 h2), sh_de e h x, sh_de e h y, by rw [e.eq]; exact k⟩
end
section
variable {α : Type} {P : Rp α} {K : PySem.W.Frag} {F H R : Hp} {L : List Cell} {p a : Addr} {i : Int} {xs : List α} {y : α} {Q : VK} {vs : List V} {σ : L2.St}
theorem All2.at {β : Type} {P : α → β → Prop} {as : List α} {bs : List β} (h : All2 P as bs) {i : Int} {b : β} (e : atI bs i = some b) : ∃ a, atI as i = some a ∧ P a b := by
  unfold atI at e ⊢
  rw [h.len]
  cases hj : ixN bs.length i with
  | none => rw [hj] at e; cases e
  | some j =>
    rw [hj] at e
    obtain ⟨a, h1, h2⟩ := h.get e
    exact ⟨a, h1, h2⟩
theorem n_lstV (O : Own R H L) (hz : vs.length ≤ sizeLine) (k : ∀ p H', Own R H' ((p, .lst vs) :: L) → Q (.ref p) H') : rNewL vs H Q := by
  unfold rNewL
  exact ⟨hz, fun p hp => k p _ (O.new hp)⟩
end
end Bt

set_option Elab.async false
set_option linter.all false
set_option maxRecDepth 100000
set_option maxHeartbeats 4000000
namespace Bt
open PySem L2 PyProof.Rows
theorem passN {X : Cx} : Passes (L2N.CX X.prog X.w) X E0 := fun _ _ _ _ _ _ _ h => by
  obtain ⟨_, _, _, _, _, _, _, _, _, _, _, _, z⟩ := h
  exact z.elim
theorem takesN0 {X : Cx} : L2N.Takes X (fun _ _ _ _ => False) := fun _ _ x => by
  obtain ⟨_, _, _, _, _, _, _, _, _, _, _, _, _, _, _, _, z⟩ := x
  exact z.elim
theorem okN {P : Program} {w : World} {K : PySem.W.Frag} {mg : Str → Option Value} {base : Heap} {x qual : Str} {st : Stmt} {f : Addr} {fd : FuncData} {N ps : List Str} {k : Nat} {sp : Sp} (F : Fun K x qual st f fd) (S : FnScope N ps (defScope st)) (len : ∀ vs H Q E, sp vs H Q E → vs.length = ps.length)
    (hbody : ∀ (cdv : Value) (A : Around) (outer : List Env) (s : Shared) (H : Hp) (vs : List V) (Q : VK) (E : XK), Room k (A.deeper (envOfC qual (defScope st) s.heap.objs.size f cdv)) → sp vs H Q E →
      ∃ t, PSs (cxOf (L2N.CX P w) P w K mg base N qual (defScope st) f cdv A outer s H E) (defBody st) t ∧ t { nx := fun _ H' => Q .non H', rt := Q } (start N vs) H) : FnOk P w K mg base (L2N.CX P w) (k + 1) f fd ps sp := by
  obtain ⟨oc, od, kV, doc, pm, an, cdv, ct, osl, rfl, lk, hcd⟩ := F.ex
  exact fn_of lk hcd S len fun A outer s H vs Q E hr hsp => hbody cdv A outer s H vs Q E hr hsp
theorem ps_errN {X : Cx} {W : WX} {x m : Str} {j : Nat} {p p2 pos pos' : Pos} {C : Addr} (e : ErrC X.K X.mg x C) (tk : L2N.Takes X W) (hc : X.calm = true) (hg : Gl X x) (hdb : (x == ("__debug__" : Str)) = false := by decide) :
    PS X (.Raise (some (.Call (.Name x p) [.Constant (.str m) j p2] [] pos)) none pos') (fun _ σ H => W (.ref C) none σ H) :=
  L2N.ps_raise hc tk (L2N.pmk_own PySem.F.excBase_ValueError e.ex e.g e.kp (raises_own e.b e.t) hg hdb)
def Eds.at (d : Eds) : Ek → Addr
  | .NoBits => d.NoBits
  | .NoName => d.NoName
  | .NoKey => d.NoKey
  | .NoFrame => d.NoFrame
  | .NoPost => d.NoPost
  | .NoThing => d.NoThing
  | .NoStrip => d.NoStrip
  | .NoRail => d.NoRail
  | .NoWire => d.NoWire
  | .NoRow => d.NoRow
structure EcF (K : PySem.W.Frag) (d : Eds) (ks : List Ek) : Prop where
  ec : ∀ k ∈ ks, ExcC K (d.at k)
  kt : ∀ k ∈ ks, ∀ c ∈ ks, PySem.W.kitOne K (.ref (d.at k)) (.ref (d.at c)) = some (decide (k = c))
  kv : ∀ k ∈ ks, PySem.W.kitOne K (.ref (d.at k)) (.type "ValueError") = some true
  kr : ∀ k ∈ ks, PySem.W.kitOne K (.ref (d.at k)) (.ref d.RailError) = some true
  xr : ∀ k ∈ ks, PySem.W.exmOne K (.ref (d.at k)) (.ref d.RailError) = some true
  xx : ∀ k ∈ ks, ∀ c ∈ ks, PySem.W.exmOne K (.ref (d.at k)) (.ref (d.at c)) = some (decide (k = c))
def XFl (e : Er) (d : Option Addr) (H : Hp) : Prop := match e with
  | .NoWire i => ∃ x, d = some x ∧ H x = some (.xd [(("at" : Str), .int i)])
  | .NoRow i => ∃ x, d = some x ∧ H x = some (.xd [(("word" : Str), .int i)])
  | _ => d = none
theorem XFl.ext {e : Er} {d : Option Addr} {H H' : Hp} (h : XFl e d H) (x : Ex H H') : XFl e d H' := by
  cases e <;> first
    | exact h
    | (obtain ⟨a, h1, h2⟩ := h; exact ⟨a, h1, x _ _ h2⟩)
section
variable {X : Cx} {p : Addr × Obj} {D : Addr} {ex : Er}
theorem inst_pin {pins : List (Addr × Obj)} {σ : L2.St} {H : Hp} {s : Shared} (I : Inv X pins σ H s) (hp : p ∈ X.pn) (hz : p.2.cls = .ref D) (hd : XFl ex p.2.dict H) (hf : ∃ vs, p.2.data = .fields vs) : ∃ od, PySem.W.InstAt s.heap p.1 p.2 D od := by
  obtain ⟨hget, _⟩ := I.pin p (List.mem_append.mpr (.inl hp))
  obtain ⟨a, oc, od, oda, osl⟩ := p
  obtain ⟨vs, hv⟩ := hf
  dsimp only at hz hd hv hget
  subst hz hv
  have hk : od = none ∨ ∃ x fs, od = some x ∧ H x = some (.xd fs) := by
    cases ex <;> first
      | exact .inl hd
      | (obtain ⟨x, h1, h2⟩ := hd; exact .inr ⟨x, _, h1, h2⟩)
  rcases hk with rfl | ⟨x, fs, rfl, hx⟩
  · exact ⟨none, hget, rfl, rfl, trivial⟩
  · obtain ⟨_, ⟨o, _, _, e, _⟩, _⟩ := (show ∃ mA, s.heap.Ns1 x mA ∧ ∀ f, RelO (fs.lookup f) (mA f) from I.hok x _ hx)
    exact ⟨some _, hget, rfl, rfl, e⟩
theorem exc_cls {K : PySem.W.Frag} {D : Addr} (C : ExcC K D) : (PySem.W.clsIn K D).isSome = true := by
  obtain ⟨cd, hc, _⟩ := PySem.W.any_some C.hd
  rw [hc]; rfl
def rIsX (K : PySem.W.Frag) (D a : Addr) (ex : Er) (d : Option Addr) : List V → Hp → VK → Prop := fun xs H Q => ∃ (c : V) (cv : Value) (b : Bool), xs = [.ref a, c] ∧ ClsV c cv ∧ XFl ex d H ∧ PySem.W.kitOne K (.ref D) cv = some b ∧ Q (.bl b) H
theorem call_isP (hp : p ∈ X.pn) (C : ExcC X.K D) (hz : p.2.cls = .ref D) {d : Option Addr} (hdd : p.2.dict = d) (hf : ∃ vs, p.2.data = .fields vs) : CallR X (.builtin "isinstance") (rIsX X.K D p.1 ex d) := by
  subst hdd
  intro pins s σ H xs us Q I r h
  obtain ⟨c, cv, b, rfl, hcv, hd, e, q⟩ := h
  obtain ⟨u1, u2, rfl, r1, r2⟩ := vals2 r
  cases (show u1 = Value.ref p.1 from r1)
  have ec := hcv.eq r2
  subst ec
  obtain ⟨od, J⟩ := inst_pin I hp hz hd hf
  exact PySem.W.kia_one (PySem.W.kitx_exc (exc_cls C) C.hg C.hk C.hs C.ha C.hn C.ht C.hm) I.kIn J e (fun z => nomatch z) fun tk => ⟨.bl b, H, I.kept (t' := tk) fun _ _ z => z, rfl, q⟩
end
structure EcP (K : PySem.W.Frag) (C : Addr) : Prop where
  hg : PySem.W.findIn K (.ref C) "__getattribute__" = some (some (.builtin "BaseException.__getattribute__"))
  hk : PySem.W.findIn K (.ref C) "__getattr__" = some none
  hs : PySem.W.subIn K (.ref C) (.type "BaseException") = some true
  hd : PySem.W.hasDictIn K C = true
  ha : PySem.W.findIn K (.ref C) "__class__" = some (some (.builtin "object.__class__"))
  hm : PySem.W.mroIn K C (.type "object") = some true
  ct : PySem.W.typeIn K (.ref C) = some (.type "type")
  sv : PySem.W.subIn K (.ref C) (.type "ValueError") = some true
theorem all_nil {α : Type} {P : α → Prop} : ∀ x ∈ ([] : List α), P x := fun _ h => (nomatch h)
theorem all_cons {α : Type} {P : α → Prop} {a : α} {l : List α} (h : P a) (t : ∀ x ∈ l, P x) : ∀ x ∈ a :: l, P x := fun x hx => by
  rcases List.mem_cons.mp hx with rfl | hx
  · exact h
  · exact t x hx
theorem ecf_mk {K : PySem.W.Frag} {d : Eds} {ks : List Ek} (h : ∀ k ∈ ks, EcP K (d.at k)) (hp : ∀ k ∈ ks, ∀ c ∈ ks, PySem.W.subIn K (.ref (d.at k)) (.ref (d.at c)) = some (decide (k = c)))
    (hr : ∀ k ∈ ks, PySem.W.subIn K (.ref (d.at k)) (.ref d.RailError) = some true) (rr : EcP K d.RailError)
    (hn : PySem.W.specialIn K (.builtin "object.__class__") "__get__" = some (some (.builtin "getset_descriptor.__get__"))) (ht : PySem.W.takesIn K (.builtin "object.__class__") = some true) (hv : PySem.W.kitMeta "ValueError" = true) : EcF K d ks := by
  have ec : ∀ k ∈ ks, ExcC K (d.at k) := fun k hk => by
    obtain ⟨h1, h2, h3, h4, h5, h6, h7, h8⟩ := h k hk
    exact ⟨h1, h2, h3, h4, h5, hn, ht, h6⟩
  have cl : ∀ {C : Addr}, EcP K C → (PySem.W.clsIn K C).isSome = true := fun q => by
    obtain ⟨cd, hc, _⟩ := PySem.W.any_some q.hd
    rw [hc]; rfl
  have ko : ∀ {a b : Addr} {r : Bool}, EcP K b → PySem.W.subIn K (.ref a) (.ref b) = some r → (a = b → r = true) → PySem.W.kitOne K (.ref a) (.ref b) = some r := fun {a b r} q e1 e2 => by
    unfold PySem.W.kitOne
    by_cases e : a = b
    · subst e
      rw [if_pos (by simp), e2 rfl]
    · rw [if_neg (by simp [e])]
      unfold PySem.W.kitCls
      dsimp only
      rw [if_pos (by rw [cl q, q.ct]; rfl)]
      exact e1
  refine ⟨ec, fun k hk c hc => ko (h c hc) (hp k hk c hc) (fun e => ?_), fun k hk => ?_, fun k hk => ko rr (hr k hk) fun _ => rfl, fun k hk => exm_mk rr.hs (cl rr) rr.ct (hr k hk), fun k hk c hc => exm_mk (h c hc).hs (cl (h c hc)) (h c hc).ct (hp k hk c hc)⟩
  · have e1 := hp k hk c hc
    have e2 := hp c hc c hc
    rw [e] at e1
    rw [e2] at e1
    rw [decide_eq_true (rfl : c = c)] at e1
    exact (Option.some.inj e1).symm
  · unfold PySem.W.kitOne
    rw [if_neg (by simp)]
    unfold PySem.W.kitCls
    dsimp only
    rw [if_pos hv]
    exact (h k hk).sv
def Er.plain : Er → Bool
  | .NoWire _ => false
  | .NoRow _ => false
  | _ => true
theorem XFl.of {e : Er} {H : Hp} (h : e.plain = true) : XFl e none H := by
  cases e <;> first
    | rfl
    | cases h
theorem RetE.byP {d : Eds} {e : Er} {H : Hp} {E : XK} (hp : e.plain = true) (h : ∀ H', Ex H H' → E (.ref (d.at e.k)) none H') : RetE d e H E := by
  cases e <;> first
    | exact fun H' x => h H' x
    | cases hp
theorem Ek.all (k : Ek) : k ∈ [Ek.NoBits, .NoName, .NoKey, .NoFrame, .NoPost, .NoThing, .NoStrip, .NoRail, .NoWire, .NoRow] := by
  cases k <;> decide
theorem pss_exc {X : Cx} {ss : List Stmt} {es : Eds} {ks : List Ek} {cls : Value} {t : Er → TS} (h : ∀ e, e.k ∈ ks → cls = .ref (es.at e.k) → PSs X ss (t e)) :
    PSs X ss (fun D σ H => ∃ e : Er, e.k ∈ ks ∧ cls = .ref (es.at e.k) ∧ t e D σ H) :=
  ⟨fun pins s σ H D I ⟨e, h1, h2, q⟩ => (h e h1 h2).run pins s σ H D I q⟩
theorem hot_suite {X : Cx} {a : Addr} {oe : Obj} {pn : List (Addr × Obj)} {cls : Value} {d : Option Addr} (hz : L2N.Zn cls d oe) (hf : ∃ vs, oe.data = .fields vs) : L2H.Hot1 (X.suite a ((a, oe) :: pn)).A (a, oe) := by
  obtain ⟨vs, hv⟩ := hf
  exact ⟨rfl, vs, hv, hz.2.2 vs hv⟩
theorem roomE {X : Cx} {k : Nat} {v : Option Value} (hr : Room k X.A) : L2H.RoomH k (X.A.mark v) := ⟨hr.dp, hr.un⟩
end Bt
namespace Bt
open PySem L2 PyProof.Rows
def okE (ks : List Ek) (e : Er) : Bool := e.plain && decide (e.k ∈ ks)
theorem okE_iff {ks : List Ek} {e : Er} (h : okE ks e = true) : e.plain = true ∧ e.k ∈ ks := by
  unfold okE at h
  rw [Bool.and_eq_true, decide_eq_true_eq] at h
  exact h
theorem ifN {α : Type} {c : Bool} {a : Option α} {r : α} (h : ifB c a none = some r) : c = true ∧ a = some r := by
  cases c with
  | true => exact ⟨rfl, h⟩
  | false => cases h
end Bt
namespace Bt
open PySem L2 PyProof.Rows
theorem pe_gr {X : Cx} {x : Str} {C : Addr} {pos : Pos} (hg : Gl X x) (h : X.mg x = some (.ref C)) (hd : (x == ("__debug__" : Str)) = false := by decide) : PE X (.Name x pos) (tC (.ref C)) := pe_gv hg ⟨_, h, rfl⟩ hd
end Bt
namespace Bt
open PySem L2 PyProof.Rows
end Bt
namespace Bt
open PySem L2
theorem o_dn {n b k : L2.St → Hp → Prop} {w : VK} {σ : L2.St} {H : Hp} (h : n σ H) : (Ends.mk n w b k).nx σ H := h
end Bt
namespace Bt
open PySem L2
end Bt
namespace Bt
open PySem L2
theorem RetE.byX {d : Eds} {e : Er} {H : Hp} {E : XK} (h : ∀ H' dd, Ex H H' → XFl e dd H' → (∀ x, dd = some x → H x = none) → E (.ref (d.at e.k)) dd H') : RetE d e H E := by
  cases e <;> first
    | exact fun H' x => h H' none x rfl (fun _ z => nomatch z)
    | exact fun H' a ha x q => h H' (some a) x ⟨a, rfl, q⟩ (fun y z => by cases z; exact ha)
theorem Own.growX {R H H' : Hp} {L : List Cell} {e : Er} {dd : Option Addr} (O : Own R H L) (x : Ex H H') (hX : XFl e dd H') (hn : ∀ y, dd = some y → H y = none) : ∃ R', Own R' H' L ∧ Ex R R' ∧ XFl e dd R' := by
  obtain ⟨R', O', e1, e2⟩ := O.grow x
  refine ⟨R', O', e1, ?_⟩
  cases e <;> first
    | exact hX
    | (obtain ⟨a, h1, h2⟩ := hX
       exact ⟨a, h1, e2 R (Ex.refl R) _ _ (ovr_mk (.inr (hn a h1)) h2)⟩)
end Bt

set_option Elab.async false
set_option linter.all false
set_option maxRecDepth 100000
set_option maxHeartbeats 4000000
namespace Bt
open PySem L2 PyProof.Rows
theorem pe_rinit {X : Cx} {x : Str} {R : Addr} {e : Expr} {es : List Expr} {ta : TA} {p1 p2 pos : Pos} {pl : Sem Bool} (hg : Gl X x) (hm : X.mg x = some (.ref R))
    (ga : PySem.W.specialIn X.K (.ref R) "__getattribute__" = some (some (.builtin "type.__getattribute__"))) (rd : PySem.W.readsIn X.K R (.type "type") = true)
    (vV : PySem.W.findCls X.K (.ref R) (.type "type") "__init__" = some (.val (.builtin "ValueError.__init__"))) (ha : PA X (e :: es) ta)
    (hc : eval (.Call (.Attribute (.Name x p1) "__init__" p2) (e :: es) [] pos) X.env = (do
      let ov ← eval (.Name x p1) X.env
      standAt p2.atName
      let (f, first) ← holding [ov] (getMethod ov "__init__" pl)
      callWith pos f first (backTo pos (starEach (e :: es) X.env)) (backToKw pos (keywordEach [] X.env))) := by rfl)
    (hdb : (x == ("__debug__" : Str)) = false := by decide)
    (he : starEach (e :: es) X.env = (false, eval e X.env) :: starEach es X.env := by rfl) (hpl : (backTo pos (starEach es X.env)).any (·.1) = false := by rfl) :
    PE X (.Call (.Attribute (.Name x p1) "__init__" p2) (e :: es) [] pos) (tVeI X.K ta) := by
  refine ⟨fun pins s σ H Q I h => ?_⟩
  refine PySem.W.methodCall_KW (ld_glob I hg hm ?_ hdb) hc
  refine PySem.W.method_cls I.kIn ga (PySem.W.cls_value I.kIn rd vV (by decide +kernel) ?_)
  refine PyProof.Rows.callWith_method1 (thn (ha.run pos pins _ σ H _ (I.tok _) h) fun us s1 ⟨vs, H1, I1, r1, a, C, ws, ev, hl, T, ea, q⟩ => ?_) he hpl
  subst ev
  cases r1 with
  | @cons _ u0 _ ur ra rw' =>
    obtain rfl : u0 = Value.ref a := ra
    have hlen : ur.length ≤ sizeLine := by
      rw [← Paired.length rw', sizeLine_eq]
      omega
    exact oinit_ok T I1 ea hlen fun s' J => ⟨.non, H1, J, rfl, q⟩
theorem pmk_initN {X : Cx} {CX : CXT} {x : Str} {e : Expr} {es : List Expr} {ta : TA} {p pos : Pos} {C fI : Addr} {k : Nat} {fd : FuncData} {ps : List Str} {sp : Sp} (T : OexC X.K C) (iC : PySem.W.findIn X.K (.ref C) "__init__" = some (some (.ref fI))) (tI : PySem.W.typeIn X.K (.ref fI) = some (.type "function"))
    (F1 : FnOk X.prog X.w X.K X.mg X.base CX k fI fd ps sp) (hr : Room (k + 1) X.A) (hb : Binds X.K fd ps []) (hx : Passes CX X (fun _ _ _ => False)) (hg : Gl X x) (hm : X.mg x = some (.ref C)) (ha : PA X (e :: es) ta)
    (hdb : (x == ("__debug__" : Str)) = false := by decide) (he : starEach (e :: es) X.env = (false, eval e X.env) :: starEach es X.env := by rfl) (hpl : (backTo pos (starEach es X.env)).any (·.1) = false := by rfl) :
    L2N.PMk X (.Call (.Name x p) (e :: es) [] pos) (tMkO C sp [] ta) := by
  intro pins s σ H Q I h
  obtain ⟨nm, q, N, bs, bm, sn, sub, ab, col, dd, k0, k1, k2, k3, k5, hC, hbm⟩ := T.cls
  refine wpAny_Call_Name_kw (ld_glob I hg hm ?_ hdb)
  refine PySem.W.callWith_K (h₀ := X.base) I.ok.mod.kin T.kC (thn (ha.run pos pins s σ H _ I h) fun us s1 ⟨vs, H1, I1, r1, hz, q1⟩ => ⟨I1.kIn, ?_⟩) he hpl
  obtain ⟨hp, g, dr, tk, os⟩ := s1
  have hsz : hp.objs.size ≤ hp.objs.size + 1 := Nat.le_succ _
  have hq := q1 (hp.objs.size + 1) (I1.hok.fresh hsz)
  rw [List.append_nil] at hq
  have kk : ∀ b o, hp.get? b = some o → ((hp.push (PySem.W.kdv_tup us)).push (PySem.HandSPX.excO C hp.objs.size)).get? b = some o := fun b o z => Heap.get?_push_of_some _ (Heap.get?_push_of_some _ z)
  have I2 : Inv X pins σ (upd H1 (hp.objs.size + 1) (exo (hp.objs.size + 1) C none)) ⟨(hp.push (PySem.W.kdv_tup us)).push (PySem.HandSPX.excO C hp.objs.size), g, dr, tk, os⟩ :=
    I1.laid (t' := tk) (a := hp.objs.size + 1) (o := exo (hp.objs.size + 1) C none) (h' := (hp.push (PySem.W.kdv_tup us)).push (PySem.HandSPX.excO C hp.objs.size)) kk hsz (exo_ok (by heap_get))
  have r2 : Vals (V.ref (hp.objs.size + 1) :: vs) (Value.ref (hp.objs.size + 1) :: us) := .cons rfl r1
  have hl : (Value.ref (hp.objs.size + 1) :: us ++ []).length = ps.length := by
    have z := r2.length
    rw [F1.len _ _ _ _ hq] at z
    rw [List.append_nil]
    exact z.symm
  have hus : us.length ≤ sizeLine := by
    rw [← Paired.length r1, sizeLine_eq]
    omega
  have b2 := hb _ (Value.ref (hp.objs.size + 1) :: us) I2.kIn hl
  rw [List.append_nil] at b2
  refine wpAny_call (PySem.HandSPX.call_own PySem.F.excBase_ValueError (fun Y => PySem.HandSPX.refsVE_contains Y bm hbm) (I1.kIn _ _ hC) (PySem.W.looks_findIn I1.kIn iC) (fun self => PySem.W.bind_fn I1.kIn self tI) hus
    (codeAny_mono (F1.run _ X.stack _ _ ⟨Value.ref (hp.objs.size + 1) :: us, []⟩ (Value.ref (hp.objs.size + 1) :: us) _ _ (fun _ _ _ => False) (hr.make C us []) (I2.env0.make C us []) b2 r2 hq) fun r s' hq' => ?_))
  cases r with
  | error er => exact hx pins σ _ _ er s' I2 hq'
  | ok fl =>
    cases fl with
    | ret u =>
      obtain ⟨v, H2, os2, bare2, un2, hok2, rv, ev, d, fs, ea, ed, hd1, q2⟩ := hq'
      subst ev
      obtain ⟨h2, g2, d2, t2, os'⟩ := s'
      obtain ⟨t0, G, J, kG, ge, hoe, na⟩ := mk_end0 (d2 := d2) (t2 := t2) I1 hsz kk un2 hok2 os2 bare2 ea ed hd1
      exact ⟨rv, _, _, _, ⟨G, g2, d2, t2, os'⟩, _, .ref C, some d, rfl, J, kG, ge, hoe, ⟨rfl, rfl, fun vs z => by cases z; rfl⟩, rfl, rfl, na, rfl, bare2, raises_own T.exC T.tyC, q2⟩
    | next => exact False.elim hq'
    | brk => exact False.elim hq'
    | cont => exact False.elim hq'
def spI (C : Addr) (fld : Str) : Sp := fun vs H Q _ => ∃ (a : Addr) (i : Int), vs = [.ref a, .int i] ∧ H a = some (exo a C none) ∧ ∀ dx, H dx = none → dx ≠ a → Q .non (upd (upd H dx (exd dx [(fld, .int i)])) a (exo a C (some dx)))
def rMkI (C : Addr) (fld : Str) (vs : List V) (H1 : Hp) (Q : XK) : Prop := vs.length ≤ 1000 ∧ ∀ a, H1 a = none → spI C fld (.ref a :: (vs ++ [])) (upd H1 a (exo a C none))
  (fun v H2 => v = .non ∧ ∃ (d : Addr) (fs : List (Str × V)), H2 a = some (exo a C (some d)) ∧ H2 d = some (exd d fs) ∧ H1 d = none ∧ Q (.ref C) (some d) (upd (del H2 a) d (.xd fs))) (fun _ _ _ => False)
theorem o_mkI {C : Addr} {fld : Str} {t : TA} {σ : L2.St} {H : Hp} {Q : XK} (h : t σ H fun vs H1 => rMkI C fld vs H1 Q) : tMkO C (spI C fld) [] t σ H Q := h
theorem k_mkI {C : Addr} {fld : Str} {H1 : Hp} {Q : XK} {i : Int} (k : ∀ H' dx, H1 dx = none → Ex H1 H' → H' dx = some (.xd [(fld, .int i)]) → Q (.ref C) (some dx) H') : rMkI C fld [.int i] H1 Q := by
  refine ⟨by show 1 ≤ 1000; decide, fun a ha => ⟨a, i, rfl, upd_same, fun dx h1 h2 => ?_⟩⟩
  rw [upd_ne h2] at h1
  refine ⟨rfl, dx, _, upd_same, ?_, h1, k _ dx h1 (fun b o hb => ?_) upd_same⟩
  · rw [upd_ne h2, upd_same]
  · have hba : b ≠ a := fun z => by rw [z, ha] at hb; cases hb
    have hbd : b ≠ dx := fun z => by rw [z, h1] at hb; cases hb
    rw [upd_ne hbd, del_ne hba, upd_ne hba, upd_ne hbd, upd_ne hba]
    exact hb
structure InF (K : PySem.W.Frag) (mg : Str → Option Value) (C R f : Addr) (fld : Str) : Prop where
  o : OexC K C
  i : PySem.W.findIn K (.ref C) "__init__" = some (some (.ref f))
  t : PySem.W.typeIn K (.ref f) = some (.type "function")
  n : PySem.W.findIn K (.ref C) fld = some none
  ga : PySem.W.specialIn K (.ref R) "__getattribute__" = some (some (.builtin "type.__getattribute__"))
  rd : PySem.W.readsIn K R (.type "type") = true
  v : PySem.W.findCls K (.ref R) (.type "type") "__init__" = some (.val (.builtin "ValueError.__init__"))
  mr : mg "RailError" = some (.ref R)
end Bt
namespace Bt
open PySem
def clsB (s : Stmt) : List Stmt := match s with
  | .ClassDef _ _ _ b _ _ _ _ _ _ _ => b
  | _ => []
end Bt

set_option linter.all false
set_option maxRecDepth 100000
set_option maxHeartbeats 1000000
namespace Bt
open PySem L2
section
variable {α β S R : Type}
theorem bnd_some {a : α} {f : α → Option β} : bnd (some a) f = f a := rfl
theorem bnd_of {a : Option α} {x : α} {f : α → Option β} (h : a = some x) : bnd a f = f x := by rw [h]; rfl
theorem ltv_eq {a : α} {f : α → Option β} : ltv a f = f a := rfl
theorem ifB_t {a b : α} : ifB true a b = a := rfl
theorem ifB_f {a b : α} : ifB false a b = b := rfl
theorem ifB_dec {c : Prop} [Decidable c] {a b : α} : ifB (decide c) a b = if c then a else b := by
  by_cases h : c
  · rw [if_pos h, decide_eq_true h]; rfl
  · rw [if_neg h, decide_eq_false h]; rfl
theorem fin_nx {s : S} {rest : S → Option R} : fin (some (.nx s)) rest = rest s := rfl
theorem fin_rt {r : R} {rest : S → Option R} : fin (some (.rt r)) rest = some r := rfl
theorem loopF_unit {f : α → Unit → Option (Fl Unit R)} {xs : List α} (h : ∀ x ∈ xs, f x () = some (.nx ())) : loopF f xs () = some (.nx ()) := by
  induction xs with
  | nil => rfl
  | cons x r ih =>
    show bnd (f x ()) (contF (loopF f r)) = some (.nx ())
    rw [h x (List.Mem.head _)]
    exact ih fun y hy => h y (List.Mem.tail _ hy)
theorem compM_ok {f : α → Option β} {g : α → β} : ∀ (xs : List α) (acc : List β), (∀ x ∈ xs, f x = some (g x)) → acc.length + xs.length ≤ 16777216 → compM f xs acc = some (acc ++ xs.map g)
  | [], acc, _, _ => by simp [compM]
  | x :: r, acc, h, hz => by
    have hl : acc.length < 16777216 := by simp only [List.length_cons] at hz; omega
    have ih := compM_ok r (acc ++ [g x]) (fun y hy => h y (List.Mem.tail _ hy)) (by simp only [List.length_append, List.length_cons, List.length_nil] at hz ⊢; omega)
    show bnd (f x) (fun y => if acc.length < 16777216 then compM f r (acc ++ [y]) else none) = _
    rw [h x (List.Mem.head _), bnd_some, if_pos hl, ih]
    simp
theorem compM_all {f : α → Option β} {P : β → Prop} : ∀ (xs : List α) (acc : List β), (∀ x ∈ xs, ∃ y, f x = some y ∧ P y) → acc.length + xs.length ≤ 16777216 → (∀ y ∈ acc, P y) → ∃ out, compM f xs acc = some out ∧ out.length = acc.length + xs.length ∧ ∀ y ∈ out, P y
  | [], acc, _, _, ha => ⟨acc, rfl, by simp, ha⟩
  | x :: r, acc, h, hz, ha => by
    obtain ⟨y, h1, h2⟩ := h x (List.Mem.head _)
    have hl : acc.length < 16777216 := by simp only [List.length_cons] at hz; omega
    obtain ⟨out, h3, h4, h5⟩ := compM_all r (acc ++ [y]) (fun y hy => h y (List.Mem.tail _ hy)) (by simp only [List.length_append, List.length_cons, List.length_nil] at hz ⊢; omega) (fun z hz => by
      rcases List.mem_append.mp hz with q | q
      · exact ha z q
      · rw [List.mem_singleton.mp q]; exact h2)
    refine ⟨out, ?_, by rw [h4]; simp only [List.length_append, List.length_cons, List.length_nil]; omega, h5⟩
    show bnd (f x) (fun y => if acc.length < 16777216 then compM f r (acc ++ [y]) else none) = _
    rw [h1, bnd_some, if_pos hl, h3]
theorem appG_ok {xs : List α} {y : α} (h : xs.length < 16777216) : appG xs y = some (xs ++ [y]) := grd_of h
theorem catG_ok {xs ys : List α} (h : xs.length + ys.length ≤ 16777216) : catG xs ys = some (xs ++ ys) := grd_of h
theorem ixN_nat' {n : Nat} {i : Int} (h0 : 0 ≤ i) (h1 : i < n) : ixN n i = some i.toNat := by
  unfold ixN
  rw [if_pos h0, if_pos h1]
theorem atI_ok {xs : List α} {i : Int} (h0 : 0 ≤ i) (h1 : i < xs.length) : atI xs i = xs[i.toNat]? := by
  unfold atI
  rw [ixN_nat' h0 h1]
  rfl
theorem atI_mem {xs : List α} {i : Int} (h0 : 0 ≤ i) (h1 : i < xs.length) : ∃ x, atI xs i = some x ∧ x ∈ xs := by
  have hn : i.toNat < xs.length := by omega
  exact ⟨xs[i.toNat], by rw [atI_ok h0 h1]; exact List.getElem?_eq_getElem hn, List.getElem_mem hn⟩
theorem repG_ok {xs : List α} {k : Int} (h0 : 0 ≤ k) (h1 : k ≤ 1000000) (h2 : xs.length * k.toNat ≤ 16777216) : repG xs k = some (List.replicate k.toNat xs).flatten := grd_of ⟨by omega, by omega, h2⟩
end
theorem modG_ok {i j : Int} (h : 0 < j) : modG i j = some (i % j) := grd_of h
theorem log2_small {n k : Nat} (h : n < 2 ^ k) : n.log2 ≤ k := by
  by_cases h0 : n = 0
  · subst h0; rw [show Nat.log2 0 = 0 from by decide]; exact Nat.zero_le _
  · exact Nat.le_of_lt ((Nat.log2_lt h0).mpr h)
theorem mulG_ok {i j : Int} {a b : Nat} (h1 : i.natAbs < 2 ^ a) (h2 : j.natAbs < 2 ^ b) (h : a + b < 1000000) : mulG i j = some (i * j) := by
  refine grd_of ?_
  have := log2_small h1
  have := log2_small h2
  omega
theorem fdivG_ok {i j : Int} {b : Nat} (h : 0 < j) (h2 : j.natAbs < 2 ^ b) (hb : b < 9000) : fdivG i j = some (i / j) := by
  refine grd_of ⟨h, ?_⟩
  have := log2_small h2
  omega
theorem shrG_ok {i j : Int} (h : 0 ≤ j) : shrG i j = some (i / 2 ^ j.toNat) := grd_of h
theorem rng1_ok {j : Int} (h : j ≤ 1000000) (h0 : -1000000 ≤ j) : rng1 j = some (rangeI 0 j) := grd_of ⟨by omega, by omega⟩
theorem mem_rangeI {i j x : Int} (h : x ∈ rangeI i j) : i ≤ x ∧ x < j := by
  unfold rangeI at h
  obtain ⟨n, hn, rfl⟩ := List.mem_map.mp h
  have := List.mem_range.mp hn
  omega
theorem rangeI_length (i j : Int) : (rangeI i j).length = (j - i).toNat := by simp [rangeI]
theorem rangeI_cons {i j : Int} (h : i < j) : rangeI i j = i :: rangeI (i + 1) j := by
  unfold rangeI
  have e : (j - i).toNat = (j - (i + 1)).toNat + 1 := by omega
  rw [e, List.range_succ_eq_map]
  simp only [List.map_cons, List.map_map]
  congr 1
  · simp
  · refine List.map_congr_left fun n _ => ?_
    simp only [Function.comp]
    omega
theorem rangeI_nil {i j : Int} (h : j ≤ i) : rangeI i j = [] := by
  unfold rangeI
  rw [show (j - i).toNat = 0 from by omega]
  rfl
theorem loopM_rng {S : Type} {f : Int → S → Option S} (I : Int → S → Prop) {hi : Int} (hs : ∀ i s, i < hi → I i s → ∃ s', f i s = some s' ∧ I (i + 1) s') : ∀ (n : Nat) (lo : Int) (s : S), (hi - lo).toNat = n → lo ≤ hi → I lo s → ∃ out, loopM f (rangeI lo hi) s = some out ∧ I hi out
  | 0, lo, s, e, h, h0 => by
    have : lo = hi := by omega
    subst this
    rw [rangeI_nil (Int.le_refl _)]
    exact ⟨s, rfl, h0⟩
  | n + 1, lo, s, e, h, h0 => by
    rw [rangeI_cons (by omega)]
    obtain ⟨s', h1, h2⟩ := hs lo s (by omega) h0
    obtain ⟨out, h3, h4⟩ := loopM_rng I hs n (lo + 1) s' (by omega) (by omega) h2
    exact ⟨out, by show bnd (f lo s) _ = _; rw [h1]; exact h3, h4⟩
theorem loopF_rng {S R : Type} {f : Int → S → Option (Fl S R)} (I : Int → S → Prop) {hi : Int} (hs : ∀ i s, i < hi → I i s → ∃ s', f i s = some (.nx s') ∧ I (i + 1) s') : ∀ (n : Nat) (lo : Int) (s : S), (hi - lo).toNat = n → lo ≤ hi → I lo s → ∃ out, loopF f (rangeI lo hi) s = some (.nx out) ∧ I hi out
  | 0, lo, s, e, h, h0 => by
    have : lo = hi := by omega
    subst this
    rw [rangeI_nil (Int.le_refl _)]
    exact ⟨s, rfl, h0⟩
  | n + 1, lo, s, e, h, h0 => by
    rw [rangeI_cons (by omega)]
    obtain ⟨s', h1, h2⟩ := hs lo s (by omega) h0
    obtain ⟨out, h3, h4⟩ := loopF_rng I hs n (lo + 1) s' (by omega) (by omega) h2
    exact ⟨out, by show bnd (f lo s) _ = _; rw [h1]; exact h3, h4⟩
end Bt
namespace Bt
open PySem L2
theorem bits_le {i : Int} {n : Nat} (h : i.natAbs < 2 ^ n) : Builtin.Int.intBits i ≤ n := by
  unfold Builtin.Int.intBits
  split
  · exact Nat.zero_le _
  · rename_i h0
    have h1 : i.natAbs ≠ 0 := by simpa using h0
    have := (Nat.log2_lt h1).mpr h
    omega
theorem shlG_ok {i j : Int} {n : Nat} (h : i.natAbs < 2 ^ n) (h0 : 0 ≤ j) (h1 : (n : Int) + j ≤ 100000000) : shlG i j = some (i * 2 ^ j.toNat) := by
  refine grd_of ⟨h0, ?_⟩
  have := bits_le h
  omega
end Bt
namespace Bt
open PySem L2
theorem whileM_go {S : Type} {c : S → Option Bool} {f : S → Option S} {n : Nat} {s s' : S} (h1 : c s = some true) (h2 : f s = some s') : whileM c f (n + 1) s = whileM c f n s' := by
  show bnd (c s) (fun b => ifB b (bnd (f s) (whileM c f n)) (some s)) = _
  rw [h1, bnd_some, ifB_t, h2, bnd_some]
theorem whileM_stop {S : Type} {c : S → Option Bool} {f : S → Option S} {n : Nat} {s : S} (h1 : c s = some false) : whileM c f (n + 1) s = some s := by
  show bnd (c s) (fun b => ifB b (bnd (f s) (whileM c f n)) (some s)) = _
  rw [h1, bnd_some, ifB_f]
theorem loopM_go {α S : Type} {f : α → S → Option S} {x : α} {r : List α} {s s' : S} (h : f x s = some s') : loopM f (x :: r) s = loopM f r s' := by
  show bnd (f x s) (loopM f r) = _
  rw [h, bnd_some]
theorem loopF_go {α S R : Type} {f : α → S → Option (Fl S R)} {x : α} {r : List α} {s s' : S} (h : f x s = some (.nx s')) : loopF f (x :: r) s = loopF f r s' := by
  show bnd (f x s) (contF (loopF f r)) = _
  rw [h, bnd_some]
  rfl
end Bt
namespace Bt
open PySem L2
theorem compT_ok {α β : Type} {c : α → Option Bool} {f : α → Option β} {p : α → Bool} {g : α → β} : ∀ (xs : List α) (acc : List β), (∀ x ∈ xs, c x = some (p x)) → (∀ x ∈ xs, f x = some (g x)) → acc.length + xs.length ≤ 16777216 → compT c f xs acc = some (acc ++ (xs.filter p).map g)
  | [], acc, _, _, _ => by simp [compT]
  | x :: r, acc, h, k, hz => by
    simp only [List.length_cons] at hz
    show bnd (c x) (fun b => ifB b (bnd (f x) fun y => if acc.length < 16777216 then compT c f r (acc ++ [y]) else none) (compT c f r acc)) = _
    rw [h x (List.Mem.head _), bnd_some]
    cases e : p x with
    | true =>
      rw [ifB_t, k x (List.Mem.head _), bnd_some, if_pos (by omega), compT_ok r (acc ++ [g x]) (fun y hy => h y (List.Mem.tail _ hy)) (fun y hy => k y (List.Mem.tail _ hy)) (by simp; omega)]
      simp [e]
    | false =>
      rw [ifB_f, compT_ok r acc (fun y hy => h y (List.Mem.tail _ hy)) (fun y hy => k y (List.Mem.tail _ hy)) (by omega)]
      simp [e]
end Bt
namespace Bt
theorem bndO_ok {α β : Type} {y : α} {f : α → Option β} : bndO (some (.ok y)) f = f y := rfl
theorem bndR_ok {α β : Type} {y : α} {f : α → Option (Rs β)} : bndR (some (.ok y)) f = f y := rfl
end Bt

set_option Elab.async false
set_option linter.all false
set_option maxRecDepth 100000
set_option maxHeartbeats 4000000
namespace Bt
open PySem L2
section
variable {R R' H H' H0 R0 Hb F : Hp} {L L' A B C : List Cell} {Bs Bs' Cs : List (List Cell)} {a p q : Addr} {o o' : HO} {Q : VK} {v : V} {D : Hp → V → List Cell → Prop} {α : Type}
theorem flat_mem {i : Nat} {b : List Cell} (h : Bs[i]? = some b) {c : Cell} (hc : c ∈ b) : c ∈ Bs.flatten := List.mem_flatten.mpr ⟨b, List.mem_of_getElem? h, hc⟩
theorem flat_nd : ∀ {Bs : List (List Cell)}, (Bs.flatten.map (·.1)).Nodup → ∀ {i j : Nat} {b b' : List Cell}, Bs[i]? = some b → Bs[j]? = some b' → i ≠ j → ∀ c ∈ b, ∀ d ∈ b', c.1 ≠ d.1
  | [], _, i, j, b, b', h, _, _ => by simp at h
  | x :: r, nd, i, j, b, b', h, h', n => by
    rw [List.flatten_cons, List.map_append] at nd
    obtain ⟨_, n2, n3⟩ := List.nodup_append.mp nd
    intro c hc d hd e
    cases i with
    | zero =>
      cases j with
      | zero => exact n rfl
      | succ j =>
        cases Option.some.inj h
        exact n3 _ (List.mem_map_of_mem (f := (·.1)) hc) _ (List.mem_map_of_mem (f := (·.1)) (flat_mem (by simpa using h') hd)) e
    | succ i =>
      cases j with
      | zero =>
        cases Option.some.inj h'
        exact n3 _ (List.mem_map_of_mem (f := (·.1)) hd) _ (List.mem_map_of_mem (f := (·.1)) (flat_mem (by simpa using h) hc)) e.symm
      | succ j => exact flat_nd n2 (by simpa using h) (by simpa using h') (fun z => n (by rw [z])) c hc d hd e
theorem flat_nd1 : ∀ {Bs : List (List Cell)}, (Bs.flatten.map (·.1)).Nodup → ∀ {i : Nat} {b : List Cell}, Bs[i]? = some b → (b.map (·.1)).Nodup
  | [], _, i, b, h => by simp at h
  | x :: r, nd, i, b, h => by
    rw [List.flatten_cons, List.map_append] at nd
    obtain ⟨n1, n2, _⟩ := List.nodup_append.mp nd
    cases i with
    | zero => cases Option.some.inj h; exact n1
    | succ i => exact flat_nd1 n2 (by simpa using h)
theorem Own.selB (O : Own R H Bs.flatten) (is : List Nat) (hd : is.Nodup) (e : is.map (fun i => Bs[i]?) = Bs'.map some) : Own R H Bs'.flatten := by
  have hm : ∀ c ∈ Bs'.flatten, c ∈ Bs.flatten := fun c hc => by
    obtain ⟨b, hb, hc⟩ := List.mem_flatten.mp hc
    have h1 : some b ∈ is.map (fun i => Bs[i]?) := by rw [e]; exact List.mem_map_of_mem hb
    obtain ⟨i, _, h2⟩ := List.mem_map.mp h1
    exact flat_mem h2 hc
  refine ⟨O.ex, fun c h => O.at_ c (hm c h), fun c h => O.fr c (hm c h), ?_⟩
  clear hm
  induction is generalizing Bs' with
  | nil =>
    cases Bs' with
    | nil => exact List.Pairwise.nil
    | cons c r => simp at e
  | cons i is ih =>
    cases Bs' with
    | nil => simp at e
    | cons b r =>
      simp only [List.map_cons, List.cons.injEq] at e
      obtain ⟨e1, e2⟩ := e
      obtain ⟨n1, n2⟩ := List.nodup_cons.mp hd
      rw [List.flatten_cons, List.map_append]
      refine List.nodup_append.mpr ⟨flat_nd1 O.nd e1, ih n2 e2, fun x hx y hy exy => ?_⟩
      obtain ⟨c, hc, rfl⟩ := List.mem_map.mp hx
      obtain ⟨d, hd', rfl⟩ := List.mem_map.mp hy
      obtain ⟨b', hb', hd'⟩ := List.mem_flatten.mp hd'
      have h1 : some b' ∈ is.map (fun i => Bs[i]?) := by rw [e2]; exact List.mem_map_of_mem hb'
      obtain ⟨j, hj, h2⟩ := List.mem_map.mp h1
      exact flat_nd O.nd e1 h2 (fun z => n1 (by rw [z]; exact hj)) c hc d hd' exy
def nthB : List (List Cell) → Nat → List Cell
  | [], _ => []
  | b :: _, 0 => b
  | _ :: r, n + 1 => nthB r n
def pickG (Bs : List (List Cell)) : List Nat → List (List Cell)
  | [] => []
  | i :: r => nthB Bs i :: pickG Bs r
theorem g1 {Bs : List (List Cell)} : pickG Bs [] = [] := rfl
theorem g2 {Bs : List (List Cell)} {i : Nat} {r : List Nat} : pickG Bs (i :: r) = nthB Bs i :: pickG Bs r := rfl
theorem g3 {b : List Cell} {r : List (List Cell)} : nthB (b :: r) 0 = b := rfl
theorem g4 {b : List Cell} {r : List (List Cell)} {n : Nat} : nthB (b :: r) (n + 1) = nthB r n := rfl
theorem nth_some : ∀ {Bs : List (List Cell)} {i : Nat}, i < Bs.length → Bs[i]? = some (nthB Bs i)
  | [], i, h => by simp at h
  | b :: r, 0, _ => rfl
  | b :: r, i + 1, h => by
    rw [List.getElem?_cons_succ]
    exact nth_some (by simpa using h)
theorem nth_none : ∀ {Bs : List (List Cell)} {i : Nat}, ¬ i < Bs.length → nthB Bs i = []
  | [], i, h => rfl
  | b :: r, 0, h => by simp at h
  | b :: r, i + 1, h => nth_none (Bs := r) (by simpa using h)
theorem pick_flat (Bs : List (List Cell)) : ∀ is : List Nat, (pickG Bs is).flatten = (pickG Bs (is.filter fun i => decide (i < Bs.length))).flatten
  | [] => rfl
  | i :: r => by
    rw [g2, List.flatten_cons, pick_flat Bs r, List.filter_cons]
    by_cases h : i < Bs.length
    · rw [decide_eq_true h, if_pos rfl, g2, List.flatten_cons]
    · rw [decide_eq_false h, if_neg (by simp), nth_none h, List.nil_append]
theorem pick_ok (Bs : List (List Cell)) : ∀ is : List Nat, (∀ i ∈ is, i < Bs.length) → is.map (fun i => Bs[i]?) = (pickG Bs is).map some
  | [], _ => rfl
  | i :: r, h => by
    rw [g2, List.map_cons, List.map_cons, nth_some (h i (List.Mem.head _)), pick_ok Bs r fun j hj => h j (List.Mem.tail _ hj)]
theorem Own.pkB (O : Own R H L) (Bs : List (List Cell)) (hB : L = Bs.flatten) (is : List Nat) (hd : is.Nodup) (e : (pickG Bs is).flatten = L') : Own R H L' := by
  subst hB
  subst e
  rw [pick_flat]
  exact O.selB _ (hd.filter _) (pick_ok Bs _ fun i hi => by
    obtain ⟨_, h⟩ := List.mem_filter.mp hi
    exact of_decide_eq_true h)
theorem Own.split (O : Own R H (Bs ++ Cs).flatten) : Own R H (Bs.flatten ++ Cs.flatten) := by
  rw [List.flatten_append] at O
  exact O
def hsub (H : Hp) (L : List Cell) : Hp := fun a => if a ∈ L.map (·.1) then none else H a
theorem hsub_in {c : Cell} (h : c ∈ L) : hsub H L c.1 = none := by
  unfold hsub
  exact if_pos (List.mem_map_of_mem (f := (·.1)) h)
theorem hsub_ex : Ex (hsub H L) H := fun a u e => by
  unfold hsub at e
  split at e
  · cases e
  · exact e
theorem Own.subR (O : Own R H L) : Ex R (hsub H L) := fun a u e => by
  unfold hsub
  rw [if_neg (fun m => by
    obtain ⟨c, hc, e1⟩ := List.mem_map.mp m
    have := O.fr c hc
    rw [e1, e] at this
    cases this)]
  exact O.ex _ _ e
theorem Own.startX (O : Own R H L) : Own (hsub H L) H L := ⟨hsub_ex, O.at_, fun c h => hsub_in h, O.nd⟩
theorem Own.left (O : Own R H (A ++ B)) : Own R H A := O.sub (List.sublist_append_left A B)
def RetX (R0 Hb : Hp) (D : Hp → V → List Cell → Prop) (Q : VK) : Prop := ∀ v H' R' L', Ex Hb R' → Own R' H' L' → D (ovr R0 Hb R') v L' → Q v H'
abbrev DT := Hp → V → List Cell → Prop
def MonoD (D : DT) : Prop := ∀ F F' v L, Ex F F' → D F v L → D F' v L
theorem Own.back (O : Own R H (B ++ C)) (e : Ex (hsub H B) R') (O' : Own R' H' L') : ∃ R'', Own R'' H' (L' ++ C) ∧ Ex R R'' ∧ ∀ F, Ex F R → Ex (ovr F (hsub H B) R') R'' := by
  have nd := O.nd
  rw [List.map_append] at nd
  obtain ⟨ndB, ndC, dis⟩ := List.nodup_append.mp nd
  have hC : ∀ c ∈ C, R' c.1 = some c.2 := fun c hc => e _ _ (by
    unfold hsub
    rw [if_neg (fun m => dis _ m _ (List.mem_map_of_mem (f := (·.1)) hc) rfl)]
    exact O.at_ c (List.mem_append.mpr (.inr hc)))
  have hR : ∀ b u, R b = some u → R' b = some u := fun b u h => e _ _ (O.left.subR b u h)
  refine ⟨hsub R' C, ⟨hsub_ex.trans O'.ex, fun c hc => ?_, fun c hc => ?_, ?_⟩, fun b u h => ?_, fun F hF b u h => ?_⟩
  · rcases List.mem_append.mp hc with hc | hc
    · exact O'.at_ c hc
    · exact O'.ex _ _ (hC c hc)
  · rcases List.mem_append.mp hc with hc | hc
    · exact hsub_ex.back (O'.fr c hc)
    · exact hsub_in hc
  · rw [List.map_append]
    refine List.nodup_append.mpr ⟨O'.nd, ndC, fun x hx y hy exy => ?_⟩
    subst exy
    obtain ⟨c, hc, e1⟩ := List.mem_map.mp hx
    obtain ⟨d, hd, e2⟩ := List.mem_map.mp hy
    have h1 := O'.fr c hc
    have h2 := hC d hd
    rw [e2, ← e1, h1] at h2
    cases h2
  · unfold hsub
    rw [if_neg (fun m => by
      obtain ⟨c, hc, e1⟩ := List.mem_map.mp m
      have := O.fr c (List.mem_append.mpr (.inr hc))
      rw [e1, h] at this
      cases this)]
    exact hR b u h
  · obtain ⟨hq, h1⟩ := ovr_some h
    unfold hsub
    rw [if_neg (fun m => ?_)]
    · exact h1
    · obtain ⟨c, hc, e1⟩ := List.mem_map.mp m
      rcases hq with hq | hq
      · cases hf : F b with
        | none => exact hq hf
        | some w =>
          have := O.fr c (List.mem_append.mpr (.inr hc))
          rw [e1, hF _ _ hf] at this
          cases this
      · have : hsub H B c.1 = some c.2 := by
          unfold hsub
          rw [if_neg (fun m => dis _ m _ (List.mem_map_of_mem (f := (·.1)) hc) rfl)]
          exact O.at_ c (List.mem_append.mpr (.inr hc))
        rw [e1, hq] at this
        cases this
theorem Own.retX (O : Own R H (B ++ C)) (m : MonoD D) (k : ∀ v H' R' L', Own R' H' (L' ++ C) → Ex R R' → D R' v L' → Q v H') : RetX R (hsub H B) D Q := fun v H' R' L' e O' d => by
  obtain ⟨R'', O'', e1, e2⟩ := O.back e O'
  exact k v H' R'' L' O'' e1 (m _ _ _ _ (e2 R (Ex.refl R)) d)
theorem Own.inC {B C : List Cell} {c : Cell} (O : Own R H (B ++ C)) (h : c ∈ C) : hsub H B c.1 = some c.2 := by
  have nd := O.nd
  rw [List.map_append] at nd
  unfold hsub
  rw [if_neg (fun m => (List.nodup_append.mp nd).2.2 _ m _ (List.mem_map_of_mem (f := (·.1)) h) rfl)]
  exact O.at_ c (List.mem_append_right _ h)
abbrev Ob (α : Type) := Hp → Addr → List Cell → α → Prop
def dP {α : Type} (P : Rp α) (x : α) : DT := fun F v L => L = [] ∧ P F v x
theorem Own.whole {R0 Hs Hb H0 H : Hp} {L X : List Cell} (O0 : Own R0 Hs L) (hb : Hb = hsub Hs L) (eB : Ex Hb H0) (O : Own H0 H (L ++ X)) : Ex Hs H := fun a u h => by
  by_cases c : a ∈ L.map (·.1)
  · obtain ⟨d, hd, e⟩ := List.mem_map.mp c
    have h1 := O0.at_ d hd
    have h2 := O.at_ d (List.mem_append_left _ hd)
    subst e
    rw [h1] at h
    rw [h2, ← h]
  · refine O.ex _ _ (eB _ _ ?_)
    rw [hb]
    unfold hsub
    rw [if_neg c]
    exact h
theorem mdP {α : Type} {P : Rp α} {x : α} (m : Mono P) : MonoD (dP P x) := fun _ _ _ _ e h => ⟨h.1, m _ _ _ _ e h.2⟩
end
section
variable {J : Hp → Prop} {Q : VK} {σ : St} {H : Hp} {v x y : V}
theorem x_orJ {c d e : Bool} {tt uu : TT} {QB : Bool → Hp → Prop} (J : Hp → Prop) (h1 : ∀ Q1 : Bool → Hp → Prop, (∀ H', J H' → Q1 c H') → tt σ H Q1) (h2 : c = false → e = d ∧ ∀ H', J H' → ∀ Q2 : Bool → Hp → Prop, (∀ H'', J H'' → Q2 e H'') → uu σ H' Q2)
    (h3 : c = true → true = d) (k : ∀ H', J H' → QB d H') : tOr tt uu σ H QB := by
  refine h1 _ fun H' O' => ?_
  cases c with
  | false =>
    obtain ⟨e1, g2⟩ := h2 rfl
    subst e1
    exact g2 H' O' QB k
  | true =>
    rw [← h3 rfl] at k
    exact k H' O'
theorem x_andVJ {c d e : Bool} {tt uu : TE} (J : Hp → Prop) (h1 : ∀ Q1 : VK, (∀ H', J H' → Q1 (.bl c) H') → tt σ H Q1) (h2 : c = true → e = d ∧ ∀ H', J H' → ∀ Q2 : VK, (∀ H'', J H'' → Q2 (.bl e) H'') → uu σ H' Q2)
    (h3 : c = false → false = d) (k : ∀ H', J H' → Q (.bl d) H') : tAndV tt uu σ H Q := by
  refine h1 _ fun H' O' => ⟨_, rfl, ?_⟩
  cases c with
  | true =>
    obtain ⟨e1, g2⟩ := h2 rfl
    subst e1
    exact g2 H' O' Q k
  | false =>
    rw [← h3 rfl] at k
    exact k H' O'
end
section
variable {K : PySem.W.Frag} {σ : St} {H R : Hp} {L : List Cell} {Q : VK} {a dx C : Addr} {fs : List (Str × V)} {v : V} {f : Str} {te tv : TE}
theorem lk_hit {r : List (Str × V)} : List.lookup f ((f, v) :: r) = some v := by simp [List.lookup]
theorem Own.cv {L' : List Cell} (O : Own R H L) (e : L = L') : Own R H L' := e ▸ O
end
end Bt

set_option Elab.async false
set_option linter.all false
set_option maxRecDepth 100000
set_option maxHeartbeats 4000000
namespace Bt
open PySem L2
section
variable {α β γ δ : Type} {P : Rp α} {P' : Rp β} {P3 : Rp γ} {P4 : Rp δ} {F H R : Hp} {L : List Cell} {v w : V} {a p : Addr} {K : PySem.W.Frag} {Q : VK} {i : Int}
def rN : Rp Unit := fun _ v _ => v = .non
theorem mN : Mono rN := fun _ _ _ _ _ h => h
theorem rL_ref {x : List α} (h : rL P F v x) : ∃ p, v = .ref p := by obtain ⟨p, _, e, _⟩ := h; exact ⟨p, e⟩
theorem rT2_ref {x : α × β} (h : rT2 P P' F v x) : ∃ p, v = .ref p := by obtain ⟨p, _, _, e, _⟩ := h; exact ⟨p, e⟩
theorem rL_at {x : List α} (h : rL P F (.ref p) x) : ∃ vs, F p = some (.lst vs) ∧ All2 (P F) vs x := by
  obtain ⟨q, vs, e, h1, h2⟩ := h
  cases e
  exact ⟨vs, h1, h2⟩
theorem rT2_at {x : α × β} (h : rT2 P P' F (.ref p) x) : ∃ a b, F p = some (.tup [a, b]) ∧ P F a x.1 ∧ P' F b x.2 := by
  obtain ⟨q, a, b, e, h1, h2⟩ := h
  cases e
  exact ⟨a, b, h1, h2⟩
theorem rT3_at {x : α × β × γ} (h : rT3 P P' P3 F (.ref p) x) : ∃ a b c, F p = some (.tup [a, b, c]) ∧ P F a x.1 ∧ P' F b x.2.1 ∧ P3 F c x.2.2 := by
  obtain ⟨q, a, b, c, e, h1, h2⟩ := h
  cases e
  exact ⟨a, b, c, h1, h2⟩
end
section
variable {α : Type} {P : V → α → Prop} {F H R : Hp} {L : List Cell} {v w : V} {a b p : Addr} {K : PySem.W.Frag} {Q : VK} {i : Int} {vs ws : List V} {xs ys zs : List α} {y : α} {σ : St}
theorem n_lenA (hs : SqL K H a vs) (ha : All2 P vs xs) (k : Q (.int (xs.length : Int)) H) : rLenQ K [.ref a] H Q := by
  unfold rLenQ
  exact ⟨a, vs, rfl, .inl hs, by rw [ha.len]; exact k⟩
theorem k_ixA (hs : SqL K H a vs) (ha : All2 P vs xs) (h : atI xs i = some y) (k : ∀ v, P v y → Q v H) : rIxL K (.ref a) (.int i) H Q := by
  obtain ⟨v, e1, hv⟩ := ha.at h
  exact ⟨a, vs, i, v, rfl, rfl, hs, e1, k v hv⟩
theorem k_appA {g : HO → List Cell} (hl : H a = some (.lst vs)) (ha : All2 P vs xs) (hp : ∀ o', Own R (upd H a o') (g o')) (h : appG xs y = some ys) (hv : P v y) (k : ∀ H', Own R H' (g (.lst (vs ++ [v]))) → All2 P (vs ++ [v]) ys → Q .non H') : rAppend (.ref a) [v] H Q := by
  obtain ⟨c, rfl⟩ := grdE h
  exact ⟨a, _, _, rfl, rfl, hl, by rw [ha.len]; exact c, k _ (hp _) (ha.snoc hv)⟩
end
section
variable {α β : Type} [DecidableEq α] [DecidableEq β]
end
section
variable {α : Type} [DecidableEq α] {P : Rp α} {K : PySem.W.Frag} {F F' H : Hp} {v : V} {x : α} {a : Addr} {vs : List V} {xs : List α} {Q : VK}
end
section
variable {α β γ δ : Type} [DecidableEq α] [DecidableEq β] [DecidableEq γ] [DecidableEq δ]
end
section
variable {α : Type} [DecidableEq α] {P : Rp α} {K : PySem.W.Frag} {F F' H : Hp} {v w : V} {x y : α} {a : Addr} {vs : List V} {xs : List α} {Q : VK}
end
section
variable {α β γ δ : Type} {P : Rp α} {P' : Rp β} {P3 : Rp γ} {P4 : Rp δ} {K : PySem.W.Frag} {H : Hp} {v : V} {Q : VK} {u : Value}
end
def atE (k : Ek) (e : Er) : Option Int := match k, e with
  | .NoWire, .NoWire i => some i
  | .NoRow, .NoRow i => some i
  | _, _ => none
theorem k_xfNoWire {es : Eds} {e : Er} {n : Int} {a : Addr} {cls : Value} {d : Option Addr} {H : Hp} {Q : VK} (h : atE .NoWire e = some n) (hx : XFl e d H) (hc : cls = .ref (es.at e.k)) (q : Q (.int n) H) :
    V.ref a = .ref a ∧ cls = .ref es.NoWire ∧ ∃ (dd : Addr) (fs : List (Str × V)) (v : V), d = some dd ∧ H dd = some (.xd fs) ∧ fs.lookup ("at" : Str) = some v ∧ Q v H := by
  cases e with
  | NoWire i =>
    cases h
    obtain ⟨x, h1, h2⟩ := hx
    exact ⟨rfl, hc, x, _, _, h1, h2, lk_hit, q⟩
  | _ => cases h
theorem k_xfNoRow {es : Eds} {e : Er} {n : Int} {a : Addr} {cls : Value} {d : Option Addr} {H : Hp} {Q : VK} (h : atE .NoRow e = some n) (hx : XFl e d H) (hc : cls = .ref (es.at e.k)) (q : Q (.int n) H) :
    V.ref a = .ref a ∧ cls = .ref es.NoRow ∧ ∃ (dd : Addr) (fs : List (Str × V)) (v : V), d = some dd ∧ H dd = some (.xd fs) ∧ fs.lookup ("word" : Str) = some v ∧ Q v H := by
  cases e with
  | NoRow i =>
    cases h
    obtain ⟨x, h1, h2⟩ := hx
    exact ⟨rfl, hc, x, _, _, h1, h2, lk_hit, q⟩
  | _ => cases h
end Bt

namespace Bt
open PySem L2
section
variable {α : Type} {B : Ob α} {F R H : Hp} {vs : List V} {a b : Addr} {A L L1 C : List Cell} {xs ys : List α} {x : α} {i : Int} {w : V} {K : PySem.W.Frag} {Q : VK}
section
variable {α : Type} [DecidableEq α] {P : Rp α} {F F' H : Hp} {K : PySem.W.Frag} {v : V} {x : α} {xs : List α} {vs : List V} {a : Addr} {Q : VK}
end
end
end Bt

set_option Elab.async false
set_option linter.all false
set_option maxRecDepth 100000
set_option maxHeartbeats 4000000
namespace Bt
open PySem L2 PyProof.Rows
section
variable {X : Cx} {pins : List (Addr × Obj)} {σ : L2.St} {H : Hp} {s : Shared} {a : Addr} {oe : Obj} {cls : Value} {d : Option Addr}
end
section
variable {X : Cx} {pins : List (Addr × Obj)} {σ : L2.St} {H : Hp} {a : Addr} {cls : Value} {d : Option Addr} {B : Heap} {t s : Shared}
end
section
variable {X : Cx} {pins : List (Addr × Obj)} {σ : L2.St} {H : Hp} {a : Addr} {cls : Value} {d : Option Addr} {B : Heap} {t s : Shared} {D : Ends} {W : WX}
end
end Bt

set_option linter.all false
set_option maxRecDepth 100000
set_option maxHeartbeats 1000000
namespace Bt
open PySem L2
end Bt

set_option linter.all false
set_option maxRecDepth 100000
set_option maxHeartbeats 1000000
namespace Bt
open PySem L2
end Bt

set_option linter.all false
set_option maxRecDepth 100000
set_option maxHeartbeats 1000000
namespace Bt
open PySem L2 PyProof.Rows
end Bt

set_option linter.all false
set_option maxRecDepth 100000
set_option maxHeartbeats 1000000
namespace Bt
open PySem L2
abbrev hp0 : Hp := fun _ => none
theorem Ex.of_eq {A B C : Hp} (h : A = B) (e : Ex B C) : Ex A C := by subst h; exact e
end Bt

set_option linter.all false
set_option maxRecDepth 100000
set_option maxHeartbeats 1000000
namespace Bt
open PySem L2
section
variable {K : PySem.W.Frag} {σ : St} {H R : Hp} {L : List Cell} {Q : VK} {i : Int} {x y z : Str} {lo hi : Option Int} {p : Addr} {ys : List Str} {n : Int}
def strI (i : Int) : Option Str := grd (i.natAbs.log2 < 1920) (Str.ofString (toString i))
def rStrZ : List V → Hp → VK → Prop := fun xs H Q => ∃ i : Int, xs = [.int i] ∧ i.natAbs.log2 < 1920 ∧ Q (.str (Str.ofString (toString i))) H
theorem call_strZ {X : Cx} : CallR X (.type "str") rStrZ := call_str_int
theorem n_strZ (h : strI i = some z) (k : Q (.str z) H) : rStrZ [.int i] H Q := by
  obtain ⟨c, rfl⟩ := grdE h
  exact ⟨i, rfl, c, k⟩
theorem q_forC {j : Nat} {lo c : Int} {n : Nat} {ts : TS} {nx : St → Hp → Prop} {w : VK} (J : List Int → St → Hp → Prop) (h0 : J ((List.range n).map fun (i : Nat) => lo + (i : Int) * c) σ H)
    (hs : ∀ x r σ H, J (x :: r) σ H → ts (Ends.mk (J r) w nx (J r)) (σ.set j (some (.int x))) H) (hd : ∀ σ H, J [] σ H → nx σ H) :
    ∃ W : Nat → Nat → St → Hp → Prop, (∃ m, W 0 m σ H) ∧ ∀ i m σ H, W i m σ H →
      ((Itc lo c n).stop i H ∧ nx σ H) ∨ ((Itc lo c n).go i H ∧ ∃ N : St → Hp → Prop, (∀ σ' H', N σ' H' → ∃ m', m' < m ∧ W (i + 1) m' σ' H') ∧ ∀ x H', (Itc lo c n).yld i H x H' → gName j x σ H' fun σ2 H2 => ts (Ends.mk N w nx N) σ2 H2) := by
  have hz : ((List.range n).map fun (i : Nat) => lo + (i : Int) * c).length = n := by simp
  generalize hL : ((List.range n).map fun (i : Nat) => lo + (i : Int) * c) = L at h0 hz
  refine ⟨fun i m σ H => m = n - i ∧ i ≤ n ∧ J (L.drop i) σ H, ⟨n, by simp, Nat.zero_le _, h0⟩, ?_⟩
  rintro i m σ H ⟨rfl, hi, hJ⟩
  by_cases hlt : i < n
  · have e2 : L.drop i = (lo + (i : Int) * c) :: L.drop (i + 1) := by
      rw [List.drop_eq_getElem_cons (by omega)]
      congr 1
      subst hL
      simp
    rw [e2] at hJ
    refine .inr ⟨hlt, J (L.drop (i + 1)), fun σ' H' hJ' => ⟨_, by omega, rfl, hlt, hJ'⟩, fun v H' hv => ?_⟩
    obtain ⟨rfl, rfl⟩ := hv
    exact hs _ _ σ H' hJ
  · have : i = n := by omega
    subst this
    rw [List.drop_of_length_le (by omega)] at hJ
    exact .inl ⟨Nat.le_refl _, hd σ H hJ⟩
end
section
variable {α : Type} {f : α → V} {R H : Hp} {L : List Cell} {a : Addr} {xs ys : List α} {y : α} {i : Int} {Q : VK} {P : V → α → Prop} {vs : List V}
end
end Bt

set_option linter.all false
set_option maxRecDepth 100000
set_option maxHeartbeats 1000000
namespace Bt
open PySem L2
section
variable {α : Type} {f : α → V} {F R R0 Hb H : Hp} {a : Addr} {L C : List Cell} {xs : List α}
end
section
variable {α : Type} {f : α → V} {P : Rp α} {F : Hp} {v : V} {m : Option α}
def ov (f : α → V) : Option α → V
  | none => .non
  | some x => f x
end
section
variable {K : PySem.W.Frag} {R H : Hp} {L : List Cell} {a : Addr} {xs : List V} {lo hi : Option Int} {Q : VK}
end
section
variable {X : Cx} {CX : CXT} {k : Nat} {f C : Addr} {fd : FuncData} {ps : List Str} {sp : Sp} {E : L2.St → XK} {m : Str} {pos apos : Pos} {e o : Expr} {es : List Expr} {ta : TE} {t : TA}
end
section
variable {α : Type} {P : V → α → Prop} {vs : List V} {xs zs : List α} {k : Int} {R H : Hp} {L : List Cell} {a : Addr} {Q : VK}
theorem All2.rep (h : All2 P vs xs) : ∀ n : Nat, All2 P (List.replicate n vs).flatten (List.replicate n xs).flatten
  | 0 => .nil
  | n + 1 => by
    rw [List.replicate_succ, List.replicate_succ, List.flatten_cons, List.flatten_cons]
    exact h.app (All2.rep h n)
end
end Bt

set_option linter.all false
set_option maxRecDepth 100000
set_option maxHeartbeats 1000000
namespace Bt
open PySem L2
def setL (xs : List Int) : List Int := xs.foldl PyProof.Rows.step_dedup []
theorem firstMet_all : ∀ (xs : List Int), PyProof.Rows.firstMet (fun j => xs.getD j 0) xs.length = setL xs := fun xs => by
  unfold PyProof.Rows.firstMet setL
  congr 1
  refine List.ext_getElem? fun i => ?_
  rw [List.getElem?_map]
  by_cases h : i < xs.length
  · rw [List.getElem?_range h, List.getElem?_eq_getElem h]
    simp [List.getD_eq_getElem?_getD, h]
  · rw [List.getElem?_eq_none (by simpa using h), List.getElem?_eq_none (by simpa using h)]
    rfl
def lenSet (xs : List Int) : Option Int := grd (xs.length ≤ 4000) ((setL xs).length : Int)
open PySem.Spec PyProof.Rows RZ in
def rLset (K : PySem.W.Frag) (x : V) (H1 : Hp) (Q : VK) : Prop := ∃ (l : Addr) (ns : List Int), x = .ref l ∧ SqL K H1 l (ns.map V.int) ∧ ns.length ≤ 4000 ∧ Q (.int ((setL ns).length : Nat)) H1
def tLenSetN (K : PySem.W.Frag) (ta : TE) : TE := fun σ H Q => ta σ H fun x H1 => rLset K x H1 Q
open PySem.Spec PyProof.Rows RZ in
theorem pe_lenSetN {X : Cx} {a : Expr} {ta : TE} {p p2 q pos : Pos} (hg : Gl X "len") (hm : X.mg "len" = none) (hg2 : Gl X "set") (hm2 : X.mg "set" = none) (ha : PE X a ta) (hc : X.calm = true := by rfl)
    (na : starEach [a] X.env = (false, eval a X.env) :: starEach [] X.env := by rfl) : PE X (.Call (.Name "len" p) [.Call (.Name "set" p2) [a] [] q] [] pos) (tLenSetN X.K ta) := by
  refine ⟨fun pins s σ H Q I h => ?_⟩
  refine PyProof.Rows.Call_ (ld_blt I hg hm boot_len ?_)
  refine PyProof.Rows.callWith_builtin1 (PyProof.Rows.args_cons ?_ rfl) rfl rfl
  refine PyProof.Rows.Call_ (ld_blt I hg2 hm2 boot_set ?_)
  refine PyProof.Rows.callWith_type1 (PyProof.Rows.args_cons (thn (ha.run pins s σ H _ I h) fun v s1 ⟨x, H1, I1, r1, q1⟩ => PyProof.Rows.args_nil ?_) na) na rfl
  obtain ⟨l, ns, rfl, hq, hl, q1⟩ := q1
  cases r1
  obtain ⟨its, r, pl, hz⟩ := I1.list hq
  have hlen : its.toArray.size = ns.length := by rw [List.size_toArray, ← r.length, List.length_map]
  refine call_set_list (I1.ok.hd hc) pl.isList (by simpa using intsAre_vals r) (by rw [hlen]; unfold scanBound; omega) fun h' tk hS hk => ?_
  refine PyProof.Rows.args_nil ?_
  rw [hlen, firstMet_all] at hS
  have hsz : (setL ns).length ≤ ns.length := by rw [← firstMet_all]; exact PyProof.Rows.firstMet_length_le _ _
  obtain ⟨o, es, ep, t, ho, hex, hd, _, _, _, hf, hn⟩ := hS
  have I2 : Inv X pins σ H1 { s1 with heap := h', toks := tk } := I1.kept fun b o e => hk b o (Heap.lt_size e) e
  exact call_len_set ho hex hd hf (by rw [hn] <;> omega) ⟨.int (setL ns).length, H1, I2.tok _, ⟨_, by rw [hn]⟩, q1⟩
section
variable {K : PySem.W.Frag} {H R : Hp} {L : List Cell} {Q : VK} {a : Addr} {xs : List Int} {n : Int} {ta : TE} {σ : L2.St}
theorem k_lset (hs : SqL K H a (xs.map V.int)) (h : lenSet xs = some n) (q : Q (.int n) H) : rLset K (.ref a) H Q := by
  obtain ⟨c, rfl⟩ := grdE h
  exact ⟨a, xs, rfl, hs, c, q⟩
end
section
variable {K : PySem.W.Frag} {H R : Hp} {L : List Cell} {Q : VK} {a : Addr} {xs : List Int}
end
end Bt

set_option linter.all false
set_option maxRecDepth 100000
set_option maxHeartbeats 1000000
namespace Bt
open PySem L2
section
variable {α β : Type} {f : α → V} {o : Ob β}
end
section
variable {X : Cx} {CX : CXT} {k : Nat} {f R : Addr} {fd : FuncData} {ps : List Str} {sp : Sp} {E : XK} {x : Str} {p1 p2 pos : Pos} {e : Expr} {es : List Expr} {ta : TA} {pl : Sem Bool}
end
section
variable {σ : L2.St} {H : Hp} {Q : VK} {c d : Bool} {QB : Bool → Hp → Prop}
end
section
variable {α β γ δ ε : Type} {P : Rp α} {Q : Rp β} {R : Rp γ} {S : Rp δ} {T : Rp ε}
end
section
variable {α : Type} {P : V → α → Prop} {vs : List V} {xs ys : List α} {y : α} {i : Int} {R H : Hp} {a : Addr} {Q : VK}
end
end Bt

set_option Elab.async false
set_option linter.all false
set_option maxRecDepth 100000
set_option maxHeartbeats 4000000
namespace Bt
open PySem L2 PySem.Spec PyProof.Rows
instance decEcP {K : PySem.W.Frag} {C : Addr} : Decidable (EcP K C) := decidable_of_iff (PySem.W.findIn K (.ref C) "__getattribute__" = some (some (.builtin "BaseException.__getattribute__")) ∧ PySem.W.findIn K (.ref C) "__getattr__" = some none ∧ PySem.W.subIn K (.ref C) (.type "BaseException") = some true ∧ PySem.W.hasDictIn K C = true ∧ PySem.W.findIn K (.ref C) "__class__" = some (some (.builtin "object.__class__")) ∧ PySem.W.mroIn K C (.type "object") = some true ∧ PySem.W.typeIn K (.ref C) = some (.type "type") ∧ PySem.W.subIn K (.ref C) (.type "ValueError") = some true) ⟨fun ⟨a, b, c, d, e, f, g, h⟩ => ⟨a, b, c, d, e, f, g, h⟩, fun ⟨a, b, c, d, e, f, g, h⟩ => ⟨a, b, c, d, e, f, g, h⟩⟩
structure FP where
  P : PySem.W.Frag → Prop
  d : ∀ K, Decidable (P K)
def FP.ok (f : FP) (K : PySem.W.Frag) : Bool := @decide (f.P K) (f.d K)
section
variable {fa : List FP} {fn : List He.FnD} {K : PySem.W.Frag} {h : Heap} {mg : Str → Option Value}
end
end Bt
namespace Bt
open PySem PySem.W PySem.Calls PyProof.Rows HandSHeadRun
end Bt

set_option Elab.async false
set_option linter.all false
set_option maxRecDepth 100000
set_option maxHeartbeats 4000000
namespace Bt
open PySem L2 PySem.Spec PyProof.Rows
def minG : List Int → Option Int
  | [] => none
  | n :: ns => some (ns.foldl min n)
theorem foldl_min (ns : List Int) : ∀ n : Int, (ns.foldl min n = n ∨ ns.foldl min n ∈ ns) ∧ ns.foldl min n ≤ n ∧ ∀ y ∈ ns, ns.foldl min n ≤ y := by
  induction ns with
  | nil => intro n; exact ⟨.inl rfl, Int.le_refl _, fun _ h => nomatch h⟩
  | cons m r ih =>
    intro n
    obtain ⟨h1, h2, h3⟩ := ih (min n m)
    refine ⟨?_, ?_, fun y hy => ?_⟩
    · rcases h1 with h1 | h1
      · by_cases h : n ≤ m
        · left; show r.foldl min (min n m) = n; rw [h1]; omega
        · right; show r.foldl min (min n m) ∈ m :: r; rw [h1, show min n m = m by omega]; exact List.Mem.head _
      · exact .inr (List.Mem.tail _ h1)
    · show r.foldl min (min n m) ≤ n; omega
    · rcases List.mem_cons.mp hy with rfl | hy
      · show r.foldl min (min n y) ≤ y; omega
      · exact h3 y hy
theorem minG_spec {xs : List Int} {m : Int} (h : minG xs = some m) : 0 < xs.length ∧ m ∈ xs ∧ ∀ y ∈ xs, m ≤ y := by
  cases xs with
  | nil => cases h
  | cons n r =>
    cases h
    obtain ⟨h1, h2, h3⟩ := foldl_min r n
    refine ⟨by simp, ?_, fun y hy => ?_⟩
    · rcases h1 with h1 | h1
      · rw [h1]; exact List.Mem.head _
      · exact List.Mem.tail _ h1
    · rcases List.mem_cons.mp hy with rfl | hy
      · exact h2
      · exact h3 y hy
section
variable {K : PySem.W.Frag} {H R : Hp} {L : List Cell} {Q : VK} {a : Addr} {xs : List Int} {m : Int}
theorem k_min (hs : SqL K H a (xs.map V.int)) (h : minG xs = some m) (q : Q (.int m) H) : rMin K [.ref a] H Q := by
  obtain ⟨h1, h2, h3⟩ := minG_spec h
  refine ⟨a, xs, rfl, hs, h1, fun m' hm hy => ?_⟩
  have e1 := hy m h2
  have e2 := h3 m' hm
  have : m' = m := by omega
  rw [this]; exact q
end
section
variable {K : PySem.W.Frag} {H : Hp} {Q : VK} {a : Addr} {i : Str} {ns : List Str}
end
section
variable {α : Type} [DecidableEq α] {P : Rp α} {K : PySem.W.Frag} {H : Hp} {v w : V} {xs : List α} {y : α} {Q : VK} {a : Addr}
end
section
variable {α : Type} {f : α → V} {R H : Hp} {L : List Cell} {a : Addr} {xs ys : List α} {y : α} {i : Int} {Q : VK} {v : V} {P : V → α → Prop} {vs : List V}
def insG (xs : List α) (i : Int) (y : α) : Option (List α) := grd (xs.length < sizeLine ∧ 0 ≤ i ∧ i < 2 ^ 63) (xs.take i.toNat ++ [y] ++ xs.drop i.toNat)
def rInsert : V → List V → Hp → VK → Prop := fun x vs H Q => ∃ (l : Addr) (xs : List V) (i : Int) (y : V), x = .ref l ∧ vs = [.int i, y] ∧ H l = some (.lst xs) ∧ xs.length < sizeLine ∧ 0 ≤ i ∧ i < 2 ^ 63 ∧
    Q .non (upd H l (.lst (xs.take i.toNat ++ [y] ++ xs.drop i.toNat)))
theorem k_ins {g : HO → List Cell} (hl : H a = some (.lst (xs.map f))) (hp : ∀ o', Own R (upd H a o') (g o')) (h : insG xs i y = some ys) (k : ∀ H', Own R H' (g (.lst (ys.map f))) → Q .non H') : rInsert (.ref a) [.int i, f y] H Q := by
  obtain ⟨⟨c1, c2, c3⟩, rfl⟩ := grdE h
  refine ⟨a, _, i, _, rfl, rfl, hl, by rw [List.length_map]; exact c1, c2, c3, ?_⟩
  rw [← List.map_take, ← List.map_drop, map_snoc, ← List.map_append]
  exact k _ (hp _)
end
def rInt : List V → Hp → VK → Prop := fun xs H Q => (∃ i, xs = [.int i] ∧ Q (.int i) H) ∨ ∃ k, xs = [.bl k] ∧ Q (.int (if k then 1 else 0)) H
theorem call_intQ {X : Cx} : CallR X (.type "int") rInt := call_int1
theorem mt_insertQ {X : Cx} : MtR X "list.insert" rInsert := mt_insert
end Bt

set_option Elab.async false
set_option linter.all false
set_option maxRecDepth 100000
set_option maxHeartbeats 4000000
namespace Bt
open PySem PySem.Spec PyProof.Rows L2 LamX NdefX
section
variable {P : Program} {w : World} {H H' : Hp} {h h' : Heap} {c : Addr} {v : V} {o : HO} {fs ex : List Addr}
end
section
variable {P : Program} {w : World} {K : PySem.W.Frag} {mg : Str → Option Value} {base : Heap}
end
section
variable {X : Cx}
end
structure EW where
  st : Stmt
  name : Str
  qual : Str
  z : Str
section
variable {X : Cx} {W : EW} {ps : List Str} {i j k : Nat} {x : Str} {t : TA} {e : Expr} {es : List Expr} {p pos : Pos}
end
end Bt

set_option Elab.async false
set_option linter.all false
set_option maxRecDepth 100000
set_option maxHeartbeats 4000000
namespace Bt
open PySem L2
section
variable {α : Type} {P : Rp α} {f : α → V} {F R H : Hp} {C L : List Cell} {a : Addr} {xs : List (List α)}
end
section
variable {α β : Type}
end
section
variable {α : Type} {B : Ob α} {F R H : Hp} {D b : Addr} {L L1 C : List Cell} {xs : List α} {x : α}
end
section
variable {R H : Hp} {C : List Cell} {a : Addr} {m : List (Int × Int)} {k v z : Int} {Q : VK} {x y w : V} {td ty tx tv : TE} {σ : L2.St}
end
section
variable {K : PySem.W.Frag} {H F : Hp} {Q : VK} {a : Addr} {v : V} {x : Bool ⊕ Str} {b : Bool} {s : Str}
end
section
variable {α : Type} [DecidableEq α] {P : Rp α} {K : PySem.W.Frag} {F F' H : Hp} {v : V} {x : α} {a : Addr} {vs : List V} {xs : List α} {Q : VK}
end
section
variable {α β S : Type}
end
section
variable {S T : Type}
end
end Bt

set_option Elab.async false
set_option linter.all false
set_option maxRecDepth 100000
set_option maxHeartbeats 4000000
namespace Bt
open PySem PySem.Spec PyProof.Rows L2
section
variable {X : Cx} {pins : List (Addr × Obj)} {σ : L2.St} {H : Hp} {s : Shared}
end
section
variable {X : Cx} {pins : List (Addr × Obj)} {σ : L2.St} {H H3 : Hp} {s s3 : Shared} {scope : Scope} {ce : Env} {fp : List Addr} {C : Addr} {E : XK}
end
section
variable {M : Model} {A : Around} {E : Value → Shared → Prop} {s : Shared} {env : Env}
end
section
variable {X : Cx}
end
end Bt

set_option Elab.async false
set_option linter.all false
set_option maxRecDepth 100000
namespace Bt
open PySem L2
section
variable {K : PySem.W.Frag} {F F' H : Hp} {v w : V} {x y : PyData} {Q : VK}
end
end Bt

set_option Elab.async false
set_option linter.all false
set_option maxRecDepth 100000
namespace Bt
open PySem L2
section
variable {K : PySem.W.Frag} {R H : Hp} {a : Addr} {vs ws : List V} {i : Int} {j : Nat} {v v' : V} {Q : VK} {QH : Hp → Prop}
end
end Bt

set_option Elab.async false
set_option linter.all false
set_option maxRecDepth 100000
set_option maxHeartbeats 1000000
namespace Bt
open PySem L2 PyProof.Rows
structure FnG (P : Program) (w : World) (K : PySem.W.Frag) (mg : Str → Option Value) (base : Heap) (k : Nat) (f : Addr) (fd : FuncData) (xs : List Str) (D : Addr) (ex : Er) (G : List V → Hp → VK → Prop) : Prop where
  len : ∀ us H Q, G us H Q → us.length + 1 = xs.length
  run : ∀ (A : Around) (outer : List Env) (s : Shared) (H : Hp) (args : Args) (p : Addr × Obj) (us : List V) (vs : List Value) (Q : VK), L2H.RoomH k A → L2H.Hot1 A p → L2H.PinOk outer H s p → p.2.cls = .ref D → XFl ex p.2.dict H → Env0 P w K mg base A outer s H → Vals us vs → BindsTo s fd args (xs.zip (.ref p.1 :: vs)) → G us H Q →
    codeAny (model P w) A (.call (.ref f) args) (CR CX0 outer P w H s Q E0) s
theorem fnG_of {P : Program} {w : World} {K : PySem.W.Frag} {mg : Str → Option Value} {base : Heap} {x qual : Str} {st : Stmt} {f : Addr} {fd : FuncData} {N xs : List Str} {k : Nat} {D : Addr} {ex : Er} {G : List V → Hp → VK → Prop} (F : Fun K x qual st f fd) (S : FnScope N xs (defScope st)) (len : ∀ us H Q, G us H Q → us.length + 1 = xs.length)
    (hbody : ∀ (cdv : Value) (A : Around) (outer : List Env) (s : Shared) (H : Hp) (p : Addr × Obj) (us : List V) (Q : VK), L2H.RoomH k (A.deeper (envOfC qual (defScope st) s.heap.objs.size f cdv)) → L2H.Hot1 (A.deeper (envOfC qual (defScope st) s.heap.objs.size f cdv)) p → p.2.cls = .ref D → XFl ex p.2.dict H → (∃ vs, p.2.data = .fields vs) → G us H Q →
      ∃ t, PSs (L2H.cxH CX0 P w K mg base N qual (defScope st) f cdv A outer s H E0 p) (defBody st) t ∧ t { nx := fun _ H' => Q .non H', rt := Q } (start N (.ref p.1 :: us)) H) : FnG P w K mg base (k + 1) f fd xs D ex G := by
  obtain ⟨oc, od, kV, doc, pm, an, cdv, ct, osl, rfl, lk, hcd⟩ := F.ex
  refine ⟨len, fun A outer s H args p us vs Q hr hot hpin hz hd e0 hv hb hq => ?_⟩
  have KX : K.In s.heap := e0.mod.kin.keeps fun b o e => (e0.bs b o e).1
  have lim : s.heap.NoLimit := e0.mod.nolimit.keeps fun b o e => (e0.bs b o e).1
  have hkind : ∀ z ∈ xs.zip (Value.ref p.1 :: vs), (defScope st).names.lookup z.1 = some .local ∨ ((defScope st).names.lookup z.1 = some .cell ∧ ((cellsFrom (s.heap.objs.size + 1) (defScope st).names []).lookup z.1).isSome = true) := fun ⟨n, v⟩ hy =>
    (S.par n (List.of_mem_zip hy).1).imp id fun q => ⟨q, PySem.W.cellsFrom_some _ _ _ (.inl q)⟩
  refine codeAny_call_function hr.depth (KX _ _ lk) rfl S.co S.gen rfl (PySem.W.codeRec_of KX hcd) (hb _ _ _ _ (wpAny_newFunctionEnv_cells S.kind hkind fun env he s1 hx => ?_))
  subst he
  refine ⟨lim.keeps hx.toInCall.keep, codeAny_func ?_⟩
  have hot' := hot
  obtain ⟨h1, ws, h2, _⟩ := hot
  obtain ⟨t, ht, h3⟩ := hbody cdv A outer s H p us Q (hr.deeper _) hot' hz hd ⟨ws, h2⟩ hq
  have rv : Vals (V.ref p.1 :: us) (Value.ref p.1 :: vs) := .cons rfl hv
  have I := L2H.inv_startH (CX := CX0) (qual := qual) (f := f) (cd := cdv) (E := E0) S hpin e0 (by rw [List.length_cons]; exact len _ _ _ hq) rv hx
  refine wpAny_mono (ht.run [] s1 _ H _ I h3) (fun fl s' hs => ?_) fun e s' hs => hs
  cases fl with
  | ret u =>
    obtain ⟨v, σ', H', J, r, q⟩ := hs
    exact ⟨v, H', J.os, J.bare, J.base, J.hok, r, q⟩
  | next =>
    obtain ⟨σ', H', J, q⟩ := hs
    exact ⟨V.non, H', J.os, J.bare, J.base, J.hok, rfl, q⟩
  | brk =>
    obtain ⟨_, _, _, q⟩ := hs
    exact q.elim
  | cont =>
    obtain ⟨_, _, _, q⟩ := hs
    exact q.elim
def tCallG (a : Addr) (ex : Er) (d : Option Addr) (G : List V → Hp → VK → Prop) (t : TA) : TE := fun σ H Q => t σ H fun vs H1 => ∃ us, vs = .ref a :: us ∧ XFl ex d H1 ∧ G us H1 Q
theorem pe_callG {X : Cx} {k : Nat} {f : Addr} {fd : FuncData} {x : Str} {xs : List Str} {q pos : Pos} {e : Expr} {es : List Expr} {t : TA} {D : Addr} {ex : Er} {G : List V → Hp → VK → Prop} {p : Addr × Obj} (F : FnG X.prog X.w X.K X.mg X.base k f fd xs D ex G) (hp : p ∈ X.pn) (hot : L2H.Hot1 X.A p) (hz : p.2.cls = .ref D) {d : Option Addr} (hdd : p.2.dict = d)
    (hr : L2H.RoomH k X.A) (hg : Gl X x) (hm : X.mg x = some (.ref f)) (hk : PySem.W.keepIn X.K (.ref f) = true) (hb : Binds X.K fd xs []) (ha : PA X (e :: es) t) (hdb : (x == ("__debug__" : Str)) = false := by decide)
    (he : starEach (e :: es) X.env = (false, eval e X.env) :: starEach es X.env := by rfl) (hpl : (backTo pos (starEach es X.env)).any (·.1) = false := by rfl) : PE X (.Call (.Name x q) (e :: es) [] pos) (tCallG p.1 ex d G t) := by
  subst hdd
  refine ⟨fun pins s σ H Q I h => ?_⟩
  refine wpAny_Call_Name_kw (ld_glob I hg hm ?_ hdb)
  refine PySem.W.callWith_K (h₀ := X.base) I.ok.mod.kin hk (thn (ha.run pos pins s σ H _ I h) fun us1 s1 ⟨vs, H1, I1, r, us, e1, hd, hq⟩ => ⟨I1.kIn, ?_⟩) he hpl
  subst e1
  obtain ⟨u, ur, rfl, r1, rr⟩ : ∃ u ur, us1 = u :: ur ∧ RelV (V.ref p.1) u ∧ Vals us ur := by
    cases r with
    | cons h1 h2 => exact ⟨_, _, rfl, h1, h2⟩
  cases (show u = Value.ref p.1 from r1)
  have b := hb s1 (.ref p.1 :: ur) I1.kIn (by rw [List.append_nil, List.length_cons, ← rr.length]; exact F.len _ _ _ hq)
  rw [List.append_nil] at b
  obtain ⟨p1, p2, p3, p4, p5⟩ := I1.pin p (List.mem_append_left _ hp)
  have hpin : L2H.PinOk X.stack H1 s1 p := ⟨p1, p2, fun hm => (List.mem_cons.mp (I1.stkSub p.1 hm)).elim p3 p4, p5⟩
  refine wpAny_call (codeAny_mono (F.run X.A X.stack s1 H1 ⟨.ref p.1 :: ur, []⟩ p us ur Q hr hot hpin hz hd I1.env0 rr b hq) fun r s' hq => ?_)
  cases r with
  | error e => exact (show False from hq).elim
  | ok fl =>
    cases fl with
    | ret u => exact I1.after hq
    | next => exact False.elim hq
    | brk => exact False.elim hq
    | cont => exact False.elim hq
theorem pe_callGs {X : Cx} {a : Addr} {oe : Obj} {pn : List (Addr × Obj)} {cls : Value} {k : Nat} {f : Addr} {fd : FuncData} {x : Str} {xs : List Str} {q pos : Pos} {e : Expr} {es : List Expr} {t : TA} {D : Addr} {ex : Er} {G : List V → Hp → VK → Prop} {d : Option Addr} (F : FnG X.prog X.w X.K X.mg X.base k f fd xs D ex G) (hz : L2N.Zn cls d oe) (hf : ∃ vs, oe.data = .fields vs) (hc : cls = .ref D)
    (hr : Room k X.A) (hg : Gl X x) (hm : X.mg x = some (.ref f)) (hk : PySem.W.keepIn X.K (.ref f) = true) (hb : Binds X.K fd xs []) (ha : PA (X.suite a ((a, oe) :: pn)) (e :: es) t) (hdb : (x == ("__debug__" : Str)) = false := by decide)
    (he : starEach (e :: es) X.env = (false, eval e X.env) :: starEach es X.env := by rfl) (hpl : (backTo pos (starEach es X.env)).any (·.1) = false := by rfl) : PE (X.suite a ((a, oe) :: pn)) (.Call (.Name x q) (e :: es) [] pos) (tCallG a ex d G t) :=
  pe_callG (X := X.suite a ((a, oe) :: pn)) (p := (a, oe)) F (List.Mem.head _) (hot_suite hz hf) (hz.1.trans hc) hz.2.1 (roomE hr) hg hm hk hb ha hdb he hpl
theorem pe_xfP {X : Cx} {C : Addr} {cls : Value} {d : Option Addr} {p : Addr × Obj} {e : Expr} {te : TE} {pos : Pos} {n : Str} (T : XfC X.K C) (hno : PySem.W.findIn X.K (.ref C) n = some none) (hp : p ∈ X.pn)
    (hz : p.2.cls = cls) (hdd : p.2.dict = d) (hf : ∃ vs, p.2.data = .fields vs) (he : PE X e te) (hb : attributeBase e n X.env (eval e X.env) = eval e X.env := by rfl) :
    PE X (.Attribute e n pos) (tXf p.1 cls d C n te) := by
  subst hdd
  refine ⟨fun pins s σ H Q I h => ?_⟩
  refine attr_of hb (thn (he.run pins s σ H _ I h) fun u s1 hh => ?_)
  obtain ⟨x, H1, I1, rx, ex, ec, dd, fs, v, ed, ea, l, q⟩ := hh
  subst ex
  obtain rfl : u = Value.ref p.1 := rx
  obtain ⟨ha, _⟩ := I1.pin p (List.mem_append_left _ hp)
  obtain ⟨vs, hd⟩ := hf
  have hx : ObjOk X.prog X.w H1 s1.heap dd (.xd fs) := I1.hok dd _ ea
  obtain ⟨mA, hns, hr⟩ := hx
  obtain ⟨od, ho, hl⟩ := lookIn_ns hns
  obtain ⟨u, hu, ru⟩ := RelO.some_of (v := v) (o := mA n) (by rw [← l]; exact hr n)
  have J : PySem.W.InstAt s1.heap p.1 p.2 C (some od) := ⟨ha, hz.trans ec, by unfold PySem.W.notCls; rw [hd] <;> rfl, by rw [ed]; exact ho⟩
  exact HandSPX.exc_get I1.kIn J T.ga T.gg T.exC (PySem.W.findObj_own T.hdC hno rfl (by rw [hl, hu])) (handed_of ru) ⟨v, H1, I1.tok _, ru, q⟩
theorem pmk_ownV {X : Cx} {C : Addr} {x : Str} {p pos : Pos} {e : Expr} {t : TA} (F : ErrC X.K X.mg x C) (hg : Gl X x) (ha : PA X [e] t) (hdb : (x == ("__debug__" : Str)) = false := by decide)
    (he : starEach [e] X.env = (false, eval e X.env) :: starEach [] X.env := by rfl) (hpl : (backTo pos (starEach [] X.env)).any (·.1) = false := by rfl) : L2N.PMk X (.Call (.Name x p) [e] [] pos) (fun σ H Q => t σ H fun vs H1 => ∃ v, vs = [v] ∧ Q (.ref C) none H1) := by
  intro pins s σ H Q I h
  refine wpAny_Call_Name_kw (ld_glob I hg F.g ?_ hdb)
  refine PySem.W.callWith_K (h₀ := X.base) I.ok.mod.kin F.kp (thn (ha.run pos pins s σ H _ I h) fun us s1 hh => ?_) he hpl
  obtain ⟨vs, H1, I1, r1, v, rfl, h1⟩ := hh
  refine ⟨I1.kIn, ?_⟩
  cases r1 with
  | cons ru rn =>
    rename_i u us'
    cases rn
    show wpAny _ _ (call (.ref C) [u]) _ _ _
    obtain ⟨bm, N, nm, qn, bs, hdct, sn, sub, ab, col, dd, k0, k1, k2, k3, k5, mN, hC, hN, hni, T⟩ := exc_obj I1.kIn F.ex
    refine wpAny_call_exc_subT PySem.F.excBase_ValueError T hC hN hni (fun h' e hm => ?_) (by show 1 ≤ sizeLine; rw [sizeLine_eq]; omega)
    exact L2N.mk_of I1 hm (raises_own F.b F.t) h1 (I1.hok.gone hm.new)
theorem ps_errV {X : Cx} {W : WX} {x : Str} {p pos pos' : Pos} {C : Addr} {e : Expr} {t : TA} (F : ErrC X.K X.mg x C) (tk : L2N.Takes X W) (hc : X.calm = true) (hg : Gl X x) (ha : PA X [e] t) (hdb : (x == ("__debug__" : Str)) = false := by decide)
    (he : starEach [e] X.env = (false, eval e X.env) :: starEach [] X.env := by rfl) (hpl : (backTo pos (starEach [] X.env)).any (·.1) = false := by rfl) : PS X (.Raise (some (.Call (.Name x p) [e] [] pos)) none pos') (fun _ σ H => t σ H fun vs H1 => ∃ v, vs = [v] ∧ W (.ref C) none σ H1) :=
  L2N.ps_raise hc tk (pmk_ownV F hg ha hdb he hpl)
theorem roomUH {k : Nat} {A : Around} (r : L2H.RoomH k A) : A.units + 64 < cLine := by have := r.un; omega
def rvG (n : Int) : Option (List Int) := grd (-(2 ^ 62) ≤ n ∧ n < 2 ^ 62) ((List.range (n - 0).toNat).map fun (i : Nat) => ((0 : Int) + (((n - 0).toNat : Nat) : Int) - 1) + (i : Int) * (-1))
theorem rvGE {n : Int} {xs : List Int} (h : rvG n = some xs) : -(2 ^ 62) ≤ n ∧ n < 2 ^ 62 ∧ ((List.range (n - 0).toNat).map fun (i : Nat) => ((0 : Int) + (((n - 0).toNat : Nat) : Int) - 1) + (i : Int) * (-1)) = xs := by
  obtain ⟨⟨c1, c2⟩, rfl⟩ := grdE h
  exact ⟨c1, c2, rfl⟩
theorem n_listT {α : Type} {f : α → V} {K : PySem.W.Frag} {R H : Hp} {L : List Cell} {Q : VK} {a : Addr} {ys : List V} {xs : List α} (O : Own R H L) (h : SqT K H a ys) (e : ys = xs.map f) (k : ∀ p H', Own R H' ((p, .lst (xs.map f)) :: L) → Q (.ref p) H') : rListQ K [.ref a] H Q := by
  subst e
  unfold rListQ
  exact ⟨a, _, rfl, .inr h, fun l hl => k l _ (O.new hl)⟩
end Bt

set_option Elab.async false
set_option linter.all false
set_option maxRecDepth 100000
set_option maxHeartbeats 4000000
namespace Bt
open PySem PySem.Spec PyProof.Rows L2
section
variable {X : Cx}
abbrev blkP (X : Cx) (s : Shared) (H : Hp) (scope : Scope) (ce : Env) (fp : List Addr) : Cx := { X.blk s H scope ce fp with pn := X.pn }
theorem inv_pn {X Y : Cx} {pins : List (Addr × Obj)} {σ : L2.St} {H : Hp} {s : Shared} {pn : List (Addr × Obj)} (e : Y = { X with pn := pn }) (I : Inv X pins σ H s)
    (h : ∀ p ∈ pn ++ pins, s.heap.get? p.1 = some p.2 ∧ H p.1 = none ∧ p.1 ≠ X.env.locals ∧ p.1 ∉ X.fs ∧ ∀ v, p.2.data ≠ .cell v) : Inv Y pins σ H s := by
  subst e
  exact ⟨⟨I.ok.mod, I.ok.kind, I.ok.glob, I.ok.blt, I.ok.above, I.ok.inj, I.ok.has, I.ok.cab, I.ok.hd, I.ok.frames, I.ok.stk, I.ok.exf, I.ok.bs, I.ok.bsz, I.ok.noex, I.ok.exfs, I.ok.funs, I.ok.frf⟩, I.os, I.bare, I.base, I.loc, I.cell, I.free, I.freeC, h, I.hok, I.len⟩
theorem lc_hot {pins : List (Addr × Obj)} {s : Shared} {σ : L2.St} {H : Hp} {Q : VK} {elt tg iter : Expr} {ifs : List Expr} {scope : Scope} {own : List (Str × Nat)} {pos pos' : Pos} {wi : TI} {g : TG} {tt : TT} {te : TE} {use : Option (Value → Sem Unit)} {Qf : Value → Shared → Prop}
    (hot : L2H.HotC X) (hN : X.N.Nodup) (I : Inv X pins σ H s) (hi : L2H.PIH X tg iter wi) (ok : BlkOk X.N X.env.scope scope own)
    (hg : ∀ (s : Shared) (H : Hp) (C : Addr) (cl : List (Str × Addr)) (fp : List Addr), PG (blkP X s H scope (compEnvC scope cl C X.env) fp) tg g)
    (ht : ∀ (s : Shared) (H : Hp) (C : Addr) (cl : List (Str × Addr)) (fp : List Addr), PTs (blkP X s H scope (compEnvC scope cl C X.env) fp) ifs tt)
    (he : ∀ (s : Shared) (H : Hp) (C : Addr) (cl : List (Str × Addr)) (fp : List Addr), PE (blkP X s H scope (compEnvC scope cl C X.env) fp) elt te) (hs : ∀ x, foldedSetIterable iter X.env x = pure x)
    (h : tLc wi g tt te (own.map (·.2)) σ H Q)
    (hRR : ∀ D C s' m H', Inv X pins σ H' s' → Q (.ref D) H' → s'.heap.Ns C m → FpOk X pins H' C → compPost (model X.prog X.w) X.A X.xe use Qf (.ref D) C (.ok .next) s') :
    wpAny (model X.prog X.w) X.A (comprehension (.ListComp elt [⟨tg, iter, ifs, 0⟩] scope pos) scope X.env pos' (newList []) false (eval iter X.env) use) Qf X.xe s := by
  have caught : ∀ y ∈ scope.names, y.2 = .free → ∃ c, X.env.cells.lookup y.1 = some c := fun y hy q => (ok.free y hy q).elim (fun z => I.ok.has _ (.inl z)) fun z => I.ok.has _ (.inr z)
  refine wpAny_comprehension_free (use := use) rfl hs (closure_ok caught) ok.kind (fun y hy q => by rw [ok.uniq y hy, q]) (thn (hi.run pins s σ H _ I h) fun xv s1 hx => thn hx fun itv s2 h2 => ?_)
  obtain ⟨p0, hp1, hp0⟩ := hot
  obtain ⟨it, fp, tn, J, H2, ei, I2, T, st2, f2, q⟩ := h2
  subst ei
  refine wpAny_newObj_type (newEnv_comp ?_) (by show 0 ≤ sizeLine; decide)
  obtain ⟨D, hD⟩ : ∃ D, s2.heap.objs.size = D := ⟨_, rfl⟩
  rw [hD]
  obtain ⟨W, ⟨m0, w0⟩, turn⟩ := q D (I2.hok.fresh (Nat.le_of_eq hD))
  obtain ⟨s3, hs3⟩ : ∃ s3 : Shared, s3 = { s2 with heap := s2.heap.push { cls := .type "list", data := .seq ([] : List Value).toArray } } := ⟨_, rfl⟩
  have old3 : ∀ {b o}, s2.heap.get? b = some o → s3.heap.get? b = some o := fun e => by
    rw [hs3]
    exact Heap.get?_push_of_some _ e
  have at3 : s3.heap.get? D = some { cls := .type "list", data := .seq ([] : List Value).toArray } := by
    rw [hs3, ← hD]
    exact Heap.get?_push_size _ rfl
  have size3 : s3.heap.objs.size = s2.heap.objs.size + 1 := by
    rw [hs3]
    exact Heap.size_push ..
  have I3 : Inv X pins σ (upd H2 D (.lst [])) s3 := by
    have z := I2.laid (t' := s2.toks) (h' := s3.heap) (a := D) (o := .lst []) (fun b o e => old3 e) (Nat.le_of_eq hD) ⟨Nat.zero_le _, [], 0, .nil, at3⟩
    rw [hs3] at z ⊢
    exact z
  have f3 : ∀ b ∈ fp, FpOk X pins (upd H2 D (.lst [])) b ∧ b < s3.heap.objs.size := fun b hb => by
    obtain ⟨o, e, _⟩ := T.obj _ _ st2 b hb
    have lt := Heap.lt_size e
    refine ⟨⟨?_, (f2 b hb).2⟩, by rw [size3]; exact Nat.lt_succ_of_lt lt⟩
    rw [upd_ne (by rw [← hD]; exact Nat.ne_of_lt lt)]
    exact (f2 b hb).1
  rw [← hs3]
  have I4' := block_start I3 ok hN f3
  have pg := hg s3 (upd H2 D (.lst [])) s3.heap.objs.size (cellsFrom (s3.heap.objs.size + 1) scope.names (cloFrom X.env.cells scope.names [])) fp
  have pt := ht s3 (upd H2 D (.lst [])) s3.heap.objs.size (cellsFrom (s3.heap.objs.size + 1) scope.names (cloFrom X.env.cells scope.names [])) fp
  have pe := he s3 (upd H2 D (.lst [])) s3.heap.objs.size (cellsFrom (s3.heap.objs.size + 1) scope.names (cloFrom X.env.cells scope.names [])) fp
  show codeAny _ _ (.compStart (.ListComp elt [⟨tg, iter, ifs, 0⟩] scope pos) 0 (.ref it) (.ref D) (compEnvC scope (cellsFrom (s3.heap.objs.size + 1) scope.names (cloFrom X.env.cells scope.names [])) s3.heap.objs.size X.env))
    (compPost (model X.prog X.w) X.A X.xe use Qf (.ref D) s3.heap.objs.size) { s3 with heap := pushCells (s3.heap.push { cls := .type "dict", data := .dict #[] }) scope.names }
  obtain ⟨ce, hce⟩ : ∃ ce, ce = compEnvC scope (cellsFrom (s3.heap.objs.size + 1) scope.names (cloFrom X.env.cells scope.names [])) s3.heap.objs.size X.env := ⟨_, rfl⟩
  rw [← hce] at I4' pg pt pe ⊢
  have cL : ce.locals = s3.heap.objs.size := by rw [hce]; rfl
  have cF : ce.frame = X.env.frame := by rw [hce]; rfl
  obtain ⟨H3, hH3⟩ : ∃ H3, H3 = upd H2 D (.lst []) := ⟨_, rfl⟩
  rw [← hH3] at I3 I4' pg pt pe w0 f3
  obtain ⟨s4, hs4⟩ : ∃ s4 : Shared, s4 = { s3 with heap := pushCells (s3.heap.push { cls := .type "dict", data := .dict #[] }) scope.names } := ⟨_, rfl⟩
  rw [← hs4] at I4' ⊢
  have stk : ∀ {b}, b ∈ frs X.stack → b = X.env.locals ∨ b ∈ X.fs := fun hb => List.mem_cons.mp (I3.stkSub _ hb)
  have I4 : Inv (blkP X s3 H3 scope ce fp) [] (wipe σ (own.map (·.2))) H3 s4 := by
    refine inv_pn (X := X.blk s3 H3 scope ce fp) (pn := X.pn) rfl I4' fun p hp => ?_
    rw [List.append_nil] at hp
    obtain ⟨k1, k2, k3, k4, k5⟩ := I3.pin p (List.mem_append_left _ hp)
    refine ⟨?_, k2, ?_, fun z => (stk z).elim k3 k4, k5⟩
    · rw [hs4]
      exact pushCells_keeps _ _ _ _ (Heap.get?_push_of_some _ k1)
    · show p.1 ≠ ce.locals
      rw [cL]
      exact Nat.ne_of_lt (Heap.lt_size k1)
  clear I4'
  have hc : L2H.HotC (blkP X s3 H3 scope ce fp) := ⟨p0, hp1, hp0⟩
  have st4 : tn 0 s4.heap := T.keep _ _ _ st2 fun b _ o e => by
    rw [hs4]
    exact pushCells_keeps _ _ _ _ (Heap.get?_push_of_some _ (old3 e))
  have here : ∀ {σ' : L2.St} {H' : Hp} {s' : Shared}, Inv (blkP X s3 H3 scope ce fp) [] σ' H' s' → (∀ b ∈ fp, H' b = none) → ∀ b ∈ fp, FpOk (blkP X s3 H3 scope ce fp) [] H' b := fun I' n b hb =>
    ⟨n b hb, (I'.ok.exf b hb).1, I'.ok.exfs b hb, .inl hb, (I'.ok.exf b hb).2, fun p hp => (f3 b hb).1.2.2.2.2.2 p (List.mem_append_left _ (by simpa using hp))⟩
  have go : codeAny (model X.prog X.w) X.A (.compLoop (.ListComp elt [⟨tg, iter, ifs, 0⟩] scope pos) 0 (.ref it) (.ref D) ce) (compPost (model X.prog X.w) X.A X.xe use Qf (.ref D) s3.heap.objs.size) s4 := by
    refine compLoop_any (fun n s' => ∃ i H', Inv (blkP X s3 H3 scope ce fp) [] (wipe σ (own.map (·.2))) H' s' ∧ tn i s'.heap ∧ (∀ b ∈ fp, H' b = none) ∧ W i n H') ?_ m0 ⟨0, H3, I4, st4, fun b hb => (f3 b hb).1.1, w0⟩
    rintro n s5 ⟨i, H5, I5, st5, n5, w5⟩
    rcases turn i n H5 w5 with ⟨stop, qq⟩ | ⟨yet, Nx, hNx, step⟩
    · refine thnF (T.done (blkP X s3 H3 scope ce fp) rfl rfl rfl hc i [] s5 _ H5 (fun _ _ => False) I5 (here I5 n5) st5 stop) fun r s6 ⟨hr, I6⟩ => ?_
      subst hr
      have I7 : Inv X pins σ H5 s6 := I3.call' (ch := fp) I6.os I6.base I6.hok I6.bare fun b hb => by
        obtain ⟨⟨_, p1, _, p3, p4, p5⟩, _⟩ := f3 b hb
        exact ⟨p3, p1, p4, p5⟩
      have nC : H5 s3.heap.objs.size = none := by
        have z : H5 ce.locals = none := I6.free
        rwa [cL] at z
      obtain ⟨m, hn, _⟩ := I6.loc
      have hn : s6.heap.Ns ce.locals m := hn
      rw [cL] at hn
      exact hRR D s3.heap.objs.size s6 m H5 I7 qq hn (I3.fpOk (Nat.le_refl _) nC)
    · refine thnF (T.item (blkP X s3 H3 scope ce fp) rfl rfl rfl hc i [] s5 _ H5 (fun _ _ => False) I5 (here I5 n5) st5 yet) fun r s6 ⟨u, hr, h6⟩ => ?_
      subst hr
      refine thnF h6 fun _ s7 ⟨x, H7, I7, r7, y7, st7, n7⟩ => ?_
      refine thnF (pg.run _ s7 _ H7 x u _ (I7.pinned (here I7 n7) (T.obj _ _ st7)) r7 (step x H7 y7)) fun _ s8 ⟨σ8, H8, I8, hw8, q8⟩ => ?_
      refine thnF (pt.run _ s8 σ8 H8 _ I8 q8) fun b s9 ⟨H9, I9, q9⟩ => ?_
      have fin : ∀ {s' : Shared} {H' : Hp}, Inv (blkP X s3 H3 scope ce fp) ([] ++ pinsAt fp s7.heap) σ8 H' s' → Nx H' →
          ∃ m, m < n ∧ ∃ i H', Inv (blkP X s3 H3 scope ce fp) [] (wipe σ (own.map (·.2))) H' s' ∧ tn i s'.heap ∧ (∀ b ∈ fp, H' b = none) ∧ W i m H' := fun {s' H'} I' nx => by
        obtain ⟨m', hm, w'⟩ := hNx H' nx
        have kept : ∀ b ∈ fp, ∀ o, s7.heap.get? b = some o → s'.heap.get? b = some o ∧ H' b = none := fun b hb o e => by
          obtain ⟨z1, z2, _⟩ := I'.pin (b, o) (List.mem_append_right _ (List.mem_append_right _ (mem_pinsAt hb e)))
          exact ⟨z1, z2⟩
        refine ⟨m', hm, i + 1, H', (I'.unpinned (pins := [])).weak (by rw [← hw8, wipe_length]) (fun j v e => ?_), T.keep _ _ _ st7 fun b hb o e => (kept b hb o e).1, fun b hb => ?_, w'⟩
        · rw [← hw8] at e
          exact (wipe_some e).1
        · obtain ⟨o, e, _⟩ := T.obj _ _ st7 b hb
          exact (kept b hb o e).2
      cases b with
      | false =>
        rw [if_neg (by decide)] at q9 ⊢
        exact fin I9 q9
      | true =>
        rw [if_pos rfl] at q9 ⊢
        refine thnF (pe.run _ s9 σ8 H9 _ I9 q9) fun z s10 ⟨yv, H10, I10, r10, acc, hD10, hz10, nx⟩ => ?_
        exact app_ok (X := blkP X s3 H3 scope ce fp) I10 hD10 hz10 r10 fun s11 I11 => fin I11 nx
  exact codeAny_compStart_list go (T.self X.A 0 _ _ _ st4 go)
theorem ps_setLcH {i : Nat} {y : Str} {py : Pos} {elt tg iter : Expr} {ifs : List Expr} {scope : Scope} {own : List (Str × Nat)} {pos spos : Pos} {wi : TI} {g : TG} {tt : TT} {te : TE} (hot : L2H.HotC X) (hN : X.N.Nodup) (hy : X.N[i]? = some y) (hyl : X.env.scope.names.lookup y = some .local)
    (hsw : swapsWith (.ListComp elt [⟨tg, iter, ifs, 0⟩] scope pos) (some (.Name y py)) spos.line X.env = pure true) (hi : L2H.PIH X tg iter wi) (ok : BlkOk X.N X.env.scope scope own)
    (hg : ∀ (s : Shared) (H : Hp) (C : Addr) (cl : List (Str × Addr)) (fp : List Addr), PG (blkP X s H scope (compEnvC scope cl C X.env) fp) tg g)
    (ht : ∀ (s : Shared) (H : Hp) (C : Addr) (cl : List (Str × Addr)) (fp : List Addr), PTs (blkP X s H scope (compEnvC scope cl C X.env) fp) ifs tt)
    (he : ∀ (s : Shared) (H : Hp) (C : Addr) (cl : List (Str × Addr)) (fp : List Addr), PE (blkP X s H scope (compEnvC scope cl C X.env) fp) elt te) (hs : ∀ x, foldedSetIterable iter X.env x = pure x := by intro _; rfl) :
    PS X (.Assign [.Name y py] (.ListComp elt [⟨tg, iter, ifs, 0⟩] scope pos) spos) (tAsg (tLc wi g tt te (own.map (·.2))) (gName i)) := by
  refine ⟨fun pins s σ H D I h => ?_⟩
  rw [exec_Assign_Name_used _ _ _ _ hsw]
  refine wpAny_bind (wpAny_standAt (wpAny_bind ?_))
  show wpAny _ X.A (do let _ ← comprehension (.ListComp elt [⟨tg, iter, ifs, 0⟩] scope pos) scope X.env (firstIterPos [⟨tg, iter, ifs, 0⟩] pos) (newList []) false (eval iter X.env) (some (assign (.Name y py) X.env))) _ _ s
  have h : tLc wi g tt te (own.map (·.2)) σ H (fun x H1 => gName i x σ H1 D.nx) := h
  refine wpAny_bind (thn (lc_hot (Qf := fun _ s' => SP X pins D .next s') hot hN I hi ok hg ht he hs h fun L C s' m H' I' q hn f => ?_) fun _ s' hq => wpAny_pure (wpAny_pure hq))
  show wpAny _ _ (assign (.Name y py) X.env (.ref L)) _ _ _
  refine wpAny_assign_Name (store_ok2 (v := V.ref L) I' hN hy (.inl hyl) rfl (fun s2 I2 ⟨a, sb, ha⟩ => ?_) (.inr hyl))
  obtain ⟨f0, f1, f2, f3, f4, f5⟩ := f
  have haC : C ≠ a := ha.elim (fun z => by rw [z]; exact f1) fun z e => f4 y a z e.symm
  exact ⟨m, hn.sameBut sb haC, fun h3 sb3 => ⟨_, H', I2.turned (t' := s2.toks) (fun b o hb e => (sb3.2 b hb).trans e) f0 f1 f3 f4 f5, q⟩⟩
end
end Bt

set_option linter.all false
set_option maxRecDepth 100000
set_option maxHeartbeats 1000000
namespace Bt
open PySem PyProof.Rows SrtO
abbrev T3 := Int × Int × Str
section
variable {prog : Program} {w : World} {A : Around} {s : Shared} {E : Value → Shared → Prop}
end
open L2 PySem.Spec
section
variable {K : PySem.W.Frag} {F H : Hp} {a : Addr} {vs : List V} {xs : List T3} {Q : VK}
end
end Bt

set_option Elab.async false
set_option linter.all false
set_option maxRecDepth 100000
set_option maxHeartbeats 4000000
namespace Bt
open PySem L2 PySem.Spec PyProof.Rows
end Bt

set_option Elab.async false
set_option linter.all false
set_option maxRecDepth 100000
namespace Bt
open PySem L2
section
variable {R R0 H : Hp} {L L' : List Cell}
theorem opn (OO : Own R0 H L) : ∃ Hb H0 : Hp, Hb = hsub H L ∧ H0 = Hb ∧ Own H0 H L ∧ Ex R0 Hb ∧ Ex Hb H0 ∧ Ex R0 (ovr R0 Hb H0) :=
  ⟨_, _, rfl, rfl, OO.startX, OO.subR, Ex.refl _, ovr_start OO.subR⟩
theorem Own.v (O : Own R H L) (e : L = L' := by first | with_reducible rfl | simp only [n1, n2, n3, n4, n5, n6, n7]) : Own R H L' := O.cv e
theorem Own.g (O : Own R H L) (Bs : List (List Cell)) (hB : L = Bs.flatten) (is : List Nat) (hd : is.Nodup := by decide) (e : (pickG Bs is).flatten = L' := by simp only [g1, g2, g3, g4, n2, n3, n4, n5, n6, n7, List.map_nil]) : Own R H L' := O.pkB Bs hB is hd e
theorem sji {α : Type} {a b : α} (h : some a = some b) : a = b := Option.some.inj h
end
end Bt

set_option Elab.async false
set_option linter.all false
set_option maxRecDepth 100000
set_option maxHeartbeats 4000000
set_option synthInstance.maxHeartbeats 400000
set_option synthInstance.maxSize 4096
namespace Bt
open PySem L2
open HAppend renaming hAppend → hA
def top (i : Nat) : Stmt := PySem.Challenge.pw_bitrail_k19_refusals_apart.main.body.getD i (.Pass ⟨0, 0, 0, 0⟩)
abbrev s__law_draw : Stmt := top 35
abbrev s_bits_of : Stmt := top 13
abbrev s_divided : Stmt := top 16
abbrev s_number_of : Stmt := top 14
abbrev s_rest_of : Stmt := top 20
abbrev s_check_of : Stmt := top 21
abbrev s_is_name : Stmt := top 23
abbrev s_frame_bits : Stmt := top 29
abbrev s__law_field : Stmt := top 33
abbrev s__law_kinds : Stmt := top 32
abbrev s__law_known : Stmt := top 40
abbrev s__law_no_frame : Stmt := top 45
abbrev s__law_plain : Stmt := top 41
abbrev s__law_far : Stmt := top 36
abbrev s__law_written : Stmt := top 39
abbrev s__law_worth : Stmt := top 38
abbrev s__law_frame_due : Stmt := top 51
abbrev s__law_frames_right : Stmt := top 52
abbrev s_NoWire_init : Stmt := (clsB (top 10)).getD 0 (.Pass ⟨0, 0, 0, 0⟩)
abbrev s_taken_out : Stmt := top 27
abbrev s__law_no_wire : Stmt := top 46
abbrev s__law_row : Stmt := top 37
abbrev s__law_wires_right : Stmt := top 53
abbrev s__law_no_bits : Stmt := top 42
abbrev s__law_numbers_right : Stmt := top 47
abbrev s_bit_at : Stmt := top 24
abbrev s_duel : Stmt := top 25
abbrev s__law_duel_right : Stmt := top 48
abbrev s__law_no_name : Stmt := top 43
abbrev s__law_names_right : Stmt := top 49
abbrev s__law_no_key : Stmt := top 44
abbrev s__law_keys_right : Stmt := top 50
abbrev s_NoRow_init : Stmt := (clsB (top 11)).getD 0 (.Pass ⟨0, 0, 0, 0⟩)
abbrev s__law_raised : Stmt := top 31
abbrev s__law_good : Stmt := top 34
abbrev s_law : Stmt := top 54
structure Ad where
  f__law_draw : Addr
  fd__law_draw : FuncData
  f_bits_of : Addr
  fd_bits_of : FuncData
  f_divided : Addr
  fd_divided : FuncData
  f_number_of : Addr
  fd_number_of : FuncData
  f_rest_of : Addr
  fd_rest_of : FuncData
  f_check_of : Addr
  fd_check_of : FuncData
  f_is_name : Addr
  fd_is_name : FuncData
  f_frame_bits : Addr
  fd_frame_bits : FuncData
  f__law_field : Addr
  fd__law_field : FuncData
  f__law_kinds : Addr
  fd__law_kinds : FuncData
  f__law_known : Addr
  fd__law_known : FuncData
  f__law_no_frame : Addr
  fd__law_no_frame : FuncData
  f__law_plain : Addr
  fd__law_plain : FuncData
  f__law_far : Addr
  fd__law_far : FuncData
  f__law_written : Addr
  fd__law_written : FuncData
  f__law_worth : Addr
  fd__law_worth : FuncData
  f__law_frame_due : Addr
  fd__law_frame_due : FuncData
  f__law_frames_right : Addr
  fd__law_frames_right : FuncData
  f_NoWire_init : Addr
  fd_NoWire_init : FuncData
  f_taken_out : Addr
  fd_taken_out : FuncData
  f__law_no_wire : Addr
  fd__law_no_wire : FuncData
  f__law_row : Addr
  fd__law_row : FuncData
  f__law_wires_right : Addr
  fd__law_wires_right : FuncData
  f__law_no_bits : Addr
  fd__law_no_bits : FuncData
  f__law_numbers_right : Addr
  fd__law_numbers_right : FuncData
  f_bit_at : Addr
  fd_bit_at : FuncData
  f_duel : Addr
  fd_duel : FuncData
  f__law_duel_right : Addr
  fd__law_duel_right : FuncData
  f__law_no_name : Addr
  fd__law_no_name : FuncData
  f__law_names_right : Addr
  fd__law_names_right : FuncData
  f__law_no_key : Addr
  fd__law_no_key : FuncData
  f__law_keys_right : Addr
  fd__law_keys_right : FuncData
  f_NoRow_init : Addr
  fd_NoRow_init : FuncData
  f__law_raised : Addr
  fd__law_raised : FuncData
  f__law_good : Addr
  fd__law_good : FuncData
  f_law : Addr
  fd_law : FuncData
  es : Eds
abbrev ks : List Ek := [.NoBits, .NoName, .NoKey, .NoFrame, .NoPost, .NoThing, .NoStrip, .NoRail, .NoWire, .NoRow]
structure Txt (K : PySem.W.Frag) (mg : Str → Option Value) (ad : Ad) : Prop where
  F__law_draw : Fun K "_law_draw" "_law_draw" s__law_draw ad.f__law_draw ad.fd__law_draw
  g__law_draw : mg "_law_draw" = some (.ref ad.f__law_draw)
  b__law_draw : Binds K ad.fd__law_draw ["script", "k", "many"] []
  F_bits_of : Fun K "bits_of" "bits_of" s_bits_of ad.f_bits_of ad.fd_bits_of
  g_bits_of : mg "bits_of" = some (.ref ad.f_bits_of)
  b_bits_of : Binds K ad.fd_bits_of ["number", "many"] []
  F_divided : Fun K "divided" "divided" s_divided ad.f_divided ad.fd_divided
  g_divided : mg "divided" = some (.ref ad.f_divided)
  b_divided : Binds K ad.fd_divided ["number", "key"] []
  F_number_of : Fun K "number_of" "number_of" s_number_of ad.f_number_of ad.fd_number_of
  g_number_of : mg "number_of" = some (.ref ad.f_number_of)
  b_number_of : Binds K ad.fd_number_of ["bits"] []
  F_rest_of : Fun K "rest_of" "rest_of" s_rest_of ad.f_rest_of ad.fd_rest_of
  g_rest_of : mg "rest_of" = some (.ref ad.f_rest_of)
  b_rest_of : Binds K ad.fd_rest_of ["bits"] []
  F_check_of : Fun K "check_of" "check_of" s_check_of ad.f_check_of ad.fd_check_of
  g_check_of : mg "check_of" = some (.ref ad.f_check_of)
  b_check_of : Binds K ad.fd_check_of ["bits"] []
  F_is_name : Fun K "is_name" "is_name" s_is_name ad.f_is_name ad.fd_is_name
  g_is_name : mg "is_name" = some (.ref ad.f_is_name)
  b_is_name : Binds K ad.fd_is_name ["number"] []
  F_frame_bits : Fun K "frame_bits" "frame_bits" s_frame_bits ad.f_frame_bits ad.fd_frame_bits
  g_frame_bits : mg "frame_bits" = some (.ref ad.f_frame_bits)
  b_frame_bits : Binds K ad.fd_frame_bits ["name", "data"] []
  F__law_field : Fun K "_law_field" "_law_field" s__law_field ad.f__law_field ad.fd__law_field
  g__law_field : mg "_law_field" = some (.ref ad.f__law_field)
  b__law_field : Binds K ad.fd__law_field ["e"] []
  F__law_kinds : Fun K "_law_kinds" "_law_kinds" s__law_kinds ad.f__law_kinds ad.fd__law_kinds
  g__law_kinds : mg "_law_kinds" = some (.ref ad.f__law_kinds)
  b__law_kinds : Binds K ad.fd__law_kinds ["e"] []
  F__law_known : Fun K "_law_known" "_law_known" s__law_known ad.f__law_known ad.fd__law_known
  g__law_known : mg "_law_known" = some (.ref ad.f__law_known)
  b__law_known : Binds K ad.fd__law_known ["e", "k", "field"] []
  F__law_no_frame : Fun K "_law_no_frame" "_law_no_frame" s__law_no_frame ad.f__law_no_frame ad.fd__law_no_frame
  g__law_no_frame : mg "_law_no_frame" = some (.ref ad.f__law_no_frame)
  b__law_no_frame : Binds K ad.fd__law_no_frame ["name", "data"] []
  F__law_plain : Fun K "_law_plain" "_law_plain" s__law_plain ad.f__law_plain ad.fd__law_plain
  g__law_plain : mg "_law_plain" = some (.ref ad.f__law_plain)
  b__law_plain : Binds K ad.fd__law_plain ["found", "due"] []
  F__law_far : Fun K "_law_far" "_law_far" s__law_far ad.f__law_far ad.fd__law_far
  g__law_far : mg "_law_far" = some (.ref ad.f__law_far)
  b__law_far : Binds K ad.fd__law_far ["script", "k"] []
  F__law_written : Fun K "_law_written" "_law_written" s__law_written ad.f__law_written ad.fd__law_written
  g__law_written : mg "_law_written" = some (.ref ad.f__law_written)
  b__law_written : Binds K ad.fd__law_written ["number", "many"] []
  F__law_worth : Fun K "_law_worth" "_law_worth" s__law_worth ad.f__law_worth ad.fd__law_worth
  g__law_worth : mg "_law_worth" = some (.ref ad.f__law_worth)
  b__law_worth : Binds K ad.fd__law_worth ["bits"] []
  F__law_frame_due : Fun K "_law_frame_due" "_law_frame_due" s__law_frame_due ad.f__law_frame_due ad.fd__law_frame_due
  g__law_frame_due : mg "_law_frame_due" = some (.ref ad.f__law_frame_due)
  b__law_frame_due : Binds K ad.fd__law_frame_due ["name", "data"] []
  F__law_frames_right : Fun K "_law_frames_right" "_law_frames_right" s__law_frames_right ad.f__law_frames_right ad.fd__law_frames_right
  g__law_frames_right : mg "_law_frames_right" = some (.ref ad.f__law_frames_right)
  b__law_frames_right : Binds K ad.fd__law_frames_right ["script"] []
  F_NoWire_init : Fun K "__init__" "NoWire.__init__" s_NoWire_init ad.f_NoWire_init ad.fd_NoWire_init
  b_NoWire_init : Binds K ad.fd_NoWire_init ["self", "at"] []
  F_taken_out : Fun K "taken_out" "taken_out" s_taken_out ad.f_taken_out ad.fd_taken_out
  g_taken_out : mg "taken_out" = some (.ref ad.f_taken_out)
  b_taken_out : Binds K ad.fd_taken_out ["wire"] []
  F__law_no_wire : Fun K "_law_no_wire" "_law_no_wire" s__law_no_wire ad.f__law_no_wire ad.fd__law_no_wire
  g__law_no_wire : mg "_law_no_wire" = some (.ref ad.f__law_no_wire)
  b__law_no_wire : Binds K ad.fd__law_no_wire ["wire", "at"] []
  F__law_row : Fun K "_law_row" "_law_row" s__law_row ad.f__law_row ad.fd__law_row
  g__law_row : mg "_law_row" = some (.ref ad.f__law_row)
  b__law_row : Binds K ad.fd__law_row ["script", "base", "many"] []
  F__law_wires_right : Fun K "_law_wires_right" "_law_wires_right" s__law_wires_right ad.f__law_wires_right ad.fd__law_wires_right
  g__law_wires_right : mg "_law_wires_right" = some (.ref ad.f__law_wires_right)
  b__law_wires_right : Binds K ad.fd__law_wires_right ["script"] []
  F__law_no_bits : Fun K "_law_no_bits" "_law_no_bits" s__law_no_bits ad.f__law_no_bits ad.fd__law_no_bits
  g__law_no_bits : mg "_law_no_bits" = some (.ref ad.f__law_no_bits)
  b__law_no_bits : Binds K ad.fd__law_no_bits ["number", "many"] []
  F__law_numbers_right : Fun K "_law_numbers_right" "_law_numbers_right" s__law_numbers_right ad.f__law_numbers_right ad.fd__law_numbers_right
  g__law_numbers_right : mg "_law_numbers_right" = some (.ref ad.f__law_numbers_right)
  b__law_numbers_right : Binds K ad.fd__law_numbers_right ["script"] []
  F_bit_at : Fun K "bit_at" "bit_at" s_bit_at ad.f_bit_at ad.fd_bit_at
  g_bit_at : mg "bit_at" = some (.ref ad.f_bit_at)
  b_bit_at : Binds K ad.fd_bit_at ["name", "k"] []
  F_duel : Fun K "duel" "duel" s_duel ad.f_duel ad.fd_duel
  g_duel : mg "duel" = some (.ref ad.f_duel)
  b_duel : Binds K ad.fd_duel ["names"] []
  F__law_duel_right : Fun K "_law_duel_right" "_law_duel_right" s__law_duel_right ad.f__law_duel_right ad.fd__law_duel_right
  g__law_duel_right : mg "_law_duel_right" = some (.ref ad.f__law_duel_right)
  b__law_duel_right : Binds K ad.fd__law_duel_right ["script", "names"] []
  F__law_no_name : Fun K "_law_no_name" "_law_no_name" s__law_no_name ad.f__law_no_name ad.fd__law_no_name
  g__law_no_name : mg "_law_no_name" = some (.ref ad.f__law_no_name)
  b__law_no_name : Binds K ad.fd__law_no_name ["names"] []
  F__law_names_right : Fun K "_law_names_right" "_law_names_right" s__law_names_right ad.f__law_names_right ad.fd__law_names_right
  g__law_names_right : mg "_law_names_right" = some (.ref ad.f__law_names_right)
  b__law_names_right : Binds K ad.fd__law_names_right ["script"] []
  F__law_no_key : Fun K "_law_no_key" "_law_no_key" s__law_no_key ad.f__law_no_key ad.fd__law_no_key
  g__law_no_key : mg "_law_no_key" = some (.ref ad.f__law_no_key)
  b__law_no_key : Binds K ad.fd__law_no_key ["number"] []
  F__law_keys_right : Fun K "_law_keys_right" "_law_keys_right" s__law_keys_right ad.f__law_keys_right ad.fd__law_keys_right
  g__law_keys_right : mg "_law_keys_right" = some (.ref ad.f__law_keys_right)
  b__law_keys_right : Binds K ad.fd__law_keys_right ["script"] []
  F_NoRow_init : Fun K "__init__" "NoRow.__init__" s_NoRow_init ad.f_NoRow_init ad.fd_NoRow_init
  b_NoRow_init : Binds K ad.fd_NoRow_init ["self", "word"] []
  F__law_raised : Fun K "_law_raised" "_law_raised" s__law_raised ad.f__law_raised ad.fd__law_raised
  g__law_raised : mg "_law_raised" = some (.ref ad.f__law_raised)
  b__law_raised : Binds K ad.fd__law_raised ["k", "words", "number"] []
  F__law_good : Fun K "_law_good" "_law_good" s__law_good ad.f__law_good ad.fd__law_good
  g__law_good : mg "_law_good" = some (.ref ad.f__law_good)
  b__law_good : Binds K ad.fd__law_good ["k", "words", "number"] []
  F_law : Fun K "law" "law" s_law ad.f_law ad.fd_law
  g_law : mg "law" = some (.ref ad.f_law)
  b_law : Binds K ad.fd_law ["script"] []
  z_ValueError : mg "ValueError" = none
  z_bool : mg "bool" = none
  z_enumerate : mg "enumerate" = none
  z_int : mg "int" = none
  z_isinstance : mg "isinstance" = none
  z_len : mg "len" = none
  z_list : mg "list" = none
  z_min : mg "min" = none
  z_range : mg "range" = none
  z_reversed : mg "reversed" = none
  z_set : mg "set" = none
  z_str : mg "str" = none
  z_tuple : mg "tuple" = none
  g_KEY : Gv mg "KEY" (.int 64647)
  g_WIDE : Gv mg "WIDE" (.int 15)
  e_NoBits : ErrC K mg "NoBits" ad.es.NoBits
  e_NoFrame : ErrC K mg "NoFrame" ad.es.NoFrame
  e_NoKey : ErrC K mg "NoKey" ad.es.NoKey
  e_NoName : ErrC K mg "NoName" ad.es.NoName
  e_NoPost : ErrC K mg "NoPost" ad.es.NoPost
  e_NoRail : ErrC K mg "NoRail" ad.es.NoRail
  e_NoStrip : ErrC K mg "NoStrip" ad.es.NoStrip
  e_NoThing : ErrC K mg "NoThing" ad.es.NoThing
  n_NoBits : mg "NoBits" = some (.ref ad.es.NoBits)
  n_NoFrame : mg "NoFrame" = some (.ref ad.es.NoFrame)
  n_NoKey : mg "NoKey" = some (.ref ad.es.NoKey)
  n_NoName : mg "NoName" = some (.ref ad.es.NoName)
  n_NoPost : mg "NoPost" = some (.ref ad.es.NoPost)
  n_NoRail : mg "NoRail" = some (.ref ad.es.NoRail)
  n_NoRow : mg "NoRow" = some (.ref ad.es.NoRow)
  n_NoStrip : mg "NoStrip" = some (.ref ad.es.NoStrip)
  n_NoThing : mg "NoThing" = some (.ref ad.es.NoThing)
  n_NoWire : mg "NoWire" = some (.ref ad.es.NoWire)
  n_RailError : mg "RailError" = some (.ref ad.es.RailError)
  X_NoRow : XfC K ad.es.NoRow
  Y_NoRow : PySem.W.findIn K (.ref ad.es.NoRow) "word" = some none
  X_NoWire : XfC K ad.es.NoWire
  Y_NoWire : PySem.W.findIn K (.ref ad.es.NoWire) "at" = some none
  EC : EcF K ad.es ks
  I_NoWire : InF K mg ad.es.NoWire ad.es.RailError ad.f_NoWire_init "at"
  I_NoRow : InF K mg ad.es.NoRow ad.es.RailError ad.f_NoRow_init "word"
section
variable {P : Program} {w : World} {K : PySem.W.Frag} {mg : Str → Option Value} {base : Heap}
def m__law_draw (script_1 : List Int) (k_3 : Int) (many_4 : Int) : Option (Int) :=
  bnd (ifB (decide ((0 : Int) < (List.length script_1 : Int))) (bnd (modG k_3 (List.length script_1 : Int)) fun t_5 =>
  bnd (atI script_1 t_5) fun e_7 => some e_7) ( some (0 : Int))) fun z_10 =>
  bnd (mulG ((31 : Int) * k_3) k_3) fun t_12 =>
  ltv ((((z_10 % (1000003 : Int)) + t_12) + (1 : Int))) fun seed_14 =>
  bnd (modG ((((seed_14 * (48271 : Int)) % (999983 : Int)) * (7919 : Int)) % (524287 : Int)) many_4) fun t_16 =>
  some t_16
def sp__law_draw (K : PySem.W.Frag) : Sp := fun vs H Q _ => ∃ (script_1 : List Int) (a_2 : Addr) (k_3 : Int) (many_4 : Int) (r : Int), vs = [.ref a_2, .int k_3, .int many_4] ∧ SqL K H a_2 (List.map V.int script_1) ∧ m__law_draw script_1 k_3 many_4 = some r ∧ RetV (.int r) H Q
abbrev N__law_draw : List Str := ["script", "k", "many", "cell", "seed"]
theorem sc__law_draw : FnScope N__law_draw ["script", "k", "many"] (defScope s__law_draw) := ⟨rfl, rfl, rfl, by decide +kernel, rfl, by decide +kernel, by decide +kernel⟩
theorem ok__law_draw {ad : Ad} (T : Txt K mg ad) : FnOk P w K mg base CX0 1 ad.f__law_draw ad.fd__law_draw ["script", "k", "many"] (sp__law_draw K) := by
  refine T.F__law_draw.ok sc__law_draw (fun vs H Q E h => ?_) (fun cdv A outer s H vs Q E hr h => ?_)
  · obtain ⟨_, _, _, _, _, rfl, _⟩ := h
    rfl
  · obtain ⟨b, B, C, m, r, rfl, a, hm, k⟩ := h;unfold m__law_draw at hm;obtain ⟨H0, hH0⟩ : ∃ H0 : Hp, H0 = H := ⟨H, rfl⟩;have O : Own H0 H [] := by rw [hH0]; exact Own.start H
    rw [← hH0] at k a;clear hH0;refine ⟨_, (pss_cons (ps_set (i := 3) sc__law_draw.nd rfl (Or.inl rfl) (pe_ifExp (pt_cmpR op_gt (pe_callB (r := rLenQ K) call_lenQ (by rfl) T.z_len PySem.boot_len (pa_cons (pv 0) pa_nil)) pe_int (nomark _)) (pe_ix (r := rIxL K) ix_list (pv 0) (pe_op op_mod (pv 1) (pe_callB (r := rLenQ K) call_lenQ (by rfl) T.z_len PySem.boot_len (pa_cons (pv 0) pa_nil))) (fun _ _ => rfl)) pe_int)) (pss_cons (ps_set (i := 4) sc__law_draw.nd rfl (Or.inl rfl) (pe_op op_add (pe_op op_add (pe_op op_mod (pe_callTy (r := rInt) call_intQ (by rfl) T.z_int (by decide +kernel) (pa_cons (pv 3) pa_nil)) pe_int) (pe_op op_mulW (pe_op op_mul pe_int (pv 1)) (pv 1))) pe_int)) (pss_one (ps_ret (pe_op op_mod (pe_op op_mod (pe_op op_mul (pe_op op_mod (pe_op op_mul (pv 4) pe_int) pe_int) pe_int) pe_int) (pv 2)))))), ?_⟩;refine o_seq ?_;refine o_asg ?_;obtain ⟨d, e, hm⟩ := bndE hm;refine x_if (c := decide ((0 : Int) < (List.length b : Int))) (x := .int d) (y := .int d) (v := .int d) O (fun Q1 k1 => ?_) (fun g => ⟨rfl, fun H O Q2 k2 => ?_⟩) (fun g => ⟨rfl, fun H O Q2 k2 => ?_⟩) (fun H O => ?_)
    · refine ⟨_, rfl, ?_⟩;refine x_nil ?_;refine n_len (O.ex.l a) ?_;refine ⟨_, _, rfl, rfl, _, rfl, ?_⟩;exact k1 _ O
    · replace hm := ifT e g;obtain ⟨D, q, hm⟩ := bndE hm;obtain ⟨F, t, hm⟩ := bndE hm;obtain rfl := sji hm;refine ⟨_, rfl, _, rfl, _, rfl, ?_⟩;refine x_nil ?_;refine n_len (O.ex.l a) ?_;refine k_mod q ?_;refine k_ixL (f := V.int) (O.ex.l a) t ?_;exact k2 _ O
    · replace hm := ifF e g;obtain rfl := sji hm;refine o_c ?_;exact k2 _ O
    refine o_seq ?_;refine o_asg ?_;refine ⟨_, rfl, ?_⟩;refine x_nil ?_;refine .inl ⟨_, rfl, ?_⟩;obtain ⟨u, n, hm⟩ := bndE hm;refine ⟨_, _, rfl, rfl, (by show (0 : Int) < 1000003; decide), _, rfl, _, _, rfl, rfl, .inl ⟨by decide, by decide⟩, _, rfl, ?_⟩;refine k_mul n ?_;refine ⟨_, _, rfl, rfl, _, _, rfl, rfl, ?_⟩;obtain ⟨j, o, hm⟩ := ltvE hm;refine a_set (congrArg V.int o) ?_;refine o_ret ?_;obtain ⟨z, p, hm⟩ := bndE hm;refine ⟨_, rfl, _, _, rfl, rfl, .inr ⟨by decide, by decide⟩, _, _, rfl, rfl, (by show (0 : Int) < 999983; decide), _, _, rfl, rfl, .inr ⟨by decide, by decide⟩, _, _, rfl, rfl, (by show (0 : Int) < 524287; decide), _, rfl, ?_⟩;refine k_mod p ?_;obtain rfl := sji hm;exact RetV.go k O
def m_bits_of_C0 (number_1 : Int) (many_2 : Int) (k_7 : Int) : Option Int :=
  bnd (shrG number_1 ((many_2 - (1 : Int)) - k_7)) fun t_12 =>
  some (Builtin.bitAnd t_12 (1 : Int))
def m_bits_of (number_1 : Int) (many_2 : Int) : Option (Rs (List Int)) :=
  ifB (decide (number_1 < (0 : Int)) || decide (many_2 < (Builtin.Int.intBits number_1 : Int))) (
    some (.er .NoBits)) (
    bnd (rng1 many_2) fun rg_5 =>
    bnd (compM (m_bits_of_C0 number_1 many_2) rg_5 []) fun l_9 =>
    some (.ok l_9))
def sp_bits_of (K : PySem.W.Frag) (d : Eds) : Sp := fun vs H Q E => ∃ (number_1 : Int) (many_2 : Int) (r : Rs (List Int)), vs = [.int number_1, .int many_2] ∧ m_bits_of number_1 many_2 = some r ∧ RetR (fun r => RetL (List.map V.int r) H Q) d r H E
abbrev N_bits_of : List Str := ["number", "many", "k"]
theorem sc_bits_of : FnScope N_bits_of ["number", "many"] (defScope s_bits_of) := ⟨rfl, rfl, rfl, by decide +kernel, rfl, by decide +kernel, by decide +kernel⟩
theorem ok_bits_of {ad : Ad} (T : Txt K mg ad) : FnOk P w K mg base (L2N.CX P w) 1 ad.f_bits_of ad.fd_bits_of ["number", "many"] (sp_bits_of K ad.es) := by
  refine okN T.F_bits_of sc_bits_of (fun vs H Q E h => ?_) (fun cdv A outer s H vs Q E hr h => ?_)
  · obtain ⟨_, _, _, rfl, _⟩ := h
    rfl
  · obtain ⟨a, b, r, rfl, hm, k⟩ := h;unfold m_bits_of at hm;obtain ⟨H0, hH0⟩ : ∃ H0 : Hp, H0 = H := ⟨H, rfl⟩;have O : Own H0 H [] := by rw [hH0]; exact Own.start H
    rw [← hH0] at k;clear hH0;refine ⟨_, (pss_cons (ps_if (PW.pt (pw_or (pt_cmpR op_lt (pv 0) pe_int (nomark _)) (pw_or1 (pt_cmpR op_gt (pe_bits (pv 0)) (pv 1) (nomark _))))) (pss_one (ps_errN T.e_NoBits (L2N.takes_of rfl rfl rfl rfl) rfl rfl)) pss_nil) (pss_one (ps_ret (pe_lc (own := [("k", 2)]) (g := gName 2) (tt := tYes) rfl sc_bits_of.nd (pi_range1 (by rfl) T.z_range (pa_cons (pv 1) pa_nil)) (blkOk_by (own := [("k", 2)]) (N := N_bits_of) (sc := defScope s_bits_of) (by decide +kernel)) (fun _ _ _ _ _ => pg_name (i := 2) sc_bits_of.nd rfl (Or.inl rfl)) (fun _ _ _ _ _ => pts_nil) (fun _ _ _ _ _ => (pe_op op_and (pe_op op_shr (pv 0) (pe_op op_sub (pe_op op_sub (pv 1) pe_int) (pv 2))) pe_int)))))), ?_⟩;refine o_seq ?_;refine o_ifs ?_;refine x_or (c := decide (a < (0 : Int))) (e := decide (b < (Builtin.Int.intBits a : Int))) (d := (decide (a < (0 : Int)) || decide (b < (Builtin.Int.intBits a : Int)))) O (fun Q1 k1 => ?_) (fun f => ⟨by rw [f]; rfl, fun H O Q2 k2 => ?_⟩) (fun f => by rw [f]; rfl) (fun H O => ?_)
    · refine ⟨_, rfl, _, _, rfl, rfl, _, rfl, ?_⟩;exact k1 _ O
    · refine ⟨_, rfl, _, rfl, _, rfl, _, _, rfl, rfl, _, rfl, ?_⟩;exact k2 _ O
    refine iteS (c := (decide (a < (0 : Int)) || decide (b < (Builtin.Int.intBits a : Int)))) (fun j => ?_) (fun j => ?_)
    · replace hm := ifT hm j;obtain rfl := sji hm;exact k _ O.ex
    · replace hm := ifF hm j;refine o_next ?_;refine o_ret ?_;obtain ⟨p, q, hm⟩ := bndE hm;refine ⟨_, rfl, ?_⟩;refine x_nil ?_;obtain ⟨t, u, rfl⟩ := rng1E q;obtain ⟨m, n, hm⟩ := bndE hm;refine ⟨_, rfl, t, u, fun l hD => k_lcR (fun r H => ∃ acc : List Int, Own H0 H ((l, .lst (List.map V.int acc)) :: []) ∧ compM (m_bits_of_C0 a b) r acc = some m) ⟨[], O.new hD, n⟩ ?_ ?_⟩
      · rintro x r H ⟨acc, O, hC⟩
        obtain ⟨y, hm, hz, hC⟩ := compM_cons hC;refine ⟨rfl, ?_⟩;unfold m_bits_of_C0 at hm;obtain ⟨v, o, hm⟩ := bndE hm;refine ⟨_, rfl, _, rfl, _, _, rfl, rfl, _, rfl, _, _, rfl, rfl, ?_⟩;refine k_shr o ?_;refine ⟨_, _, rfl, rfl, ?_⟩;obtain rfl := sji hm;refine ⟨_, O.mem (hd_), (by rw [List.length_map]; exact hz), _, ?_, hC⟩;rw [map_snoc];exact O.put0
      rintro H ⟨acc, O, hC⟩
      obtain rfl := compM_nil hC;obtain rfl := sji hm;exact RetL.go k O (hd_)
def m_divided_W0c (key_2 : Int) (size_4 : Int) (number_6 : Int) (whole_7 : Int) : Option Bool :=
  some (decide (size_4 ≤ (Builtin.Int.intBits number_6 : Int)))
def m_divided_W0 (key_2 : Int) (size_4 : Int) (number_6 : Int) (whole_7 : Int) : Option (Int × Int) :=
  ltv (((Builtin.Int.intBits number_6 : Int) - size_4)) fun at_12 =>
  bnd (shlG (1 : Int) at_12) fun t_14 =>
  ltv ((Builtin.bitXor whole_7 t_14)) fun whole_16 =>
  bnd (shlG key_2 at_12) fun t_18 =>
  some ((Builtin.bitXor number_6 t_18), whole_16)
def m_divided (number_1 : Int) (key_2 : Int) : Option (Rs (Int × Int)) :=
  ifB (decide (key_2 = (0 : Int))) (
    some (.er .NoKey)) (
    ltv ((Builtin.Int.intBits key_2 : Int)) fun size_4 =>
    bnd (whileM (fun s => m_divided_W0c key_2 size_4 s.1 s.2) (fun s => m_divided_W0 key_2 size_4 s.1 s.2) FUEL (number_1, (0 : Int))) fun (number_9, whole_10) =>
    some (.ok (whole_10, number_9)))
def sp_divided (K : PySem.W.Frag) (d : Eds) : Sp := fun vs H Q E => ∃ (number_1 : Int) (key_2 : Int) (r : Rs (Int × Int)), vs = [.int number_1, .int key_2] ∧ m_divided number_1 key_2 = some r ∧ RetR (fun r => RetT [V.int r.1, V.int r.2] H Q) d r H E
abbrev N_divided : List Str := ["number", "key", "whole", "size", "at"]
theorem sc_divided : FnScope N_divided ["number", "key"] (defScope s_divided) := ⟨rfl, rfl, rfl, by decide +kernel, rfl, by decide +kernel, by decide +kernel⟩
theorem ok_divided {ad : Ad} (T : Txt K mg ad) : FnOk P w K mg base (L2N.CX P w) 1 ad.f_divided ad.fd_divided ["number", "key"] (sp_divided K ad.es) := by
  refine okN T.F_divided sc_divided (fun vs H Q E h => ?_) (fun cdv A outer s H vs Q E hr h => ?_)
  · obtain ⟨_, _, _, rfl, _⟩ := h
    rfl
  · obtain ⟨n, e, r, rfl, hm, k⟩ := h;unfold m_divided at hm;obtain ⟨H0, hH0⟩ : ∃ H0 : Hp, H0 = H := ⟨H, rfl⟩;have O : Own H0 H [] := by rw [hH0]; exact Own.start H
    rw [← hH0] at k;clear hH0;refine ⟨_, (pss_cons (ps_if (pt_cmpR op_eq (pv 1) pe_int (nomark _)) (pss_one (ps_errN T.e_NoKey (L2N.takes_of rfl rfl rfl rfl) rfl rfl)) pss_nil) (pss_cons (ps_set (i := 2) sc_divided.nd rfl (Or.inl rfl) pe_int) (pss_cons (ps_set (i := 3) sc_divided.nd rfl (Or.inl rfl) (pe_bits (pv 1))) (pss_cons (ps_while (passes_of rfl) (pt_cmpR op_ge (pe_bits (pv 0)) (pv 3) (nomark _)) (pss_cons (ps_set (i := 4) sc_divided.nd rfl (Or.inl rfl) (pe_op op_sub (pe_bits (pv 0)) (pv 3))) (pss_cons (ps_set (i := 2) sc_divided.nd rfl (Or.inl rfl) (pe_op op_xor (pv 2) (pe_op op_shlW pe_int (pv 4)))) (pss_one (ps_set (i := 0) sc_divided.nd rfl (Or.inl rfl) (pe_op op_xor (pv 0) (pe_op op_shlW (pv 1) (pv 4)))))))) (pss_one (ps_ret (pe_tupQ (pe_tup (pa_cons (pv 2) (pa_cons (pv 0) pa_nil)))))))))), ?_⟩;refine o_seq ?_;refine o_ifs ?_;refine ⟨_, rfl, ?_⟩;refine o_c ?_;refine k_eqI ?_;refine ⟨_, rfl, ?_⟩;refine iteS (c := (decide (e = (0 : Int)))) (fun o => ?_) (fun o => ?_)
    · replace hm := ifT hm o;obtain rfl := sji hm;exact k _ O.ex
    · replace hm := ifF hm o;refine o_next ?_;refine o_seq ?_;refine o_asg ?_;refine o_c ?_;refine o_seq ?_;refine o_asg ?_;refine ⟨_, rfl, _, rfl, ?_⟩;obtain ⟨d, B, hm⟩ := ltvE hm;refine a_set (congrArg V.int B) ?_;refine o_seq ?_;obtain ⟨⟨f, g⟩, q, hm⟩ := bndE hm;refine o_while (fun m σ H => ∃ (a : Int) (b : Int) (j : Option V), σ = [some (.int a), some (.int e), some (.int b), some (.int d), j] ∧ Own H0 H [] ∧ whileM (fun s => m_divided_W0c e d s.1 s.2) (fun s => m_divided_W0 e d s.1 s.2) m (a, b) = some (f, g)) FUEL ⟨_, _, _, rfl, O, q⟩ ?_ ?_
      · rintro σ H ⟨a, b, j, rfl, O, hL⟩
        exact whileM_zero hL
      rintro m σ H ⟨a, b, j, rfl, O, hL⟩
      have t := hm
      obtain ⟨b_, hm, hL⟩ := whileM_succ hL;replace hm : m_divided_W0c e d a b = some b_ := hm;unfold m_divided_W0c at hm;refine ⟨_, rfl, _, rfl, _, rfl, _, _, rfl, rfl, _, rfl, ?_⟩;obtain rfl := sji hm;refine iteS (c := decide (d ≤ (Builtin.Int.intBits a : Int))) (fun l => ?_) (fun l => ?_)
      · obtain ⟨s_, hm, hL⟩ := bndE (ifT hL l);replace hm : m_divided_W0 e d a b = some s_ := hm;unfold m_divided_W0 at hm;refine o_turn ?_;refine o_seq ?_;refine o_asg ?_;refine ⟨_, rfl, _, rfl, _, rfl, _, _, rfl, rfl, ?_⟩;obtain ⟨z, u, hm⟩ := ltvE hm;refine a_set (congrArg V.int u) ?_;refine o_seq ?_;refine o_asg ?_;obtain ⟨C, v, hm⟩ := bndE hm;refine ⟨_, rfl, _, rfl, ?_⟩;refine k_shl v ?_;refine ⟨_, _, rfl, rfl, ?_⟩;obtain ⟨p, x, hm⟩ := ltvE hm;refine a_set (congrArg V.int x) ?_;refine o_asg ?_;obtain ⟨D, y, hm⟩ := bndE hm;refine ⟨_, rfl, _, rfl, _, rfl, ?_⟩;refine k_shl y ?_;refine ⟨_, _, rfl, rfl, ?_⟩;have Oz := O
        obtain rfl := sji hm;exact ⟨_, _, _, rfl, Oz, hL⟩
      cases whileM_end hL l
      replace hm := t;refine o_ret ?_;refine ⟨_, rfl, _, rfl, ?_⟩;refine x_nil ?_;refine n_tup O (by show 2 ≤ sizeLine; decide) fun F H O => ?_;obtain rfl := sji hm;exact RetT.go k O (hd_)
def m_number_of_L0  (bit_9 : Int) (number_3 : Int) : Option (Int) :=
  bnd (shlG number_3 (1 : Int)) fun t_13 =>
  some (Builtin.bitOr t_13 bit_9)
def m_number_of (bits_1 : List Int) : Option (Int) :=
  bnd (loopM (fun bit_9 s => m_number_of_L0 bit_9 s) bits_1 (0 : Int)) fun number_5 =>
  some number_5
def sp_number_of (K : PySem.W.Frag) : Sp := fun vs H Q _ => ∃ (bits_1 : List Int) (a_2 : Addr) (r : Int), vs = [.ref a_2] ∧ H a_2 = some (.lst (List.map V.int bits_1)) ∧ m_number_of bits_1 = some r ∧ RetV (.int r) H Q
abbrev N_number_of : List Str := ["bits", "number", "bit"]
theorem sc_number_of : FnScope N_number_of ["bits"] (defScope s_number_of) := ⟨rfl, rfl, rfl, by decide +kernel, rfl, by decide +kernel, by decide +kernel⟩
theorem ok_number_of {ad : Ad} (T : Txt K mg ad) : FnOk P w K mg base CX0 1 ad.f_number_of ad.fd_number_of ["bits"] (sp_number_of K) := by
  refine T.F_number_of.ok sc_number_of (fun vs H Q E h => ?_) (fun cdv A outer s H vs Q E hr h => ?_)
  · obtain ⟨_, _, _, rfl, _⟩ := h
    rfl
  · obtain ⟨g, j, r, rfl, b, hm, k⟩ := h;unfold m_number_of at hm;obtain ⟨H0, hH0⟩ : ∃ H0 : Hp, H0 = H := ⟨H, rfl⟩;have O : Own H0 H [] := by rw [hH0]; exact Own.start H
    rw [← hH0] at k b;clear hH0;refine ⟨_, (pss_cons (ps_set (i := 1) sc_number_of.nd rfl (Or.inl rfl) pe_int) (pss_cons (ps_for PassesOwn.never rfl (pi_list (pv 0)) (pg_name (i := 2) sc_number_of.nd rfl (Or.inl rfl)) (pss_one (ps_set (i := 1) sc_number_of.nd rfl (Or.inl rfl) (pe_op op_or (pe_op op_shlW (pv 1) pe_int) (pv 2))))) (pss_one (ps_ret (pv 1))))), ?_⟩;refine o_seq ?_;refine o_asg ?_;refine o_c ?_;refine o_seq ?_;refine o_for ?_;refine ⟨_, rfl, ?_⟩;obtain ⟨d, m, hm⟩ := bndE hm;refine ⟨_, rfl, ⟨_, (SqL.of (O.ex _ _ b))⟩, q_forL (f := V.int) (xs := g) (fun r σ H => ∃ (a : Int) (e : Option V), σ = [some (.ref j), some (.int a), e] ∧ Own H0 H [] ∧ loopM (fun c s => m_number_of_L0 c s) r a = some d) ⟨_, _, rfl, O, m⟩ (by rintro r σ H ⟨a, e, rfl, O, hL⟩; exact (SqL.of (O.ex _ _ b))) ?_ ?_⟩
    · rintro c r σ H ⟨a, e, rfl, O, hL⟩
      obtain ⟨s_, hm, n⟩ := loopM_cons hL;replace hm : m_number_of_L0 c a = some s_ := hm;unfold m_number_of_L0 at hm;refine o_asg ?_;obtain ⟨o, l, hm⟩ := bndE hm;refine ⟨_, rfl, ?_⟩;refine o_c ?_;refine k_shl l ?_;refine ⟨_, rfl, _, _, rfl, rfl, ?_⟩;have Oz := O
      obtain rfl := sji hm;exact ⟨_, _, rfl, Oz, n⟩
    rintro σ H ⟨a, e, rfl, O, hL⟩
    cases loopM_nil hL
    refine o_ret ?_;refine ⟨_, rfl, ?_⟩;obtain rfl := sji hm;exact RetV.go k O
def m_rest_of (bits_1 : List Int) : Option (Int) :=
  bnd (m_number_of bits_1) fun number_3 =>
  bndO (m_divided number_3 (64647 : Int)) fun divide_5 =>
  some divide_5.2
def sp_rest_of (K : PySem.W.Frag) : Sp := fun vs H Q _ => ∃ (bits_1 : List Int) (a_2 : Addr) (r : Int), vs = [.ref a_2] ∧ H a_2 = some (.lst (List.map V.int bits_1)) ∧ m_rest_of bits_1 = some r ∧ RetV (.int r) H Q
abbrev N_rest_of : List Str := ["bits"]
theorem sc_rest_of : FnScope N_rest_of ["bits"] (defScope s_rest_of) := ⟨rfl, rfl, rfl, by decide +kernel, rfl, by decide +kernel, by decide +kernel⟩
theorem ok_rest_of {ad : Ad} (T : Txt K mg ad) : FnOk P w K mg base CX0 2 ad.f_rest_of ad.fd_rest_of ["bits"] (sp_rest_of K) := by
  have G_divided := ok_divided (P := P) (w := w) (base := base) T
  have G_number_of := ok_number_of (P := P) (w := w) (base := base) T
  refine T.F_rest_of.ok sc_rest_of (fun vs H Q E h => ?_) (fun cdv A outer s H vs Q E hr h => ?_)
  · obtain ⟨_, _, _, rfl, _⟩ := h
    rfl
  · obtain ⟨d, g, r, rfl, a, hm, k⟩ := h;unfold m_rest_of at hm;obtain ⟨H0, hH0⟩ : ∃ H0 : Hp, H0 = H := ⟨H, rfl⟩;have O : Own H0 H [] := by rw [hH0]; exact Own.start H
    rw [← hH0] at k a;clear hH0;refine ⟨_, (pss_one (ps_ret (pe_ix (r := rIxT K) ix_tup (pe_call G_divided (hr.mono (by decide)) (by rfl) T.g_divided T.F_divided.kp T.b_divided .nil passN (pa_cons (pe_call G_number_of (hr.mono (by decide)) (by rfl) T.g_number_of T.F_number_of.kp T.b_number_of .nil pass0 (pa_cons (pv 0) pa_nil)) (pa_cons (pe_gv rfl T.g_KEY) pa_nil))) pe_int (fun _ _ => rfl)))), ?_⟩;refine o_ret ?_;obtain ⟨b, e, hm⟩ := bndE hm;refine ⟨_, rfl, ?_⟩;refine x_nil ?_;refine ⟨_, _, b, rfl, (O.ex _ _ a), e, ?_⟩;refine O.retV fun H O => ?_;obtain ⟨c, f, hm⟩ := bndOE hm;refine o_cons ?_;refine o_c ?_;refine x_nil ?_;refine ⟨_, _, .ok c, rfl, f, ?_⟩;refine RetR.ok ?_;refine O.retT fun i H O => ?_;refine o_c ?_;refine k_ixT (SqT.of (O.mem (hd_))) rfl ?_;obtain rfl := sji hm;exact RetV.go k O
def m_check_of (bits_1 : List Int) : Option (List Int) :=
  bnd (repG ([(0 : Int)]) (15 : Int)) fun t_5 =>
  bnd (catG bits_1 t_5) fun t_8 =>
  bnd (m_rest_of t_8) fun rest_o_11 =>
  bndO (m_bits_of rest_o_11 (15 : Int)) fun bits_o_13 =>
  some bits_o_13
def sp_check_of (K : PySem.W.Frag) : Sp := fun vs H Q _ => ∃ (bits_1 : List Int) (a_2 : Addr) (r : List Int), vs = [.ref a_2] ∧ H a_2 = some (.lst (List.map V.int bits_1)) ∧ m_check_of bits_1 = some r ∧ RetL (List.map V.int r) H Q
abbrev N_check_of : List Str := ["bits"]
theorem sc_check_of : FnScope N_check_of ["bits"] (defScope s_check_of) := ⟨rfl, rfl, rfl, by decide +kernel, rfl, by decide +kernel, by decide +kernel⟩
theorem ok_check_of {ad : Ad} (T : Txt K mg ad) : FnOk P w K mg base CX0 3 ad.f_check_of ad.fd_check_of ["bits"] (sp_check_of K) := by
  have G_bits_of := ok_bits_of (P := P) (w := w) (base := base) T
  have G_rest_of := ok_rest_of (P := P) (w := w) (base := base) T
  refine T.F_check_of.ok sc_check_of (fun vs H Q E h => ?_) (fun cdv A outer s H vs Q E hr h => ?_)
  · obtain ⟨_, _, _, rfl, _⟩ := h
    rfl
  · obtain ⟨d, n, r, rfl, a, hm, k⟩ := h;unfold m_check_of at hm;obtain ⟨H0, hH0⟩ : ∃ H0 : Hp, H0 = H := ⟨H, rfl⟩;have O : Own H0 H [] := by rw [hH0]; exact Own.start H
    rw [← hH0] at k a;clear hH0;refine ⟨_, (pss_one (ps_ret (pe_call G_bits_of (hr.mono (by decide)) (by rfl) T.g_bits_of T.F_bits_of.kp T.b_bits_of .nil passN (pa_cons (pe_call G_rest_of (hr.mono (by decide)) (by rfl) T.g_rest_of T.F_rest_of.kp T.b_rest_of .nil pass0 (pa_cons (pe_op op_cat (pe_callTy (r := rListQ K) call_listQ (by rfl) T.z_list (by decide +kernel) (pa_cons (pv 0) pa_nil)) (pe_op op_rep (pe_lstQ (pe_lst (pa_cons pe_int pa_nil))) (pe_gv rfl T.g_WIDE))) pa_nil)) (pa_cons (pe_gv rfl T.g_WIDE) pa_nil))))), ?_⟩;refine o_ret ?_;refine ⟨_, rfl, ?_⟩;refine x_nil ?_;refine n_list O (SqL.of (O.ex _ _ a)) fun o H O => ?_;refine o_op ?_;refine o_cons ?_;refine o_c ?_;refine x_nil ?_;refine n_lst (f := V.int) (xs := [(0 : Int)]) O rfl (by show 1 ≤ sizeLine; decide) fun p H O => ?_;obtain ⟨q, i, hm⟩ := bndE hm;refine o_c ?_;refine k_rep (f := V.int) O (O.mem (hd_)) i fun t H O => ?_;obtain ⟨u, j, hm⟩ := bndE hm;refine k_cat (f := V.int) O (O.mem (tl_ (tl_ (hd_)))) (O.mem (hd_)) j fun l H O => ?_;obtain ⟨b, e, hm⟩ := bndE hm;refine x_nil ?_;refine ⟨_, _, b, rfl, (O.mem (hd_)), e, ?_⟩;refine O.retV fun H O => ?_;obtain ⟨c, g, hm⟩ := bndOE hm;refine o_cons ?_;refine o_c ?_;refine x_nil ?_;refine ⟨_, _, .ok c, rfl, g, ?_⟩;refine RetR.ok ?_;refine O.retL fun m H O => ?_;obtain rfl := sji hm;exact RetL.go k O (hd_)
def m_is_name (number_1 : Int) : Option (Bool) :=
  some (decide ((0 : Int) ≤ number_1) && decide (number_1 ≤ (255 : Int)))
def sp_is_name (K : PySem.W.Frag) : Sp := fun vs H Q _ => ∃ (number_1 : Int) (r : Bool), vs = [.int number_1] ∧ m_is_name number_1 = some r ∧ RetV (.bl r) H Q
abbrev N_is_name : List Str := ["number"]
theorem sc_is_name : FnScope N_is_name ["number"] (defScope s_is_name) := ⟨rfl, rfl, rfl, by decide +kernel, rfl, by decide +kernel, by decide +kernel⟩
theorem ok_is_name {ad : Ad} (T : Txt K mg ad) : FnOk P w K mg base CX0 1 ad.f_is_name ad.fd_is_name ["number"] (sp_is_name K) := by
  refine T.F_is_name.ok sc_is_name (fun vs H Q E h => ?_) (fun cdv A outer s H vs Q E hr h => ?_)
  · obtain ⟨_, _, rfl, _⟩ := h
    rfl
  · obtain ⟨a, r, rfl, hm, k⟩ := h;unfold m_is_name at hm;obtain ⟨H0, hH0⟩ : ∃ H0 : Hp, H0 = H := ⟨H, rfl⟩;have O : Own H0 H [] := by rw [hH0]; exact Own.start H
    rw [← hH0] at k;clear hH0;refine ⟨_, (pss_one (ps_ret (pe_chain op_le op_le pe_int (pv 0) pe_int))), ?_⟩;refine o_ret ?_;refine x_chain (x := .int (0 : Int)) (y := .int a) (z := .int (255 : Int)) (c := decide ((0 : Int) ≤ a)) (e := decide (a ≤ (255 : Int))) (d := (decide ((0 : Int) ≤ a) && decide (a ≤ (255 : Int)))) O (fun Q1 k1 => ?_) (fun H O Q1 k1 => ?_) (fun _ _ k1 => ⟨_, _, rfl, rfl, k1⟩) (fun b => ⟨by rw [b]; rfl, fun H O Q1 k1 => ?_⟩) (fun _ _ k1 => ⟨_, _, rfl, rfl, k1⟩) (fun b => by rw [b]; rfl) (fun H O => ?_)
    · refine o_c ?_;exact k1 _ O
    · refine ⟨_, rfl, ?_⟩;exact k1 _ O
    · refine o_c ?_;exact k1 _ O
    obtain rfl := sji hm;exact RetV.go k O
def m_frame_bits_L0  (byte_33 : Int) (bits_26 : List Int) : Option (Fl ((List Int)) (Rs (List Int))) :=
  ifB (decide (byte_33 < (0 : Int)) || decide ((255 : Int) < byte_33)) (
    some (.rt (.er .NoFrame))) (
    bndRF (m_bits_of byte_33 (8 : Int)) fun bits_o_39 =>
    bnd (catG bits_26 bits_o_39) fun t_44 =>
    some (.nx t_44))
def m_frame_bits (name_1 : Int) (data_2 : List Int) : Option (Rs (List Int)) :=
  bnd (m_is_name name_1) fun is_nam_5 =>
  ifB ((!is_nam_5) || decide ((7 : Int) < (List.length data_2 : Int))) (
    some (.er .NoFrame)) (
    bndR (m_bits_of name_1 (8 : Int)) fun bits_o_9 =>
    bnd (catG ([(0 : Int)]) bits_o_9) fun t_14 =>
    bndR (m_bits_of (List.length data_2 : Int) (3 : Int)) fun bits_o_17 =>
    bnd (catG t_14 bits_o_17) fun t_22 =>
    fin (loopF (fun byte_33 s => m_frame_bits_L0 byte_33 s) data_2 t_22) fun bits_26 =>
    bnd (m_check_of bits_26) fun check_47 =>
    bnd (catG bits_26 check_47) fun t_50 =>
    some (.ok t_50))
def sp_frame_bits (K : PySem.W.Frag) (d : Eds) : Sp := fun vs H Q E => ∃ (name_1 : Int) (data_2 : List Int) (a_3 : Addr) (r : Rs (List Int)), vs = [.int name_1, .ref a_3] ∧ H a_3 = some (.lst (List.map V.int data_2)) ∧ m_frame_bits name_1 data_2 = some r ∧ RetR (fun r => RetL (List.map V.int r) H Q) d r H E
abbrev N_frame_bits : List Str := ["name", "data", "bits", "byte"]
theorem sc_frame_bits : FnScope N_frame_bits ["name", "data"] (defScope s_frame_bits) := ⟨rfl, rfl, rfl, by decide +kernel, rfl, by decide +kernel, by decide +kernel⟩
theorem ok_frame_bits {ad : Ad} (T : Txt K mg ad) : FnOk P w K mg base (L2N.CX P w) 4 ad.f_frame_bits ad.fd_frame_bits ["name", "data"] (sp_frame_bits K ad.es) := by
  have G_bits_of := ok_bits_of (P := P) (w := w) (base := base) T
  have G_check_of := ok_check_of (P := P) (w := w) (base := base) T
  have G_is_name := ok_is_name (P := P) (w := w) (base := base) T
  refine okN T.F_frame_bits sc_frame_bits (fun vs H Q E h => ?_) (fun cdv A outer s H vs Q E hr h => ?_)
  · obtain ⟨_, _, _, _, rfl, _⟩ := h
    rfl
  · obtain ⟨X, l, Y, r, rfl, j, hm, k⟩ := h;unfold m_frame_bits at hm;obtain ⟨H0, hH0⟩ : ∃ H0 : Hp, H0 = H := ⟨H, rfl⟩;have O : Own H0 H [] := by rw [hH0]; exact Own.start H
    rw [← hH0] at k j;clear hH0;refine ⟨_, (pss_cons (ps_if (PW.pt (pw_or (pt_not (pt_val (pe_call G_is_name (hr.mono (by decide)) (by rfl) T.g_is_name T.F_is_name.kp T.b_is_name .nil pass0 (pa_cons (pv 0) pa_nil)))) (pw_or1 (pt_cmpR op_gt (pe_callB (r := rLenQ K) call_lenQ (by rfl) T.z_len PySem.boot_len (pa_cons (pv 1) pa_nil)) pe_int (nomark _))))) (pss_one (ps_errN T.e_NoFrame (L2N.takes_of rfl rfl rfl rfl) rfl rfl)) pss_nil) (pss_cons (ps_set (i := 2) sc_frame_bits.nd rfl (Or.inl rfl) (pe_op op_cat (pe_op op_cat (pe_lstQ (pe_lst (pa_cons pe_int pa_nil))) (pe_call G_bits_of (hr.mono (by decide)) (by rfl) T.g_bits_of T.F_bits_of.kp T.b_bits_of .nil (E := E) (L2N.passes_call (L2N.takes_of rfl rfl rfl rfl) fun _ _ _ _ h => h) (pa_cons (pv 0) (pa_cons pe_int pa_nil)))) (pe_call G_bits_of (hr.mono (by decide)) (by rfl) T.g_bits_of T.F_bits_of.kp T.b_bits_of .nil (E := E) (L2N.passes_call (L2N.takes_of rfl rfl rfl rfl) fun _ _ _ _ h => h) (pa_cons (pe_callB (r := rLenQ K) call_lenQ (by rfl) T.z_len PySem.boot_len (pa_cons (pv 1) pa_nil)) (pa_cons pe_int pa_nil))))) (pss_cons (ps_for (passes_of rfl) rfl (pi_list (pv 1)) (pg_name (i := 3) sc_frame_bits.nd rfl (Or.inl rfl)) (pss_cons (ps_if (PW.pt (pw_or (pt_cmpR op_lt (pv 3) pe_int (nomark _)) (pw_or1 (pt_cmpR op_gt (pv 3) pe_int (nomark _))))) (pss_one (ps_errN T.e_NoFrame (L2N.takes_of rfl rfl rfl rfl) rfl rfl)) pss_nil) (pss_one (ps_set (i := 2) sc_frame_bits.nd rfl (Or.inl rfl) (pe_op op_cat (pv 2) (pe_call G_bits_of (hr.mono (by decide)) (by rfl) T.g_bits_of T.F_bits_of.kp T.b_bits_of .nil (E := E) (L2N.passes_call (L2N.takes_of rfl rfl rfl rfl) fun _ _ _ _ h => h) (pa_cons (pv 3) (pa_cons pe_int pa_nil)))))))) (pss_one (ps_ret (pe_op op_cat (pv 2) (pe_call G_check_of (hr.mono (by decide)) (by rfl) T.g_check_of T.F_check_of.kp T.b_check_of .nil pass0 (pa_cons (pv 2) pa_nil)))))))), ?_⟩;refine o_seq ?_;refine o_ifs ?_;obtain ⟨g, h6, hm⟩ := bndE hm;refine x_or (c := (!g)) (e := decide ((7 : Int) < (List.length l : Int))) (d := ((!g) || decide ((7 : Int) < (List.length l : Int)))) O (fun Q1 k1 => ?_) (fun I => ⟨by rw [I]; rfl, fun H O Q2 k2 => ?_⟩) (fun I => by rw [I]; rfl) (fun H O => ?_)
    · refine ⟨_, rfl, ?_⟩;refine x_nil ?_;refine ⟨_, g, rfl, h6, ?_⟩;refine O.retV fun H O => ?_;refine ⟨_, rfl, ?_⟩;exact k1 _ O
    · refine ⟨_, rfl, ?_⟩;refine x_nil ?_;refine n_len (SqL.of (O.ex _ _ j)) ?_;refine ⟨_, _, rfl, rfl, _, rfl, ?_⟩;exact k2 _ O
    refine iteS (c := ((!g) || decide ((7 : Int) < (List.length l : Int)))) (fun J => ?_) (fun J => ?_)
    · replace hm := ifT hm J;obtain rfl := sji hm;exact k _ O.ex
    · replace hm := ifF hm J;refine o_next ?_;refine o_seq ?_;refine o_asg ?_;refine o_op ?_;refine o_op ?_;refine o_cons ?_;refine o_c ?_;refine x_nil ?_;refine n_lst (f := V.int) (xs := [(0 : Int)]) O rfl (by show 1 ≤ sizeLine; decide) fun au H O => ?_;obtain ⟨L, Z, hm⟩ := bndRE hm;refine ⟨_, rfl, ?_⟩;refine o_cons ?_;refine o_c ?_;refine x_nil ?_;refine ⟨_, _, L, rfl, Z, ?_⟩;refine RetR.split (fun e_ q => ?_) (fun M q => ?_)
      · subst q;obtain rfl := erR hm;exact RetE.go k O
      subst q;replace hm := okR hm;refine O.retL fun ak H O => ?_;obtain ⟨al, aa, hm⟩ := bndE hm;refine k_cat (f := V.int) O (O.mem (tl_ (hd_))) (O.mem (hd_)) aa fun am H O => ?_;refine ⟨_, rfl, ?_⟩;refine x_nil ?_;refine n_len (SqL.of (O.ex _ _ j)) ?_;obtain ⟨N, ab, hm⟩ := bndRE hm;refine o_cons ?_;refine o_c ?_;refine x_nil ?_;refine ⟨_, _, N, rfl, ab, ?_⟩;refine RetR.split (fun e_ t => ?_) (fun F t => ?_)
      · subst t;obtain rfl := erR hm;exact RetE.go k O
      subst t;replace hm := okR hm;refine O.retL fun an H O => ?_;obtain ⟨S, ac, hm⟩ := bndE hm;refine k_cat (f := V.int) O (O.mem (tl_ (hd_))) (O.mem (hd_)) ac fun u H O => ?_;refine o_seq ?_;refine o_for ?_;refine ⟨_, rfl, ?_⟩;obtain ⟨v, ae, x⟩ := bndE hm;refine ⟨_, rfl, ⟨_, (SqL.of (O.ex _ _ j))⟩, q_forL (f := V.int) (xs := l) (fun r σ H => ∃ (m : Addr) (b : List Int) (n : Option V) (o : Option V), σ = [n, some (.ref Y), some (.ref m), o] ∧ Own H0 H [(m, .lst (List.map V.int b))] ∧ loopF (fun a s => m_frame_bits_L0 a s) r b = some v) ⟨u, _, _, _, rfl, (Own.pk (L' := [(u, .lst (List.map V.int S))]) O [0] (by decide) rfl), ae⟩ (by rintro r σ H ⟨m, b, n, o, rfl, O, hL⟩; exact (SqL.of (O.ex _ _ j))) ?_ ?_⟩
      · rintro a r σ H ⟨m, b, n, o, rfl, O, hL⟩
        obtain ⟨s_, hm, y⟩ := loopF_cons hL;replace hm : m_frame_bits_L0 a b = some s_ := hm;unfold m_frame_bits_L0 at hm;refine o_seq ?_;refine o_ifs ?_;refine x_or (c := decide (a < (0 : Int))) (e := decide ((255 : Int) < a)) (d := (decide (a < (0 : Int)) || decide ((255 : Int) < a))) O (fun Q1 k1 => ?_) (fun z => ⟨by rw [z]; rfl, fun H O Q2 k2 => ?_⟩) (fun z => by rw [z]; rfl) (fun H O => ?_)
        · refine ⟨_, rfl, _, _, rfl, rfl, _, rfl, ?_⟩;exact k1 _ O
        · refine ⟨_, rfl, _, _, rfl, rfl, _, rfl, ?_⟩;exact k2 _ O
        refine iteS (c := (decide (a < (0 : Int)) || decide ((255 : Int) < a))) (fun B => ?_) (fun B => ?_)
        · replace hm := ifT hm B;obtain rfl := sji hm;obtain rfl := contRt y;obtain rfl := finRt x;exact k _ O.ex
        · replace hm := ifF hm B;refine o_next ?_;refine o_asg ?_;obtain ⟨U, af, hm⟩ := bndRFE hm;refine ⟨_, rfl, _, rfl, ?_⟩;refine o_cons ?_;refine o_c ?_;refine x_nil ?_;refine ⟨_, _, U, rfl, af, ?_⟩;refine RetR.split (fun e_ C => ?_) (fun G C => ?_)
          · subst C;obtain rfl := erRF hm;obtain rfl := contRt y;obtain rfl := finRt x;exact RetE.go k O
          subst C;replace hm := okRF hm;refine O.retL fun ao H O => ?_;obtain ⟨W, ag, hm⟩ := bndE hm;refine k_cat (f := V.int) O (O.mem (tl_ (hd_))) (O.mem (hd_)) ag fun D H O => ?_;have Oz := O
          obtain rfl := sji hm;exact ⟨D, _, _, _, rfl, (Own.pk (L' := [(D, .lst (List.map V.int W))]) Oz [0] (by decide) rfl), y⟩
      rintro σ H ⟨m, b, n, o, rfl, O, hL⟩
      obtain rfl := loopF_nil hL;replace hm := finNx x;refine o_ret ?_;obtain ⟨p, ah, hm⟩ := bndE hm;refine ⟨_, rfl, _, rfl, ?_⟩;refine x_nil ?_;refine ⟨_, _, p, rfl, (O.mem (hd_)), ah, ?_⟩;refine O.retL fun ap H O => ?_;obtain ⟨aq, ai, hm⟩ := bndE hm;refine k_cat (f := V.int) O (O.mem (tl_ (hd_))) (O.mem (hd_)) ai fun ar H O => ?_;obtain rfl := sji hm;exact RetL.go k O (hd_)
def m__law_field (ex : Er) : Option (Int) :=
  ifB (decide (ex.k = .NoWire)) (
    bnd (atE .NoWire ex) fun n_2 =>
    some n_2) (
    ifB (decide (ex.k = .NoRow)) (
      bnd (atE .NoRow ex) fun n_5 =>
      some n_5) (
      some (-(1 : Int))))
abbrev N__law_field : List Str := ["e"]
theorem sc__law_field : FnScope N__law_field ["e"] (defScope s__law_field) := ⟨rfl, rfl, rfl, by decide +kernel, rfl, by decide +kernel, by decide +kernel⟩
def sp__law_field (ex : Er) : List V → Hp → VK → Prop := fun us H Q => ∃ (r : Int), us = [] ∧ m__law_field ex = some r ∧ RetV (.int r) H Q
theorem ok__law_field {ad : Ad} (T : Txt K mg ad) (ex : Er) (hk : ex.k ∈ ks) : FnG P w K mg base 1 ad.f__law_field ad.fd__law_field ["e"] (ad.es.at ex.k) ex (sp__law_field ex) := by
  refine fnG_of T.F__law_field sc__law_field (fun us H Q h => ?_) fun cdv A outer s H p us Q hr hot hz hd hf h => ?_
  · obtain ⟨_, rfl, _⟩ := h
    rfl
  obtain ⟨r, rfl, hm, hq⟩ := h;unfold m__law_field at hm;refine ⟨_, (pss_cons (ps_if (pt_val (pe_callB (r := rIsX K (ad.es.at ex.k) p.1 ex p.2.dict) (call_isP (p := p) (hd_) (T.EC.ec _ hk) hz rfl hf) (by rfl) T.z_isinstance (by decide +kernel) (pa_cons (pv 0) (pa_cons (pe_gr rfl T.n_NoWire) pa_nil)))) (pss_one (ps_ret (pe_xfP (C := ad.es.NoWire) (n := "at") (p := p) T.X_NoWire T.Y_NoWire (hd_) hz rfl hf (pv 0)))) pss_nil) (pss_cons (ps_if (pt_val (pe_callB (r := rIsX K (ad.es.at ex.k) p.1 ex p.2.dict) (call_isP (p := p) (hd_) (T.EC.ec _ hk) hz rfl hf) (by rfl) T.z_isinstance (by decide +kernel) (pa_cons (pv 0) (pa_cons (pe_gr rfl T.n_NoRow) pa_nil)))) (pss_one (ps_ret (pe_xfP (C := ad.es.NoRow) (n := "word") (p := p) T.X_NoRow T.Y_NoRow (hd_) hz rfl hf (pv 0)))) pss_nil) (pss_one (ps_ret (pe_un un_neg pe_int))))), ?_⟩;obtain ⟨Hb, hHb⟩ : ∃ Hb : Hp, Hb = H := ⟨H, rfl⟩;obtain ⟨H0, hH0⟩ : ∃ H0 : Hp, H0 = Hb := ⟨Hb, rfl⟩;have O : Own H0 H [] := by rw [hH0, hHb]; exact Own.start H
  rw [← hHb] at hq;rw [← hHb, ← hH0] at hd;have eB : Ex Hb H0 := by rw [hH0]; exact Ex.refl _
  clear hH0 hHb;refine o_seq ?_;refine o_ifs ?_;refine ⟨_, rfl, ?_⟩;refine o_cons ?_;refine o_c ?_;refine x_nil ?_;refine ⟨_, _, _, rfl, .own _, (hd.ext O.ex), T.EC.kt _ hk .NoWire (by decide), ?_⟩;refine ⟨_, rfl, ?_⟩;refine iteS (c := (decide (ex.k = .NoWire))) (fun a => ?_) (fun a => ?_)
  · replace hm := ifT hm a;refine o_ret ?_;refine ⟨_, rfl, ?_⟩;obtain ⟨f, d, hm⟩ := bndE hm;refine k_xfNoWire (es := ad.es) d (hd.ext O.ex) rfl ?_;obtain rfl := sji hm;exact RetV.goR hq O eB
  · replace hm := ifF hm a;refine o_next ?_;refine o_seq ?_;refine o_ifs ?_;refine ⟨_, rfl, ?_⟩;refine o_cons ?_;refine o_c ?_;try refine x_nil ?_
    refine ⟨_, _, _, rfl, .own _, (hd.ext O.ex), T.EC.kt _ hk .NoRow (by decide), ?_⟩;refine ⟨_, rfl, ?_⟩;refine iteS (c := (decide (ex.k = .NoRow))) (fun b => ?_) (fun b => ?_)
    · replace hm := ifT hm b;refine o_ret ?_;refine ⟨_, rfl, ?_⟩;obtain ⟨g, e, hm⟩ := bndE hm;refine k_xfNoRow (es := ad.es) e (hd.ext O.ex) rfl ?_;obtain rfl := sji hm;exact RetV.goR hq O eB
    · replace hm := ifF hm b;refine o_next ?_;refine o_ret ?_;refine ⟨_, rfl, ?_⟩;obtain rfl := sji hm;exact RetV.goR hq O eB
def m__law_kinds (ex : Er) : Option (List Bool) :=
  bnd (catG ([(decide (ex.k = .NoBits)), (decide (ex.k = .NoName)), (decide (ex.k = .NoKey)), (decide (ex.k = .NoFrame))]) ([(decide (ex.k = .NoPost)), (decide (ex.k = .NoThing)), (decide (ex.k = .NoStrip)), (decide (ex.k = .NoRail))])) fun t_3 =>
  bnd (catG t_3 ([(decide (ex.k = .NoWire)), (decide (ex.k = .NoRow))])) fun t_7 =>
  some t_7
abbrev N__law_kinds : List Str := ["e", "first", "second"]
theorem sc__law_kinds : FnScope N__law_kinds ["e"] (defScope s__law_kinds) := ⟨rfl, rfl, rfl, by decide +kernel, rfl, by decide +kernel, by decide +kernel⟩
def sp__law_kinds (ex : Er) : List V → Hp → VK → Prop := fun us H Q => ∃ (r : List Bool), us = [] ∧ m__law_kinds ex = some r ∧ RetL (List.map V.bl r) H Q
theorem ok__law_kinds {ad : Ad} (T : Txt K mg ad) (ex : Er) (hk : ex.k ∈ ks) : FnG P w K mg base 1 ad.f__law_kinds ad.fd__law_kinds ["e"] (ad.es.at ex.k) ex (sp__law_kinds ex) := by
  refine fnG_of T.F__law_kinds sc__law_kinds (fun us H Q h => ?_) fun cdv A outer s H p us Q hr hot hz hd hf h => ?_
  · obtain ⟨_, rfl, _⟩ := h
    rfl
  obtain ⟨r, rfl, hm, hq⟩ := h;unfold m__law_kinds at hm;refine ⟨_, (pss_cons (ps_set (i := 1) sc__law_kinds.nd rfl (Or.inl rfl) (pe_lstQ (pe_lst (pa_cons (pe_callB (r := rIsX K (ad.es.at ex.k) p.1 ex p.2.dict) (call_isP (p := p) (hd_) (T.EC.ec _ hk) hz rfl hf) (by rfl) T.z_isinstance (by decide +kernel) (pa_cons (pv 0) (pa_cons (pe_gr rfl T.n_NoBits) pa_nil))) (pa_cons (pe_callB (r := rIsX K (ad.es.at ex.k) p.1 ex p.2.dict) (call_isP (p := p) (hd_) (T.EC.ec _ hk) hz rfl hf) (by rfl) T.z_isinstance (by decide +kernel) (pa_cons (pv 0) (pa_cons (pe_gr rfl T.n_NoName) pa_nil))) (pa_cons (pe_callB (r := rIsX K (ad.es.at ex.k) p.1 ex p.2.dict) (call_isP (p := p) (hd_) (T.EC.ec _ hk) hz rfl hf) (by rfl) T.z_isinstance (by decide +kernel) (pa_cons (pv 0) (pa_cons (pe_gr rfl T.n_NoKey) pa_nil))) (pa_cons (pe_callB (r := rIsX K (ad.es.at ex.k) p.1 ex p.2.dict) (call_isP (p := p) (hd_) (T.EC.ec _ hk) hz rfl hf) (by rfl) T.z_isinstance (by decide +kernel) (pa_cons (pv 0) (pa_cons (pe_gr rfl T.n_NoFrame) pa_nil))) pa_nil))))))) (pss_cons (ps_set (i := 2) sc__law_kinds.nd rfl (Or.inl rfl) (pe_lstQ (pe_lst (pa_cons (pe_callB (r := rIsX K (ad.es.at ex.k) p.1 ex p.2.dict) (call_isP (p := p) (hd_) (T.EC.ec _ hk) hz rfl hf) (by rfl) T.z_isinstance (by decide +kernel) (pa_cons (pv 0) (pa_cons (pe_gr rfl T.n_NoPost) pa_nil))) (pa_cons (pe_callB (r := rIsX K (ad.es.at ex.k) p.1 ex p.2.dict) (call_isP (p := p) (hd_) (T.EC.ec _ hk) hz rfl hf) (by rfl) T.z_isinstance (by decide +kernel) (pa_cons (pv 0) (pa_cons (pe_gr rfl T.n_NoThing) pa_nil))) (pa_cons (pe_callB (r := rIsX K (ad.es.at ex.k) p.1 ex p.2.dict) (call_isP (p := p) (hd_) (T.EC.ec _ hk) hz rfl hf) (by rfl) T.z_isinstance (by decide +kernel) (pa_cons (pv 0) (pa_cons (pe_gr rfl T.n_NoStrip) pa_nil))) (pa_cons (pe_callB (r := rIsX K (ad.es.at ex.k) p.1 ex p.2.dict) (call_isP (p := p) (hd_) (T.EC.ec _ hk) hz rfl hf) (by rfl) T.z_isinstance (by decide +kernel) (pa_cons (pv 0) (pa_cons (pe_gr rfl T.n_NoRail) pa_nil))) pa_nil))))))) (pss_one (ps_ret (pe_op op_cat (pe_op op_cat (pv 1) (pv 2)) (pe_lstQ (pe_lst (pa_cons (pe_callB (r := rIsX K (ad.es.at ex.k) p.1 ex p.2.dict) (call_isP (p := p) (hd_) (T.EC.ec _ hk) hz rfl hf) (by rfl) T.z_isinstance (by decide +kernel) (pa_cons (pv 0) (pa_cons (pe_gr rfl T.n_NoWire) pa_nil))) (pa_cons (pe_callB (r := rIsX K (ad.es.at ex.k) p.1 ex p.2.dict) (call_isP (p := p) (hd_) (T.EC.ec _ hk) hz rfl hf) (by rfl) T.z_isinstance (by decide +kernel) (pa_cons (pv 0) (pa_cons (pe_gr rfl T.n_NoRow) pa_nil))) pa_nil))))))))), ?_⟩;obtain ⟨Hb, hHb⟩ : ∃ Hb : Hp, Hb = H := ⟨H, rfl⟩;obtain ⟨H0, hH0⟩ : ∃ H0 : Hp, H0 = Hb := ⟨Hb, rfl⟩;have O : Own H0 H [] := by rw [hH0, hHb]; exact Own.start H
  rw [← hHb] at hq;rw [← hHb, ← hH0] at hd;have eB : Ex Hb H0 := by rw [hH0]; exact Ex.refl _
  clear hH0 hHb;refine o_seq ?_;refine o_asg ?_;refine ⟨_, rfl, ?_⟩;refine o_cons ?_;refine o_c ?_;refine x_nil ?_;refine ⟨_, _, _, rfl, .own _, (hd.ext O.ex), T.EC.kt _ hk .NoBits (by decide), ?_⟩;refine ⟨_, rfl, ?_⟩;refine o_cons ?_;refine o_c ?_;refine x_nil ?_;refine ⟨_, _, _, rfl, .own _, (hd.ext O.ex), T.EC.kt _ hk .NoName (by decide), ?_⟩;refine ⟨_, rfl, ?_⟩;refine o_cons ?_;refine o_c ?_;refine x_nil ?_;refine ⟨_, _, _, rfl, .own _, (hd.ext O.ex), T.EC.kt _ hk .NoKey (by decide), ?_⟩;refine ⟨_, rfl, ?_⟩;refine o_cons ?_;refine o_c ?_;refine x_nil ?_;refine ⟨_, _, _, rfl, .own _, (hd.ext O.ex), T.EC.kt _ hk .NoFrame (by decide), ?_⟩;refine x_nil ?_;refine n_lst (f := V.bl) (xs := [(decide (ex.k = .NoBits)), (decide (ex.k = .NoName)), (decide (ex.k = .NoKey)), (decide (ex.k = .NoFrame))]) O rfl (by show 4 ≤ sizeLine; decide) fun c H O => ?_;refine o_seq ?_;refine o_asg ?_;refine ⟨_, rfl, ?_⟩;refine o_cons ?_;refine o_c ?_;refine x_nil ?_;refine ⟨_, _, _, rfl, .own _, (hd.ext O.ex), T.EC.kt _ hk .NoPost (by decide), ?_⟩;refine ⟨_, rfl, ?_⟩;refine o_cons ?_;refine o_c ?_;refine x_nil ?_;refine ⟨_, _, _, rfl, .own _, (hd.ext O.ex), T.EC.kt _ hk .NoThing (by decide), ?_⟩;refine ⟨_, rfl, ?_⟩;refine o_cons ?_;refine o_c ?_;refine x_nil ?_;refine ⟨_, _, _, rfl, .own _, (hd.ext O.ex), T.EC.kt _ hk .NoStrip (by decide), ?_⟩;refine ⟨_, rfl, ?_⟩;refine o_cons ?_;refine o_c ?_;refine x_nil ?_;refine ⟨_, _, _, rfl, .own _, (hd.ext O.ex), T.EC.kt _ hk .NoRail (by decide), ?_⟩;refine x_nil ?_;refine n_lst (f := V.bl) (xs := [(decide (ex.k = .NoPost)), (decide (ex.k = .NoThing)), (decide (ex.k = .NoStrip)), (decide (ex.k = .NoRail))]) O rfl (by show 4 ≤ sizeLine; decide) fun d H O => ?_;refine o_ret ?_;obtain ⟨e, a, hm⟩ := bndE hm;refine ⟨_, rfl, _, rfl, ?_⟩;refine k_cat (f := V.bl) O (O.mem (tl_ (hd_))) (O.mem (hd_)) a fun g H O => ?_;refine ⟨_, rfl, ?_⟩;refine o_cons ?_;refine o_c ?_;refine x_nil ?_;refine ⟨_, _, _, rfl, .own _, (hd.ext O.ex), T.EC.kt _ hk .NoWire (by decide), ?_⟩;refine ⟨_, rfl, ?_⟩;refine o_cons ?_;refine o_c ?_;refine x_nil ?_;refine ⟨_, _, _, rfl, .own _, (hd.ext O.ex), T.EC.kt _ hk .NoRow (by decide), ?_⟩;refine x_nil ?_;refine n_lst (f := V.bl) (xs := [(decide (ex.k = .NoWire)), (decide (ex.k = .NoRow))]) O rfl (by show 2 ≤ sizeLine; decide) fun j H O => ?_;obtain ⟨l, b, hm⟩ := bndE hm;refine k_cat (f := V.bl) O (O.mem (tl_ (hd_))) (O.mem (hd_)) b fun m H O => ?_;obtain rfl := sji hm;exact RetL.goR hq O eB (hd_)
def m__law_known_C0 (k_1 : Int) (other_7 : Int) : Option Bool :=
  
  some (decide (other_7 = k_1))
def m__law_known (ex : Er) (k_1 : Int) (field_2 : Int) : Option (Bool) :=
  bnd (m__law_field ex) fun law_fi_3 =>
  bnd (rng1 (10 : Int)) fun rg_5 =>
  bnd (compM (m__law_known_C0 k_1) rg_5 []) fun l_9 =>
  bnd (m__law_kinds ex) fun law_ki_14 =>
  some ((decide ((law_ki_14 : List Bool) = l_9)) && (true && (true && (decide (law_fi_3 = field_2)))))
abbrev N__law_known : List Str := ["e", "k", "field", "told", "due", "other"]
theorem sc__law_known : FnScope N__law_known ["e", "k", "field"] (defScope s__law_known) := ⟨rfl, rfl, rfl, by decide +kernel, rfl, by decide +kernel, by decide +kernel⟩
def sp__law_known (ex : Er) : List V → Hp → VK → Prop := fun us H Q => ∃ (k_1 : Int) (field_2 : Int) (r : Bool), us = [.int k_1, .int field_2] ∧ m__law_known ex k_1 field_2 = some r ∧ RetV (.bl r) H Q
theorem ok__law_known {ad : Ad} (T : Txt K mg ad) (ex : Er) (hk : ex.k ∈ ks) : FnG P w K mg base 2 ad.f__law_known ad.fd__law_known ["e", "k", "field"] (ad.es.at ex.k) ex (sp__law_known ex) := by
  refine fnG_of T.F__law_known sc__law_known (fun us H Q h => ?_) fun cdv A outer s H p us Q hr hot hz hd hf h => ?_
  · obtain ⟨_, _, _, rfl, _⟩ := h
    rfl
  obtain ⟨C, l, r, rfl, hm, hq⟩ := h;unfold m__law_known at hm;refine ⟨_, (pss_cons (ps_set (i := 3) sc__law_known.nd rfl (Or.inl rfl) (pe_callG (p := p) (ok__law_field (P := P) (w := w) (base := base) T ex hk) (hd_) hot hz rfl (hr.mono (by decide)) (by rfl) T.g__law_field T.F__law_field.kp T.b__law_field (pa_cons (pv 0) pa_nil))) (pss_cons (ps_setLcH (i := 4) (own := [("other", 5)]) (g := gName 5) (tt := tYes) ⟨p, hot, hd_⟩ sc__law_known.nd rfl rfl (sw_true rfl rfl rfl (by decide +kernel)) (L2H.pi_range1H (by rfl) T.z_range (pa_cons pe_int pa_nil)) (blkOk_by (own := [("other", 5)]) (N := N__law_known) (sc := defScope s__law_known) (by decide +kernel)) (fun _ _ _ _ _ => pg_name (i := 5) sc__law_known.nd rfl (Or.inl rfl)) (fun _ _ _ _ _ => pts_nil) (fun _ _ _ _ _ => (pe_cmpR op_eq (pv 5) (pv 1) (nomark _)))) (pss_one (ps_ret (pe_and (pe_cmpR (r := rEqD K) (op_eqD (roomUH hr)) (pe_callG (p := p) (ok__law_kinds (P := P) (w := w) (base := base) T ex hk) (hd_) hot hz rfl (hr.mono (by decide)) (by rfl) T.g__law_kinds T.F__law_kinds.kp T.b__law_kinds (pa_cons (pv 0) pa_nil)) (pv 4) (nomark _)) (pe_and (pe_callB (r := rIsX K (ad.es.at ex.k) p.1 ex p.2.dict) (call_isP (p := p) (hd_) (T.EC.ec _ hk) hz rfl hf) (by rfl) T.z_isinstance (by decide +kernel) (pa_cons (pv 0) (pa_cons (pe_bltn (v := V.ty "ValueError") (u := .type "ValueError") (by rfl) T.z_ValueError (by decide +kernel) rfl) pa_nil))) (pe_and (pe_callB (r := rIsi K) call_isi (by rfl) T.z_isinstance (by decide +kernel) (pa_cons (pv 3) (pa_cons (pe_bltn (v := V.ty "int") (u := .type "int") (by rfl) T.z_int (by decide +kernel) rfl) pa_nil))) (pe_one (pe_cmpR op_eq (pv 3) (pv 2) (nomark _)))))))))), ?_⟩;obtain ⟨Hb, hHb⟩ : ∃ Hb : Hp, Hb = H := ⟨H, rfl⟩;obtain ⟨H0, hH0⟩ : ∃ H0 : Hp, H0 = Hb := ⟨Hb, rfl⟩;have O : Own H0 H [] := by rw [hH0, hHb]; exact Own.start H
  rw [← hHb] at hq;rw [← hHb, ← hH0] at hd;have eB : Ex Hb H0 := by rw [hH0]; exact Ex.refl _
  clear hH0 hHb;refine o_seq ?_;refine o_asg ?_;obtain ⟨f, G, hm⟩ := bndE hm;refine ⟨_, rfl, ?_⟩;refine x_nil ?_;refine ⟨_, rfl, (hd.ext O.ex), _, rfl, G, ?_⟩;refine O.retV fun H O => ?_;refine o_seq ?_;refine o_asg ?_;obtain ⟨I, J, hm⟩ := bndE hm;refine o_ir1 ?_;refine o_cons ?_;refine o_c ?_;refine x_nil ?_;obtain ⟨L, M, rfl⟩ := rng1E J;obtain ⟨n, D, hm⟩ := bndE hm;refine ⟨_, rfl, L, M, fun o hD => k_lcR (fun r H => ∃ acc : List Bool, Own H0 H ((o, .lst (List.map V.bl acc)) :: []) ∧ compM (m__law_known_C0 C) r acc = some n) ⟨[], O.new hD, D⟩ ?_ ?_⟩
  · rintro B r H ⟨acc, O, hC⟩
    obtain ⟨y, hm, hz, hC⟩ := compM_cons hC;refine ⟨rfl, ?_⟩;unfold m__law_known_C0 at hm;refine ⟨_, rfl, _, rfl, ?_⟩;refine k_eqI ?_;obtain rfl := sji hm;refine ⟨_, O.mem (hd_), (by rw [List.length_map]; exact hz), _, ?_, hC⟩;rw [map_snoc];exact O.put0
  rintro H ⟨acc, O, hC⟩
  obtain rfl := compM_nil hC;refine o_ret ?_;obtain ⟨m, F, hm⟩ := bndE hm;refine x_andVJ (c := (decide ((m : List Bool) = n))) (e := (true && (true && (decide (f = l))))) (d := ((decide ((m : List Bool) = n)) && (true && (true && (decide (f = l)))))) (fun H => ∃ (R_ : Hp), Ex H0 R_ ∧ Own R_ H [(o, .lst (List.map V.bl n))]) (fun Q1 k1 => ?_) (fun q => ⟨by rw [q]; rfl, fun H hJ Q2 k2 => ?_⟩) (fun q => by rw [q]; rfl) (fun H hJ => ?_)
  · have a : Ex H0 H0 := Ex.refl _
    refine ⟨_, rfl, ?_⟩;refine x_nil ?_;refine ⟨_, rfl, (hd.ext O.ex), _, rfl, F, ?_⟩;refine O.retL fun S H O => ?_;refine ⟨_, rfl, ?_⟩;refine k_eqN (x := m) (y := n) (deL deB) (mL mB) (by decide) (gB (O.mem (hd_))) (Ex.refl _) (gB (O.mem (tl_ (hd_)))) (Ex.refl _) ?_;replace O := O.tl;exact k1 _ ⟨H0, a, O⟩
  · obtain ⟨H0, a, O⟩ := hJ;replace hd := hd.ext a;replace eB := eB.trans a;refine x_andVJ (c := true) (e := (true && (decide (f = l)))) (d := (true && (true && (decide (f = l))))) (fun H => ∃ (R_ : Hp), Ex H0 R_ ∧ Own R_ H [(o, .lst (List.map V.bl n))]) (fun Q1 k1 => ?_) (fun t => ⟨by rw [t]; rfl, fun H hJ Q2 k2 => ?_⟩) (fun t => by rw [t]; rfl) (fun H hJ => ?_)
    · have b : Ex H0 H0 := Ex.refl _
      refine ⟨_, rfl, ?_⟩;refine o_cons ?_;refine o_c ?_;refine x_nil ?_;refine ⟨_, _, _, rfl, .ty _, (hd.ext O.ex), T.EC.kv _ hk, ?_⟩;exact k1 _ ⟨H0, b, O⟩
    · obtain ⟨H0, b, O⟩ := hJ;replace hd := hd.ext b;replace eB := eB.trans b;replace a := a.trans b;refine x_andVJ (c := true) (e := (decide (f = l))) (d := (true && (decide (f = l)))) (fun H => ∃ (R_ : Hp), Ex H0 R_ ∧ Own R_ H [(o, .lst (List.map V.bl n))]) (fun Q1 k1 => ?_) (fun z => ⟨by rw [z]; rfl, fun H hJ Q2 k2 => ?_⟩) (fun z => by rw [z]; rfl) (fun H hJ => ?_)
      · have j : Ex H0 H0 := Ex.refl _
        refine ⟨_, rfl, _, _, _, _, true, rfl, .ty _, .base (.int _), kit_ty (by decide +kernel), ?_⟩;exact k1 _ ⟨H0, j, O⟩
      · obtain ⟨H0, j, O⟩ := hJ;replace hd := hd.ext j;replace eB := eB.trans j;replace a := a.trans j;replace b := b.trans j;refine ⟨_, rfl, _, rfl, ?_⟩;refine k_eqI ?_;exact k2 _ ⟨H0, j, O⟩
      obtain ⟨H0, j, O⟩ := hJ;replace hd := hd.ext j;replace eB := eB.trans j;replace a := a.trans j;replace b := b.trans j;exact k2 _ ⟨H0, b, O⟩
    obtain ⟨H0, b, O⟩ := hJ;replace hd := hd.ext b;replace eB := eB.trans b;replace a := a.trans b;exact k2 _ ⟨H0, a, O⟩
  obtain ⟨H0, a, O⟩ := hJ;replace hd := hd.ext a;replace eB := eB.trans a;obtain rfl := sji hm;exact RetV.goR hq O eB
def m__law_no_frame (name_1 : Int) (data_2 : List Int) : Option (Bool) :=
  bnd (m_frame_bits name_1 data_2) fun x_5 =>
  tryR x_5 (fun frame_7 =>
    some false) (fun e_ =>
    ifB (okE ks e_) (
      bnd (m__law_known e_ (3 : Int) (-(1 : Int))) fun law_kn_8 =>
      some law_kn_8) none)
def sp__law_no_frame (K : PySem.W.Frag) : Sp := fun vs H Q _ => ∃ (name_1 : Int) (data_2 : List Int) (a_3 : Addr) (r : Bool), vs = [.int name_1, .ref a_3] ∧ H a_3 = some (.lst (List.map V.int data_2)) ∧ m__law_no_frame name_1 data_2 = some r ∧ RetV (.bl r) H Q
abbrev N__law_no_frame : List Str := ["name", "data", "right", "e"]
theorem sc__law_no_frame : FnScope N__law_no_frame ["name", "data"] (defScope s__law_no_frame) := ⟨rfl, rfl, rfl, by decide +kernel, rfl, by decide +kernel, by decide +kernel⟩
theorem ok__law_no_frame {ad : Ad} (T : Txt K mg ad) : FnOk P w K mg base CX0 5 ad.f__law_no_frame ad.fd__law_no_frame ["name", "data"] (sp__law_no_frame K) := by
  have G__law_known := ok__law_known (P := P) (w := w) (base := base) T
  have G_frame_bits := ok_frame_bits (P := P) (w := w) (base := base) T
  refine T.F__law_no_frame.ok sc__law_no_frame (fun vs H Q E h => ?_) (fun cdv A outer s H vs Q E hr h => ?_)
  · obtain ⟨_, _, _, _, rfl, _⟩ := h
    rfl
  · obtain ⟨g, j, p, r, rfl, b, hm, k⟩ := h;unfold m__law_no_frame at hm;obtain ⟨H0, hH0⟩ : ∃ H0 : Hp, H0 = H := ⟨H, rfl⟩;have O : Own H0 H [] := by rw [hH0]; exact Own.start H
    rw [← hH0] at k b;clear hH0;refine ⟨_, (pss_cons (ps_set (i := 2) sc__law_no_frame.nd rfl (Or.inl rfl) pe_bl) (pss_cons (L2N.ps_try_as (i := 3) (tb := fun W => _) rfl rfl sc__law_no_frame.nd rfl rfl ⟨rfl, by decide, .inl T.n_RailError⟩ takesN0 (fun W pn xe tk _ => (pss_one (ps_expr (pe_callS G_frame_bits (hr.mono (by decide)) (by rfl) T.g_frame_bits T.F_frame_bits.kp T.b_frame_bits (fun σ => L2N.passAt tk σ) (pa_cons (pv 0) (pa_cons (pv 1) pa_nil)))))) (fun a oe cls d pn hz hf => pss_exc (es := ad.es) (ks := ks) fun ex hk hc => (pss_one (ps_set (i := 2) sc__law_no_frame.nd rfl (Or.inl rfl) (pe_callGs (ok__law_known (P := P) (w := w) (base := base) T ex hk) hz hf hc (hr.mono (by decide)) (by rfl) T.g__law_known T.F__law_known.kp T.b__law_known (pa_cons (pv 3) (pa_cons pe_int (pa_cons (pe_un un_neg pe_int) pa_nil)))))))) (pss_one (ps_ret (pv 2))))), ?_⟩;refine o_seq ?_;refine o_asg ?_;refine o_c ?_;refine o_seq ?_;refine o_drop ?_;obtain ⟨l, m, hm⟩ := bndE hm;refine ⟨_, rfl, _, rfl, ?_⟩;refine x_nil ?_;refine ⟨_, _, _, l, rfl, (O.ex _ _ b), m, ?_⟩;refine RetR.split (fun e_ c => ?_) (fun f c => ?_)
    · subst c;replace hm := tryEr hm;obtain ⟨hq_, hm⟩ := ifN hm;obtain ⟨hp_, hk_⟩ := okE_iff hq_;refine RetE.byP hp_ fun H1 hE => ?_;replace O := O.ext hE;refine ⟨true, T.EC.xr _ hk_, fun _ a_ ha_ => ?_, fun q => nomatch q⟩;refine ⟨e_, hk_, rfl, ?_⟩;refine o_asg ?_;obtain ⟨e, n, hm⟩ := bndE hm;refine ⟨_, rfl, _, rfl, ?_⟩;refine x_nil ?_;refine ⟨_, rfl, (XFl.of hp_), _, _, _, rfl, n, ?_⟩;refine O.retV fun H O => ?_;refine o_dn ?_;refine o_ret ?_;refine ⟨_, rfl, ?_⟩;obtain rfl := sji hm;exact RetV.go k O
    subst c;replace hm := tryOk hm;refine O.retL fun o H O => ?_;replace O := O.tl;refine o_ret ?_;refine ⟨_, rfl, ?_⟩;obtain rfl := sji hm;exact RetV.go k O
def m__law_plain_L0 (found_1 : List Int) (due_3 : List Int) (k_13 : Int) : Option (Fl (Unit) (Bool)) :=
  bnd (atI found_1 k_13) fun e_18 =>
  bnd (ifB (!true) (some true) (bnd (atI found_1 k_13) fun e_21 =>
  bnd (ifB false (some true) (bnd (atI found_1 k_13) fun e_23 =>
  bnd (atI due_3 k_13) fun e_25 => some (!decide (e_23 = e_25)))) fun c_27 => some c_27)) fun c_29 =>
  ifB c_29 (
    some (.rt false)) (
    some (.nx ()))
def m__law_plain (found_1 : List Int) (due_3 : List Int) : Option (Bool) :=
  ifB ((!true) || (!decide ((List.length found_1 : Int) = (List.length due_3 : Int)))) (
    some false) (
    bnd (rng1 (List.length due_3 : Int)) fun rg_7 =>
    fin (loopF (fun k_13 (_ : Unit) => m__law_plain_L0 found_1 due_3 k_13) rg_7 ()) fun _ =>
    some true)
def sp__law_plain (K : PySem.W.Frag) : Sp := fun vs H Q _ => ∃ (found_1 : List Int) (a_2 : Addr) (due_3 : List Int) (a_4 : Addr) (r : Bool), vs = [.ref a_2, .ref a_4] ∧ H a_2 = some (.lst (List.map V.int found_1)) ∧ H a_4 = some (.lst (List.map V.int due_3)) ∧ m__law_plain found_1 due_3 = some r ∧ RetV (.bl r) H Q
abbrev N__law_plain : List Str := ["found", "due", "k"]
theorem sc__law_plain : FnScope N__law_plain ["found", "due"] (defScope s__law_plain) := ⟨rfl, rfl, rfl, by decide +kernel, rfl, by decide +kernel, by decide +kernel⟩
theorem ok__law_plain {ad : Ad} (T : Txt K mg ad) : FnOk P w K mg base CX0 1 ad.f__law_plain ad.fd__law_plain ["found", "due"] (sp__law_plain K) := by
  refine T.F__law_plain.ok sc__law_plain (fun vs H Q E h => ?_) (fun cdv A outer s H vs Q E hr h => ?_)
  · obtain ⟨_, _, _, _, _, rfl, _⟩ := h
    rfl
  · obtain ⟨a, G, g, I, r, rfl, b, j, hm, k⟩ := h;unfold m__law_plain at hm;obtain ⟨H0, hH0⟩ : ∃ H0 : Hp, H0 = H := ⟨H, rfl⟩;have O : Own H0 H [] := by rw [hH0]; exact Own.start H
    rw [← hH0] at k b j;clear hH0;refine ⟨_, (pss_cons (ps_if (PW.pt (pw_or (pt_not (pt_val (pe_callB (r := rIsi K) call_isi (by rfl) T.z_isinstance (by decide +kernel) (pa_cons (pv 0) (pa_cons (pe_bltn (v := V.ty "list") (u := .type "list") (by rfl) T.z_list (by decide +kernel) rfl) pa_nil))))) (pw_or1 (pt_cmpR op_ne (pe_callB (r := rLenQ K) call_lenQ (by rfl) T.z_len PySem.boot_len (pa_cons (pv 0) pa_nil)) (pe_callB (r := rLenQ K) call_lenQ (by rfl) T.z_len PySem.boot_len (pa_cons (pv 1) pa_nil)) (nomark _))))) (pss_one (ps_ret pe_bl)) pss_nil) (pss_cons (ps_for PassesOwn.never rfl (pi_range1 (by rfl) T.z_range (pa_cons (pe_callB (r := rLenQ K) call_lenQ (by rfl) T.z_len PySem.boot_len (pa_cons (pv 1) pa_nil)) pa_nil)) (pg_name (i := 2) sc__law_plain.nd rfl (Or.inl rfl)) (pss_one (ps_if (PW.pt (pw_or (pt_not (pt_val (pe_callB (r := rIsi K) call_isi (by rfl) T.z_isinstance (by decide +kernel) (pa_cons (pe_ix (r := rIxL K) ix_list (pv 0) (pv 2) (fun _ _ => rfl)) (pa_cons (pe_bltn (v := V.ty "int") (u := .type "int") (by rfl) T.z_int (by decide +kernel) rfl) pa_nil))))) (pw_or (pt_val (pe_callB (r := rIsi K) call_isi (by rfl) T.z_isinstance (by decide +kernel) (pa_cons (pe_ix (r := rIxL K) ix_list (pv 0) (pv 2) (fun _ _ => rfl)) (pa_cons (pe_bltn (v := V.ty "bool") (u := .type "bool") (by rfl) T.z_bool (by decide +kernel) rfl) pa_nil)))) (pw_or1 (pt_cmpR op_ne (pe_ix (r := rIxL K) ix_list (pv 0) (pv 2) (fun _ _ => rfl)) (pe_ix (r := rIxL K) ix_list (pv 1) (pv 2) (fun _ _ => rfl)) (nomark _)))))) (pss_one (ps_ret pe_bl)) pss_nil))) (pss_one (ps_ret pe_bl)))), ?_⟩;refine o_seq ?_;refine o_ifs ?_;refine x_or (c := (!true)) (e := (!decide ((List.length a : Int) = (List.length g : Int)))) (d := ((!true) || (!decide ((List.length a : Int) = (List.length g : Int))))) O (fun Q1 k1 => ?_) (fun D => ⟨by rw [D]; rfl, fun H O Q2 k2 => ?_⟩) (fun D => by rw [D]; rfl) (fun H O => ?_)
    · refine ⟨_, rfl, _, _, _, _, true, rfl, .ty _, .base (.lst (O.ex _ _ b)), kit_ty (by decide +kernel), _, rfl, ?_⟩;exact k1 _ O
    · refine ⟨_, rfl, ?_⟩;refine x_nil ?_;refine n_len (SqL.of (O.ex _ _ b)) ?_;refine ⟨_, rfl, ?_⟩;refine x_nil ?_;refine n_len (SqL.of (O.ex _ _ j)) ?_;refine k_neI ?_;refine ⟨_, rfl, ?_⟩;exact k2 _ O
    refine iteS (c := ((!true) || (!decide ((List.length a : Int) = (List.length g : Int))))) (fun F => ?_) (fun F => ?_)
    · replace hm := ifT hm F;refine o_ret ?_;refine o_c ?_;obtain rfl := sji hm;exact RetV.go k O
    · replace hm := ifF hm F;refine o_next ?_;refine o_seq ?_;refine o_for ?_;refine ⟨_, rfl, ?_⟩;refine x_nil ?_;refine n_len (SqL.of (O.ex _ _ j)) ?_;obtain ⟨U, W, hm⟩ := bndE hm;refine x_nil ?_;obtain ⟨X, Y, rfl⟩ := rng1E W;obtain ⟨n, J, y⟩ := bndE hm;refine ⟨_, rfl, X, Y, q_forR (fun r σ H => ∃ (o : Option V), σ = [some (.ref G), some (.ref I), o] ∧ Own H0 H [] ∧ loopF (fun l (_ : Unit) => m__law_plain_L0 a g l) r () = some n) ⟨_, rfl, O, J⟩ ?_ ?_⟩
      · rintro l r σ H ⟨o, rfl, O, hL⟩
        obtain ⟨s_, hm, z⟩ := loopF_cons hL;replace hm : m__law_plain_L0 a g l = some s_ := hm;unfold m__law_plain_L0 at hm;refine o_ifs ?_;obtain ⟨Z, L, hm⟩ := bndE hm;obtain ⟨m, B, hm⟩ := bndE hm;refine x_or (c := (!true)) (e := m) (d := m) O (fun Q1 k1 => ?_) (fun p => ⟨rfl, fun H O Q2 k2 => ?_⟩) (fun p => sji (ifT B p)) (fun H O => ?_)
        · refine ⟨_, rfl, _, rfl, ?_⟩;refine k_ixL (f := V.int) (SqL.of (O.ex _ _ b)) L ?_;refine ⟨_, _, _, _, true, rfl, .ty _, .base (.int _), kit_ty (by decide +kernel), _, rfl, ?_⟩;exact k1 _ O
        · replace hm := ifF B p;obtain ⟨aa, M, hm⟩ := bndE hm;obtain ⟨q, C, hm⟩ := bndE hm;obtain rfl := sji hm;refine x_or (c := false) (e := q) (d := q) O (fun Q1 k1 => ?_) (fun t => ⟨rfl, fun H O Q2 k2 => ?_⟩) (fun t => sji (ifT C t)) (fun H O => ?_)
          · refine ⟨_, rfl, _, rfl, ?_⟩;refine k_ixL (f := V.int) (SqL.of (O.ex _ _ b)) M ?_;refine ⟨_, _, _, _, false, rfl, .ty _, .base (.int _), kit_ty (by decide +kernel), _, rfl, ?_⟩;exact k1 _ O
          · replace hm := ifF C t;obtain ⟨ab, N, hm⟩ := bndE hm;obtain ⟨ac, S, hm⟩ := bndE hm;obtain rfl := sji hm;refine ⟨_, rfl, _, rfl, ?_⟩;refine k_ixL (f := V.int) (SqL.of (O.ex _ _ b)) N ?_;refine ⟨_, rfl, _, rfl, ?_⟩;refine k_ixL (f := V.int) (SqL.of (O.ex _ _ j)) S ?_;refine k_neI ?_;refine ⟨_, rfl, ?_⟩;exact k2 _ O
          exact k2 _ O
        refine iteS (c := m) (fun x => ?_) (fun x => ?_)
        · replace hm := ifT hm x;refine o_ret ?_;refine o_c ?_;obtain rfl := sji hm;obtain rfl := contRt z;obtain rfl := finRt y;exact RetV.go k O
        · replace hm := ifF hm x;refine o_next ?_;have Oz := O
          obtain rfl := sji hm;exact ⟨_, rfl, Oz, z⟩
      rintro σ H ⟨o, rfl, O, hL⟩
      obtain rfl := loopF_nil hL;replace hm := finNx y;refine o_ret ?_;refine o_c ?_;obtain rfl := sji hm;exact RetV.go k O
def m__law_far (script_1 : List Int) (k_3 : Int) : Option (Int) :=
  bnd (ifB (decide ((0 : Int) < (List.length script_1 : Int))) (bnd (modG k_3 (List.length script_1 : Int)) fun t_4 =>
  bnd (atI script_1 t_4) fun e_6 => some e_6) ( some (0 : Int))) fun z_9 =>
  bnd (powG (10 : Int) (18 : Int)) fun t_11 =>
  bnd (modG z_9 t_11) fun t_13 =>
  bnd (powG (10 : Int) (18 : Int)) fun t_15 =>
  bnd (modG z_9 t_15) fun t_17 =>
  bnd (m__law_draw script_1 k_3 (4 : Int)) fun law_dr_20 =>
  bnd (atI ([(-(1 : Int)), (256 : Int), ((256 : Int) + t_13), ((-(1 : Int)) - t_17)]) law_dr_20) fun e_22 =>
  some e_22
def sp__law_far (K : PySem.W.Frag) : Sp := fun vs H Q _ => ∃ (script_1 : List Int) (a_2 : Addr) (k_3 : Int) (r : Int), vs = [.ref a_2, .int k_3] ∧ SqL K H a_2 (List.map V.int script_1) ∧ m__law_far script_1 k_3 = some r ∧ RetV (.int r) H Q
abbrev N__law_far : List Str := ["script", "k", "cell"]
theorem sc__law_far : FnScope N__law_far ["script", "k"] (defScope s__law_far) := ⟨rfl, rfl, rfl, by decide +kernel, rfl, by decide +kernel, by decide +kernel⟩
theorem ok__law_far {ad : Ad} (T : Txt K mg ad) : FnOk P w K mg base CX0 2 ad.f__law_far ad.fd__law_far ["script", "k"] (sp__law_far K) := by
  have G__law_draw := ok__law_draw (P := P) (w := w) (base := base) T
  refine T.F__law_far.ok sc__law_far (fun vs H Q E h => ?_) (fun cdv A outer s H vs Q E hr h => ?_)
  · obtain ⟨_, _, _, _, rfl, _⟩ := h
    rfl
  · obtain ⟨d, J, L, r, rfl, a, hm, k⟩ := h;unfold m__law_far at hm;obtain ⟨H0, hH0⟩ : ∃ H0 : Hp, H0 = H := ⟨H, rfl⟩;have O : Own H0 H [] := by rw [hH0]; exact Own.start H
    rw [← hH0] at k a;clear hH0;refine ⟨_, (pss_cons (ps_set (i := 2) sc__law_far.nd rfl (Or.inl rfl) (pe_ifExp (pt_cmpR op_gt (pe_callB (r := rLenQ K) call_lenQ (by rfl) T.z_len PySem.boot_len (pa_cons (pv 0) pa_nil)) pe_int (nomark _)) (pe_ix (r := rIxL K) ix_list (pv 0) (pe_op op_mod (pv 1) (pe_callB (r := rLenQ K) call_lenQ (by rfl) T.z_len PySem.boot_len (pa_cons (pv 0) pa_nil))) (fun _ _ => rfl)) pe_int)) (pss_one (ps_ret (pe_ix (r := rIxL K) ix_list (pe_lstQ (pe_lst (pa_cons (pe_un un_neg pe_int) (pa_cons pe_int (pa_cons (pe_op op_add pe_int (pe_op op_mod (pe_callTy (r := rInt) call_intQ (by rfl) T.z_int (by decide +kernel) (pa_cons (pv 2) pa_nil)) (pe_op op_pow pe_int pe_int))) (pa_cons (pe_op op_sub (pe_un un_neg pe_int) (pe_op op_mod (pe_callTy (r := rInt) call_intQ (by rfl) T.z_int (by decide +kernel) (pa_cons (pv 2) pa_nil)) (pe_op op_pow pe_int pe_int))) pa_nil)))))) (pe_call G__law_draw (hr.mono (by decide)) (by rfl) T.g__law_draw T.F__law_draw.kp T.b__law_draw .nil pass0 (pa_cons (pv 0) (pa_cons (pv 1) (pa_cons pe_int pa_nil)))) (fun _ _ => rfl))))), ?_⟩;refine o_seq ?_;refine o_asg ?_;obtain ⟨e, g, hm⟩ := bndE hm;refine x_if (c := decide ((0 : Int) < (List.length d : Int))) (x := .int e) (y := .int e) (v := .int e) O (fun Q1 k1 => ?_) (fun j => ⟨rfl, fun H O Q2 k2 => ?_⟩) (fun j => ⟨rfl, fun H O Q2 k2 => ?_⟩) (fun H O => ?_)
    · refine ⟨_, rfl, ?_⟩;refine x_nil ?_;refine n_len (O.ex.l a) ?_;refine ⟨_, _, rfl, rfl, _, rfl, ?_⟩;exact k1 _ O
    · replace hm := ifT g j;obtain ⟨M, B, hm⟩ := bndE hm;obtain ⟨N, C, hm⟩ := bndE hm;obtain rfl := sji hm;refine ⟨_, rfl, _, rfl, _, rfl, ?_⟩;refine x_nil ?_;refine n_len (O.ex.l a) ?_;refine k_mod B ?_;refine k_ixL (f := V.int) (O.ex.l a) C ?_;exact k2 _ O
    · replace hm := ifF g j;obtain rfl := sji hm;refine o_c ?_;exact k2 _ O
    refine o_ret ?_;refine ⟨_, rfl, _, rfl, ?_⟩;refine x_nil ?_;refine .inl ⟨_, rfl, ?_⟩;obtain ⟨D, o, hm⟩ := bndE hm;refine o_op ?_;refine o_c ?_;refine o_c ?_;refine k_pow o ?_;obtain ⟨m, p, hm⟩ := bndE hm;refine k_mod p ?_;refine ⟨_, _, rfl, rfl, _, rfl, _, rfl, ?_⟩;refine x_nil ?_;refine .inl ⟨_, rfl, ?_⟩;obtain ⟨F, q, hm⟩ := bndE hm;refine o_op ?_;refine o_c ?_;refine o_c ?_;refine k_pow q ?_;obtain ⟨n, t, hm⟩ := bndE hm;refine k_mod t ?_;refine ⟨_, _, rfl, rfl, ?_⟩;refine x_nil ?_;refine n_lst (f := V.int) (xs := [(-(1 : Int)), (256 : Int), ((256 : Int) + m), ((-(1 : Int)) - n)]) O rfl (by show 4 ≤ sizeLine; decide) fun G H O => ?_;obtain ⟨b, u, hm⟩ := bndE hm;refine ⟨_, rfl, _, rfl, ?_⟩;refine o_cons ?_;refine o_c ?_;refine x_nil ?_;refine ⟨_, _, _, _, b, rfl, (O.ex.l a), u, ?_⟩;refine O.retV fun H O => ?_;obtain ⟨I, z, hm⟩ := bndE hm;refine k_ixL (f := V.int) (SqL.of (O.mem (hd_))) z ?_;obtain rfl := sji hm;exact RetV.go k O
def m__law_written_C0 (number_1 : Int) (many_2 : Int) (k_5 : Int) : Option Int :=
  bnd (shrG number_1 ((many_2 - (1 : Int)) - k_5)) fun t_10 =>
  some (Builtin.bitAnd t_10 (1 : Int))
def m__law_written (number_1 : Int) (many_2 : Int) : Option (List Int) :=
  bnd (rng1 many_2) fun rg_3 =>
  bnd (compM (m__law_written_C0 number_1 many_2) rg_3 []) fun l_7 =>
  some l_7
def sp__law_written (K : PySem.W.Frag) : Sp := fun vs H Q _ => ∃ (number_1 : Int) (many_2 : Int) (r : List Int), vs = [.int number_1, .int many_2] ∧ m__law_written number_1 many_2 = some r ∧ RetL (List.map V.int r) H Q
abbrev N__law_written : List Str := ["number", "many", "k"]
theorem sc__law_written : FnScope N__law_written ["number", "many"] (defScope s__law_written) := ⟨rfl, rfl, rfl, by decide +kernel, rfl, by decide +kernel, by decide +kernel⟩
theorem ok__law_written {ad : Ad} (T : Txt K mg ad) : FnOk P w K mg base CX0 1 ad.f__law_written ad.fd__law_written ["number", "many"] (sp__law_written K) := by
  refine T.F__law_written.ok sc__law_written (fun vs H Q E h => ?_) (fun cdv A outer s H vs Q E hr h => ?_)
  · obtain ⟨_, _, _, rfl, _⟩ := h
    rfl
  · obtain ⟨a, b, r, rfl, hm, k⟩ := h;unfold m__law_written at hm;obtain ⟨H0, hH0⟩ : ∃ H0 : Hp, H0 = H := ⟨H, rfl⟩;have O : Own H0 H [] := by rw [hH0]; exact Own.start H
    rw [← hH0] at k;clear hH0;refine ⟨_, (pss_one (ps_ret (pe_lc (own := [("k", 2)]) (g := gName 2) (tt := tYes) rfl sc__law_written.nd (pi_range1 (by rfl) T.z_range (pa_cons (pv 1) pa_nil)) (blkOk_by (own := [("k", 2)]) (N := N__law_written) (sc := defScope s__law_written) (by decide +kernel)) (fun _ _ _ _ _ => pg_name (i := 2) sc__law_written.nd rfl (Or.inl rfl)) (fun _ _ _ _ _ => pts_nil) (fun _ _ _ _ _ => (pe_op op_and (pe_op op_shr (pv 0) (pe_op op_sub (pe_op op_sub (pv 1) pe_int) (pv 2))) pe_int))))), ?_⟩;refine o_ret ?_;obtain ⟨f, j, hm⟩ := bndE hm;refine ⟨_, rfl, ?_⟩;refine x_nil ?_;obtain ⟨l, m, rfl⟩ := rng1E j;obtain ⟨c, n, hm⟩ := bndE hm;refine ⟨_, rfl, l, m, fun d hD => k_lcR (fun r H => ∃ acc : List Int, Own H0 H ((d, .lst (List.map V.int acc)) :: []) ∧ compM (m__law_written_C0 a b) r acc = some c) ⟨[], O.new hD, n⟩ ?_ ?_⟩
    · rintro p r H ⟨acc, O, hC⟩
      obtain ⟨y, hm, hz, hC⟩ := compM_cons hC;refine ⟨rfl, ?_⟩;unfold m__law_written_C0 at hm;obtain ⟨o, e, hm⟩ := bndE hm;refine ⟨_, rfl, _, rfl, _, _, rfl, rfl, _, rfl, _, _, rfl, rfl, ?_⟩;refine k_shr e ?_;refine ⟨_, _, rfl, rfl, ?_⟩;obtain rfl := sji hm;refine ⟨_, O.mem (hd_), (by rw [List.length_map]; exact hz), _, ?_, hC⟩;rw [map_snoc];exact O.put0
    rintro H ⟨acc, O, hC⟩
    obtain rfl := compM_nil hC;obtain rfl := sji hm;exact RetL.go k O (hd_)
def m__law_worth_L0  (bit_9 : Int) (number_3 : Int) : Option (Int) :=
  some (((2 : Int) * number_3) + bit_9)
def m__law_worth (bits_1 : List Int) : Option (Int) :=
  bnd (loopM (fun bit_9 s => m__law_worth_L0 bit_9 s) bits_1 (0 : Int)) fun number_5 =>
  some number_5
def sp__law_worth (K : PySem.W.Frag) : Sp := fun vs H Q _ => ∃ (bits_1 : List Int) (a_2 : Addr) (r : Int), vs = [.ref a_2] ∧ H a_2 = some (.lst (List.map V.int bits_1)) ∧ m__law_worth bits_1 = some r ∧ RetV (.int r) H Q
abbrev N__law_worth : List Str := ["bits", "number", "bit"]
theorem sc__law_worth : FnScope N__law_worth ["bits"] (defScope s__law_worth) := ⟨rfl, rfl, rfl, by decide +kernel, rfl, by decide +kernel, by decide +kernel⟩
theorem ok__law_worth {ad : Ad} (T : Txt K mg ad) : FnOk P w K mg base CX0 1 ad.f__law_worth ad.fd__law_worth ["bits"] (sp__law_worth K) := by
  refine T.F__law_worth.ok sc__law_worth (fun vs H Q E h => ?_) (fun cdv A outer s H vs Q E hr h => ?_)
  · obtain ⟨_, _, _, rfl, _⟩ := h
    rfl
  · obtain ⟨g, j, r, rfl, b, hm, k⟩ := h;unfold m__law_worth at hm;obtain ⟨H0, hH0⟩ : ∃ H0 : Hp, H0 = H := ⟨H, rfl⟩;have O : Own H0 H [] := by rw [hH0]; exact Own.start H
    rw [← hH0] at k b;clear hH0;refine ⟨_, (pss_cons (ps_set (i := 1) sc__law_worth.nd rfl (Or.inl rfl) pe_int) (pss_cons (ps_for PassesOwn.never rfl (pi_list (pv 0)) (pg_name (i := 2) sc__law_worth.nd rfl (Or.inl rfl)) (pss_one (ps_set (i := 1) sc__law_worth.nd rfl (Or.inl rfl) (pe_op op_add (pe_op op_mul pe_int (pv 1)) (pv 2))))) (pss_one (ps_ret (pv 1))))), ?_⟩;refine o_seq ?_;refine o_asg ?_;refine o_c ?_;refine o_seq ?_;refine o_for ?_;refine ⟨_, rfl, ?_⟩;obtain ⟨d, l, hm⟩ := bndE hm;refine ⟨_, rfl, ⟨_, (SqL.of (O.ex _ _ b))⟩, q_forL (f := V.int) (xs := g) (fun r σ H => ∃ (a : Int) (e : Option V), σ = [some (.ref j), some (.int a), e] ∧ Own H0 H [] ∧ loopM (fun c s => m__law_worth_L0 c s) r a = some d) ⟨_, _, rfl, O, l⟩ (by rintro r σ H ⟨a, e, rfl, O, hL⟩; exact (SqL.of (O.ex _ _ b))) ?_ ?_⟩
    · rintro c r σ H ⟨a, e, rfl, O, hL⟩
      obtain ⟨s_, hm, m⟩ := loopM_cons hL;replace hm : m__law_worth_L0 c a = some s_ := hm;unfold m__law_worth_L0 at hm;refine o_asg ?_;refine ⟨_, rfl, _, _, rfl, rfl, .inl ⟨by decide, by decide⟩, _, rfl, _, _, rfl, rfl, ?_⟩;have Oz := O
      obtain rfl := sji hm;exact ⟨_, _, rfl, Oz, m⟩
    rintro σ H ⟨a, e, rfl, O, hL⟩
    cases loopM_nil hL
    refine o_ret ?_;refine ⟨_, rfl, ?_⟩;obtain rfl := sji hm;exact RetV.go k O
def m__law_frame_due_L0  (byte_25 : Int) (bits_18 : List Int) : Option ((List Int)) :=
  bnd (m__law_written byte_25 (8 : Int)) fun law_wr_29 =>
  bnd (catG bits_18 law_wr_29) fun t_32 =>
  some t_32
def m__law_frame_due_L1  (k_50 : Int) (rest_44 : Int) : Option (Int) :=
  bnd (shrG rest_44 (k_50 + (15 : Int))) fun t_54 =>
  ifB (decide ((Builtin.bitAnd t_54 (1 : Int)) = (1 : Int))) (
    bnd (shlG (64647 : Int) k_50) fun t_57 =>
    some (Builtin.bitXor rest_44 t_57)) (
    some rest_44)
def m__law_frame_due (name_1 : Int) (data_2 : List Int) : Option (List Int) :=
  bnd (m__law_written name_1 (8 : Int)) fun law_wr_5 =>
  bnd (catG ([(0 : Int)]) law_wr_5) fun t_8 =>
  bnd (m__law_written (List.length data_2 : Int) (3 : Int)) fun law_wr_11 =>
  bnd (catG t_8 law_wr_11) fun t_14 =>
  bnd (loopM (fun byte_25 s => m__law_frame_due_L0 byte_25 s) data_2 t_14) fun bits_21 =>
  bnd (m__law_worth bits_21) fun law_wo_35 =>
  bnd (shlG law_wo_35 (15 : Int)) fun t_37 =>
  bnd (rvG (List.length bits_21 : Int)) fun rg_39 =>
  bnd (loopM (fun k_50 s => m__law_frame_due_L1 k_50 s) rg_39 t_37) fun rest_46 =>
  bnd (m__law_written rest_46 (15 : Int)) fun law_wr_59 =>
  bnd (catG bits_21 law_wr_59) fun t_62 =>
  some t_62
def sp__law_frame_due (K : PySem.W.Frag) : Sp := fun vs H Q _ => ∃ (name_1 : Int) (data_2 : List Int) (a_3 : Addr) (r : List Int), vs = [.int name_1, .ref a_3] ∧ H a_3 = some (.lst (List.map V.int data_2)) ∧ m__law_frame_due name_1 data_2 = some r ∧ RetL (List.map V.int r) H Q
abbrev N__law_frame_due : List Str := ["name", "data", "bits", "byte", "rest", "k"]
theorem sc__law_frame_due : FnScope N__law_frame_due ["name", "data"] (defScope s__law_frame_due) := ⟨rfl, rfl, rfl, by decide +kernel, rfl, by decide +kernel, by decide +kernel⟩
theorem ok__law_frame_due {ad : Ad} (T : Txt K mg ad) : FnOk P w K mg base CX0 2 ad.f__law_frame_due ad.fd__law_frame_due ["name", "data"] (sp__law_frame_due K) := by
  have G__law_worth := ok__law_worth (P := P) (w := w) (base := base) T
  have G__law_written := ok__law_written (P := P) (w := w) (base := base) T
  refine T.F__law_frame_due.ok sc__law_frame_due (fun vs H Q E h => ?_) (fun cdv A outer s H vs Q E hr h => ?_)
  · obtain ⟨_, _, _, _, rfl, _⟩ := h
    rfl
  · obtain ⟨N, C, S, r, rfl, e, hm, k⟩ := h;unfold m__law_frame_due at hm;obtain ⟨H0, hH0⟩ : ∃ H0 : Hp, H0 = H := ⟨H, rfl⟩;have O : Own H0 H [] := by rw [hH0]; exact Own.start H
    rw [← hH0] at k e;clear hH0;refine ⟨_, (pss_cons (ps_set (i := 2) sc__law_frame_due.nd rfl (Or.inl rfl) (pe_op op_cat (pe_op op_cat (pe_lstQ (pe_lst (pa_cons pe_int pa_nil))) (pe_call G__law_written (hr.mono (by decide)) (by rfl) T.g__law_written T.F__law_written.kp T.b__law_written .nil pass0 (pa_cons (pv 0) (pa_cons pe_int pa_nil)))) (pe_call G__law_written (hr.mono (by decide)) (by rfl) T.g__law_written T.F__law_written.kp T.b__law_written .nil pass0 (pa_cons (pe_callB (r := rLenQ K) call_lenQ (by rfl) T.z_len PySem.boot_len (pa_cons (pv 1) pa_nil)) (pa_cons pe_int pa_nil))))) (pss_cons (ps_for PassesOwn.never rfl (pi_list (pv 1)) (pg_name (i := 3) sc__law_frame_due.nd rfl (Or.inl rfl)) (pss_one (ps_set (i := 2) sc__law_frame_due.nd rfl (Or.inl rfl) (pe_op op_cat (pv 2) (pe_call G__law_written (hr.mono (by decide)) (by rfl) T.g__law_written T.F__law_written.kp T.b__law_written .nil pass0 (pa_cons (pv 3) (pa_cons pe_int pa_nil))))))) (pss_cons (ps_set (i := 4) sc__law_frame_due.nd rfl (Or.inl rfl) (pe_op op_shlW (pe_call G__law_worth (hr.mono (by decide)) (by rfl) T.g__law_worth T.F__law_worth.kp T.b__law_worth .nil pass0 (pa_cons (pv 2) pa_nil)) pe_int)) (pss_cons (ps_for PassesOwn.never rfl (pi_revR (by rfl) T.z_reversed (prg_1 (by rfl) T.z_range (pe_callB (r := rLenQ K) call_lenQ (by rfl) T.z_len PySem.boot_len (pa_cons (pv 2) pa_nil)))) (pg_name (i := 5) sc__law_frame_due.nd rfl (Or.inl rfl)) (pss_one (ps_if (pt_cmpR op_eq (pe_op op_and (pe_op op_shr (pv 4) (pe_op op_add (pv 5) pe_int)) pe_int) pe_int (nomark _)) (pss_one (ps_set (i := 4) sc__law_frame_due.nd rfl (Or.inl rfl) (pe_op op_xor (pv 4) (pe_op op_shlW pe_int (pv 5))))) pss_nil))) (pss_one (ps_ret (pe_op op_cat (pv 2) (pe_call G__law_written (hr.mono (by decide)) (by rfl) T.g__law_written T.F__law_written.kp T.b__law_written .nil pass0 (pa_cons (pv 4) (pa_cons pe_int pa_nil)))))))))), ?_⟩;refine o_seq ?_;refine o_asg ?_;refine o_op ?_;refine o_op ?_;refine o_cons ?_;refine o_c ?_;refine x_nil ?_;refine n_lst (f := V.int) (xs := [(0 : Int)]) O rfl (by show 1 ≤ sizeLine; decide) fun az H O => ?_;obtain ⟨t, h6, hm⟩ := bndE hm;refine ⟨_, rfl, ?_⟩;refine o_cons ?_;refine o_c ?_;refine x_nil ?_;refine ⟨_, _, t, rfl, h6, ?_⟩;refine O.retL fun aA H O => ?_;obtain ⟨aB, h9, hm⟩ := bndE hm;refine k_cat (f := V.int) O (O.mem (tl_ (hd_))) (O.mem (hd_)) h9 fun an H O => ?_;refine ⟨_, rfl, ?_⟩;refine x_nil ?_;refine n_len (SqL.of (O.ex _ _ e)) ?_;obtain ⟨n, U, hm⟩ := bndE hm;refine o_cons ?_;refine o_c ?_;refine x_nil ?_;refine ⟨_, _, n, rfl, U, ?_⟩;refine O.retL fun ao H O => ?_;obtain ⟨J, W, hm⟩ := bndE hm;refine k_cat (f := V.int) O (O.mem (tl_ (hd_))) (O.mem (hd_)) W fun D H O => ?_;refine o_seq ?_;refine o_for ?_;refine ⟨_, rfl, ?_⟩;obtain ⟨j, X, hm⟩ := bndE hm;refine ⟨_, rfl, ⟨_, (SqL.of (O.ex _ _ e))⟩, q_forL (f := V.int) (xs := C) (fun r σ H => ∃ (d : Addr) (a : List Int) (l : Option V) (m : Option V), σ = [l, some (.ref S), some (.ref d), m, none, none] ∧ Own H0 H [(d, .lst (List.map V.int a))] ∧ loopM (fun g s => m__law_frame_due_L0 g s) r a = some j) ⟨D, _, _, _, rfl, (Own.pk (L' := [(D, .lst (List.map V.int J))]) O [0] (by decide) rfl), X⟩ (by rintro r σ H ⟨d, a, l, m, rfl, O, hL⟩; exact (SqL.of (O.ex _ _ e))) ?_ ?_⟩
    · rintro g r σ H ⟨d, a, l, m, rfl, O, hL⟩
      obtain ⟨s_, hm, Y⟩ := loopM_cons hL;replace hm : m__law_frame_due_L0 g a = some s_ := hm;unfold m__law_frame_due_L0 at hm;refine o_asg ?_;obtain ⟨o, Z, hm⟩ := bndE hm;refine ⟨_, rfl, _, rfl, ?_⟩;refine o_cons ?_;refine o_c ?_;refine x_nil ?_;refine ⟨_, _, o, rfl, Z, ?_⟩;refine O.retL fun ap H O => ?_;obtain ⟨L, aa, hm⟩ := bndE hm;refine k_cat (f := V.int) O (O.mem (tl_ (hd_))) (O.mem (hd_)) aa fun F H O => ?_;have Oz := O
      obtain rfl := sji hm;exact ⟨F, _, _, _, rfl, (Own.pk (L' := [(F, .lst (List.map V.int L))]) Oz [0] (by decide) rfl), Y⟩
    rintro σ H ⟨d, a, l, m, rfl, O, hL⟩
    cases loopM_nil hL
    refine o_seq ?_;refine o_asg ?_;obtain ⟨p, ab, hm⟩ := bndE hm;refine ⟨_, rfl, ?_⟩;refine x_nil ?_;refine ⟨_, _, p, rfl, (O.mem (hd_)), ab, ?_⟩;refine O.retV fun H O => ?_;obtain ⟨aq, ac, hm⟩ := bndE hm;refine o_c ?_;refine k_shl ac ?_;refine o_seq ?_;refine o_for ?_;refine ⟨_, rfl, ?_⟩;refine x_nil ?_;refine n_len (SqL.of (O.mem (hd_))) ?_;obtain ⟨ak, ae, hm⟩ := bndE hm;obtain ⟨c1, c2, rfl⟩ := rvGE ae;obtain ⟨B, af, hm⟩ := bndE hm;refine ⟨_, rfl, by decide, by decide, c1, c2, q_forC (fun r σ H => ∃ (b : Int) (u : Option V) (v : Option V) (x : Option V) (y : Option V), σ = [u, v, some (.ref d), x, some (.int b), y] ∧ Own H0 H [(d, .lst (List.map V.int j))] ∧ loopM (fun z s => m__law_frame_due_L1 z s) r b = some B) ⟨_, _, _, _, _, rfl, O, af⟩ ?_ ?_⟩
    · rintro z r σ H ⟨b, u, v, x, y, rfl, O, hL⟩
      obtain ⟨s_, hm, I⟩ := loopM_cons hL;replace hm : m__law_frame_due_L1 z b = some s_ := hm;unfold m__law_frame_due_L1 at hm;refine o_ifs ?_;obtain ⟨M, ag, hm⟩ := bndE hm;refine ⟨_, rfl, _, rfl, _, _, rfl, rfl, ?_⟩;refine k_shr ag ?_;refine ⟨_, _, rfl, rfl, ?_⟩;refine o_c ?_;refine k_eqI ?_;refine ⟨_, rfl, ?_⟩;refine iteS (c := (decide ((Builtin.bitAnd M (1 : Int)) = (1 : Int)))) (fun G => ?_) (fun G => ?_)
      · replace hm := ifT hm G;refine o_asg ?_;obtain ⟨av, ah, hm⟩ := bndE hm;refine ⟨_, rfl, _, rfl, ?_⟩;refine k_shl ah ?_;refine ⟨_, _, rfl, rfl, ?_⟩;have Oz := O
        obtain rfl := sji hm;exact ⟨_, _, _, _, _, rfl, Oz, I⟩
      · replace hm := ifF hm G;refine o_next ?_;have Oz := O
        obtain rfl := sji hm;exact ⟨_, _, _, _, _, rfl, Oz, I⟩
    rintro σ H ⟨b, u, v, x, y, rfl, O, hL⟩
    cases loopM_nil hL
    refine o_ret ?_;obtain ⟨q, ai, hm⟩ := bndE hm;refine ⟨_, rfl, _, rfl, ?_⟩;refine o_cons ?_;refine o_c ?_;refine x_nil ?_;refine ⟨_, _, q, rfl, ai, ?_⟩;refine O.retL fun aw H O => ?_;obtain ⟨ax, aj, hm⟩ := bndE hm;refine k_cat (f := V.int) O (O.mem (tl_ (hd_))) (O.mem (hd_)) aj fun ay H O => ?_;obtain rfl := sji hm;exact RetL.go k O (hd_)
def m__law_frames_right_C0 (script_1 : List Int) (k_9 : Int) : Option Int :=
  bnd (m__law_draw script_1 ((120 : Int) + k_9) (256 : Int)) fun law_dr_14 =>
  some law_dr_14
def m__law_frames_right_C1 (script_1 : List Int) (k_46 : Int) : Option Int :=
  bnd (m__law_draw script_1 ((130 : Int) + k_46) (256 : Int)) fun law_dr_51 =>
  some law_dr_51
def m__law_frames_right (script_1 : List Int) : Option (Bool) :=
  bnd (m__law_draw script_1 (111 : Int) (256 : Int)) fun law_dr_3 =>
  bnd (m__law_draw script_1 (112 : Int) (8 : Int)) fun law_dr_5 =>
  bnd (rng1 law_dr_5) fun rg_7 =>
  bnd (compM (m__law_frames_right_C0 script_1) rg_7 []) fun l_11 =>
  bndO (m_frame_bits law_dr_3 l_11) fun frame_17 =>
  bnd (m__law_frame_due law_dr_3 l_11) fun law_fr_20 =>
  bnd (m__law_plain frame_17 law_fr_20) fun law_pl_23 =>
  ifB (!law_pl_23) (
    some false) (
    bnd (m__law_far script_1 (113 : Int)) fun law_fa_26 =>
    bnd (m__law_no_frame law_fa_26 l_11) fun law_no_29 =>
    ifB (!law_no_29) (
      some false) (
      bnd (m__law_draw script_1 (114 : Int) ((List.length (cutL l_11 none (some (6 : Int))) : Int) + (1 : Int))) fun law_dr_33 =>
      bnd (m__law_far script_1 (115 : Int)) fun law_fa_35 =>
      bnd (insG (cutL l_11 none (some (6 : Int))) law_dr_33 law_fa_35) fun l_37 =>
      bnd (m__law_no_frame law_dr_3 l_37) fun law_no_39 =>
      ifB (!law_no_39) (
        some false) (
        bnd (m__law_draw script_1 (116 : Int) (3 : Int)) fun law_dr_42 =>
        bnd (rng1 ((8 : Int) + law_dr_42)) fun rg_44 =>
        bnd (compM (m__law_frames_right_C1 script_1) rg_44 []) fun l_48 =>
        bnd (m__law_no_frame law_dr_3 l_48) fun law_no_53 =>
        some law_no_53)))
def sp__law_frames_right (K : PySem.W.Frag) : Sp := fun vs H Q _ => ∃ (script_1 : List Int) (a_2 : Addr) (r : Bool), vs = [.ref a_2] ∧ SqL K H a_2 (List.map V.int script_1) ∧ m__law_frames_right script_1 = some r ∧ RetV (.bl r) H Q
abbrev N__law_frames_right : List Str := ["script", "name", "data", "few", "k"]
theorem sc__law_frames_right : FnScope N__law_frames_right ["script"] (defScope s__law_frames_right) := ⟨rfl, rfl, rfl, by decide +kernel, rfl, by decide +kernel, by decide +kernel⟩
theorem ok__law_frames_right {ad : Ad} (T : Txt K mg ad) : FnOk P w K mg base CX0 6 ad.f__law_frames_right ad.fd__law_frames_right ["script"] (sp__law_frames_right K) := by
  have G__law_draw := ok__law_draw (P := P) (w := w) (base := base) T
  have G__law_far := ok__law_far (P := P) (w := w) (base := base) T
  have G__law_frame_due := ok__law_frame_due (P := P) (w := w) (base := base) T
  have G__law_no_frame := ok__law_no_frame (P := P) (w := w) (base := base) T
  have G__law_plain := ok__law_plain (P := P) (w := w) (base := base) T
  have G_frame_bits := ok_frame_bits (P := P) (w := w) (base := base) T
  refine T.F__law_frames_right.ok sc__law_frames_right (fun vs H Q E h => ?_) (fun cdv A outer s H vs Q E hr h => ?_)
  · obtain ⟨_, _, _, rfl, _⟩ := h
    rfl
  · obtain ⟨j, aB, r, rfl, a, hm, k⟩ := h;unfold m__law_frames_right at hm;obtain ⟨H0, hH0⟩ : ∃ H0 : Hp, H0 = H := ⟨H, rfl⟩;have O : Own H0 H [] := by rw [hH0]; exact Own.start H
    rw [← hH0] at k a;clear hH0;refine ⟨_, (pss_cons (ps_set (i := 1) sc__law_frames_right.nd rfl (Or.inl rfl) (pe_call G__law_draw (hr.mono (by decide)) (by rfl) T.g__law_draw T.F__law_draw.kp T.b__law_draw .nil pass0 (pa_cons (pv 0) (pa_cons pe_int (pa_cons pe_int pa_nil))))) (pss_cons (ps_setLc (i := 2) (own := [("k", 4)]) (g := gName 4) (tt := tYes) rfl sc__law_frames_right.nd rfl rfl (sw_true rfl rfl rfl (by decide +kernel)) (pi_range1 (by rfl) T.z_range (pa_cons (pe_call G__law_draw (hr.mono (by decide)) (by rfl) T.g__law_draw T.F__law_draw.kp T.b__law_draw .nil pass0 (pa_cons (pv 0) (pa_cons pe_int (pa_cons pe_int pa_nil)))) pa_nil)) (blkOk_by (own := [("k", 4)]) (N := N__law_frames_right) (sc := defScope s__law_frames_right) (by decide +kernel)) (fun _ _ _ _ _ => pg_name (i := 4) sc__law_frames_right.nd rfl (Or.inl rfl)) (fun _ _ _ _ _ => pts_nil) (fun _ _ _ _ _ => (pe_call G__law_draw (hr.mono (by decide)) (by rfl) T.g__law_draw T.F__law_draw.kp T.b__law_draw .nil pass0 (pa_cons (pv 0) (pa_cons (pe_op op_add pe_int (pv 4)) (pa_cons pe_int pa_nil)))))) (pss_cons (ps_if (pt_not (pt_val (pe_call G__law_plain (hr.mono (by decide)) (by rfl) T.g__law_plain T.F__law_plain.kp T.b__law_plain .nil pass0 (pa_cons (pe_call G_frame_bits (hr.mono (by decide)) (by rfl) T.g_frame_bits T.F_frame_bits.kp T.b_frame_bits .nil passN (pa_cons (pv 1) (pa_cons (pe_callTy (r := rListQ K) call_listQ (by rfl) T.z_list (by decide +kernel) (pa_cons (pv 2) pa_nil)) pa_nil))) (pa_cons (pe_call G__law_frame_due (hr.mono (by decide)) (by rfl) T.g__law_frame_due T.F__law_frame_due.kp T.b__law_frame_due .nil pass0 (pa_cons (pv 1) (pa_cons (pv 2) pa_nil))) pa_nil))))) (pss_one (ps_ret pe_bl)) pss_nil) (pss_cons (ps_if (pt_not (pt_val (pe_call G__law_no_frame (hr.mono (by decide)) (by rfl) T.g__law_no_frame T.F__law_no_frame.kp T.b__law_no_frame .nil pass0 (pa_cons (pe_call G__law_far (hr.mono (by decide)) (by rfl) T.g__law_far T.F__law_far.kp T.b__law_far .nil pass0 (pa_cons (pv 0) (pa_cons pe_int pa_nil))) (pa_cons (pe_callTy (r := rListQ K) call_listQ (by rfl) T.z_list (by decide +kernel) (pa_cons (pv 2) pa_nil)) pa_nil))))) (pss_one (ps_ret pe_bl)) pss_nil) (pss_cons (ps_set (i := 3) sc__law_frames_right.nd rfl (Or.inl rfl) (pe_slice (r := rSlL K) sl_list (pv 2) po_none (po_some pe_int))) (pss_cons (ps_expr (pe_bm (r := rInsert) PySem.F.plainAttrs_list PySem.F.slot_list_insert PySem.F.type_list_insert mt_insertQ (pv 3) (pa_cons (pe_call G__law_draw (hr.mono (by decide)) (by rfl) T.g__law_draw T.F__law_draw.kp T.b__law_draw .nil pass0 (pa_cons (pv 0) (pa_cons pe_int (pa_cons (pe_op op_add (pe_callB (r := rLenQ K) call_lenQ (by rfl) T.z_len PySem.boot_len (pa_cons (pv 3) pa_nil)) pe_int) pa_nil)))) (pa_cons (pe_call G__law_far (hr.mono (by decide)) (by rfl) T.g__law_far T.F__law_far.kp T.b__law_far .nil pass0 (pa_cons (pv 0) (pa_cons pe_int pa_nil))) pa_nil)))) (pss_cons (ps_if (pt_not (pt_val (pe_call G__law_no_frame (hr.mono (by decide)) (by rfl) T.g__law_no_frame T.F__law_no_frame.kp T.b__law_no_frame .nil pass0 (pa_cons (pv 1) (pa_cons (pv 3) pa_nil))))) (pss_one (ps_ret pe_bl)) pss_nil) (pss_one (ps_ret (pe_call G__law_no_frame (hr.mono (by decide)) (by rfl) T.g__law_no_frame T.F__law_no_frame.kp T.b__law_no_frame .nil pass0 (pa_cons (pv 1) (pa_cons (pe_lc (own := [("k", 4)]) (g := gName 4) (tt := tYes) rfl sc__law_frames_right.nd (pi_range1 (by rfl) T.z_range (pa_cons (pe_op op_add pe_int (pe_call G__law_draw (hr.mono (by decide)) (by rfl) T.g__law_draw T.F__law_draw.kp T.b__law_draw .nil pass0 (pa_cons (pv 0) (pa_cons pe_int (pa_cons pe_int pa_nil))))) pa_nil)) (blkOk_by (own := [("k", 4)]) (N := N__law_frames_right) (sc := defScope s__law_frames_right) (by decide +kernel)) (fun _ _ _ _ _ => pg_name (i := 4) sc__law_frames_right.nd rfl (Or.inl rfl)) (fun _ _ _ _ _ => pts_nil) (fun _ _ _ _ _ => (pe_call G__law_draw (hr.mono (by decide)) (by rfl) T.g__law_draw T.F__law_draw.kp T.b__law_draw .nil pass0 (pa_cons (pv 0) (pa_cons (pe_op op_add pe_int (pv 4)) (pa_cons pe_int pa_nil)))))) pa_nil)))))))))))), ?_⟩
    refine o_seq ?_;refine o_asg ?_;obtain ⟨x, h4, hm⟩ := bndE hm;refine ⟨_, rfl, ?_⟩;refine o_cons ?_;refine o_c ?_;refine o_cons ?_;refine o_c ?_;refine x_nil ?_;refine ⟨_, _, _, _, x, rfl, (O.ex.l a), h4, ?_⟩;refine O.retV fun H O => ?_;refine o_seq ?_;refine o_asg ?_;obtain ⟨z, h6, hm⟩ := bndE hm;refine ⟨_, rfl, ?_⟩;refine o_cons ?_;refine o_c ?_;refine o_cons ?_;refine o_c ?_;refine x_nil ?_;refine ⟨_, _, _, _, z, rfl, (O.ex.l a), h6, ?_⟩;refine O.retV fun H O => ?_;obtain ⟨au, h8, hm⟩ := bndE hm;refine x_nil ?_;obtain ⟨L, M, rfl⟩ := rng1E h8;obtain ⟨C, Y, hm⟩ := bndE hm;refine ⟨_, rfl, L, M, fun D hD => k_lcR (fun r H => ∃ acc : List Int, Own H0 H ((D, .lst (List.map V.int acc)) :: []) ∧ compM (m__law_frames_right_C0 j) r acc = some C) ⟨[], O.new hD, Y⟩ ?_ ?_⟩
    · rintro aC r H ⟨acc, O, hC⟩
      obtain ⟨y, hm, hz, hC⟩ := compM_cons hC;refine ⟨rfl, ?_⟩;unfold m__law_frames_right_C0 at hm;obtain ⟨m, Z, hm⟩ := bndE hm;refine ⟨_, rfl, _, rfl, _, _, rfl, rfl, ?_⟩;refine o_cons ?_;refine o_c ?_;refine x_nil ?_;refine ⟨_, _, _, _, m, rfl, (O.ex.l a), Z, ?_⟩;refine O.retV fun H O => ?_;obtain rfl := sji hm;refine ⟨_, O.mem (hd_), (by rw [List.length_map]; exact hz), _, ?_, hC⟩;rw [map_snoc];exact O.put0
    rintro H ⟨acc, O, hC⟩
    obtain rfl := compM_nil hC;refine o_seq ?_;refine o_ifs ?_;refine ⟨_, rfl, _, rfl, ?_⟩;refine x_nil ?_;refine n_list O (SqL.of (O.mem (hd_))) fun aw H O => ?_;obtain ⟨B, aa, hm⟩ := bndOE hm;refine x_nil ?_;refine ⟨_, _, _, .ok B, rfl, (O.mem (hd_)), aa, ?_⟩;refine RetR.ok ?_;refine O.retL fun ax H O => ?_;obtain ⟨n, ab, hm⟩ := bndE hm;refine ⟨_, rfl, _, rfl, ?_⟩;refine x_nil ?_;refine ⟨_, _, _, n, rfl, (O.mem (tl_ (tl_ (hd_)))), ab, ?_⟩;refine O.retL fun ay H O => ?_;obtain ⟨b, ac, hm⟩ := bndE hm;refine x_nil ?_;refine ⟨_, _, _, _, b, rfl, (O.mem (tl_ (hd_))), (O.mem (hd_)), ac, ?_⟩;refine O.retV fun H O => ?_;refine ⟨_, rfl, ?_⟩;replace O := O.tl.tl.tl;refine iteS (c := (!b)) (fun G => ?_) (fun G => ?_)
    · replace hm := ifT hm G;refine o_ret ?_;refine o_c ?_;obtain rfl := sji hm;exact RetV.go k O
    · replace hm := ifF hm G;refine o_next ?_;refine o_seq ?_;refine o_ifs ?_;obtain ⟨o, ae, hm⟩ := bndE hm;refine ⟨_, rfl, ?_⟩;refine o_cons ?_;refine o_c ?_;refine x_nil ?_;refine ⟨_, _, _, o, rfl, (O.ex.l a), ae, ?_⟩;refine O.retV fun H O => ?_;refine ⟨_, rfl, ?_⟩;refine x_nil ?_;refine n_list O (SqL.of (O.mem (hd_))) fun az H O => ?_;obtain ⟨d, af, hm⟩ := bndE hm;refine x_nil ?_;refine ⟨_, _, _, d, rfl, (O.mem (hd_)), af, ?_⟩;refine O.retV fun H O => ?_;refine ⟨_, rfl, ?_⟩;replace O := O.tl;refine iteS (c := (!d)) (fun I => ?_) (fun I => ?_)
      · replace hm := ifT hm I;refine o_ret ?_;refine o_c ?_;obtain rfl := sji hm;exact RetV.go k O
      · replace hm := ifF hm I;refine o_next ?_;refine o_seq ?_;refine o_asg ?_;refine ⟨_, rfl, _, rfl, ?_⟩;refine k_cut (f := V.int) O (SqL.of (O.mem (hd_))) fun S H O => ?_;refine o_seq ?_;refine o_drop ?_;refine ⟨_, rfl, .inl ⟨rfl, _, (SqL.of (O.mem (hd_)))⟩, _, rfl, _, rfl, ?_⟩;refine x_nil ?_;refine n_len (SqL.of (O.mem (hd_))) ?_;obtain ⟨p, ag, hm⟩ := bndE hm;refine ⟨_, _, rfl, rfl, ?_⟩;refine x_nil ?_;refine ⟨_, _, _, _, p, rfl, (O.ex.l a), ag, ?_⟩;refine O.retV fun H O => ?_;obtain ⟨q, ah, hm⟩ := bndE hm;refine ⟨_, rfl, ?_⟩;refine o_cons ?_;refine o_c ?_;refine x_nil ?_;refine ⟨_, _, _, q, rfl, (O.ex.l a), ah, ?_⟩;refine O.retV fun H O => ?_;refine x_nil ?_;obtain ⟨U, ai, hm⟩ := bndE hm;refine k_ins (f := V.int) (O.mem (hd_)) (fun _ => O.put0) ai fun H O => ?_;refine o_seq ?_;refine o_ifs ?_;obtain ⟨e, aj, hm⟩ := bndE hm;refine ⟨_, rfl, _, rfl, ?_⟩;refine x_nil ?_;refine ⟨_, _, _, e, rfl, (O.mem (hd_)), aj, ?_⟩;refine O.retV fun H O => ?_;refine ⟨_, rfl, ?_⟩;refine iteS (c := (!e)) (fun J => ?_) (fun J => ?_)
        · replace hm := ifT hm J;refine o_ret ?_;refine o_c ?_;obtain rfl := sji hm;exact RetV.go k O
        · replace hm := ifF hm J;refine o_next ?_;refine o_ret ?_;obtain ⟨t, ak, hm⟩ := bndE hm;refine ⟨_, rfl, _, rfl, ?_⟩;refine o_cons ?_;refine o_c ?_;refine o_cons ?_;refine o_c ?_;refine x_nil ?_;refine ⟨_, _, _, _, t, rfl, (O.ex.l a), ak, ?_⟩;refine O.retV fun H O => ?_;obtain ⟨ap, al, hm⟩ := bndE hm;refine ⟨_, _, rfl, rfl, ?_⟩;refine x_nil ?_;obtain ⟨L, M, rfl⟩ := rng1E al;obtain ⟨W, am, hm⟩ := bndE hm;refine ⟨_, rfl, L, M, fun X hD => k_lcR (fun r H => ∃ acc : List Int, Own H0 H ((X, .lst (List.map V.int acc)) :: [(S, .lst (List.map V.int U)), (D, .lst (List.map V.int C))]) ∧ compM (m__law_frames_right_C1 j) r acc = some W) ⟨[], O.new hD, am⟩ ?_ ?_⟩
          · rintro aA r H ⟨acc, O, hC⟩
            obtain ⟨y, hm, hz, hC⟩ := compM_cons hC;refine ⟨rfl, ?_⟩;unfold m__law_frames_right_C1 at hm;obtain ⟨u, an, hm⟩ := bndE hm;refine ⟨_, rfl, _, rfl, _, _, rfl, rfl, ?_⟩;refine o_cons ?_;refine o_c ?_;refine x_nil ?_;refine ⟨_, _, _, _, u, rfl, (O.ex.l a), an, ?_⟩;refine O.retV fun H O => ?_;obtain rfl := sji hm;refine ⟨_, O.mem (hd_), (by rw [List.length_map]; exact hz), _, ?_, hC⟩;rw [map_snoc];exact O.put0
          rintro H ⟨acc, O, hC⟩
          obtain rfl := compM_nil hC;obtain ⟨v, ao, hm⟩ := bndE hm;refine x_nil ?_;refine ⟨_, _, _, v, rfl, (O.mem (hd_)), ao, ?_⟩;refine O.retV fun H O => ?_;obtain rfl := sji hm;exact RetV.go k O
abbrev N_NoWire_init : List Str := ["self", "at"]
theorem sc_NoWire_init : FnScope N_NoWire_init ["self", "at"] (defScope s_NoWire_init) := ⟨rfl, rfl, rfl, by decide +kernel, rfl, by decide +kernel, by decide +kernel⟩
theorem ok_NoWire_init {ad : Ad} (T : Txt K mg ad) : FnOk P w K mg base CX0 1 ad.f_NoWire_init ad.fd_NoWire_init ["self", "at"] (spI ad.es.NoWire "at") := by
  refine T.F_NoWire_init.ok sc_NoWire_init (fun vs H Q E h => ?_) (fun cdv A outer s H vs Q E hr h => ?_)
  · obtain ⟨a, i, rfl, _⟩ := h
    rfl
  · obtain ⟨a, i, rfl, ha, k⟩ := h;refine ⟨_, (pss_cons (ps_expr (pe_rinit (by rfl) T.n_RailError T.I_NoWire.ga T.I_NoWire.rd T.I_NoWire.v (pa_cons (pv 0) (pa_cons pe_str pa_nil)))) (pss_one (ps_ost (pv 0) (pv 1)))), ?_⟩;refine o_seq ?_;refine o_drop ?_;refine o_cons ?_;refine ⟨_, rfl, ?_⟩;refine o_cons ?_;refine o_c ?_;refine x_nil ?_;refine ⟨a, _, _, rfl, by decide, T.I_NoWire.o, ha, ?_⟩;refine ⟨_, rfl, _, rfl, ?_⟩;exact ⟨a, _, rfl, T.I_NoWire.o, T.I_NoWire.n, .inl ⟨ha, fun dx b c => k dx b c⟩⟩
def m_taken_out_L0  (at_17 : Int) (bit_18 : Int) (bits_6 : List Int) (run_7 : Int) (last_8 : Int) : Option (Fl ((List Int) × Int × Int) (Rs (List Int))) :=
  ifB ((decide (run_7 = (5 : Int))) && (decide (bit_18 = last_8))) (
    some (.rt (.er (.NoWire at_17)))) (
    bnd (ifB (!decide (run_7 = (5 : Int))) (
      bnd (appG bits_6 bit_18) fun l_27 =>
      some l_27) (
      some bits_6)) fun bits_29 =>
    ltv ((ifB (decide (bit_18 = last_8)) (run_7 + (1 : Int)) (1 : Int))) fun run_32 =>
    some (.nx (bits_29, run_32, bit_18)))
def m_taken_out (wire_1 : List Int) : Option (Rs (List Int)) :=
  ltv ((-(1 : Int))) fun last_4 =>
  fin (loopF (fun q_ s => m_taken_out_L0 q_.1 q_.2 s.1 s.2.1 s.2.2) (enumI 0 wire_1) (([] : List Int), (0 : Int), last_4)) fun (bits_6, run_7, last_8) =>
  ifB (decide (run_7 = (5 : Int))) (
    some (.er (.NoWire (List.length wire_1 : Int)))) (
    some (.ok bits_6))
def sp_taken_out (K : PySem.W.Frag) (d : Eds) : Sp := fun vs H Q E => ∃ (wire_1 : List Int) (a_2 : Addr) (r : Rs (List Int)), vs = [.ref a_2] ∧ H a_2 = some (.lst (List.map V.int wire_1)) ∧ m_taken_out wire_1 = some r ∧ RetR (fun r => RetL (List.map V.int r) H Q) d r H E
abbrev N_taken_out : List Str := ["wire", "bits", "run", "last", "at", "bit"]
theorem sc_taken_out : FnScope N_taken_out ["wire"] (defScope s_taken_out) := ⟨rfl, rfl, rfl, by decide +kernel, rfl, by decide +kernel, by decide +kernel⟩
theorem ok_taken_out {ad : Ad} (T : Txt K mg ad) : FnOk P w K mg base (L2N.CX P w) 3 ad.f_taken_out ad.fd_taken_out ["wire"] (sp_taken_out K ad.es) := by
  refine okN T.F_taken_out sc_taken_out (fun vs H Q E h => ?_) (fun cdv A outer s H vs Q E hr h => ?_)
  · obtain ⟨_, _, _, rfl, _⟩ := h
    rfl
  · obtain ⟨q, N, r, rfl, m, hm, k⟩ := h;unfold m_taken_out at hm;obtain ⟨H0, hH0⟩ : ∃ H0 : Hp, H0 = H := ⟨H, rfl⟩;have O : Own H0 H [] := by rw [hH0]; exact Own.start H
    rw [← hH0] at k m;clear hH0;refine ⟨_, (pss_cons (ps_set (i := 1) sc_taken_out.nd rfl (Or.inl rfl) (pe_lstQ (pe_lst pa_nil))) (pss_cons (ps_set (i := 2) sc_taken_out.nd rfl (Or.inl rfl) pe_int) (pss_cons (ps_set (i := 3) sc_taken_out.nd rfl (Or.inl rfl) (pe_un un_neg pe_int)) (pss_cons (ps_for (passes_of rfl) rfl (pi_enum (by rfl) T.z_enumerate (pa_cons (pv 0) pa_nil)) (pg_tup rfl (pgs_cons (pg_name (i := 4) sc_taken_out.nd rfl (Or.inl rfl)) (pgs_cons (pg_name (i := 5) sc_taken_out.nd rfl (Or.inl rfl)) pgs_nil))) (pss_cons (ps_if (PW.pt (pw_and (pt_cmpR op_eq (pv 2) pe_int (nomark _)) (pw_and1 (pt_cmpR op_eq (pv 5) (pv 3) (nomark _))))) (pss_one (L2N.ps_raise rfl (L2N.takes_of rfl rfl rfl rfl) (pmk_initN (sp := spI ad.es.NoWire "at") T.I_NoWire.o T.I_NoWire.i T.I_NoWire.t (ok_NoWire_init (P := P) (w := w) (base := base) T) (hr.mono (by decide)) T.b_NoWire_init pass0 (by rfl) T.n_NoWire (pa_cons (pv 4) pa_nil)))) pss_nil) (Evl.pss_cut (ps_if (pt_cmpR op_ne (pv 2) pe_int (nomark _)) (pss_one (ps_expr (pe_bm PySem.F.plainAttrs_list PySem.F.slot_list_append PySem.F.type_list_append mt_append (pv 1) (pa_cons (pv 5) pa_nil)))) pss_nil) (pss_cons (ps_set (i := 2) sc_taken_out.nd rfl (Or.inl rfl) (pe_ifExp (pt_cmpR op_eq (pv 5) (pv 3) (nomark _)) (pe_op op_add (pv 2) pe_int) pe_int)) (pss_one (ps_set (i := 3) sc_taken_out.nd rfl (Or.inl rfl) (pv 5))))))) (pss_cons (ps_if (pt_cmpR op_eq (pv 2) pe_int (nomark _)) (pss_one (L2N.ps_raise rfl (L2N.takes_of rfl rfl rfl rfl) (pmk_initN (sp := spI ad.es.NoWire "at") T.I_NoWire.o T.I_NoWire.i T.I_NoWire.t (ok_NoWire_init (P := P) (w := w) (base := base) T) (hr.mono (by decide)) T.b_NoWire_init pass0 (by rfl) T.n_NoWire (pa_cons (pe_callB (r := rLenQ K) call_lenQ (by rfl) T.z_len PySem.boot_len (pa_cons (pv 0) pa_nil)) pa_nil)))) pss_nil) (pss_one (ps_ret (pv 1)))))))), ?_⟩;refine o_seq ?_;refine o_asg ?_;refine x_nil ?_;refine n_lst (f := V.int) (xs := ([] : List Int)) O rfl (Nat.zero_le _) fun u H O => ?_;refine o_seq ?_;refine o_asg ?_;refine o_c ?_;refine o_seq ?_;refine o_asg ?_;refine ⟨_, rfl, ?_⟩;obtain ⟨X, h5, hm⟩ := ltvE hm;refine a_set (congrArg V.int h5) ?_;refine o_seq ?_;refine o_for ?_;refine ⟨_, rfl, ?_⟩;refine x_nil ?_;obtain ⟨C, Y, S⟩ := bndE hm;refine ⟨_, _, rfl, (SqL.of (O.ex _ _ m)), q_forE (b := fun _ _ => False) (k := fun _ _ => False) (KK := K) (f := V.int) (xs := q) (fun r σ H => ∃ (j : List Int) (g : Int) (a : Int) (p : Option V) (n : Option V), σ = [some (.ref N), some (.ref u), some (.int g), some (.int a), p, n] ∧ Own H0 H [(u, .lst (List.map V.int j))] ∧ loopF (fun q_ s => m_taken_out_L0 q_.1 q_.2 s.1 s.2.1 s.2.2) r (j, g, a) = some C) ⟨([] : List Int), _, _, _, _, rfl, O, Y⟩ (by rintro r σ H ⟨j, g, a, p, n, rfl, O, hL⟩; exact (SqL.of (O.ex _ _ m))) (by rintro r σ H H2 ⟨j, g, a, p, n, rfl, O, hL⟩ hE; exact ⟨j, g, a, p, n, rfl, O.ext hE, hL⟩) ?_ ?_⟩
    · rintro z l r σ H ⟨j, g, a, p, n, rfl, O, hL⟩
      obtain ⟨s_, hm, U⟩ := loopF_cons hL;replace hm : m_taken_out_L0 z l j g a = some s_ := hm;unfold m_taken_out_L0 at hm;refine o_seq ?_;refine o_ifs ?_;refine x_and (c := (decide (g = (5 : Int)))) (e := (decide (l = a))) (d := ((decide (g = (5 : Int))) && (decide (l = a)))) O (fun Q1 k1 => ?_) (fun D => ⟨by rw [D]; rfl, fun H O Q2 k2 => ?_⟩) (fun D => by rw [D]; rfl) (fun H O => ?_)
      · refine ⟨_, rfl, ?_⟩;refine o_c ?_;refine k_eqI ?_;refine ⟨_, rfl, ?_⟩;exact k1 _ O
      · refine ⟨_, rfl, _, rfl, ?_⟩;refine k_eqI ?_;refine ⟨_, rfl, ?_⟩;exact k2 _ O
      refine iteS (c := ((decide (g = (5 : Int))) && (decide (l = a)))) (fun G => ?_) (fun G => ?_)
      · replace hm := ifT hm G;refine o_mkI ?_;refine ⟨_, rfl, ?_⟩;refine x_nil ?_;refine k_mkI ?_;obtain rfl := sji hm;obtain rfl := contRt U;obtain rfl := finRt S;exact RetE.go (show RetE ad.es (.NoWire z) _ E from k) O
      · replace hm := ifF hm G;refine o_next ?_;obtain ⟨B, W, hm⟩ := bndE hm;refine o_cut (fun σ H => ∃ (I : Option V), σ = [some (.ref N), some (.ref u), some (.int g), some (.int a), I, some (.int l)] ∧ Own H0 H [(u, .lst (List.map V.int B))]) ?_ ?_
        · refine o_ifs ?_;refine ⟨_, rfl, ?_⟩;refine o_c ?_;refine k_neI ?_;refine ⟨_, rfl, ?_⟩;refine iteS (c := (!decide (g = (5 : Int)))) (fun J => ?_) (fun J => ?_)
          · replace hm := ifT W J;refine o_drop ?_;obtain ⟨ae, Z, hm⟩ := bndE hm;refine ⟨_, rfl, .inl ⟨rfl, _, (SqL.of (O.mem (hd_)))⟩, _, rfl, ?_⟩;refine x_nil ?_;refine k_app (f := V.int) (O.mem (hd_)) (fun _ => O.put0) Z fun H O => ?_;have Oz := O
            have hq_ := sji hm
            subst hq_;exact ⟨_, rfl, Oz⟩
          · replace hm := ifF W J;refine o_next ?_;have Oz := O
            have hq_ := sji hm
            subst hq_;exact ⟨_, rfl, Oz⟩
        rintro σ H ⟨I, rfl, O⟩
        refine o_seq ?_;refine o_asg ?_;refine x_if (c := (decide (l = a))) (x := .int (g + (1 : Int))) (y := .int (1 : Int)) (v := .int (ifB (decide (l = a)) (g + (1 : Int)) (1 : Int))) O (fun Q1 k1 => ?_) (fun L => ⟨by rw [L]; rfl, fun H O Q2 k2 => ?_⟩) (fun L => ⟨by rw [L]; rfl, fun H O Q2 k2 => ?_⟩) (fun H O => ?_)
        · refine ⟨_, rfl, _, rfl, ?_⟩;refine k_eqI ?_;refine ⟨_, rfl, ?_⟩;exact k1 _ O
        · refine ⟨_, rfl, _, _, rfl, rfl, ?_⟩;exact k2 _ O
        · refine o_c ?_;exact k2 _ O
        obtain ⟨aa, ab, hm⟩ := ltvE hm;refine a_set (congrArg V.int ab) ?_;refine o_asg ?_;refine ⟨_, rfl, ?_⟩;have Oz := O
        obtain rfl := sji hm;exact ⟨_, _, _, _, _, rfl, Oz, U⟩
    rintro σ H ⟨j, g, a, p, n, rfl, O, hL⟩
    obtain rfl := loopF_nil hL;replace hm := finNx S;refine o_seq ?_;refine o_ifs ?_;refine ⟨_, rfl, ?_⟩;refine o_c ?_;refine k_eqI ?_;refine ⟨_, rfl, ?_⟩;refine iteS (c := (decide (g = (5 : Int)))) (fun M => ?_) (fun M => ?_)
    · replace hm := ifT hm M;refine o_mkI ?_;refine ⟨_, rfl, ?_⟩;refine x_nil ?_;refine n_len (SqL.of (O.ex _ _ m)) ?_;refine x_nil ?_;refine k_mkI ?_;obtain rfl := sji hm;exact RetE.go (show RetE ad.es (.NoWire (List.length q : Int)) _ E from k) O
    · replace hm := ifF hm M;refine o_next ?_;refine o_ret ?_;refine ⟨_, rfl, ?_⟩;obtain rfl := sji hm;exact RetL.go k O (hd_)
def m__law_no_wire (wire_1 : List Int) (at_3 : Int) : Option (Bool) :=
  bnd (m_taken_out wire_1) fun x_5 =>
  tryR x_5 (fun taken_7 =>
    some false) (fun e_ =>
    ifB (decide (e_.k ∈ ks)) (
      bnd (m__law_known e_ (8 : Int) at_3) fun law_kn_8 =>
      some law_kn_8) none)
def sp__law_no_wire (K : PySem.W.Frag) : Sp := fun vs H Q _ => ∃ (wire_1 : List Int) (a_2 : Addr) (at_3 : Int) (r : Bool), vs = [.ref a_2, .int at_3] ∧ H a_2 = some (.lst (List.map V.int wire_1)) ∧ m__law_no_wire wire_1 at_3 = some r ∧ RetV (.bl r) H Q
abbrev N__law_no_wire : List Str := ["wire", "at", "right", "e"]
theorem sc__law_no_wire : FnScope N__law_no_wire ["wire", "at"] (defScope s__law_no_wire) := ⟨rfl, rfl, rfl, by decide +kernel, rfl, by decide +kernel, by decide +kernel⟩
theorem ok__law_no_wire {ad : Ad} (T : Txt K mg ad) : FnOk P w K mg base CX0 4 ad.f__law_no_wire ad.fd__law_no_wire ["wire", "at"] (sp__law_no_wire K) := by
  have G__law_known := ok__law_known (P := P) (w := w) (base := base) T
  have G_taken_out := ok_taken_out (P := P) (w := w) (base := base) T
  refine T.F__law_no_wire.ok sc__law_no_wire (fun vs H Q E h => ?_) (fun cdv A outer s H vs Q E hr h => ?_)
  · obtain ⟨_, _, _, _, rfl, _⟩ := h
    rfl
  · obtain ⟨g, p, l, r, rfl, b, hm, k⟩ := h;unfold m__law_no_wire at hm;obtain ⟨Hb, hHb⟩ : ∃ Hb : Hp, Hb = H := ⟨H, rfl⟩;obtain ⟨H0, hH0⟩ : ∃ H0 : Hp, H0 = Hb := ⟨Hb, rfl⟩;have O : Own H0 H [] := by rw [hH0, hHb]; exact Own.start H
    rw [← hHb] at k b;rw [← hH0] at b;have eB : Ex Hb H0 := by rw [hH0]; exact Ex.refl _
    clear hH0 hHb;refine ⟨_, (pss_cons (ps_set (i := 2) sc__law_no_wire.nd rfl (Or.inl rfl) pe_bl) (pss_cons (L2N.ps_try_as (i := 3) (tb := fun W => _) rfl rfl sc__law_no_wire.nd rfl rfl ⟨rfl, by decide, .inl T.n_RailError⟩ takesN0 (fun W pn xe tk _ => (pss_one (ps_expr (pe_callS G_taken_out (hr.mono (by decide)) (by rfl) T.g_taken_out T.F_taken_out.kp T.b_taken_out (fun σ => L2N.passAt tk σ) (pa_cons (pv 0) pa_nil))))) (fun a oe cls d pn hz hf => pss_exc (es := ad.es) (ks := ks) fun ex hk hc => (pss_one (ps_set (i := 2) sc__law_no_wire.nd rfl (Or.inl rfl) (pe_callGs (ok__law_known (P := P) (w := w) (base := base) T ex hk) hz hf hc (hr.mono (by decide)) (by rfl) T.g__law_known T.F__law_known.kp T.b__law_known (pa_cons (pv 3) (pa_cons pe_int (pa_cons (pv 1) pa_nil)))))))) (pss_one (ps_ret (pv 2))))), ?_⟩;refine o_seq ?_;refine o_asg ?_;refine o_c ?_;refine o_seq ?_;refine o_drop ?_;obtain ⟨j, m, hm⟩ := bndE hm;refine ⟨_, rfl, ?_⟩;refine x_nil ?_;refine ⟨_, _, j, rfl, (O.ex _ _ b), m, ?_⟩;refine RetR.split (fun e_ c => ?_) (fun f c => ?_)
    · subst c;replace hm := tryEr hm;obtain ⟨hq_, hm⟩ := ifN hm;have hk_ := of_decide_eq_true hq_
      refine RetE.byX fun H1 dd hE hX hN => ?_;obtain ⟨H0, O, e1_, hX⟩ := O.growX hE hX hN;replace b := e1_ _ _ b;replace eB := eB.trans e1_;refine ⟨true, T.EC.xr _ hk_, fun _ a_ ha_ => ?_, fun q => nomatch q⟩;refine ⟨e_, hk_, rfl, ?_⟩;refine o_asg ?_;obtain ⟨e, n, hm⟩ := bndE hm;refine ⟨_, rfl, _, rfl, ?_⟩;refine x_nil ?_;refine ⟨_, rfl, (hX.ext O.ex), _, _, _, rfl, n, ?_⟩;refine O.retV fun H O => ?_;refine o_dn ?_;refine o_ret ?_;refine ⟨_, rfl, ?_⟩;obtain rfl := sji hm;exact RetV.goR k O eB
    subst c;replace hm := tryOk hm;refine O.retL fun o H O => ?_;replace O := O.tl;refine o_ret ?_;refine ⟨_, rfl, ?_⟩;obtain rfl := sji hm;exact RetV.goR k O eB
def m__law_row_C0 (script_1 : List Int) (base_3 : Int) (k_7 : Int) : Option Int :=
  bnd (m__law_draw script_1 (base_3 + k_7) (2 : Int)) fun law_dr_12 =>
  some law_dr_12
def m__law_row (script_1 : List Int) (base_3 : Int) (many_4 : Int) : Option (List Int) :=
  bnd (rng1 many_4) fun rg_5 =>
  bnd (compM (m__law_row_C0 script_1 base_3) rg_5 []) fun l_9 =>
  some l_9
def sp__law_row (K : PySem.W.Frag) : Sp := fun vs H Q _ => ∃ (script_1 : List Int) (a_2 : Addr) (base_3 : Int) (many_4 : Int) (r : List Int), vs = [.ref a_2, .int base_3, .int many_4] ∧ SqL K H a_2 (List.map V.int script_1) ∧ m__law_row script_1 base_3 many_4 = some r ∧ RetL (List.map V.int r) H Q
abbrev N__law_row : List Str := ["script", "base", "many", "k"]
theorem sc__law_row : FnScope N__law_row ["script", "base", "many"] (defScope s__law_row) := ⟨rfl, rfl, rfl, by decide +kernel, rfl, by decide +kernel, by decide +kernel⟩
theorem ok__law_row {ad : Ad} (T : Txt K mg ad) : FnOk P w K mg base CX0 2 ad.f__law_row ad.fd__law_row ["script", "base", "many"] (sp__law_row K) := by
  have G__law_draw := ok__law_draw (P := P) (w := w) (base := base) T
  refine T.F__law_row.ok sc__law_row (fun vs H Q E h => ?_) (fun cdv A outer s H vs Q E hr h => ?_)
  · obtain ⟨_, _, _, _, _, rfl, _⟩ := h
    rfl
  · obtain ⟨c, u, d, f, r, rfl, a, hm, k⟩ := h;unfold m__law_row at hm;obtain ⟨H0, hH0⟩ : ∃ H0 : Hp, H0 = H := ⟨H, rfl⟩;have O : Own H0 H [] := by rw [hH0]; exact Own.start H
    rw [← hH0] at k a;clear hH0;refine ⟨_, (pss_one (ps_ret (pe_lc (own := [("k", 3)]) (g := gName 3) (tt := tYes) rfl sc__law_row.nd (pi_range1 (by rfl) T.z_range (pa_cons (pv 2) pa_nil)) (blkOk_by (own := [("k", 3)]) (N := N__law_row) (sc := defScope s__law_row) (by decide +kernel)) (fun _ _ _ _ _ => pg_name (i := 3) sc__law_row.nd rfl (Or.inl rfl)) (fun _ _ _ _ _ => pts_nil) (fun _ _ _ _ _ => (pe_call G__law_draw (hr.mono (by decide)) (by rfl) T.g__law_draw T.F__law_draw.kp T.b__law_draw .nil pass0 (pa_cons (pv 0) (pa_cons (pe_op op_add (pv 1) (pv 3)) (pa_cons pe_int pa_nil)))))))), ?_⟩;refine o_ret ?_;obtain ⟨o, p, hm⟩ := bndE hm;refine ⟨_, rfl, ?_⟩;refine x_nil ?_;obtain ⟨q, t, rfl⟩ := rng1E p;obtain ⟨j, m, hm⟩ := bndE hm;refine ⟨_, rfl, q, t, fun e hD => k_lcR (fun r H => ∃ acc : List Int, Own H0 H ((e, .lst (List.map V.int acc)) :: []) ∧ compM (m__law_row_C0 c d) r acc = some j) ⟨[], O.new hD, m⟩ ?_ ?_⟩
    · rintro v r H ⟨acc, O, hC⟩
      obtain ⟨y, hm, hz, hC⟩ := compM_cons hC;refine ⟨rfl, ?_⟩;unfold m__law_row_C0 at hm;obtain ⟨b, n, hm⟩ := bndE hm;refine ⟨_, rfl, _, rfl, _, rfl, _, _, rfl, rfl, ?_⟩;refine o_cons ?_;refine o_c ?_;refine x_nil ?_;refine ⟨_, _, _, _, b, rfl, (O.ex.l a), n, ?_⟩;refine O.retV fun H O => ?_;obtain rfl := sji hm;refine ⟨_, O.mem (hd_), (by rw [List.length_map]; exact hz), _, ?_, hC⟩;rw [map_snoc];exact O.put0
    rintro H ⟨acc, O, hC⟩
    obtain rfl := compM_nil hC;obtain rfl := sji hm;exact RetL.go k O (hd_)
def m__law_wires_right_L0 (script_1 : List Int) (k_20 : Int) (bits_9 : List Int) (wire_10 : List Int) (run_11 : Int) : Option ((List Int) × (List Int) × Int) :=
  bnd (m__law_draw script_1 ((700 : Int) + k_20) (2 : Int)) fun law_dr_24 =>
  bnd (ifB (decide ((0 : Int) < (List.length wire_10 : Int))) (bnd (m__law_draw script_1 ((800 : Int) + k_20) (4 : Int)) fun law_dr_28 => some (decide ((0 : Int) < law_dr_28))) (some false)) fun c_30 =>
  bnd (ifB c_30 (
    bnd (atI wire_10 (-(1 : Int))) fun e_34 =>
    some e_34) (
    some law_dr_24)) fun bit_37 =>
  ltv ((ifB (decide ((cutL wire_10 (some (-(1 : Int))) none) = [bit_37])) (run_11 + (1 : Int)) (1 : Int))) fun run_41 =>
  bnd (appG bits_9 bit_37) fun l_43 =>
  bnd (appG wire_10 bit_37) fun l_45 =>
  ifB (decide (run_41 = (5 : Int))) (
    bnd (appG l_45 ((1 : Int) - bit_37)) fun l_48 =>
    some (l_43, l_48, (1 : Int))) (
    some (l_43, l_45, run_41))
def m__law_wires_right (script_1 : List Int) : Option (Bool) :=
  bnd (m__law_draw script_1 (117 : Int) (60 : Int)) fun law_dr_5 =>
  bnd (rng1 law_dr_5) fun rg_7 =>
  bnd (loopM (fun k_20 s => m__law_wires_right_L0 script_1 k_20 s.1 s.2.1 s.2.2) rg_7 (([] : List Int), ([] : List Int), (0 : Int))) fun (bits_14, wire_15, run_16) =>
  bndO (m_taken_out wire_15) fun taken_51 =>
  bnd (m__law_plain taken_51 bits_14) fun law_pl_54 =>
  ifB (!law_pl_54) (
    some false) (
    bnd (m__law_draw script_1 (118 : Int) (2 : Int)) fun law_dr_57 =>
    bnd (ifB (!decide ((cutL wire_15 (some (-(1 : Int))) none) = [law_dr_57])) (
      some (0 : Int)) (
      some run_16)) fun run_65 =>
    ltv ((((List.length wire_15 : Int) - run_65) + (5 : Int))) fun at_67 =>
    bnd (m__law_draw script_1 (119 : Int) (3 : Int)) fun law_dr_70 =>
    bnd (repG ([law_dr_57]) (((5 : Int) - run_65) + law_dr_70)) fun t_72 =>
    bnd (catG wire_15 t_72) fun t_75 =>
    bnd (ifB (decide (at_67 < (List.length t_75 : Int))) (
      bnd (m__law_draw script_1 (140 : Int) (9 : Int)) fun law_dr_81 =>
      bnd (m__law_row script_1 (900 : Int) law_dr_81) fun law_ro_83 =>
      bnd (catG t_75 law_ro_83) fun t_86 =>
      some t_86) (
      some t_75)) fun spoiled_95 =>
    bnd (m__law_no_wire spoiled_95 at_67) fun law_no_97 =>
    some law_no_97)
def sp__law_wires_right (K : PySem.W.Frag) : Sp := fun vs H Q _ => ∃ (script_1 : List Int) (a_2 : Addr) (r : Bool), vs = [.ref a_2] ∧ SqL K H a_2 (List.map V.int script_1) ∧ m__law_wires_right script_1 = some r ∧ RetV (.bl r) H Q
abbrev N__law_wires_right : List Str := ["script", "bits", "wire", "run", "k", "bit", "at", "spoiled"]
theorem sc__law_wires_right : FnScope N__law_wires_right ["script"] (defScope s__law_wires_right) := ⟨rfl, rfl, rfl, by decide +kernel, rfl, by decide +kernel, by decide +kernel⟩
theorem ok__law_wires_right {ad : Ad} (T : Txt K mg ad) : FnOk P w K mg base CX0 5 ad.f__law_wires_right ad.fd__law_wires_right ["script"] (sp__law_wires_right K) := by
  have G__law_draw := ok__law_draw (P := P) (w := w) (base := base) T
  have G__law_no_wire := ok__law_no_wire (P := P) (w := w) (base := base) T
  have G__law_plain := ok__law_plain (P := P) (w := w) (base := base) T
  have G__law_row := ok__law_row (P := P) (w := w) (base := base) T
  have G_taken_out := ok_taken_out (P := P) (w := w) (base := base) T
  refine T.F__law_wires_right.ok sc__law_wires_right (fun vs H Q E h => ?_) (fun cdv A outer s H vs Q E hr h => ?_)
  · obtain ⟨_, _, _, rfl, _⟩ := h
    rfl
  · obtain ⟨t, aa, r, rfl, b, hm, k⟩ := h;unfold m__law_wires_right at hm;obtain ⟨H0, hH0⟩ : ∃ H0 : Hp, H0 = H := ⟨H, rfl⟩;have O : Own H0 H [] := by rw [hH0]; exact Own.start H
    rw [← hH0] at k b;clear hH0;refine ⟨_, (pss_cons (ps_set (i := 1) sc__law_wires_right.nd rfl (Or.inl rfl) (pe_lstQ (pe_lst pa_nil))) (pss_cons (ps_set (i := 2) sc__law_wires_right.nd rfl (Or.inl rfl) (pe_lstQ (pe_lst pa_nil))) (pss_cons (ps_set (i := 3) sc__law_wires_right.nd rfl (Or.inl rfl) pe_int) (pss_cons (ps_for PassesOwn.never rfl (pi_range1 (by rfl) T.z_range (pa_cons (pe_call G__law_draw (hr.mono (by decide)) (by rfl) T.g__law_draw T.F__law_draw.kp T.b__law_draw .nil pass0 (pa_cons (pv 0) (pa_cons pe_int (pa_cons pe_int pa_nil)))) pa_nil)) (pg_name (i := 4) sc__law_wires_right.nd rfl (Or.inl rfl)) (pss_cons (ps_set (i := 5) sc__law_wires_right.nd rfl (Or.inl rfl) (pe_call G__law_draw (hr.mono (by decide)) (by rfl) T.g__law_draw T.F__law_draw.kp T.b__law_draw .nil pass0 (pa_cons (pv 0) (pa_cons (pe_op op_add pe_int (pv 4)) (pa_cons pe_int pa_nil))))) (Evl.pss_cut (ps_if (PW.pt (pw_and (pt_cmpR op_gt (pe_callB (r := rLenQ K) call_lenQ (by rfl) T.z_len PySem.boot_len (pa_cons (pv 2) pa_nil)) pe_int (nomark _)) (pw_and1 (pt_cmpR op_gt (pe_call G__law_draw (hr.mono (by decide)) (by rfl) T.g__law_draw T.F__law_draw.kp T.b__law_draw .nil pass0 (pa_cons (pv 0) (pa_cons (pe_op op_add pe_int (pv 4)) (pa_cons pe_int pa_nil)))) pe_int (nomark _))))) (pss_one (ps_set (i := 5) sc__law_wires_right.nd rfl (Or.inl rfl) (pe_ix (r := rIxL K) ix_list (pv 2) (pe_un un_neg pe_int) (fun _ _ => rfl)))) pss_nil) (pss_cons (ps_set (i := 3) sc__law_wires_right.nd rfl (Or.inl rfl) (pe_ifExp (pt_cmpR (r := rEqD K) (op_eqD hr.units) (pe_slice (r := rSlL K) sl_list (pv 2) (po_some (pe_un un_neg pe_int)) po_none) (pe_lstQ (pe_lst (pa_cons (pv 5) pa_nil))) (nomark _)) (pe_op op_add (pv 3) pe_int) pe_int)) (pss_cons (ps_expr (pe_bm PySem.F.plainAttrs_list PySem.F.slot_list_append PySem.F.type_list_append mt_append (pv 1) (pa_cons (pv 5) pa_nil))) (pss_cons (ps_expr (pe_bm PySem.F.plainAttrs_list PySem.F.slot_list_append PySem.F.type_list_append mt_append (pv 2) (pa_cons (pv 5) pa_nil))) (pss_one (ps_if (pt_cmpR op_eq (pv 3) pe_int (nomark _)) (pss_cons (ps_expr (pe_bm PySem.F.plainAttrs_list PySem.F.slot_list_append PySem.F.type_list_append mt_append (pv 2) (pa_cons (pe_op op_sub pe_int (pv 5)) pa_nil))) (pss_one (ps_set (i := 3) sc__law_wires_right.nd rfl (Or.inl rfl) pe_int))) pss_nil)))))))) (pss_cons (ps_if (pt_not (pt_val (pe_call G__law_plain (hr.mono (by decide)) (by rfl) T.g__law_plain T.F__law_plain.kp T.b__law_plain .nil pass0 (pa_cons (pe_call G_taken_out (hr.mono (by decide)) (by rfl) T.g_taken_out T.F_taken_out.kp T.b_taken_out .nil passN (pa_cons (pe_callTy (r := rListQ K) call_listQ (by rfl) T.z_list (by decide +kernel) (pa_cons (pv 2) pa_nil)) pa_nil)) (pa_cons (pv 1) pa_nil))))) (pss_one (ps_ret pe_bl)) pss_nil) (pss_cons (ps_set (i := 5) sc__law_wires_right.nd rfl (Or.inl rfl) (pe_call G__law_draw (hr.mono (by decide)) (by rfl) T.g__law_draw T.F__law_draw.kp T.b__law_draw .nil pass0 (pa_cons (pv 0) (pa_cons pe_int (pa_cons pe_int pa_nil))))) (Evl.pss_cut (ps_if (pt_cmpR (r := rNeD K) (op_neD hr.units) (pe_slice (r := rSlL K) sl_list (pv 2) (po_some (pe_un un_neg pe_int)) po_none) (pe_lstQ (pe_lst (pa_cons (pv 5) pa_nil))) (nomark _)) (pss_one (ps_set (i := 3) sc__law_wires_right.nd rfl (Or.inl rfl) pe_int)) pss_nil) (pss_cons (ps_set (i := 6) sc__law_wires_right.nd rfl (Or.inl rfl) (pe_op op_add (pe_op op_sub (pe_callB (r := rLenQ K) call_lenQ (by rfl) T.z_len PySem.boot_len (pa_cons (pv 2) pa_nil)) (pv 3)) pe_int)) (pss_cons (ps_set (i := 7) sc__law_wires_right.nd rfl (Or.inl rfl) (pe_op op_cat (pv 2) (pe_op op_rep (pe_lstQ (pe_lst (pa_cons (pv 5) pa_nil))) (pe_op op_add (pe_op op_sub pe_int (pv 3)) (pe_call G__law_draw (hr.mono (by decide)) (by rfl) T.g__law_draw T.F__law_draw.kp T.b__law_draw .nil pass0 (pa_cons (pv 0) (pa_cons pe_int (pa_cons pe_int pa_nil)))))))) (Evl.pss_cut (ps_if (pt_cmpR op_gt (pe_callB (r := rLenQ K) call_lenQ (by rfl) T.z_len PySem.boot_len (pa_cons (pv 7) pa_nil)) (pv 6) (nomark _)) (pss_one (ps_set (i := 7) sc__law_wires_right.nd rfl (Or.inl rfl) (pe_op op_cat (pv 7) (pe_call G__law_row (hr.mono (by decide)) (by rfl) T.g__law_row T.F__law_row.kp T.b__law_row .nil pass0 (pa_cons (pv 0) (pa_cons pe_int (pa_cons (pe_call G__law_draw (hr.mono (by decide)) (by rfl) T.g__law_draw T.F__law_draw.kp T.b__law_draw .nil pass0 (pa_cons (pv 0) (pa_cons pe_int (pa_cons pe_int pa_nil)))) pa_nil))))))) pss_nil) (pss_one (ps_ret (pe_call G__law_no_wire (hr.mono (by decide)) (by rfl) T.g__law_no_wire T.F__law_no_wire.kp T.b__law_no_wire .nil pass0 (pa_cons (pv 7) (pa_cons (pv 6) pa_nil))))))))))))))), ?_⟩
    refine o_seq ?_;refine o_asg ?_;refine x_nil ?_;refine n_lst (f := V.int) (xs := ([] : List Int)) O rfl (Nat.zero_le _) fun z H O => ?_;refine o_seq ?_;refine o_asg ?_;refine x_nil ?_;refine n_lst (f := V.int) (xs := ([] : List Int)) O rfl (Nat.zero_le _) fun o H O => ?_;refine o_seq ?_;refine o_asg ?_;refine o_c ?_;refine o_seq ?_;refine o_for ?_;obtain ⟨L, h6, hm⟩ := bndE hm;refine ⟨_, rfl, ?_⟩;refine o_cons ?_;refine o_c ?_;refine o_cons ?_;refine o_c ?_;refine x_nil ?_;refine ⟨_, _, _, _, L, rfl, (O.ex.l b), h6, ?_⟩;refine O.retV fun H O => ?_;obtain ⟨a0, h8, hm⟩ := bndE hm;refine x_nil ?_;obtain ⟨c1, c2, rfl⟩ := rng1E h8;obtain ⟨⟨Z, m, ab⟩, aG, hm⟩ := bndE hm;refine ⟨_, rfl, c1, c2, q_forR (fun r σ H => ∃ (n : List Int) (a : List Int) (g : Int) (M : Option V) (N : Option V), σ = [some (.ref aa), some (.ref z), some (.ref o), some (.int g), M, N, none, none] ∧ Own H0 H [(z, .lst (List.map V.int n)), (o, .lst (List.map V.int a))] ∧ loopM (fun S s => m__law_wires_right_L0 t S s.1 s.2.1 s.2.2) r (n, a, g) = some (Z, m, ab)) ⟨([] : List Int), ([] : List Int), _, _, _, rfl, (Own.pk (L' := [(z, .lst (List.map V.int ([] : List Int))), (o, .lst (List.map V.int ([] : List Int)))]) O [1, 0] (by decide) rfl), aG⟩ ?_ ?_⟩
    · rintro S r σ H ⟨n, a, g, M, N, rfl, O, hL⟩
      obtain ⟨s_, hm, aA⟩ := loopM_cons hL;replace hm : m__law_wires_right_L0 t S n a g = some s_ := hm;unfold m__law_wires_right_L0 at hm;refine o_seq ?_;refine o_asg ?_;obtain ⟨B, aH, hm⟩ := bndE hm;refine ⟨_, rfl, _, rfl, _, _, rfl, rfl, ?_⟩;refine o_cons ?_;refine o_c ?_;refine x_nil ?_;refine ⟨_, _, _, _, B, rfl, (O.ex.l b), aH, ?_⟩;refine O.retV fun H O => ?_;obtain ⟨U, aB, hm⟩ := bndE hm;obtain ⟨p, aC, hm⟩ := bndE hm;refine o_cut (fun σ H => ∃ (ac : Option V), σ = [some (.ref aa), some (.ref z), some (.ref o), some (.int g), ac, some (.int p), none, none] ∧ Own H0 H [(z, .lst (List.map V.int n)), (o, .lst (List.map V.int a))]) ?_ ?_
      · refine o_ifs ?_;refine x_and (c := decide ((0 : Int) < (List.length a : Int))) (e := U) (d := U) O (fun Q1 k1 => ?_) (fun ae => ⟨rfl, fun H O Q2 k2 => ?_⟩) (fun ae => sji (ifF aB ae)) (fun H O => ?_)
        · refine ⟨_, rfl, ?_⟩;refine x_nil ?_;refine n_len (SqL.of (O.mem (tl_ (hd_)))) ?_;refine ⟨_, _, rfl, rfl, _, rfl, ?_⟩;exact k1 _ O
        · replace hm := ifT aB ae;obtain ⟨C, aI, hm⟩ := bndE hm;obtain rfl := sji hm;refine ⟨_, rfl, _, rfl, _, _, rfl, rfl, ?_⟩;refine o_cons ?_;refine o_c ?_;refine x_nil ?_;refine ⟨_, _, _, _, C, rfl, (O.ex.l b), aI, ?_⟩;refine O.retV fun H O => ?_;refine ⟨_, _, rfl, rfl, _, rfl, ?_⟩;exact k2 _ O
        refine iteS (c := U) (fun af => ?_) (fun af => ?_)
        · replace hm := ifT aC af;refine o_asg ?_;obtain ⟨a4, aJ, hm⟩ := bndE hm;refine ⟨_, rfl, _, rfl, ?_⟩;refine k_ixL (f := V.int) (SqL.of (O.mem (tl_ (hd_)))) aJ ?_;have Oz := O
          have hq_ := sji hm
          subst hq_;exact ⟨_, rfl, Oz⟩
        · replace hm := ifF aC af;refine o_next ?_;have Oz := O
          have hq_ := sji hm
          subst hq_;exact ⟨_, rfl, Oz⟩
      rintro σ H ⟨ac, rfl, O⟩
      refine o_seq ?_;refine o_asg ?_;refine x_if (c := (decide ((cutL a (some (-(1 : Int))) none) = [p]))) (x := .int (g + (1 : Int))) (y := .int (1 : Int)) (v := .int (ifB (decide ((cutL a (some (-(1 : Int))) none) = [p])) (g + (1 : Int)) (1 : Int))) O (fun Q1 k1 => ?_) (fun ag => ⟨by rw [ag]; rfl, fun H O Q2 k2 => ?_⟩) (fun ag => ⟨by rw [ag]; rfl, fun H O Q2 k2 => ?_⟩) (fun H O => ?_)
      · refine ⟨_, rfl, _, rfl, _, rfl, ?_⟩;refine x_np ?_;refine k_cut (f := V.int) O (SqL.of (O.mem (tl_ (hd_)))) fun a5 H O => ?_;refine ⟨_, rfl, ?_⟩;refine x_nil ?_;refine n_lst (f := V.int) (xs := [p]) O rfl (by show 1 ≤ sizeLine; decide) fun a6 H O => ?_;refine k_eqLI (SqL.of (O.mem (tl_ (hd_)))) (SqL.of (O.mem (hd_))) ?_;refine ⟨_, rfl, ?_⟩;replace O := O.tl.tl;exact k1 _ O
      · refine ⟨_, rfl, _, _, rfl, rfl, ?_⟩;exact k2 _ O
      · refine o_c ?_;exact k2 _ O
      obtain ⟨ah, aK, hm⟩ := ltvE hm;refine a_set (congrArg V.int aK) ?_;refine o_seq ?_;refine o_drop ?_;obtain ⟨a7, aL, hm⟩ := bndE hm;refine ⟨_, rfl, .inl ⟨rfl, _, (SqL.of (O.mem (hd_)))⟩, _, rfl, ?_⟩;refine x_nil ?_;refine k_app (f := V.int) (O.mem (hd_)) (fun _ => O.put0) aL fun H O => ?_;refine o_seq ?_;refine o_drop ?_;obtain ⟨a8, aM, hm⟩ := bndE hm;refine ⟨_, rfl, .inl ⟨rfl, _, (SqL.of (O.mem (tl_ (hd_))))⟩, _, rfl, ?_⟩;refine x_nil ?_;refine k_app (f := V.int) (O.mem (tl_ (hd_))) (fun _ => O.put1) aM fun H O => ?_;refine o_ifs ?_;refine ⟨_, rfl, ?_⟩;refine o_c ?_;refine k_eqI ?_;refine ⟨_, rfl, ?_⟩;refine iteS (c := (decide (ah = (5 : Int)))) (fun ai => ?_) (fun ai => ?_)
      · replace hm := ifT hm ai;refine o_seq ?_;refine o_drop ?_;obtain ⟨a9, aN, hm⟩ := bndE hm;refine ⟨_, rfl, .inl ⟨rfl, _, (SqL.of (O.mem (tl_ (hd_))))⟩, _, rfl, _, _, rfl, rfl, ?_⟩;refine x_nil ?_;refine k_app (f := V.int) (O.mem (tl_ (hd_))) (fun _ => O.put1) aN fun H O => ?_;refine o_asg ?_;refine o_c ?_;have Oz := O
        obtain rfl := sji hm;exact ⟨_, _, _, _, _, rfl, Oz, aA⟩
      · replace hm := ifF hm ai;refine o_next ?_;have Oz := O
        obtain rfl := sji hm;exact ⟨_, _, _, _, _, rfl, Oz, aA⟩
    rintro σ H ⟨n, a, g, M, N, rfl, O, hL⟩
    cases loopM_nil hL
    refine o_seq ?_;refine o_ifs ?_;refine ⟨_, rfl, ?_⟩;refine x_nil ?_;refine n_list O (SqL.of (O.mem (tl_ (hd_)))) fun ba H O => ?_;obtain ⟨W, aO, hm⟩ := bndOE hm;refine x_nil ?_;refine ⟨_, _, .ok W, rfl, (O.mem (hd_)), aO, ?_⟩;refine RetR.ok ?_;refine O.retL fun bb H O => ?_;obtain ⟨q, aP, hm⟩ := bndE hm;refine ⟨_, rfl, ?_⟩;refine x_nil ?_;refine ⟨_, _, _, _, q, rfl, (O.mem (hd_)), (O.mem (tl_ (tl_ (hd_)))), aP, ?_⟩;refine O.retV fun H O => ?_;refine ⟨_, rfl, ?_⟩;replace O := O.tl.tl;refine iteS (c := (!q)) (fun aj => ?_) (fun aj => ?_)
    · replace hm := ifT hm aj;refine o_ret ?_;refine o_c ?_;obtain rfl := sji hm;exact RetV.go k O
    · replace hm := ifF hm aj;refine o_next ?_;refine o_seq ?_;refine o_asg ?_;obtain ⟨j, aQ, hm⟩ := bndE hm;refine ⟨_, rfl, ?_⟩;refine o_cons ?_;refine o_c ?_;refine o_cons ?_;refine o_c ?_;refine x_nil ?_;refine ⟨_, _, _, _, j, rfl, (O.ex.l b), aQ, ?_⟩;refine O.retV fun H O => ?_;obtain ⟨ak, aD, hm⟩ := bndE hm;refine o_cut (fun σ H => ∃ (al : Option V) (am : Option V), σ = [some (.ref aa), al, some (.ref o), some (.int ak), am, some (.int j), none, none] ∧ Own H0 H [(o, .lst (List.map V.int m))]) ?_ ?_
      · refine o_ifs ?_;refine ⟨_, rfl, _, rfl, _, rfl, ?_⟩;refine x_np ?_;refine k_cut (f := V.int) O (SqL.of (O.mem (tl_ (hd_)))) fun bc H O => ?_;refine ⟨_, rfl, ?_⟩;refine x_nil ?_;refine n_lst (f := V.int) (xs := [j]) O rfl (by show 1 ≤ sizeLine; decide) fun bd H O => ?_;refine k_neLI (SqL.of (O.mem (tl_ (hd_)))) (SqL.of (O.mem (hd_))) ?_;refine ⟨_, rfl, ?_⟩;replace O := O.tl.tl;refine iteS (c := (!decide ((cutL m (some (-(1 : Int))) none) = [j]))) (fun an => ?_) (fun an => ?_)
        · replace hm := ifT aD an;refine o_asg ?_;refine o_c ?_;have Oz := O
          have hq_ := sji hm
          subst hq_;exact ⟨_, _, rfl, (Own.pk (L' := [(o, .lst (List.map V.int m))]) Oz [1] (by decide) rfl)⟩
        · replace hm := ifF aD an;refine o_next ?_;have Oz := O
          have hq_ := sji hm
          subst hq_;exact ⟨_, _, rfl, (Own.pk (L' := [(o, .lst (List.map V.int m))]) Oz [1] (by decide) rfl)⟩
      rintro σ H ⟨al, am, rfl, O⟩
      refine o_seq ?_;refine o_asg ?_;refine ⟨_, rfl, ?_⟩;refine x_nil ?_;refine n_len (SqL.of (O.mem (hd_))) ?_;refine ⟨_, rfl, _, _, rfl, rfl, _, _, rfl, rfl, ?_⟩;obtain ⟨Y, aR, hm⟩ := ltvE hm;refine a_set (congrArg V.int aR) ?_;refine o_seq ?_;refine o_asg ?_;refine ⟨_, rfl, _, rfl, ?_⟩;refine x_nil ?_;refine n_lst (f := V.int) (xs := [j]) O rfl (by show 1 ≤ sizeLine; decide) fun be H O => ?_;obtain ⟨D, aS, hm⟩ := bndE hm;refine ⟨_, rfl, _, _, rfl, rfl, _, rfl, ?_⟩;refine o_cons ?_;refine o_c ?_;refine o_cons ?_;refine o_c ?_;refine x_nil ?_;refine ⟨_, _, _, _, D, rfl, (O.ex.l b), aS, ?_⟩;refine O.retV fun H O => ?_;obtain ⟨bf, aT, hm⟩ := bndE hm;refine ⟨_, _, rfl, rfl, ?_⟩;refine k_rep (f := V.int) O (O.mem (hd_)) aT fun bg H O => ?_;obtain ⟨ao, aU, hm⟩ := bndE hm;refine k_cat (f := V.int) O (O.mem (tl_ (tl_ (hd_)))) (O.mem (hd_)) aU fun ap H O => ?_;obtain ⟨u, aE, hm⟩ := bndE hm;refine o_cut (fun σ H => ∃ (X : Addr) (aq : Option V) (ar : Option V) (au : Option V) (av : Option V) (aw : Option V) (ax : Option V), σ = [aq, ar, au, av, aw, ax, some (.int Y), some (.ref X)] ∧ Own H0 H [(X, .lst (List.map V.int u))]) ?_ ?_
      · refine o_ifs ?_;refine ⟨_, rfl, ?_⟩;refine x_nil ?_;refine n_len (SqL.of (O.mem (hd_))) ?_;refine ⟨_, rfl, _, _, rfl, rfl, _, rfl, ?_⟩;refine iteS (c := decide (Y < (List.length ao : Int))) (fun ay => ?_) (fun ay => ?_)
        · replace hm := ifT aE ay;refine o_asg ?_;obtain ⟨G, aV, hm⟩ := bndE hm;refine ⟨_, rfl, _, rfl, _, rfl, ?_⟩;refine o_cons ?_;refine o_c ?_;refine o_cons ?_;refine o_c ?_;refine x_nil ?_;refine ⟨_, _, _, _, G, rfl, (O.ex.l b), aV, ?_⟩;refine O.retV fun H O => ?_;obtain ⟨I, aW, hm⟩ := bndE hm;refine x_nil ?_;refine ⟨_, _, _, _, I, rfl, (O.ex.l b), aW, ?_⟩;refine O.retL fun bh H O => ?_;obtain ⟨aF, aX, hm⟩ := bndE hm;refine k_cat (f := V.int) O (O.mem (tl_ (hd_))) (O.mem (hd_)) aX fun az H O => ?_;have Oz := O
          have hq_ := sji hm
          subst hq_;exact ⟨az, _, _, _, _, _, _, rfl, (Own.pk (L' := [(az, .lst (List.map V.int aF))]) Oz [0] (by decide) rfl)⟩
        · replace hm := ifF aE ay;refine o_next ?_;have Oz := O
          have hq_ := sji hm
          subst hq_;exact ⟨ap, _, _, _, _, _, _, rfl, (Own.pk (L' := [(ap, .lst (List.map V.int ao))]) Oz [0] (by decide) rfl)⟩
      rintro σ H ⟨X, aq, ar, au, av, aw, ax, rfl, O⟩
      refine o_ret ?_;obtain ⟨J, aY, hm⟩ := bndE hm;refine ⟨_, rfl, _, rfl, ?_⟩;refine x_nil ?_;refine ⟨_, _, _, J, rfl, (O.mem (hd_)), aY, ?_⟩;refine O.retV fun H O => ?_;obtain rfl := sji hm;exact RetV.go k O
def m__law_no_bits (number_1 : Int) (many_2 : Int) : Option (Bool) :=
  bnd (m_bits_of number_1 many_2) fun x_4 =>
  tryR x_4 (fun bits_o_6 =>
    some false) (fun e_ =>
    ifB (okE ks e_) (
      bnd (m__law_known e_ (0 : Int) (-(1 : Int))) fun law_kn_7 =>
      some law_kn_7) none)
def sp__law_no_bits (K : PySem.W.Frag) : Sp := fun vs H Q _ => ∃ (number_1 : Int) (many_2 : Int) (r : Bool), vs = [.int number_1, .int many_2] ∧ m__law_no_bits number_1 many_2 = some r ∧ RetV (.bl r) H Q
abbrev N__law_no_bits : List Str := ["number", "many", "right", "e"]
theorem sc__law_no_bits : FnScope N__law_no_bits ["number", "many"] (defScope s__law_no_bits) := ⟨rfl, rfl, rfl, by decide +kernel, rfl, by decide +kernel, by decide +kernel⟩
theorem ok__law_no_bits {ad : Ad} (T : Txt K mg ad) : FnOk P w K mg base CX0 3 ad.f__law_no_bits ad.fd__law_no_bits ["number", "many"] (sp__law_no_bits K) := by
  have G__law_known := ok__law_known (P := P) (w := w) (base := base) T
  have G_bits_of := ok_bits_of (P := P) (w := w) (base := base) T
  refine T.F__law_no_bits.ok sc__law_no_bits (fun vs H Q E h => ?_) (fun cdv A outer s H vs Q E hr h => ?_)
  · obtain ⟨_, _, _, rfl, _⟩ := h
    rfl
  · obtain ⟨b, g, r, rfl, hm, k⟩ := h;unfold m__law_no_bits at hm;obtain ⟨H0, hH0⟩ : ∃ H0 : Hp, H0 = H := ⟨H, rfl⟩;have O : Own H0 H [] := by rw [hH0]; exact Own.start H
    rw [← hH0] at k;clear hH0;refine ⟨_, (pss_cons (ps_set (i := 2) sc__law_no_bits.nd rfl (Or.inl rfl) pe_bl) (pss_cons (L2N.ps_try_as (i := 3) (tb := fun W => _) rfl rfl sc__law_no_bits.nd rfl rfl ⟨rfl, by decide, .inl T.n_RailError⟩ takesN0 (fun W pn xe tk _ => (pss_one (ps_expr (pe_callS G_bits_of (hr.mono (by decide)) (by rfl) T.g_bits_of T.F_bits_of.kp T.b_bits_of (fun σ => L2N.passAt tk σ) (pa_cons (pv 0) (pa_cons (pv 1) pa_nil)))))) (fun a oe cls d pn hz hf => pss_exc (es := ad.es) (ks := ks) fun ex hk hc => (pss_one (ps_set (i := 2) sc__law_no_bits.nd rfl (Or.inl rfl) (pe_callGs (ok__law_known (P := P) (w := w) (base := base) T ex hk) hz hf hc (hr.mono (by decide)) (by rfl) T.g__law_known T.F__law_known.kp T.b__law_known (pa_cons (pv 3) (pa_cons pe_int (pa_cons (pe_un un_neg pe_int) pa_nil)))))))) (pss_one (ps_ret (pv 2))))), ?_⟩;refine o_seq ?_;refine o_asg ?_;refine o_c ?_;refine o_seq ?_;refine o_drop ?_;obtain ⟨j, l, hm⟩ := bndE hm;refine ⟨_, rfl, _, rfl, ?_⟩;refine x_nil ?_;refine ⟨_, _, j, rfl, l, ?_⟩;refine RetR.split (fun e_ c => ?_) (fun e c => ?_)
    · subst c;replace hm := tryEr hm;obtain ⟨hq_, hm⟩ := ifN hm;obtain ⟨hp_, hk_⟩ := okE_iff hq_;refine RetE.byP hp_ fun H1 hE => ?_;replace O := O.ext hE;refine ⟨true, T.EC.xr _ hk_, fun _ a_ ha_ => ?_, fun q => nomatch q⟩;refine ⟨e_, hk_, rfl, ?_⟩;refine o_asg ?_;obtain ⟨f, m, hm⟩ := bndE hm;refine ⟨_, rfl, _, rfl, ?_⟩;refine x_nil ?_;refine ⟨_, rfl, (XFl.of hp_), _, _, _, rfl, m, ?_⟩;refine O.retV fun H O => ?_;refine o_dn ?_;refine o_ret ?_;refine ⟨_, rfl, ?_⟩;obtain rfl := sji hm;exact RetV.go k O
    subst c;replace hm := tryOk hm;refine O.retL fun n H O => ?_;replace O := O.tl;refine o_ret ?_;refine ⟨_, rfl, ?_⟩;obtain rfl := sji hm;exact RetV.go k O
def m__law_numbers_right (script_1 : List Int) : Option (Bool) :=
  bnd (m__law_draw script_1 (101 : Int) (129 : Int)) fun law_dr_3 =>
  bnd (m__law_row script_1 (200 : Int) law_dr_3) fun law_ro_5 =>
  bnd (m__law_worth law_ro_5) fun law_wo_8 =>
  bndO (m_bits_of law_wo_8 law_dr_3) fun bits_o_10 =>
  bnd (m__law_plain bits_o_10 law_ro_5) fun law_pl_13 =>
  ifB (!law_pl_13) (
    some false) (
    bnd (m__law_draw script_1 (102 : Int) (9 : Int)) fun law_dr_16 =>
    bnd (shlG ((1 : Int) + law_dr_16) law_dr_3) fun t_18 =>
    ltv ((law_wo_8 + t_18)) fun beyond_20 =>
    bnd (m__law_no_bits beyond_20 law_dr_3) fun law_no_23 =>
    bnd (ifB law_no_23 (bnd (m__law_no_bits ((-(1 : Int)) - law_wo_8) law_dr_3) fun law_no_25 => some law_no_25) (some false)) fun c_27 =>
    some c_27)
def sp__law_numbers_right (K : PySem.W.Frag) : Sp := fun vs H Q _ => ∃ (script_1 : List Int) (a_2 : Addr) (r : Bool), vs = [.ref a_2] ∧ SqL K H a_2 (List.map V.int script_1) ∧ m__law_numbers_right script_1 = some r ∧ RetV (.bl r) H Q
abbrev N__law_numbers_right : List Str := ["script", "many", "bits", "number", "beyond"]
theorem sc__law_numbers_right : FnScope N__law_numbers_right ["script"] (defScope s__law_numbers_right) := ⟨rfl, rfl, rfl, by decide +kernel, rfl, by decide +kernel, by decide +kernel⟩
theorem ok__law_numbers_right {ad : Ad} (T : Txt K mg ad) : FnOk P w K mg base CX0 4 ad.f__law_numbers_right ad.fd__law_numbers_right ["script"] (sp__law_numbers_right K) := by
  have G__law_draw := ok__law_draw (P := P) (w := w) (base := base) T
  have G__law_no_bits := ok__law_no_bits (P := P) (w := w) (base := base) T
  have G__law_plain := ok__law_plain (P := P) (w := w) (base := base) T
  have G__law_row := ok__law_row (P := P) (w := w) (base := base) T
  have G__law_worth := ok__law_worth (P := P) (w := w) (base := base) T
  have G_bits_of := ok_bits_of (P := P) (w := w) (base := base) T
  refine T.F__law_numbers_right.ok sc__law_numbers_right (fun vs H Q E h => ?_) (fun cdv A outer s H vs Q E hr h => ?_)
  · obtain ⟨_, _, _, rfl, _⟩ := h
    rfl
  · obtain ⟨y, U, r, rfl, a, hm, k⟩ := h;unfold m__law_numbers_right at hm;obtain ⟨H0, hH0⟩ : ∃ H0 : Hp, H0 = H := ⟨H, rfl⟩;have O : Own H0 H [] := by rw [hH0]; exact Own.start H
    rw [← hH0] at k a;clear hH0;refine ⟨_, (pss_cons (ps_set (i := 1) sc__law_numbers_right.nd rfl (Or.inl rfl) (pe_call G__law_draw (hr.mono (by decide)) (by rfl) T.g__law_draw T.F__law_draw.kp T.b__law_draw .nil pass0 (pa_cons (pv 0) (pa_cons pe_int (pa_cons pe_int pa_nil))))) (pss_cons (ps_set (i := 2) sc__law_numbers_right.nd rfl (Or.inl rfl) (pe_call G__law_row (hr.mono (by decide)) (by rfl) T.g__law_row T.F__law_row.kp T.b__law_row .nil pass0 (pa_cons (pv 0) (pa_cons pe_int (pa_cons (pv 1) pa_nil))))) (pss_cons (ps_set (i := 3) sc__law_numbers_right.nd rfl (Or.inl rfl) (pe_call G__law_worth (hr.mono (by decide)) (by rfl) T.g__law_worth T.F__law_worth.kp T.b__law_worth .nil pass0 (pa_cons (pv 2) pa_nil))) (pss_cons (ps_if (pt_not (pt_val (pe_call G__law_plain (hr.mono (by decide)) (by rfl) T.g__law_plain T.F__law_plain.kp T.b__law_plain .nil pass0 (pa_cons (pe_call G_bits_of (hr.mono (by decide)) (by rfl) T.g_bits_of T.F_bits_of.kp T.b_bits_of .nil passN (pa_cons (pv 3) (pa_cons (pv 1) pa_nil))) (pa_cons (pv 2) pa_nil))))) (pss_one (ps_ret pe_bl)) pss_nil) (pss_cons (ps_set (i := 4) sc__law_numbers_right.nd rfl (Or.inl rfl) (pe_op op_add (pv 3) (pe_op op_shlW (pe_op op_add pe_int (pe_call G__law_draw (hr.mono (by decide)) (by rfl) T.g__law_draw T.F__law_draw.kp T.b__law_draw .nil pass0 (pa_cons (pv 0) (pa_cons pe_int (pa_cons pe_int pa_nil))))) (pv 1)))) (pss_one (ps_ret (pe_and (pe_call G__law_no_bits (hr.mono (by decide)) (by rfl) T.g__law_no_bits T.F__law_no_bits.kp T.b__law_no_bits .nil pass0 (pa_cons (pv 4) (pa_cons (pv 1) pa_nil))) (pe_one (pe_call G__law_no_bits (hr.mono (by decide)) (by rfl) T.g__law_no_bits T.F__law_no_bits.kp T.b__law_no_bits .nil pass0 (pa_cons (pe_op op_sub (pe_un un_neg pe_int) (pv 3)) (pa_cons (pv 1) pa_nil)))))))))))), ?_⟩;refine o_seq ?_;refine o_asg ?_;obtain ⟨n, J, hm⟩ := bndE hm;refine ⟨_, rfl, ?_⟩;refine o_cons ?_;refine o_c ?_;refine o_cons ?_;refine o_c ?_;refine x_nil ?_;refine ⟨_, _, _, _, n, rfl, (O.ex.l a), J, ?_⟩;refine O.retV fun H O => ?_;refine o_seq ?_;refine o_asg ?_;obtain ⟨o, L, hm⟩ := bndE hm;refine ⟨_, rfl, _, rfl, ?_⟩;refine x_nil ?_;refine ⟨_, _, _, _, o, rfl, (O.ex.l a), L, ?_⟩;refine O.retL fun W H O => ?_;refine o_seq ?_;refine o_asg ?_;obtain ⟨p, M, hm⟩ := bndE hm;refine ⟨_, rfl, ?_⟩;refine x_nil ?_;refine ⟨_, _, p, rfl, (O.mem (hd_)), M, ?_⟩;refine O.retV fun H O => ?_;refine o_seq ?_;refine o_ifs ?_;obtain ⟨g, z, hm⟩ := bndOE hm;refine ⟨_, rfl, _, rfl, ?_⟩;refine x_nil ?_;refine ⟨_, _, .ok g, rfl, z, ?_⟩;refine RetR.ok ?_;refine O.retL fun N H O => ?_;obtain ⟨b, B, hm⟩ := bndE hm;refine ⟨_, rfl, ?_⟩;refine x_nil ?_;refine ⟨_, _, _, _, b, rfl, (O.mem (hd_)), (O.mem (tl_ (hd_))), B, ?_⟩;refine O.retV fun H O => ?_;refine ⟨_, rfl, ?_⟩;replace O := O.tl;refine iteS (c := (!b)) (fun q => ?_) (fun q => ?_)
    · replace hm := ifT hm q;refine o_ret ?_;refine o_c ?_;obtain rfl := sji hm;exact RetV.go k O
    · replace hm := ifF hm q;refine o_next ?_;refine o_seq ?_;refine o_asg ?_;obtain ⟨j, C, hm⟩ := bndE hm;refine ⟨_, rfl, _, rfl, ?_⟩;refine o_cons ?_;refine o_c ?_;refine o_cons ?_;refine o_c ?_;refine x_nil ?_;refine ⟨_, _, _, _, j, rfl, (O.ex.l a), C, ?_⟩;refine O.retV fun H O => ?_;obtain ⟨S, D, hm⟩ := bndE hm;refine ⟨_, _, rfl, rfl, _, rfl, ?_⟩;refine k_shl D ?_;refine ⟨_, _, rfl, rfl, ?_⟩;obtain ⟨v, F, hm⟩ := ltvE hm;refine a_set (congrArg V.int F) ?_;refine o_ret ?_;obtain ⟨f, G, hm⟩ := bndE hm;obtain ⟨t, x, hm⟩ := bndE hm;refine x_andV (c := f) (e := t) (d := t) O (fun Q1 k1 => ?_) (fun u => ⟨rfl, fun H O Q2 k2 => ?_⟩) (fun u => sji (ifF x u)) (fun H O => ?_)
      · refine ⟨_, rfl, _, rfl, ?_⟩;refine x_nil ?_;refine ⟨_, _, f, rfl, G, ?_⟩;refine O.retV fun H O => ?_;exact k1 _ O
      · replace hm := ifT x u;obtain ⟨m, I, hm⟩ := bndE hm;obtain rfl := sji hm;refine ⟨_, rfl, _, rfl, _, _, rfl, rfl, _, rfl, ?_⟩;refine x_nil ?_;refine ⟨_, _, m, rfl, I, ?_⟩;refine O.retV fun H O => ?_;exact k2 _ O
      obtain rfl := sji hm;exact RetV.go k O
def m_bit_at (name_1 : Int) (k_2 : Int) : Option (Int) :=
  bnd (shrG name_1 ((7 : Int) - k_2)) fun t_3 =>
  some (Builtin.bitAnd t_3 (1 : Int))
def sp_bit_at (K : PySem.W.Frag) : Sp := fun vs H Q _ => ∃ (name_1 : Int) (k_2 : Int) (r : Int), vs = [.int name_1, .int k_2] ∧ m_bit_at name_1 k_2 = some r ∧ RetV (.int r) H Q
abbrev N_bit_at : List Str := ["name", "k"]
theorem sc_bit_at : FnScope N_bit_at ["name", "k"] (defScope s_bit_at) := ⟨rfl, rfl, rfl, by decide +kernel, rfl, by decide +kernel, by decide +kernel⟩
theorem ok_bit_at {ad : Ad} (T : Txt K mg ad) : FnOk P w K mg base CX0 1 ad.f_bit_at ad.fd_bit_at ["name", "k"] (sp_bit_at K) := by
  refine T.F_bit_at.ok sc_bit_at (fun vs H Q E h => ?_) (fun cdv A outer s H vs Q E hr h => ?_)
  · obtain ⟨_, _, _, rfl, _⟩ := h
    rfl
  · obtain ⟨a, c, r, rfl, hm, k⟩ := h;unfold m_bit_at at hm;obtain ⟨H0, hH0⟩ : ∃ H0 : Hp, H0 = H := ⟨H, rfl⟩;have O : Own H0 H [] := by rw [hH0]; exact Own.start H
    rw [← hH0] at k;clear hH0;refine ⟨_, (pss_one (ps_ret (pe_op op_and (pe_op op_shr (pv 0) (pe_op op_sub pe_int (pv 1))) pe_int))), ?_⟩;refine o_ret ?_;obtain ⟨d, b, hm⟩ := bndE hm;refine ⟨_, rfl, _, rfl, _, _, rfl, rfl, ?_⟩;refine k_shr b ?_;refine ⟨_, _, rfl, rfl, ?_⟩;obtain rfl := sji hm;exact RetV.go k O
def m_duel_L0  (name_14 : Int) : Option (Fl (Unit) (Rs (List (Int × (List Int))))) :=
  bnd (m_is_name name_14) fun is_nam_18 =>
  ifB (!is_nam_18) (
    some (.rt (.er .NoName))) (
    some (.nx ()))
def m_duel_C2 (k_38 : Int) (name_42 : Int) : Option Int :=
  bnd (m_bit_at name_42 k_38) fun bit_at_50 =>
  some bit_at_50
def m_duel_C3  (name_54 : Int) : Option Int :=
  
  some name_54
def m_duel_C3t (k_38 : Int) (m_52 : Int) (name_54 : Int) : Option Bool :=
  bnd (m_bit_at name_54 k_38) fun bit_at_62 =>
  some (decide (bit_at_62 = m_52))
def m_duel_L1  (k_38 : Int) (told_27 : List (Int × (List Int))) (still_29 : List Int) : Option ((List (Int × (List Int))) × (List Int)) :=
  bnd (compM (m_duel_C2 k_38) still_29 []) fun l_43 =>
  bnd (minG l_43) fun m_52 =>
  bnd (compT (m_duel_C3t k_38 m_52) (m_duel_C3) still_29 []) fun l_55 =>
  bnd (appG told_27 (m_52, l_55)) fun l_66 =>
  some (l_66, l_55)
def m_duel (names_1 : List Int) : Option (Rs (List (Int × (List Int)))) :=
  bnd (ifB (decide ((List.length names_1 : Int) = (0 : Int))) (some true) (bnd (lenSet names_1) fun n_5 => some (decide (n_5 < (List.length names_1 : Int))))) fun c_7 =>
  ifB c_7 (
    some (.er .NoName)) (
    fin (loopF (fun name_14 (_ : Unit) => m_duel_L0 name_14) names_1 ()) fun _ =>
    bnd (rng1 (8 : Int)) fun rg_23 =>
    bnd (loopM (fun k_38 s => m_duel_L1 k_38 s.1 s.2) rg_23 (([] : List (Int × (List Int))), names_1)) fun (told_33, still_34) =>
    some (.ok told_33))
def sp_duel (K : PySem.W.Frag) (ad : Ad) (d : Eds) : Sp := fun vs H Q E => ∃ (names_1 : List Int) (a_2 : Addr) (R0 : Hp) (r : Rs (List (Int × (List Int)))), vs = [.ref a_2] ∧ Own R0 H [] ∧ (hsub H []) a_2 = some (.lst (List.map V.int names_1)) ∧ m_duel names_1 = some r ∧ RetR (fun r => RetX R0 (hsub H []) (dP (rL (rT2 rI (rL rI))) r) Q) d r H E
abbrev N_duel : List Str := ["names", "name", "told", "still", "k", "least"]
theorem sc_duel : FnScope N_duel ["names"] (defScope s_duel) := ⟨rfl, rfl, rfl, by decide +kernel, rfl, by decide +kernel, by decide +kernel⟩
theorem ok_duel {ad : Ad} (T : Txt K mg ad) : FnOk P w K mg base (L2N.CX P w) 2 ad.f_duel ad.fd_duel ["names"] (sp_duel K ad ad.es) := by
  have G_bit_at := ok_bit_at (P := P) (w := w) (base := base) T
  have G_is_name := ok_is_name (P := P) (w := w) (base := base) T
  refine okN T.F_duel sc_duel (fun vs H Q E h => ?_) (fun cdv A outer s H vs Q E hr h => ?_)
  · obtain ⟨_, _, _, _, rfl, _⟩ := h
    rfl
  · obtain ⟨z, au, R0, r, rfl, OO, j, hm, k⟩ := h;unfold m_duel at hm;obtain ⟨Hb, H0, hHb, hH0, O, eR, eB, eS⟩ := opn OO;rw [← hHb] at k j;rw [← hH0] at j;clear hH0;refine ⟨_, (pss_cons (ps_if (PW.pt (pw_or (pt_cmpR op_eq (pe_callB (r := rLenQ K) call_lenQ (by rfl) T.z_len PySem.boot_len (pa_cons (pv 0) pa_nil)) pe_int (nomark _)) (pw_or1 (pt_cmpR op_lt (pe_lenSetN (by rfl) T.z_len (by rfl) T.z_set (pv 0)) (pe_callB (r := rLenQ K) call_lenQ (by rfl) T.z_len PySem.boot_len (pa_cons (pv 0) pa_nil)) (nomark _))))) (pss_one (ps_errN T.e_NoName (L2N.takes_of rfl rfl rfl rfl) rfl rfl)) pss_nil) (pss_cons (ps_for (passes_of rfl) rfl (pi_list (pv 0)) (pg_name (i := 1) sc_duel.nd rfl (Or.inl rfl)) (pss_one (ps_if (pt_not (pt_val (pe_call G_is_name (hr.mono (by decide)) (by rfl) T.g_is_name T.F_is_name.kp T.b_is_name .nil pass0 (pa_cons (pv 1) pa_nil)))) (pss_one (ps_errN T.e_NoName (L2N.takes_of rfl rfl rfl rfl) rfl rfl)) pss_nil))) (pss_cons (ps_set (i := 2) sc_duel.nd rfl (Or.inl rfl) (pe_lstQ (pe_lst pa_nil))) (pss_cons (ps_set (i := 3) sc_duel.nd rfl (Or.inl rfl) (pe_callTy (r := rListQ K) call_listQ (by rfl) T.z_list (by decide +kernel) (pa_cons (pv 0) pa_nil))) (pss_cons (ps_for (passes_of rfl) rfl (pi_range1 (by rfl) T.z_range (pa_cons pe_int pa_nil)) (pg_name (i := 4) sc_duel.nd rfl (Or.inr rfl)) (pss_cons (ps_set (i := 5) sc_duel.nd rfl (Or.inr rfl) (pe_callB (r := rMin K) (cr_min rfl) (by rfl) T.z_min (by decide +kernel) (pa_cons (pe_lc (own := [("name", 1)]) (g := gName 1) (tt := tYes) rfl sc_duel.nd (pi_list (pv 3)) (blkOk_by (own := [("name", 1)]) (N := N_duel) (sc := defScope s_duel) (by decide +kernel)) (fun _ _ _ _ _ => pg_name (i := 1) sc_duel.nd rfl (Or.inl rfl)) (fun _ _ _ _ _ => pts_nil) (fun _ _ _ _ _ => (pe_call G_bit_at (hr.mono (by decide)) (by rfl) T.g_bit_at T.F_bit_at.kp T.b_bit_at .nil pass0 (pa_cons (pv 1) (pa_cons (pv 4) pa_nil))))) pa_nil))) (pss_cons (ps_setLc (i := 3) (own := [("name", 1)]) (g := gName 1) rfl sc_duel.nd rfl rfl (sw_true rfl rfl rfl (by decide +kernel)) (pi_list (pv 3)) (blkOk_by (own := [("name", 1)]) (N := N_duel) (sc := defScope s_duel) (by decide +kernel)) (fun _ _ _ _ _ => pg_name (i := 1) sc_duel.nd rfl (Or.inl rfl)) (fun _ _ _ _ _ => pts_one (pt_cmpR op_eq (pe_call G_bit_at (hr.mono (by decide)) (by rfl) T.g_bit_at T.F_bit_at.kp T.b_bit_at .nil pass0 (pa_cons (pv 1) (pa_cons (pv 4) pa_nil))) (pv 5) (nomark _))) (fun _ _ _ _ _ => (pv 1))) (pss_one (ps_expr (pe_bm PySem.F.plainAttrs_list PySem.F.slot_list_append PySem.F.type_list_append mt_append (pv 2) (pa_cons (pe_tupQ (pe_tup (pa_cons (pv 5) (pa_cons (pv 3) pa_nil)))) pa_nil))))))) (pss_one (ps_ret (pv 2)))))))), ?_⟩;refine o_seq ?_;refine o_ifs ?_;obtain ⟨ac, h8, hm⟩ := bndE hm;refine x_orJ (c := (decide ((List.length z : Int) = (0 : Int)))) (e := ac) (d := ac) (fun H => ∃ (R_ : Hp), Ex H0 R_ ∧ Own R_ H []) (fun Q1 k1 => ?_) (fun h3 => ⟨rfl, fun H hJ Q2 k2 => ?_⟩) (fun h3 => sji (ifT h8 h3)) (fun H hJ => ?_)
    · have t : Ex H0 H0 := Ex.refl _
      refine ⟨_, rfl, ?_⟩;refine x_nil ?_;refine n_len (SqL.of (O.ex _ _ j)) ?_;refine o_c ?_;refine k_eqI ?_;refine ⟨_, rfl, ?_⟩;exact k1 _ ⟨H0, t, O⟩
    · replace hm := ifF h8 h3;obtain ⟨aM, h6, hm⟩ := bndE hm;obtain rfl := sji hm;obtain ⟨H0, t, O⟩ := hJ;replace j := t _ _ j;replace eB := eB.trans t;refine ⟨_, rfl, ?_⟩;refine k_lset (SqL.of (O.ex _ _ j)) h6 ?_;refine ⟨_, rfl, ?_⟩;refine x_nil ?_;refine n_len (SqL.of (O.ex _ _ j)) ?_;refine ⟨_, _, rfl, rfl, _, rfl, ?_⟩;exact k2 _ ⟨H0, t, O⟩
    obtain ⟨H0, t, O⟩ := hJ;replace j := t _ _ j;replace eB := eB.trans t;refine iteS (c := ac) (fun h9 => ?_) (fun h9 => ?_)
    · replace hm := ifT hm h9;obtain rfl := sji hm;exact k _ (Own.whole OO hHb eB (show Own _ _ (hA [] []) from (Own.pk O [] (by decide) rfl)))
    · replace hm := ifF hm h9;refine o_next ?_;refine o_seq ?_;refine o_for ?_;refine ⟨_, rfl, ?_⟩;obtain ⟨ae, aw, al⟩ := bndE hm;refine ⟨_, rfl, ⟨_, (SqL.of (O.ex _ _ j))⟩, q_forL (f := V.int) (xs := z) (fun r σ H => ∃ (R_ : Hp) (C : Option V), σ = [some (.ref au), C, none, none, none, none] ∧ Ex H0 R_ ∧ Own R_ H [] ∧ loopF (fun p (_ : Unit) => m_duel_L0 p) r () = some ae) ⟨H0, _, rfl, Ex.refl _, O, aw⟩ (by rintro r σ H ⟨H0, C, rfl, eJ_, O, hL⟩; replace j := eJ_ _ _ j; exact (SqL.of (O.ex _ _ j))) ?_ ?_⟩
      · rintro p r σ H ⟨H0, C, rfl, eL15, O, hL⟩
        replace j := eL15 _ _ j;replace eB := eB.trans eL15;obtain ⟨s_, hm, am⟩ := loopF_cons hL;replace hm : m_duel_L0 p = some s_ := hm;unfold m_duel_L0 at hm;refine o_ifs ?_;obtain ⟨u, ax, hm⟩ := bndE hm;refine ⟨_, rfl, ?_⟩;refine x_nil ?_;refine ⟨_, u, rfl, ax, ?_⟩;refine O.retV fun H O => ?_;refine ⟨_, rfl, ?_⟩;refine iteS (c := (!u)) (fun af => ?_) (fun af => ?_)
        · replace hm := ifT hm af;obtain rfl := sji hm;obtain rfl := contRt am;obtain rfl := finRt al;exact k _ (Own.whole OO hHb eB (show Own _ _ (hA [] []) from (Own.pk O [] (by decide) rfl)))
        · replace hm := ifF hm af;refine o_next ?_;have Oz := O
          obtain rfl := sji hm;exact ⟨H0, _, rfl, eL15, Oz, am⟩
      rintro σ H ⟨H0, C, rfl, eJ_, O, hL⟩
      replace j := eJ_ _ _ j;replace eB := eB.trans eJ_;obtain rfl := loopF_nil hL;replace hm := finNx al;refine o_seq ?_;refine o_asg ?_;refine x_nil ?_;refine n_lstV O (by show 0 ≤ sizeLine; decide) fun q H O => ?_;have a : All2 ((rT2 rI (rL rI)) (ovr R0 Hb H0)) ([] : List V) (([] : List (Int × (List Int))) : List (Int × (List Int))) := .nil
      refine o_seq ?_;refine o_asg ?_;refine ⟨_, rfl, ?_⟩;refine x_nil ?_;refine n_list O (SqL.of (O.ex _ _ j)) fun ap H O => ?_;refine o_seq ?_;obtain ⟨H0, O, e_, X⟩ := O.frzO (R0 := R0) eB;replace j := e_ _ _ j;replace a := mA (mT2 mI (mL mI)) (ovr_mono e_) a;replace eB := eB.trans e_;refine o_for ?_;obtain ⟨aH, ay, hm⟩ := bndE hm;refine o_ir1 ?_;refine o_cons ?_;refine o_c ?_;refine x_nil ?_;obtain ⟨c1, c2, rfl⟩ := rng1E ay;obtain ⟨⟨B, I⟩, az, hm⟩ := bndE hm;refine ⟨_, rfl, c1, c2, q_forR (fun r σ H => ∃ (R_ : Hp) (D : Addr) (n : List (Int × (List Int))) (l : List Int) (m : List V) (J : Option V) (L : Option V) (M : Option V) (S : Option V), σ = [J, L, some (.ref q), some (.ref D), M, S] ∧ Ex H0 R_ ∧ Own R_ H [(q, .lst m)] ∧ ovr R0 Hb R_ D = some (.lst (List.map V.int l)) ∧ All2 ((rT2 rI (rL rI)) (ovr R0 Hb R_)) m n ∧ loopM (fun x s => m_duel_L1 x s.1 s.2) r (n, l) = some (B, I)) ⟨H0, ap, ([] : List (Int × (List Int))), _, (([] : List V)), _, _, _, _, rfl, Ex.refl _, O, X, a, az⟩ ?_ ?_⟩
      · rintro x r σ H ⟨H0, D, n, l, m, J, L, M, S, rfl, eL39, O, b, a, hL⟩
        replace eB := eB.trans eL39;obtain ⟨s_, hm, aA⟩ := loopM_cons hL;replace hm : m_duel_L1 x n l = some s_ := hm;unfold m_duel_L1 at hm;refine o_seq ?_;refine o_asg ?_;refine ⟨_, rfl, ?_⟩;obtain ⟨ag, aB, hm⟩ := bndE hm;refine ⟨_, rfl, ⟨_, (SqL.of (O.ex _ _ (ovr_ex _ _ b)))⟩, fun ah hD => k_lcL (f := V.int) (xs := l) (fun r H => ∃ (R_ : Hp) (acc : List Int), Ex H0 R_ ∧ Own R_ H [(ah, .lst (List.map V.int acc)), (q, .lst m)] ∧ compM (m_duel_C2 x) r acc = some ag) ⟨H0, [], Ex.refl _, O.new hD, aB⟩ (by rintro r H ⟨H0, acc, eC45, O, hC⟩; exact (SqL.of (O.ex _ _ (eC45 _ _ (ovr_ex _ _ b))))) ?_ ?_⟩
        · rintro aq r H ⟨H0, acc, eC45, O, hC⟩
          replace b := (ovr_mono eC45) _ _ b;replace a := mA (mT2 mI (mL mI)) (ovr_mono eC45) a;replace eB := eB.trans eC45;replace eL39 := eL39.trans eC45;obtain ⟨y, hm, hz, hC⟩ := compM_cons hC;refine ⟨rfl, ?_⟩;unfold m_duel_C2 at hm;obtain ⟨G, aC, hm⟩ := bndE hm;refine ⟨_, rfl, _, rfl, ?_⟩;refine x_nil ?_;refine ⟨_, _, G, rfl, aC, ?_⟩;refine O.retV fun H O => ?_;obtain rfl := sji hm;refine ⟨_, O.mem (hd_), (by rw [List.length_map]; exact hz), H0, _, eC45, ?_, hC⟩;rw [map_snoc];exact O.put0
        rintro H ⟨H0, acc, eC45, O, hC⟩
        replace b := (ovr_mono eC45) _ _ b;replace a := mA (mT2 mI (mL mI)) (ovr_mono eC45) a;replace eB := eB.trans eC45;replace eL39 := eL39.trans eC45;obtain rfl := compM_nil hC;obtain ⟨U, aD, hm⟩ := bndE hm;refine x_nil ?_;refine k_min (SqL.of (O.mem (hd_))) aD ?_;refine o_seq ?_;refine o_asg ?_;refine ⟨_, rfl, ?_⟩;obtain ⟨ai, aE, hm⟩ := bndE hm;refine ⟨_, rfl, ⟨_, (SqL.of (O.ex _ _ (ovr_ex _ _ b)))⟩, fun aj hD => k_lcLt (f := V.int) (xs := l) (fun r H => ∃ (R_ : Hp) (acc : List Int), Ex H0 R_ ∧ Own R_ H [(aj, .lst (List.map V.int acc)), (ah, .lst (List.map V.int ag)), (q, .lst m)] ∧ compT (m_duel_C3t x U) (m_duel_C3) r acc = some ai) ⟨H0, [], Ex.refl _, O.new hD, aE⟩ (by rintro r H ⟨H0, acc, eC57, O, hC⟩; exact (SqL.of (O.ex _ _ (eC57 _ _ (ovr_ex _ _ b))))) ?_ ?_⟩
        · rintro ar r H ⟨H0, acc, eC57, O, hC⟩
          replace b := (ovr_mono eC57) _ _ b;replace a := mA (mT2 mI (mL mI)) (ovr_mono eC57) a;replace eB := eB.trans eC57;replace eL39 := eL39.trans eC57;obtain ⟨b_, hm, hC⟩ := compT_cons hC;refine ⟨rfl, ?_⟩;unfold m_duel_C3t at hm;obtain ⟨v, aF, hm⟩ := bndE hm;refine ⟨_, rfl, _, rfl, ?_⟩;refine x_nil ?_;refine ⟨_, _, v, rfl, aF, ?_⟩;refine O.retV fun H O => ?_;refine ⟨_, rfl, ?_⟩;refine k_eqI ?_;refine ⟨_, rfl, ?_⟩;obtain rfl := sji hm;refine iteS (c := (decide (v = U))) (fun ak => ?_) (fun ak => ?_)
          · obtain ⟨y, hm, hz, hC⟩ := compT_yes (ifT hC ak);unfold m_duel_C3 at hm;refine ⟨_, rfl, ?_⟩;obtain rfl := sji hm;refine ⟨_, O.mem (hd_), (by rw [List.length_map]; exact hz), H0, _, eC57, ?_, hC⟩;rw [map_snoc];exact O.put0
          · exact ⟨H0, acc, eC57, O, ifF hC ak⟩
        rintro H ⟨H0, acc, eC57, O, hC⟩
        replace b := (ovr_mono eC57) _ _ b;replace a := mA (mT2 mI (mL mI)) (ovr_mono eC57) a;replace eB := eB.trans eC57;replace eL39 := eL39.trans eC57;obtain rfl := compT_nil hC;refine o_drop ?_;refine ⟨_, rfl, .inl ⟨rfl, _, (SqL.of (O.mem (tl_ (tl_ (hd_)))))⟩, _, rfl, _, rfl, ?_⟩;refine x_nil ?_;obtain ⟨H0, O, e_, o⟩ := O.frzO (R0 := R0) eB;replace b := (ovr_mono e_) _ _ b;replace a := mA (mT2 mI (mL mI)) (ovr_mono e_) a;replace eB := eB.trans e_;replace eL39 := eL39.trans e_;refine n_tup O (by show 2 ≤ sizeLine; decide) fun W H O => ?_;obtain ⟨H0, O, e_, Y⟩ := O.frzO (R0 := R0) eB;replace b := (ovr_mono e_) _ _ b;replace a := mA (mT2 mI (mL mI)) (ovr_mono e_) a;replace o := (ovr_mono e_) _ _ o;replace eB := eB.trans e_;replace eL39 := eL39.trans e_;have Z : (rT2 rI (rL rI)) (ovr R0 Hb H0) (.ref W) ((U, ai) : Int × (List Int)) := ⟨_, _, _, rfl, Y, rfl, (gI o)⟩
        refine x_nil ?_;obtain ⟨aL, aG, hm⟩ := bndE hm;refine k_appA (O.mem (tl_ (hd_))) a (fun _ => O.put1) aG Z fun H O a => ?_;have Oz := O
        obtain rfl := sji hm;exact ⟨H0, aj, _, _, ((m ++ [.ref W])), _, _, _, _, rfl, eL39, (Own.pk (L' := [(q, .lst (m ++ [.ref W]))]) Oz [1] (by decide) rfl), o, a, aA⟩
      rintro σ H ⟨H0, D, n, l, m, J, L, M, S, rfl, eJ_, O, b, a, hL⟩
      replace eB := eB.trans eJ_
      cases loopM_nil hL
      refine o_ret ?_;refine ⟨_, rfl, ?_⟩;obtain rfl := sji hm;obtain ⟨H0, O, e_, aa⟩ := O.frzO (R0 := R0) eB;replace b := (ovr_mono e_) _ _ b;replace a := mA (mT2 mI (mL mI)) (ovr_mono e_) a;replace eB := eB.trans e_;have ab : (rL (rT2 rI (rL rI))) (ovr R0 Hb H0) (.ref q) B := ⟨_, _, rfl, aa, a⟩
      exact k _ _ H0 _ eB (by exact (Own.pk O [] (by decide) rfl)) ⟨rfl, ab⟩
def m__law_duel_right_C1 (t_38 : Int) (name_40 : Int) : Option Int :=
  bnd (fdivG name_40 t_38) fun t_45 =>
  some (t_45 % (2 : Int))
def m__law_duel_right_C2  (name_49 : Int) : Option Int :=
  
  some name_49
def m__law_duel_right_C2t (t_38 : Int) (m_47 : Int) (name_49 : Int) : Option Bool :=
  bnd (fdivG name_49 t_38) fun t_54 =>
  some (decide ((t_54 % (2 : Int)) = m_47))
def m__law_duel_right_L0 (duel_6 : List (Int × (List Int))) (k_34 : Int) (still_24 : List Int) : Option (Fl ((List Int)) (Bool)) :=
  bnd (shrG (128 : Int) k_34) fun t_38 =>
  bnd (compM (m__law_duel_right_C1 t_38) still_24 []) fun l_42 =>
  bnd (minG l_42) fun m_47 =>
  bnd (compT (m__law_duel_right_C2t t_38 m_47) (m__law_duel_right_C2) still_24 []) fun l_51 =>
  bnd (atI duel_6 k_34) fun e_57 =>
  bnd (ifB (!true) (some true) (bnd (ifB (!decide (((2 : Nat) : Int) = (2 : Int))) (some true) (bnd (m__law_plain ([e_57.1]) ([m_47])) fun law_pl_78 => some (!law_pl_78))) fun c_80 => some c_80)) fun c_82 =>
  ifB c_82 (
    some (.rt false)) (
    bnd (m__law_plain e_57.2 l_51) fun law_pl_91 =>
    ifB (!law_pl_91) (
      some (.rt false)) (
      some (.nx l_51)))
def m__law_duel_right (script_1 : List Int) (names_3 : List Int) : Option (Bool) :=
  bndO (m_duel names_3) fun duel_6 =>
  ifB ((!true) || (!decide ((List.length duel_6 : Int) = (8 : Int)))) (
    some false) (
    bnd (rng1 (8 : Int)) fun rg_20 =>
    fin (loopF (fun k_34 s => m__law_duel_right_L0 duel_6 k_34 s) rg_20 names_3) fun still_24 =>
    some true)
def sp__law_duel_right (K : PySem.W.Frag) : Sp := fun vs H Q _ => ∃ (script_1 : List Int) (a_2 : Addr) (names_3 : List Int) (a_4 : Addr) (r : Bool), vs = [.ref a_2, .ref a_4] ∧ SqL K H a_2 (List.map V.int script_1) ∧ H a_4 = some (.lst (List.map V.int names_3)) ∧ m__law_duel_right script_1 names_3 = some r ∧ RetV (.bl r) H Q
abbrev N__law_duel_right : List Str := ["script", "names", "found", "still", "k", "worth", "bit", "one", "name"]
theorem sc__law_duel_right : FnScope N__law_duel_right ["script", "names"] (defScope s__law_duel_right) := ⟨rfl, rfl, rfl, by decide +kernel, rfl, by decide +kernel, by decide +kernel⟩
theorem ok__law_duel_right {ad : Ad} (T : Txt K mg ad) : FnOk P w K mg base CX0 3 ad.f__law_duel_right ad.fd__law_duel_right ["script", "names"] (sp__law_duel_right K) := by
  have G__law_plain := ok__law_plain (P := P) (w := w) (base := base) T
  have G_duel := ok_duel (P := P) (w := w) (base := base) T
  refine T.F__law_duel_right.ok sc__law_duel_right (fun vs H Q E h => ?_) (fun cdv A outer s H vs Q E hr h => ?_)
  · obtain ⟨_, _, _, _, _, rfl, _⟩ := h
    rfl
  · obtain ⟨ax, bf, B, bg, r, rfl, q, o, hm, k⟩ := h;unfold m__law_duel_right at hm;obtain ⟨Hb, hHb⟩ : ∃ Hb : Hp, Hb = H := ⟨H, rfl⟩;obtain ⟨H0, hH0⟩ : ∃ H0 : Hp, H0 = Hb := ⟨Hb, rfl⟩;have O : Own H0 H [] := by rw [hH0, hHb]; exact Own.start H
    rw [← hHb] at k q o;rw [← hH0] at q o;have eB : Ex Hb H0 := by rw [hH0]; exact Ex.refl _
    clear hH0 hHb;refine ⟨_, (pss_cons (ps_set (i := 2) sc__law_duel_right.nd rfl (Or.inl rfl) (pe_call G_duel (hr.mono (by decide)) (by rfl) T.g_duel T.F_duel.kp T.b_duel .nil passN (pa_cons (pe_callTy (r := rListQ K) call_listQ (by rfl) T.z_list (by decide +kernel) (pa_cons (pv 1) pa_nil)) pa_nil))) (pss_cons (ps_if (PW.pt (pw_or (pt_not (pt_val (pe_callB (r := rIsi K) call_isi (by rfl) T.z_isinstance (by decide +kernel) (pa_cons (pv 2) (pa_cons (pe_bltn (v := V.ty "list") (u := .type "list") (by rfl) T.z_list (by decide +kernel) rfl) pa_nil))))) (pw_or1 (pt_cmpR op_ne (pe_callB (r := rLenQ K) call_lenQ (by rfl) T.z_len PySem.boot_len (pa_cons (pv 2) pa_nil)) pe_int (nomark _))))) (pss_one (ps_ret pe_bl)) pss_nil) (pss_cons (ps_set (i := 3) sc__law_duel_right.nd rfl (Or.inl rfl) (pe_callTy (r := rListQ K) call_listQ (by rfl) T.z_list (by decide +kernel) (pa_cons (pv 1) pa_nil))) (pss_cons (ps_for PassesOwn.never rfl (pi_range1 (by rfl) T.z_range (pa_cons pe_int pa_nil)) (pg_name (i := 4) sc__law_duel_right.nd rfl (Or.inl rfl)) (pss_cons (ps_set (i := 5) sc__law_duel_right.nd rfl (Or.inr rfl) (pe_op op_shr pe_int (pv 4))) (pss_cons (ps_set (i := 6) sc__law_duel_right.nd rfl (Or.inr rfl) (pe_callB (r := rMin K) (cr_min rfl) (by rfl) T.z_min (by decide +kernel) (pa_cons (pe_lc (own := [("name", 8)]) (g := gName 8) (tt := tYes) rfl sc__law_duel_right.nd (pi_list (pv 3)) (blkOk_by (own := [("name", 8)]) (N := N__law_duel_right) (sc := defScope s__law_duel_right) (by decide +kernel)) (fun _ _ _ _ _ => pg_name (i := 8) sc__law_duel_right.nd rfl (Or.inl rfl)) (fun _ _ _ _ _ => pts_nil) (fun _ _ _ _ _ => (pe_op op_mod (pe_op op_fdivW (pv 8) (pv 5)) pe_int))) pa_nil))) (pss_cons (ps_setLc (i := 3) (own := [("name", 8)]) (g := gName 8) rfl sc__law_duel_right.nd rfl rfl (sw_true rfl rfl rfl (by decide +kernel)) (pi_list (pv 3)) (blkOk_by (own := [("name", 8)]) (N := N__law_duel_right) (sc := defScope s__law_duel_right) (by decide +kernel)) (fun _ _ _ _ _ => pg_name (i := 8) sc__law_duel_right.nd rfl (Or.inl rfl)) (fun _ _ _ _ _ => pts_one (pt_cmpR op_eq (pe_op op_mod (pe_op op_fdivW (pv 8) (pv 5)) pe_int) (pv 6) (nomark _))) (fun _ _ _ _ _ => (pv 8))) (pss_cons (ps_set (i := 7) sc__law_duel_right.nd rfl (Or.inl rfl) (pe_ix (r := rIxL K) ix_list (pv 2) (pv 4) (fun _ _ => rfl))) (pss_cons (ps_if (PW.pt (pw_or (pt_not (pt_val (pe_callB (r := rIsi K) call_isi (by rfl) T.z_isinstance (by decide +kernel) (pa_cons (pv 7) (pa_cons (pe_bltn (v := V.ty "tuple") (u := .type "tuple") (by rfl) T.z_tuple (by decide +kernel) rfl) pa_nil))))) (pw_or (pt_cmpR op_ne (pe_callB (r := rLenQ K) call_lenQ (by rfl) T.z_len PySem.boot_len (pa_cons (pv 7) pa_nil)) pe_int (nomark _)) (pw_or1 (pt_not (pt_val (pe_call G__law_plain (hr.mono (by decide)) (by rfl) T.g__law_plain T.F__law_plain.kp T.b__law_plain .nil pass0 (pa_cons (pe_lstQ (pe_lst (pa_cons (pe_ix (r := rIxT K) ix_tup (pv 7) pe_int (fun _ _ => rfl)) pa_nil))) (pa_cons (pe_lstQ (pe_lst (pa_cons (pv 6) pa_nil))) pa_nil))))))))) (pss_one (ps_ret pe_bl)) pss_nil) (pss_one (ps_if (pt_not (pt_val (pe_call G__law_plain (hr.mono (by decide)) (by rfl) T.g__law_plain T.F__law_plain.kp T.b__law_plain .nil pass0 (pa_cons (pe_ix (r := rIxT K) ix_tup (pv 7) pe_int (fun _ _ => rfl)) (pa_cons (pv 3) pa_nil))))) (pss_one (ps_ret pe_bl)) pss_nil)))))))) (pss_one (ps_ret pe_bl)))))), ?_⟩;refine o_seq ?_;refine o_asg ?_;refine ⟨_, rfl, ?_⟩;refine x_nil ?_;refine n_list O (SqL.of (O.ex _ _ o)) fun ac H O => ?_;obtain ⟨x, h7, hm⟩ := bndOE hm;refine x_nil ?_;have Oc : Own H0 H (hA [] [(ac, .lst (List.map V.int B))]) := (Own.pk O [0] (by decide) rfl)
    refine ⟨B, ac, H0, (.ok x), rfl, Oc.left, (Own.inC Oc (hd_)), h7, ?_⟩;refine RetR.ok ?_;refine Oc.retX (mdP (mL (mT2 mI (mL mI)))) fun bh H H0 bi O e_ d_ => ?_;replace q := e_.l q;replace o := e_ _ _ o;replace eB := eB.trans e_;obtain ⟨rfl, ar⟩ := d_;try simp only [n1, n2, n3, n4, n5, n6, n7] at O
    obtain ⟨ay, rfl⟩ := rL_ref ar;have a := ar
    refine o_seq ?_;refine o_ifs ?_;refine x_orJ (c := (!true)) (e := (!decide ((List.length x : Int) = (8 : Int)))) (d := ((!true) || (!decide ((List.length x : Int) = (8 : Int))))) (fun H => ∃ (R_ : Hp), Ex H0 R_ ∧ Own R_ H [(ac, .lst (List.map V.int B))]) (fun Q1 k1 => ?_) (fun ae => ⟨by rw [ae]; rfl, fun H hJ Q2 k2 => ?_⟩) (fun ae => by rw [ae]; rfl) (fun H hJ => ?_)
    · have t : Ex H0 H0 := Ex.refl _
      refine ⟨_, rfl, ?_⟩;obtain ⟨_, aH, _⟩ := rL_at a;refine ⟨_, _, _, _, true, rfl, .ty _, .base (.lst (O.ex _ _ aH)), kit_ty (by decide +kernel), _, rfl, ?_⟩;exact k1 _ ⟨H0, t, O⟩
    · obtain ⟨H0, t, O⟩ := hJ;replace q := t.l q;replace o := t _ _ o;replace a := (mL (mT2 mI (mL mI))) _ _ _ _ t a;replace eB := eB.trans t;refine ⟨_, rfl, ?_⟩;refine x_nil ?_;obtain ⟨a3, aI, aJ⟩ := rL_at a;refine n_lenA (SqL.of (O.ex _ _ aI)) aJ ?_;refine o_c ?_;refine k_neI ?_;refine ⟨_, rfl, ?_⟩;exact k2 _ ⟨H0, t, O⟩
    obtain ⟨H0, t, O⟩ := hJ;replace q := t.l q;replace o := t _ _ o;replace a := (mL (mT2 mI (mL mI))) _ _ _ _ t a;replace eB := eB.trans t;refine iteS (c := ((!true) || (!decide ((List.length x : Int) = (8 : Int))))) (fun af => ?_) (fun af => ?_)
    · replace hm := ifT hm af;refine o_ret ?_;refine o_c ?_;obtain rfl := sji hm;exact RetV.goR k O eB
    · replace hm := ifF hm af;refine o_next ?_;refine o_seq ?_;refine o_asg ?_;refine ⟨_, rfl, ?_⟩;refine x_nil ?_;refine n_list O (SqL.of (O.ex _ _ o)) fun ag H O => ?_;refine o_seq ?_;refine o_for ?_;obtain ⟨a4, aK, hm⟩ := bndE hm;refine o_ir1 ?_;refine o_cons ?_;refine o_c ?_;refine x_nil ?_;obtain ⟨c1, c2, rfl⟩ := rng1E aK;obtain ⟨ah, aL, ai⟩ := bndE hm;refine ⟨_, rfl, c1, c2, q_forR (fun r σ H => ∃ (R_ : Hp) (z : Addr) (b : List Int) (L : Option V) (M : Option V) (S : Option V) (U : Option V) (W : Option V) (X : Option V), σ = [L, M, some (.ref ay), some (.ref z), S, U, W, X, none] ∧ Ex H0 R_ ∧ Own R_ H [(z, .lst (List.map V.int b))] ∧ loopF (fun Y s => m__law_duel_right_L0 x Y s) r b = some ah) ⟨H0, ag, _, _, _, _, _, _, _, rfl, Ex.refl _, (Own.pk (L' := [(ag, .lst (List.map V.int B))]) O [0] (by decide) rfl), aL⟩ ?_ ?_⟩
      · rintro Y r σ H ⟨H0, z, b, L, M, S, U, W, X, rfl, eL35, O, hL⟩
        replace a := (mL (mT2 mI (mL mI))) _ _ _ _ eL35 a;replace eB := eB.trans eL35;obtain ⟨s_, hm, aj⟩ := loopF_cons hL;replace hm : m__law_duel_right_L0 x Y b = some s_ := hm;unfold m__law_duel_right_L0 at hm;refine o_seq ?_;refine o_asg ?_;obtain ⟨ak, aM, hm⟩ := bndE hm;refine ⟨_, rfl, ?_⟩;refine k_shr aM ?_;refine o_seq ?_;refine o_asg ?_;refine ⟨_, rfl, ?_⟩;obtain ⟨F, aN, hm⟩ := bndE hm;refine ⟨_, rfl, ⟨_, (SqL.of (O.mem (hd_)))⟩, fun G hD => k_lcL (f := V.int) (xs := b) (fun r H => ∃ acc : List Int, Own H0 H ((G, .lst (List.map V.int acc)) :: [(z, .lst (List.map V.int b))]) ∧ compM (m__law_duel_right_C1 ak) r acc = some F) ⟨[], O.new hD, aN⟩ (by rintro r H ⟨acc, O, hC⟩; exact (SqL.of (O.mem (tl_ (hd_))))) ?_ ?_⟩
        · rintro aF r H ⟨acc, O, hC⟩
          obtain ⟨y, hm, hz, hC⟩ := compM_cons hC;refine ⟨rfl, ?_⟩;unfold m__law_duel_right_C1 at hm;obtain ⟨a9, aO, hm⟩ := bndE hm;refine ⟨_, rfl, _, rfl, ?_⟩;refine k_fdiv aO ?_;refine ⟨_, _, rfl, rfl, (by show (0 : Int) < 2; decide), ?_⟩;obtain rfl := sji hm;refine ⟨_, O.mem (hd_), (by rw [List.length_map]; exact hz), _, ?_, hC⟩;rw [map_snoc];exact O.put0
        rintro H ⟨acc, O, hC⟩
        obtain rfl := compM_nil hC;obtain ⟨Z, aP, hm⟩ := bndE hm;refine x_nil ?_;refine k_min (SqL.of (O.mem (hd_))) aP ?_;refine o_seq ?_;refine o_asg ?_;refine ⟨_, rfl, ?_⟩;obtain ⟨I, aQ, hm⟩ := bndE hm;refine ⟨_, rfl, ⟨_, (SqL.of (O.mem (tl_ (hd_))))⟩, fun C hD => k_lcLt (f := V.int) (xs := b) (fun r H => ∃ acc : List Int, Own H0 H ((C, .lst (List.map V.int acc)) :: [(G, .lst (List.map V.int F)), (z, .lst (List.map V.int b))]) ∧ compT (m__law_duel_right_C2t ak Z) (m__law_duel_right_C2) r acc = some I) ⟨[], O.new hD, aQ⟩ (by rintro r H ⟨acc, O, hC⟩; exact (SqL.of (O.mem (tl_ (tl_ (hd_)))))) ?_ ?_⟩
        · rintro aG r H ⟨acc, O, hC⟩
          obtain ⟨b_, hm, hC⟩ := compT_cons hC;refine ⟨rfl, ?_⟩;unfold m__law_duel_right_C2t at hm;obtain ⟨az, aR, hm⟩ := bndE hm;refine ⟨_, rfl, _, rfl, ?_⟩;refine k_fdiv aR ?_;refine ⟨_, _, rfl, rfl, (by show (0 : Int) < 2; decide), _, rfl, ?_⟩;refine k_eqI ?_;refine ⟨_, rfl, ?_⟩;obtain rfl := sji hm;refine iteS (c := (decide ((az % (2 : Int)) = Z))) (fun al => ?_) (fun al => ?_)
          · obtain ⟨y, hm, hz, hC⟩ := compT_yes (ifT hC al);unfold m__law_duel_right_C2 at hm;refine ⟨_, rfl, ?_⟩;obtain rfl := sji hm;refine ⟨_, O.mem (hd_), (by rw [List.length_map]; exact hz), _, ?_, hC⟩;rw [map_snoc];exact O.put0
          · exact ⟨acc, O, ifF hC al⟩
        rintro H ⟨acc, O, hC⟩
        obtain rfl := compT_nil hC;refine o_seq ?_;refine o_asg ?_;obtain ⟨aA, aS, hm⟩ := bndE hm;refine ⟨_, rfl, _, rfl, ?_⟩;obtain ⟨a5, aT, aU⟩ := rL_at a;refine k_ixA (SqL.of (O.ex _ _ aT)) aU aS fun ba au => ?_;obtain ⟨bb, rfl⟩ := rT2_ref au;have j := au
        refine o_seq ?_;refine o_ifs ?_;obtain ⟨aa, av, hm⟩ := bndE hm;refine x_orJ (c := (!true)) (e := aa) (d := aa) (fun H => ∃ (R_ : Hp), Ex H0 R_ ∧ Own R_ H [(C, .lst (List.map V.int I)), (G, .lst (List.map V.int F)), (z, .lst (List.map V.int b))]) (fun Q1 k1 => ?_) (fun am => ⟨rfl, fun H hJ Q2 k2 => ?_⟩) (fun am => sji (ifT av am)) (fun H hJ => ?_)
        · have m : Ex H0 H0 := Ex.refl _
          refine ⟨_, rfl, ?_⟩;obtain ⟨_, _, aV, _⟩ := rT2_at j;refine ⟨_, _, _, _, true, rfl, .ty _, .base (.tup (O.ex _ _ aV)), kit_ty (by decide +kernel), _, rfl, ?_⟩;exact k1 _ ⟨H0, m, O⟩
        · replace hm := ifF av am;obtain ⟨an, aw, hm⟩ := bndE hm;obtain rfl := sji hm;obtain ⟨H0, m, O⟩ := hJ;replace a := (mL (mT2 mI (mL mI))) _ _ _ _ m a;replace j := (mT2 mI (mL mI)) _ _ _ _ m j;replace eB := eB.trans m;replace eL35 := eL35.trans m;refine x_orJ (c := (!decide (((2 : Nat) : Int) = (2 : Int)))) (e := an) (d := an) (fun H => ∃ (R_ : Hp), Ex H0 R_ ∧ Own R_ H [(C, .lst (List.map V.int I)), (G, .lst (List.map V.int F)), (z, .lst (List.map V.int b))]) (fun Q1 k1 => ?_) (fun ao => ⟨rfl, fun H hJ Q2 k2 => ?_⟩) (fun ao => sji (ifT aw ao)) (fun H hJ => ?_)
          · have p : Ex H0 H0 := Ex.refl _
            refine ⟨_, rfl, ?_⟩;refine x_nil ?_;obtain ⟨_, _, aW, _⟩ := rT2_at j;refine n_lenT (SqT.of (O.ex _ _ aW)) (n := 2) rfl ?_;refine o_c ?_;refine k_neI ?_;refine ⟨_, rfl, ?_⟩;exact k1 _ ⟨H0, p, O⟩
          · replace hm := ifF aw ao;obtain ⟨J, aX, hm⟩ := bndE hm;obtain rfl := sji hm;obtain ⟨H0, p, O⟩ := hJ;replace a := (mL (mT2 mI (mL mI))) _ _ _ _ p a;replace j := (mT2 mI (mL mI)) _ _ _ _ p j;replace eB := eB.trans p;replace eL35 := eL35.trans p;replace m := m.trans p;refine ⟨_, rfl, ?_⟩;refine o_c ?_;obtain ⟨aB, aC, aY, aZ, bj⟩ := rT2_at j;refine k_ixT (xs := [aB, aC]) (SqT.of (O.ex _ _ aY)) rfl ?_;obtain rfl := aZ;refine x_nil ?_;refine n_lst (f := V.int) (xs := [aA.1]) O rfl (by show 1 ≤ sizeLine; decide) fun bc H O => ?_;refine ⟨_, rfl, ?_⟩;refine x_nil ?_;refine n_lst (f := V.int) (xs := [Z]) O rfl (by show 1 ≤ sizeLine; decide) fun bd H O => ?_;refine x_nil ?_;refine ⟨_, _, _, _, J, rfl, (O.mem (tl_ (hd_))), (O.mem (hd_)), aX, ?_⟩;refine O.retV fun H O => ?_;refine ⟨_, rfl, ?_⟩;exact k2 _ ⟨H0, p, (Own.pk (L' := [(C, .lst (List.map V.int I)), (G, .lst (List.map V.int F)), (z, .lst (List.map V.int b))]) O [2, 3, 4] (by decide) rfl)⟩
          obtain ⟨H0, p, O⟩ := hJ;replace a := (mL (mT2 mI (mL mI))) _ _ _ _ p a;replace j := (mT2 mI (mL mI)) _ _ _ _ p j;replace eB := eB.trans p;replace eL35 := eL35.trans p;replace m := m.trans p;exact k2 _ ⟨H0, m, O⟩
        obtain ⟨H0, m, O⟩ := hJ;replace a := (mL (mT2 mI (mL mI))) _ _ _ _ m a;replace j := (mT2 mI (mL mI)) _ _ _ _ m j;replace eB := eB.trans m;replace eL35 := eL35.trans m;refine iteS (c := aa) (fun ap => ?_) (fun ap => ?_)
        · replace hm := ifT hm ap;refine o_ret ?_;refine o_c ?_;obtain rfl := sji hm;obtain rfl := contRt aj;obtain rfl := finRt ai;exact RetV.goR k O eB
        · replace hm := ifF hm ap;refine o_next ?_;refine o_ifs ?_;refine ⟨_, rfl, ?_⟩;refine o_c ?_;obtain ⟨aD, aE, a0, bk, a1⟩ := rT2_at j;refine k_ixT (xs := [aD, aE]) (SqT.of (O.ex _ _ a0)) rfl ?_;obtain ⟨be, rfl, ab⟩ := fI a1;obtain ⟨D, a2, hm⟩ := bndE hm;refine ⟨_, rfl, ?_⟩;refine x_nil ?_;refine ⟨_, _, _, _, D, rfl, (O.ex _ _ ab), (O.mem (hd_)), a2, ?_⟩;refine O.retV fun H O => ?_;refine ⟨_, rfl, ?_⟩;refine iteS (c := (!D)) (fun aq => ?_) (fun aq => ?_)
          · replace hm := ifT hm aq;refine o_ret ?_;refine o_c ?_;obtain rfl := sji hm;obtain rfl := contRt aj;obtain rfl := finRt ai;exact RetV.goR k O eB
          · replace hm := ifF hm aq;refine o_next ?_;have Oz := O
            obtain rfl := sji hm;exact ⟨H0, C, _, _, _, _, _, _, _, rfl, eL35, (Own.pk (L' := [(C, .lst (List.map V.int I))]) Oz [0] (by decide) rfl), aj⟩
      rintro σ H ⟨H0, z, b, L, M, S, U, W, X, rfl, eJ_, O, hL⟩
      replace a := (mL (mT2 mI (mL mI))) _ _ _ _ eJ_ a;replace eB := eB.trans eJ_;obtain rfl := loopF_nil hL;replace hm := finNx ai;refine o_ret ?_;refine o_c ?_;obtain rfl := sji hm;exact RetV.goR k O eB
def m__law_no_name (names_1 : List Int) : Option (Bool) :=
  bnd (m_duel names_1) fun x_5 =>
  tryR x_5 (fun duel_3 =>
    some false) (fun e_ =>
    ifB (okE ks e_) (
      bnd (m__law_known e_ (1 : Int) (-(1 : Int))) fun law_kn_7 =>
      some law_kn_7) none)
def sp__law_no_name (K : PySem.W.Frag) : Sp := fun vs H Q _ => ∃ (names_1 : List Int) (a_2 : Addr) (r : Bool), vs = [.ref a_2] ∧ H a_2 = some (.lst (List.map V.int names_1)) ∧ m__law_no_name names_1 = some r ∧ RetV (.bl r) H Q
abbrev N__law_no_name : List Str := ["names", "right", "e"]
theorem sc__law_no_name : FnScope N__law_no_name ["names"] (defScope s__law_no_name) := ⟨rfl, rfl, rfl, by decide +kernel, rfl, by decide +kernel, by decide +kernel⟩
theorem ok__law_no_name {ad : Ad} (T : Txt K mg ad) : FnOk P w K mg base CX0 3 ad.f__law_no_name ad.fd__law_no_name ["names"] (sp__law_no_name K) := by
  have G__law_known := ok__law_known (P := P) (w := w) (base := base) T
  have G_duel := ok_duel (P := P) (w := w) (base := base) T
  refine T.F__law_no_name.ok sc__law_no_name (fun vs H Q E h => ?_) (fun cdv A outer s H vs Q E hr h => ?_)
  · obtain ⟨_, _, _, rfl, _⟩ := h
    rfl
  · obtain ⟨c, l, r, rfl, b, hm, k⟩ := h;unfold m__law_no_name at hm;obtain ⟨Hb, hHb⟩ : ∃ Hb : Hp, Hb = H := ⟨H, rfl⟩;obtain ⟨H0, hH0⟩ : ∃ H0 : Hp, H0 = Hb := ⟨Hb, rfl⟩;have O : Own H0 H [] := by rw [hH0, hHb]; exact Own.start H
    rw [← hHb] at k b;rw [← hH0] at b;have eB : Ex Hb H0 := by rw [hH0]; exact Ex.refl _
    clear hH0 hHb;refine ⟨_, (pss_cons (ps_set (i := 1) sc__law_no_name.nd rfl (Or.inl rfl) pe_bl) (pss_cons (L2N.ps_try_as (i := 2) (tb := fun W => _) rfl rfl sc__law_no_name.nd rfl rfl ⟨rfl, by decide, .inl T.n_RailError⟩ takesN0 (fun W pn xe tk _ => (pss_one (ps_expr (pe_callS G_duel (hr.mono (by decide)) (by rfl) T.g_duel T.F_duel.kp T.b_duel (fun σ => L2N.passAt tk σ) (pa_cons (pv 0) pa_nil))))) (fun a oe cls d pn hz hf => pss_exc (es := ad.es) (ks := ks) fun ex hk hc => (pss_one (ps_set (i := 1) sc__law_no_name.nd rfl (Or.inl rfl) (pe_callGs (ok__law_known (P := P) (w := w) (base := base) T ex hk) hz hf hc (hr.mono (by decide)) (by rfl) T.g__law_known T.F__law_known.kp T.b__law_known (pa_cons (pv 2) (pa_cons pe_int (pa_cons (pe_un un_neg pe_int) pa_nil)))))))) (pss_one (ps_ret (pv 1))))), ?_⟩;refine o_seq ?_;refine o_asg ?_;refine o_c ?_;refine o_seq ?_;refine o_drop ?_;obtain ⟨m, o, hm⟩ := bndE hm;refine ⟨_, rfl, ?_⟩;refine x_nil ?_;have Oc : Own H0 H (hA [] []) := (Own.pk O [] (by decide) rfl)
    refine ⟨c, l, H0, m, rfl, Oc.left, (Oc.left.subR _ _ b), o, ?_⟩;refine RetR.split (fun e_ f => ?_) ?_
    · subst f;replace hm := tryEr hm;obtain ⟨hq_, hm⟩ := ifN hm;obtain ⟨hp_, hk_⟩ := okE_iff hq_;refine RetE.byP hp_ fun H1 hE => ?_;replace O := O.ext hE;refine ⟨true, T.EC.xr _ hk_, fun _ a_ ha_ => ?_, fun q => nomatch q⟩;refine ⟨e_, hk_, rfl, ?_⟩;refine o_asg ?_;obtain ⟨g, p, hm⟩ := bndE hm;refine ⟨_, rfl, _, rfl, ?_⟩;refine x_nil ?_;refine ⟨_, rfl, (XFl.of hp_), _, _, _, rfl, p, ?_⟩;refine O.retV fun H O => ?_;refine o_dn ?_;refine o_ret ?_;refine ⟨_, rfl, ?_⟩;obtain rfl := sji hm;exact RetV.goR k O eB
    rintro n f
    subst f;replace hm := tryOk hm;refine Oc.retX (mdP (mL (mT2 mI (mL mI)))) fun v H H0 t O e_ d_ => ?_;replace b := e_ _ _ b;replace eB := eB.trans e_;obtain ⟨rfl, e⟩ := d_;try simp only [n1, n2, n3, n4, n5, n6, n7] at O
    obtain ⟨u, rfl⟩ := rL_ref e;have j := e
    refine o_ret ?_;refine ⟨_, rfl, ?_⟩;obtain rfl := sji hm;exact RetV.goR k O eB
def m__law_names_right_C0 (law_dr_3 : Int) (step_7 : Int) (k_13 : Int) : Option Int :=
  bnd (mulG step_7 k_13) fun t_18 =>
  some ((law_dr_3 + t_18) % (256 : Int))
def m__law_names_right (script_1 : List Int) : Option (Bool) :=
  bnd (m__law_draw script_1 (103 : Int) (256 : Int)) fun law_dr_3 =>
  bnd (m__law_draw script_1 (104 : Int) (128 : Int)) fun law_dr_5 =>
  ltv (((1 : Int) + ((2 : Int) * law_dr_5))) fun step_7 =>
  bnd (m__law_draw script_1 (105 : Int) (19 : Int)) fun law_dr_9 =>
  bnd (rng1 ((1 : Int) + law_dr_9)) fun rg_11 =>
  bnd (compM (m__law_names_right_C0 law_dr_3 step_7) rg_11 []) fun l_15 =>
  bnd (m__law_duel_right script_1 l_15) fun law_du_20 =>
  ifB (!law_du_20) (
    some false) (
    bnd (m__law_draw script_1 (106 : Int) ((List.length l_15 : Int) + (1 : Int))) fun law_dr_23 =>
    bnd (m__law_draw script_1 (107 : Int) (List.length l_15 : Int)) fun law_dr_25 =>
    bnd (atI l_15 law_dr_25) fun e_27 =>
    bnd (catG (cutL l_15 none (some law_dr_23)) ([e_27])) fun t_31 =>
    bnd (catG t_31 (cutL l_15 (some law_dr_23) none)) fun t_35 =>
    bnd (m__law_no_name t_35) fun law_no_38 =>
    ifB (!law_no_38) (
      some false) (
      bnd (m__law_far script_1 (108 : Int)) fun law_fa_43 =>
      bnd (catG (cutL l_15 none (some law_dr_23)) ([law_fa_43])) fun t_46 =>
      bnd (catG t_46 (cutL l_15 (some law_dr_23) none)) fun t_50 =>
      bnd (m__law_no_name t_50) fun law_no_53 =>
      bnd (ifB law_no_53 (bnd (m__law_no_name ([] : List Int)) fun law_no_56 => some law_no_56) (some false)) fun c_58 =>
      some c_58))
def sp__law_names_right (K : PySem.W.Frag) : Sp := fun vs H Q _ => ∃ (script_1 : List Int) (a_2 : Addr) (r : Bool), vs = [.ref a_2] ∧ SqL K H a_2 (List.map V.int script_1) ∧ m__law_names_right script_1 = some r ∧ RetV (.bl r) H Q
abbrev N__law_names_right : List Str := ["script", "first", "step", "names", "at", "twice", "k"]
theorem sc__law_names_right : FnScope N__law_names_right ["script"] (defScope s__law_names_right) := ⟨rfl, rfl, rfl, by decide +kernel, rfl, by decide +kernel, by decide +kernel⟩
theorem ok__law_names_right {ad : Ad} (T : Txt K mg ad) : FnOk P w K mg base CX0 4 ad.f__law_names_right ad.fd__law_names_right ["script"] (sp__law_names_right K) := by
  have G__law_draw := ok__law_draw (P := P) (w := w) (base := base) T
  have G__law_duel_right := ok__law_duel_right (P := P) (w := w) (base := base) T
  have G__law_far := ok__law_far (P := P) (w := w) (base := base) T
  have G__law_no_name := ok__law_no_name (P := P) (w := w) (base := base) T
  refine T.F__law_names_right.ok sc__law_names_right (fun vs H Q E h => ?_) (fun cdv A outer s H vs Q E hr h => ?_)
  · obtain ⟨_, _, _, rfl, _⟩ := h
    rfl
  · obtain ⟨G, aJ, r, rfl, a, hm, k⟩ := h;unfold m__law_names_right at hm;obtain ⟨H0, hH0⟩ : ∃ H0 : Hp, H0 = H := ⟨H, rfl⟩;have O : Own H0 H [] := by rw [hH0]; exact Own.start H
    rw [← hH0] at k a;clear hH0;refine ⟨_, (pss_cons (ps_set (i := 1) sc__law_names_right.nd rfl (Or.inr rfl) (pe_call G__law_draw (hr.mono (by decide)) (by rfl) T.g__law_draw T.F__law_draw.kp T.b__law_draw .nil pass0 (pa_cons (pv 0) (pa_cons pe_int (pa_cons pe_int pa_nil))))) (pss_cons (ps_set (i := 2) sc__law_names_right.nd rfl (Or.inr rfl) (pe_op op_add pe_int (pe_op op_mul pe_int (pe_call G__law_draw (hr.mono (by decide)) (by rfl) T.g__law_draw T.F__law_draw.kp T.b__law_draw .nil pass0 (pa_cons (pv 0) (pa_cons pe_int (pa_cons pe_int pa_nil))))))) (pss_cons (ps_setLc (i := 3) (own := [("k", 6)]) (g := gName 6) (tt := tYes) rfl sc__law_names_right.nd rfl rfl (sw_true rfl rfl rfl (by decide +kernel)) (pi_range1 (by rfl) T.z_range (pa_cons (pe_op op_add pe_int (pe_call G__law_draw (hr.mono (by decide)) (by rfl) T.g__law_draw T.F__law_draw.kp T.b__law_draw .nil pass0 (pa_cons (pv 0) (pa_cons pe_int (pa_cons pe_int pa_nil))))) pa_nil)) (blkOk_by (own := [("k", 6)]) (N := N__law_names_right) (sc := defScope s__law_names_right) (by decide +kernel)) (fun _ _ _ _ _ => pg_name (i := 6) sc__law_names_right.nd rfl (Or.inl rfl)) (fun _ _ _ _ _ => pts_nil) (fun _ _ _ _ _ => (pe_op op_mod (pe_op op_add (pv 1) (pe_op op_mulW (pv 2) (pv 6))) pe_int))) (pss_cons (ps_if (pt_not (pt_val (pe_call G__law_duel_right (hr.mono (by decide)) (by rfl) T.g__law_duel_right T.F__law_duel_right.kp T.b__law_duel_right .nil pass0 (pa_cons (pv 0) (pa_cons (pv 3) pa_nil))))) (pss_one (ps_ret pe_bl)) pss_nil) (pss_cons (ps_set (i := 4) sc__law_names_right.nd rfl (Or.inl rfl) (pe_call G__law_draw (hr.mono (by decide)) (by rfl) T.g__law_draw T.F__law_draw.kp T.b__law_draw .nil pass0 (pa_cons (pv 0) (pa_cons pe_int (pa_cons (pe_op op_add (pe_callB (r := rLenQ K) call_lenQ (by rfl) T.z_len PySem.boot_len (pa_cons (pv 3) pa_nil)) pe_int) pa_nil))))) (pss_cons (ps_set (i := 5) sc__law_names_right.nd rfl (Or.inl rfl) (pe_ix (r := rIxL K) ix_list (pv 3) (pe_call G__law_draw (hr.mono (by decide)) (by rfl) T.g__law_draw T.F__law_draw.kp T.b__law_draw .nil pass0 (pa_cons (pv 0) (pa_cons pe_int (pa_cons (pe_callB (r := rLenQ K) call_lenQ (by rfl) T.z_len PySem.boot_len (pa_cons (pv 3) pa_nil)) pa_nil)))) (fun _ _ => rfl))) (pss_cons (ps_if (pt_not (pt_val (pe_call G__law_no_name (hr.mono (by decide)) (by rfl) T.g__law_no_name T.F__law_no_name.kp T.b__law_no_name .nil pass0 (pa_cons (pe_op op_cat (pe_op op_cat (pe_slice (r := rSlL K) sl_list (pv 3) po_none (po_some (pv 4))) (pe_lstQ (pe_lst (pa_cons (pv 5) pa_nil)))) (pe_slice (r := rSlL K) sl_list (pv 3) (po_some (pv 4)) po_none)) pa_nil)))) (pss_one (ps_ret pe_bl)) pss_nil) (pss_one (ps_ret (pe_and (pe_call G__law_no_name (hr.mono (by decide)) (by rfl) T.g__law_no_name T.F__law_no_name.kp T.b__law_no_name .nil pass0 (pa_cons (pe_op op_cat (pe_op op_cat (pe_slice (r := rSlL K) sl_list (pv 3) po_none (po_some (pv 4))) (pe_lstQ (pe_lst (pa_cons (pe_call G__law_far (hr.mono (by decide)) (by rfl) T.g__law_far T.F__law_far.kp T.b__law_far .nil pass0 (pa_cons (pv 0) (pa_cons pe_int pa_nil))) pa_nil)))) (pe_slice (r := rSlL K) sl_list (pv 3) (po_some (pv 4)) po_none)) pa_nil)) (pe_one (pe_call G__law_no_name (hr.mono (by decide)) (by rfl) T.g__law_no_name T.F__law_no_name.kp T.b__law_no_name .nil pass0 (pa_cons (pe_lstQ (pe_lst pa_nil)) pa_nil))))))))))))), ?_⟩;refine o_seq ?_;refine o_asg ?_;obtain ⟨o, h4, hm⟩ := bndE hm;refine ⟨_, rfl, ?_⟩;refine o_cons ?_;refine o_c ?_;refine o_cons ?_;refine o_c ?_;refine x_nil ?_;refine ⟨_, _, _, _, o, rfl, (O.ex.l a), h4, ?_⟩;refine O.retV fun H O => ?_;refine o_seq ?_;refine o_asg ?_;obtain ⟨u, h6, hm⟩ := bndE hm;refine ⟨_, rfl, ?_⟩;refine o_cons ?_;refine o_c ?_;refine o_cons ?_;refine o_c ?_;refine x_nil ?_;refine ⟨_, _, _, _, u, rfl, (O.ex.l a), h6, ?_⟩;refine O.retV fun H O => ?_;refine ⟨_, _, rfl, rfl, .inl ⟨by decide, by decide⟩, _, _, rfl, rfl, ?_⟩;obtain ⟨x, h8, hm⟩ := ltvE hm;refine a_set (congrArg V.int h8) ?_;refine o_seq ?_;refine o_asg ?_
    obtain ⟨v, M, hm⟩ := bndE hm;refine ⟨_, rfl, ?_⟩;refine o_cons ?_;refine o_c ?_;refine o_cons ?_;refine o_c ?_;refine x_nil ?_;refine ⟨_, _, _, _, v, rfl, (O.ex.l a), M, ?_⟩;refine O.retV fun H O => ?_;obtain ⟨ak, S, hm⟩ := bndE hm;refine ⟨_, _, rfl, rfl, ?_⟩;refine x_nil ?_;obtain ⟨c1, c2, rfl⟩ := rng1E S;obtain ⟨I, U, hm⟩ := bndE hm;refine ⟨_, rfl, c1, c2, fun J hD => k_lcR (fun r H => ∃ acc : List Int, Own H0 H ((J, .lst (List.map V.int acc)) :: []) ∧ compM (m__law_names_right_C0 o x) r acc = some I) ⟨[], O.new hD, U⟩ ?_ ?_⟩
    · rintro aq r H ⟨acc, O, hC⟩
      obtain ⟨y, hm, hz, hC⟩ := compM_cons hC;refine ⟨rfl, ?_⟩;unfold m__law_names_right_C0 at hm;obtain ⟨ar, W, hm⟩ := bndE hm;refine ⟨_, rfl, _, rfl, _, rfl, ?_⟩;refine k_mul W ?_;refine ⟨_, _, rfl, rfl, _, _, rfl, rfl, (by show (0 : Int) < 256; decide), ?_⟩;obtain rfl := sji hm;refine ⟨_, O.mem (hd_), (by rw [List.length_map]; exact hz), _, ?_, hC⟩;rw [map_snoc];exact O.put0
    rintro H ⟨acc, O, hC⟩
    obtain rfl := compM_nil hC;refine o_seq ?_;refine o_ifs ?_;obtain ⟨b, X, hm⟩ := bndE hm;refine ⟨_, rfl, _, rfl, ?_⟩;refine x_nil ?_;refine ⟨_, _, _, _, b, rfl, (O.ex.l a), (O.mem (hd_)), X, ?_⟩;refine O.retV fun H O => ?_;refine ⟨_, rfl, ?_⟩;refine iteS (c := (!b)) (fun z => ?_) (fun z => ?_)
    · replace hm := ifT hm z;refine o_ret ?_;refine o_c ?_;obtain rfl := sji hm;exact RetV.go k O
    · replace hm := ifF hm z;refine o_next ?_;refine o_seq ?_;refine o_asg ?_;refine ⟨_, rfl, _, rfl, ?_⟩;refine x_nil ?_;refine n_len (SqL.of (O.mem (hd_))) ?_;obtain ⟨p, Y, hm⟩ := bndE hm;refine ⟨_, _, rfl, rfl, ?_⟩;refine x_nil ?_;refine ⟨_, _, _, _, p, rfl, (O.ex.l a), Y, ?_⟩;refine O.retV fun H O => ?_;refine o_seq ?_;refine o_asg ?_;refine ⟨_, rfl, _, rfl, _, rfl, ?_⟩;refine x_nil ?_;refine n_len (SqL.of (O.mem (hd_))) ?_;obtain ⟨q, Z, hm⟩ := bndE hm;refine x_nil ?_;refine ⟨_, _, _, _, q, rfl, (O.ex.l a), Z, ?_⟩;refine O.retV fun H O => ?_;obtain ⟨L, aa, hm⟩ := bndE hm;refine k_ixL (f := V.int) (SqL.of (O.mem (hd_))) aa ?_;refine o_seq ?_;refine o_ifs ?_;refine ⟨_, rfl, _, rfl, _, rfl, ?_⟩;refine k_cut (f := V.int) O (SqL.of (O.mem (hd_))) fun au H O => ?_;refine ⟨_, rfl, ?_⟩;refine x_nil ?_;refine n_lst (f := V.int) (xs := [L]) O rfl (by show 1 ≤ sizeLine; decide) fun av H O => ?_;obtain ⟨aw, ab, hm⟩ := bndE hm;refine k_cat (f := V.int) O (O.mem (tl_ (hd_))) (O.mem (hd_)) ab fun ax H O => ?_;refine ⟨_, rfl, _, rfl, _, rfl, ?_⟩;refine x_np ?_;refine k_cut (f := V.int) O (SqL.of (O.mem (tl_ (tl_ (tl_ (hd_)))))) fun ay H O => ?_;obtain ⟨az, ac, hm⟩ := bndE hm;refine k_cat (f := V.int) O (O.mem (tl_ (hd_))) (O.mem (hd_)) ac fun aA H O => ?_;obtain ⟨j, ae, hm⟩ := bndE hm;refine x_nil ?_;refine ⟨_, _, j, rfl, (O.mem (hd_)), ae, ?_⟩;refine O.retV fun H O => ?_;refine ⟨_, rfl, ?_⟩;replace O := O.tl.tl.tl.tl.tl;refine iteS (c := (!j)) (fun B => ?_) (fun B => ?_)
      · replace hm := ifT hm B;refine o_ret ?_;refine o_c ?_;obtain rfl := sji hm;exact RetV.go k O
      · replace hm := ifF hm B;refine o_next ?_;refine o_ret ?_;obtain ⟨m, af, hm⟩ := bndE hm;obtain ⟨aB, ag, hm⟩ := bndE hm;obtain ⟨aC, ah, hm⟩ := bndE hm;obtain ⟨n, ai, hm⟩ := bndE hm;obtain ⟨C, F, hm⟩ := bndE hm;refine x_andV (c := n) (e := C) (d := C) O (fun Q1 k1 => ?_) (fun D => ⟨rfl, fun H O Q2 k2 => ?_⟩) (fun D => sji (ifF F D)) (fun H O => ?_)
        · refine ⟨_, rfl, _, rfl, _, rfl, ?_⟩;refine k_cut (f := V.int) O (SqL.of (O.mem (hd_))) fun aD H O => ?_;refine ⟨_, rfl, ?_⟩;refine o_cons ?_;refine o_c ?_;refine x_nil ?_;refine ⟨_, _, _, m, rfl, (O.ex.l a), af, ?_⟩;refine O.retV fun H O => ?_;refine x_nil ?_;refine n_lst (f := V.int) (xs := [m]) O rfl (by show 1 ≤ sizeLine; decide) fun aE H O => ?_;refine k_cat (f := V.int) O (O.mem (tl_ (hd_))) (O.mem (hd_)) ag fun aF H O => ?_;refine ⟨_, rfl, _, rfl, _, rfl, ?_⟩;refine x_np ?_;refine k_cut (f := V.int) O (SqL.of (O.mem (tl_ (tl_ (tl_ (hd_)))))) fun aG H O => ?_;refine k_cat (f := V.int) O (O.mem (tl_ (hd_))) (O.mem (hd_)) ah fun aH H O => ?_;refine x_nil ?_;refine ⟨_, _, n, rfl, (O.mem (hd_)), ai, ?_⟩;refine O.retV fun H O => ?_;replace O := O.tl.tl.tl.tl.tl;exact k1 _ O
        · replace hm := ifT F D;obtain ⟨t, aj, hm⟩ := bndE hm;obtain rfl := sji hm;refine o_call ?_;refine o_cons ?_;refine x_nil ?_;refine n_lst (f := V.int) (xs := ([] : List Int)) O rfl (Nat.zero_le _) fun aI H O => ?_;refine x_nil ?_;refine ⟨_, _, t, rfl, (O.mem (hd_)), aj, ?_⟩;refine O.retV fun H O => ?_;replace O := O.tl;exact k2 _ O
        obtain rfl := sji hm;exact RetV.go k O
def m__law_no_key (number_1 : Int) : Option (Bool) :=
  bnd (m_divided number_1 (0 : Int)) fun x_3 =>
  tryR x_3 (fun divide_5 =>
    some false) (fun e_ =>
    ifB (okE ks e_) (
      bnd (m__law_known e_ (2 : Int) (-(1 : Int))) fun law_kn_6 =>
      some law_kn_6) none)
def sp__law_no_key (K : PySem.W.Frag) : Sp := fun vs H Q _ => ∃ (number_1 : Int) (r : Bool), vs = [.int number_1] ∧ m__law_no_key number_1 = some r ∧ RetV (.bl r) H Q
abbrev N__law_no_key : List Str := ["number", "right", "e"]
theorem sc__law_no_key : FnScope N__law_no_key ["number"] (defScope s__law_no_key) := ⟨rfl, rfl, rfl, by decide +kernel, rfl, by decide +kernel, by decide +kernel⟩
theorem ok__law_no_key {ad : Ad} (T : Txt K mg ad) : FnOk P w K mg base CX0 3 ad.f__law_no_key ad.fd__law_no_key ["number"] (sp__law_no_key K) := by
  have G__law_known := ok__law_known (P := P) (w := w) (base := base) T
  have G_divided := ok_divided (P := P) (w := w) (base := base) T
  refine T.F__law_no_key.ok sc__law_no_key (fun vs H Q E h => ?_) (fun cdv A outer s H vs Q E hr h => ?_)
  · obtain ⟨_, _, rfl, _⟩ := h
    rfl
  · obtain ⟨b, r, rfl, hm, k⟩ := h;unfold m__law_no_key at hm;obtain ⟨H0, hH0⟩ : ∃ H0 : Hp, H0 = H := ⟨H, rfl⟩;have O : Own H0 H [] := by rw [hH0]; exact Own.start H
    rw [← hH0] at k;clear hH0;refine ⟨_, (pss_cons (ps_set (i := 1) sc__law_no_key.nd rfl (Or.inl rfl) pe_bl) (pss_cons (L2N.ps_try_as (i := 2) (tb := fun W => _) rfl rfl sc__law_no_key.nd rfl rfl ⟨rfl, by decide, .inl T.n_RailError⟩ takesN0 (fun W pn xe tk _ => (pss_one (ps_expr (pe_callS G_divided (hr.mono (by decide)) (by rfl) T.g_divided T.F_divided.kp T.b_divided (fun σ => L2N.passAt tk σ) (pa_cons (pv 0) (pa_cons pe_int pa_nil)))))) (fun a oe cls d pn hz hf => pss_exc (es := ad.es) (ks := ks) fun ex hk hc => (pss_one (ps_set (i := 1) sc__law_no_key.nd rfl (Or.inl rfl) (pe_callGs (ok__law_known (P := P) (w := w) (base := base) T ex hk) hz hf hc (hr.mono (by decide)) (by rfl) T.g__law_known T.F__law_known.kp T.b__law_known (pa_cons (pv 2) (pa_cons pe_int (pa_cons (pe_un un_neg pe_int) pa_nil)))))))) (pss_one (ps_ret (pv 1))))), ?_⟩;refine o_seq ?_;refine o_asg ?_;refine o_c ?_;refine o_seq ?_;refine o_drop ?_;obtain ⟨g, j, hm⟩ := bndE hm;refine ⟨_, rfl, ?_⟩;refine o_cons ?_;refine o_c ?_;refine x_nil ?_;refine ⟨_, _, g, rfl, j, ?_⟩;refine RetR.split (fun e_ c => ?_) (fun e c => ?_)
    · subst c;replace hm := tryEr hm;obtain ⟨hq_, hm⟩ := ifN hm;obtain ⟨hp_, hk_⟩ := okE_iff hq_;refine RetE.byP hp_ fun H1 hE => ?_;replace O := O.ext hE;refine ⟨true, T.EC.xr _ hk_, fun _ a_ ha_ => ?_, fun q => nomatch q⟩;refine ⟨e_, hk_, rfl, ?_⟩;refine o_asg ?_;obtain ⟨f, l, hm⟩ := bndE hm;refine ⟨_, rfl, _, rfl, ?_⟩;refine x_nil ?_;refine ⟨_, rfl, (XFl.of hp_), _, _, _, rfl, l, ?_⟩;refine O.retV fun H O => ?_;refine o_dn ?_;refine o_ret ?_;refine ⟨_, rfl, ?_⟩;obtain rfl := sji hm;exact RetV.go k O
    subst c;replace hm := tryOk hm;refine O.retT fun m H O => ?_;replace O := O.tl;refine o_ret ?_;refine ⟨_, rfl, ?_⟩;obtain rfl := sji hm;exact RetV.go k O
def m__law_keys_right_L0 (law_wo_12 : Int) (law_wo_24 : Int) (k_35 : Int) (number_29 : Int) : Option (Int) :=
  bnd (shrG law_wo_12 k_35) fun t_39 =>
  ifB (decide ((Builtin.bitAnd t_39 (1 : Int)) = (1 : Int))) (
    bnd (shlG law_wo_24 k_35) fun t_42 =>
    some (Builtin.bitXor number_29 t_42)) (
    some number_29)
def m__law_keys_right (script_1 : List Int) : Option (Bool) :=
  bnd (m__law_draw script_1 (109 : Int) (100 : Int)) fun law_dr_4 =>
  bnd (m__law_row script_1 (400 : Int) law_dr_4) fun law_ro_6 =>
  bnd (catG ([(1 : Int)]) law_ro_6) fun t_9 =>
  bnd (m__law_worth t_9) fun law_wo_12 =>
  bnd (m__law_row script_1 (500 : Int) ((Builtin.Int.intBits law_wo_12 : Int) - (1 : Int))) fun law_ro_14 =>
  bnd (m__law_worth law_ro_14) fun law_wo_17 =>
  bnd (m__law_draw script_1 (110 : Int) (100 : Int)) fun law_dr_19 =>
  bnd (m__law_row script_1 (600 : Int) law_dr_19) fun law_ro_21 =>
  bnd (m__law_worth law_ro_21) fun law_wo_24 =>
  bnd (rng1 (Builtin.Int.intBits law_wo_12 : Int)) fun rg_26 =>
  bnd (loopM (fun k_35 s => m__law_keys_right_L0 law_wo_12 law_wo_24 k_35 s) rg_26 law_wo_17) fun number_31 =>
  bndO (m_divided number_31 law_wo_12) fun divide_44 =>
  bnd (ifB (!true) (some true) (bnd (m__law_plain ([divide_44.1, divide_44.2]) ([law_wo_24, law_wo_17])) fun law_pl_50 => some (!law_pl_50))) fun c_52 =>
  ifB c_52 (
    some false) (
    bnd (m__law_no_key number_31) fun law_no_55 =>
    some law_no_55)
def sp__law_keys_right (K : PySem.W.Frag) : Sp := fun vs H Q _ => ∃ (script_1 : List Int) (a_2 : Addr) (r : Bool), vs = [.ref a_2] ∧ SqL K H a_2 (List.map V.int script_1) ∧ m__law_keys_right script_1 = some r ∧ RetV (.bl r) H Q
abbrev N__law_keys_right : List Str := ["script", "key", "rest", "whole", "number", "k", "found"]
theorem sc__law_keys_right : FnScope N__law_keys_right ["script"] (defScope s__law_keys_right) := ⟨rfl, rfl, rfl, by decide +kernel, rfl, by decide +kernel, by decide +kernel⟩
theorem ok__law_keys_right {ad : Ad} (T : Txt K mg ad) : FnOk P w K mg base CX0 4 ad.f__law_keys_right ad.fd__law_keys_right ["script"] (sp__law_keys_right K) := by
  have G__law_draw := ok__law_draw (P := P) (w := w) (base := base) T
  have G__law_no_key := ok__law_no_key (P := P) (w := w) (base := base) T
  have G__law_plain := ok__law_plain (P := P) (w := w) (base := base) T
  have G__law_row := ok__law_row (P := P) (w := w) (base := base) T
  have G__law_worth := ok__law_worth (P := P) (w := w) (base := base) T
  have G_divided := ok_divided (P := P) (w := w) (base := base) T
  refine T.F__law_keys_right.ok sc__law_keys_right (fun vs H Q E h => ?_) (fun cdv A outer s H vs Q E hr h => ?_)
  · obtain ⟨_, _, _, rfl, _⟩ := h
    rfl
  · obtain ⟨S, az, r, rfl, j, hm, k⟩ := h;unfold m__law_keys_right at hm;obtain ⟨H0, hH0⟩ : ∃ H0 : Hp, H0 = H := ⟨H, rfl⟩;have O : Own H0 H [] := by rw [hH0]; exact Own.start H
    rw [← hH0] at k j;clear hH0;refine ⟨_, (pss_cons (ps_set (i := 1) sc__law_keys_right.nd rfl (Or.inl rfl) (pe_call G__law_worth (hr.mono (by decide)) (by rfl) T.g__law_worth T.F__law_worth.kp T.b__law_worth .nil pass0 (pa_cons (pe_op op_cat (pe_lstQ (pe_lst (pa_cons pe_int pa_nil))) (pe_call G__law_row (hr.mono (by decide)) (by rfl) T.g__law_row T.F__law_row.kp T.b__law_row .nil pass0 (pa_cons (pv 0) (pa_cons pe_int (pa_cons (pe_call G__law_draw (hr.mono (by decide)) (by rfl) T.g__law_draw T.F__law_draw.kp T.b__law_draw .nil pass0 (pa_cons (pv 0) (pa_cons pe_int (pa_cons pe_int pa_nil)))) pa_nil))))) pa_nil))) (pss_cons (ps_set (i := 2) sc__law_keys_right.nd rfl (Or.inl rfl) (pe_call G__law_worth (hr.mono (by decide)) (by rfl) T.g__law_worth T.F__law_worth.kp T.b__law_worth .nil pass0 (pa_cons (pe_call G__law_row (hr.mono (by decide)) (by rfl) T.g__law_row T.F__law_row.kp T.b__law_row .nil pass0 (pa_cons (pv 0) (pa_cons pe_int (pa_cons (pe_op op_sub (pe_bits (pv 1)) pe_int) pa_nil)))) pa_nil))) (pss_cons (ps_set (i := 3) sc__law_keys_right.nd rfl (Or.inl rfl) (pe_call G__law_worth (hr.mono (by decide)) (by rfl) T.g__law_worth T.F__law_worth.kp T.b__law_worth .nil pass0 (pa_cons (pe_call G__law_row (hr.mono (by decide)) (by rfl) T.g__law_row T.F__law_row.kp T.b__law_row .nil pass0 (pa_cons (pv 0) (pa_cons pe_int (pa_cons (pe_call G__law_draw (hr.mono (by decide)) (by rfl) T.g__law_draw T.F__law_draw.kp T.b__law_draw .nil pass0 (pa_cons (pv 0) (pa_cons pe_int (pa_cons pe_int pa_nil)))) pa_nil)))) pa_nil))) (pss_cons (ps_set (i := 4) sc__law_keys_right.nd rfl (Or.inl rfl) (pv 2)) (pss_cons (ps_for PassesOwn.never rfl (pi_range1 (by rfl) T.z_range (pa_cons (pe_bits (pv 1)) pa_nil)) (pg_name (i := 5) sc__law_keys_right.nd rfl (Or.inl rfl)) (pss_one (ps_if (pt_cmpR op_eq (pe_op op_and (pe_op op_shr (pv 1) (pv 5)) pe_int) pe_int (nomark _)) (pss_one (ps_set (i := 4) sc__law_keys_right.nd rfl (Or.inl rfl) (pe_op op_xor (pv 4) (pe_op op_shlW (pv 3) (pv 5))))) pss_nil))) (pss_cons (ps_set (i := 6) sc__law_keys_right.nd rfl (Or.inl rfl) (pe_call G_divided (hr.mono (by decide)) (by rfl) T.g_divided T.F_divided.kp T.b_divided .nil passN (pa_cons (pv 4) (pa_cons (pv 1) pa_nil)))) (pss_cons (ps_if (PW.pt (pw_or (pt_not (pt_val (pe_callB (r := rIsi K) call_isi (by rfl) T.z_isinstance (by decide +kernel) (pa_cons (pv 6) (pa_cons (pe_bltn (v := V.ty "tuple") (u := .type "tuple") (by rfl) T.z_tuple (by decide +kernel) rfl) pa_nil))))) (pw_or1 (pt_not (pt_val (pe_call G__law_plain (hr.mono (by decide)) (by rfl) T.g__law_plain T.F__law_plain.kp T.b__law_plain .nil pass0 (pa_cons (pe_callTy (r := rListQ K) call_listQ (by rfl) T.z_list (by decide +kernel) (pa_cons (pv 6) pa_nil)) (pa_cons (pe_lstQ (pe_lst (pa_cons (pv 3) (pa_cons (pv 2) pa_nil)))) pa_nil)))))))) (pss_one (ps_ret pe_bl)) pss_nil) (pss_one (ps_ret (pe_call G__law_no_key (hr.mono (by decide)) (by rfl) T.g__law_no_key T.F__law_no_key.kp T.b__law_no_key .nil pass0 (pa_cons (pv 4) pa_nil))))))))))), ?_⟩;refine o_seq ?_;refine o_asg ?_;refine o_call ?_;refine o_cons ?_;refine o_op ?_;refine o_cons ?_;refine o_c ?_;refine x_nil ?_;refine n_lst (f := V.int) (xs := [(1 : Int)]) O rfl (by show 1 ≤ sizeLine; decide) fun aA H O => ?_;obtain ⟨z, h5, hm⟩ := bndE hm;refine ⟨_, rfl, _, rfl, ?_⟩;refine o_cons ?_;refine o_c ?_;refine o_cons ?_;refine o_c ?_;refine x_nil ?_;refine ⟨_, _, _, _, z, rfl, (O.ex.l j), h5, ?_⟩;refine O.retV fun H O => ?_;obtain ⟨B, h7, hm⟩ := bndE hm;refine x_nil ?_;refine ⟨_, _, _, _, B, rfl, (O.ex.l j), h7, ?_⟩;refine O.retL fun aB H O => ?_;obtain ⟨aC, W, hm⟩ := bndE hm;refine k_cat (f := V.int) O (O.mem (tl_ (hd_))) (O.mem (hd_)) W fun ao H O => ?_;obtain ⟨g, X, hm⟩ := bndE hm;refine x_nil ?_;refine ⟨_, _, g, rfl, (O.mem (hd_)), X, ?_⟩;refine O.retV fun H O => ?_;refine o_seq ?_;refine o_asg ?_;obtain ⟨o, Y, hm⟩ := bndE hm;refine ⟨_, rfl, _, rfl, _, rfl, _, _, rfl, rfl, ?_⟩;refine x_nil ?_
    refine ⟨_, _, _, _, o, rfl, (O.ex.l j), Y, ?_⟩;refine O.retL fun ap H O => ?_;obtain ⟨m, Z, hm⟩ := bndE hm;refine x_nil ?_;refine ⟨_, _, m, rfl, (O.mem (hd_)), Z, ?_⟩;refine O.retV fun H O => ?_;refine o_seq ?_;refine o_asg ?_;obtain ⟨p, aa, hm⟩ := bndE hm;refine ⟨_, rfl, _, rfl, ?_⟩;refine o_cons ?_;refine o_c ?_;refine o_cons ?_;refine o_c ?_;refine x_nil ?_;refine ⟨_, _, _, _, p, rfl, (O.ex.l j), aa, ?_⟩;refine O.retV fun H O => ?_;obtain ⟨q, ab, hm⟩ := bndE hm;refine x_nil ?_;refine ⟨_, _, _, _, q, rfl, (O.ex.l j), ab, ?_⟩;refine O.retL fun aq H O => ?_;obtain ⟨a, ac, hm⟩ := bndE hm;refine x_nil ?_;refine ⟨_, _, a, rfl, (O.mem (hd_)), ac, ?_⟩;refine O.retV fun H O => ?_;refine o_seq ?_;refine o_asg ?_;refine ⟨_, rfl, ?_⟩;refine o_seq ?_;refine o_for ?_;obtain ⟨al, ae, hm⟩ := bndE hm;refine ⟨_, rfl, _, rfl, ?_⟩;refine x_nil ?_;obtain ⟨c1, c2, rfl⟩ := rng1E ae;obtain ⟨t, af, hm⟩ := bndE hm;refine ⟨_, rfl, c1, c2, q_forR (fun r σ H => ∃ (b : Int) (C : Option V) (D : Option V), σ = [C, some (.int g), some (.int m), some (.int a), some (.int b), D, none] ∧ Own H0 H [] ∧ loopM (fun F s => m__law_keys_right_L0 g a F s) r b = some t) ⟨_, _, _, rfl, (Own.pk (L' := []) O [] (by decide) rfl), af⟩ ?_ ?_⟩
    · rintro F r σ H ⟨b, C, D, rfl, O, hL⟩
      obtain ⟨s_, hm, M⟩ := loopM_cons hL;replace hm : m__law_keys_right_L0 g a F b = some s_ := hm;unfold m__law_keys_right_L0 at hm;refine o_ifs ?_;obtain ⟨U, ag, hm⟩ := bndE hm;refine ⟨_, rfl, _, rfl, ?_⟩;refine k_shr ag ?_;refine ⟨_, _, rfl, rfl, ?_⟩;refine o_c ?_;refine k_eqI ?_;refine ⟨_, rfl, ?_⟩;refine iteS (c := (decide ((Builtin.bitAnd U (1 : Int)) = (1 : Int)))) (fun I => ?_) (fun I => ?_)
      · replace hm := ifT hm I;refine o_asg ?_;obtain ⟨av, ah, hm⟩ := bndE hm;refine ⟨_, rfl, _, rfl, _, rfl, ?_⟩;refine k_shl ah ?_;refine ⟨_, _, rfl, rfl, ?_⟩;have Oz := O
        obtain rfl := sji hm;exact ⟨_, _, _, rfl, Oz, M⟩
      · replace hm := ifF hm I;refine o_next ?_;have Oz := O
        obtain rfl := sji hm;exact ⟨_, _, _, rfl, Oz, M⟩
    rintro σ H ⟨b, C, D, rfl, O, hL⟩
    cases loopM_nil hL
    refine o_seq ?_;refine o_asg ?_;obtain ⟨n, ai, hm⟩ := bndOE hm;refine ⟨_, rfl, _, rfl, ?_⟩;refine x_nil ?_;refine ⟨_, _, .ok n, rfl, ai, ?_⟩;refine RetR.ok ?_;refine O.retT fun aw H O => ?_;refine o_seq ?_;refine o_ifs ?_;obtain ⟨G, N, hm⟩ := bndE hm;refine x_or (c := (!true)) (e := G) (d := G) O (fun Q1 k1 => ?_) (fun J => ⟨rfl, fun H O Q2 k2 => ?_⟩) (fun J => sji (ifT N J)) (fun H O => ?_)
    · refine ⟨_, rfl, _, _, _, _, true, rfl, .ty _, .base (.tup (O.mem (hd_))), kit_ty (by decide +kernel), _, rfl, ?_⟩;exact k1 _ O
    · replace hm := ifF N J;obtain ⟨x, aj, hm⟩ := bndE hm;obtain rfl := sji hm;refine ⟨_, rfl, ?_⟩;refine x_nil ?_;refine n_listT (f := V.int) (xs := [n.1, n.2]) O (SqT.of (O.mem (hd_))) rfl fun ax H O => ?_;refine ⟨_, rfl, _, rfl, ?_⟩;refine x_nil ?_;refine n_lst (f := V.int) (xs := [a, m]) O rfl (by show 2 ≤ sizeLine; decide) fun ay H O => ?_;refine x_nil ?_;refine ⟨_, _, _, _, x, rfl, (O.mem (tl_ (hd_))), (O.mem (hd_)), aj, ?_⟩;refine O.retV fun H O => ?_;refine ⟨_, rfl, ?_⟩;replace O := O.tl.tl;exact k2 _ O
    refine iteS (c := G) (fun L => ?_) (fun L => ?_)
    · replace hm := ifT hm L;refine o_ret ?_;refine o_c ?_;obtain rfl := sji hm;exact RetV.go k O
    · replace hm := ifF hm L;refine o_next ?_;refine o_ret ?_;obtain ⟨y, ak, hm⟩ := bndE hm;refine ⟨_, rfl, ?_⟩;refine x_nil ?_;refine ⟨_, y, rfl, ak, ?_⟩;refine O.retV fun H O => ?_;obtain rfl := sji hm;exact RetV.go k O
abbrev N_NoRow_init : List Str := ["self", "word"]
theorem sc_NoRow_init : FnScope N_NoRow_init ["self", "word"] (defScope s_NoRow_init) := ⟨rfl, rfl, rfl, by decide +kernel, rfl, by decide +kernel, by decide +kernel⟩
theorem ok_NoRow_init {ad : Ad} (T : Txt K mg ad) : FnOk P w K mg base CX0 1 ad.f_NoRow_init ad.fd_NoRow_init ["self", "word"] (spI ad.es.NoRow "word") := by
  refine T.F_NoRow_init.ok sc_NoRow_init (fun vs H Q E h => ?_) (fun cdv A outer s H vs Q E hr h => ?_)
  · obtain ⟨a, i, rfl, _⟩ := h
    rfl
  · obtain ⟨a, i, rfl, ha, k⟩ := h;refine ⟨_, (pss_cons (ps_expr (pe_rinit (by rfl) T.n_RailError T.I_NoRow.ga T.I_NoRow.rd T.I_NoRow.v (pa_cons (pv 0) (pa_cons pe_str pa_nil)))) (pss_one (ps_ost (pv 0) (pv 1)))), ?_⟩;refine o_seq ?_;refine o_drop ?_;refine o_cons ?_;refine ⟨_, rfl, ?_⟩;refine o_cons ?_;refine o_c ?_;refine x_nil ?_;refine ⟨a, _, _, rfl, by decide, T.I_NoRow.o, ha, ?_⟩;refine ⟨_, rfl, _, rfl, ?_⟩;exact ⟨a, _, rfl, T.I_NoRow.o, T.I_NoRow.n, .inl ⟨ha, fun dx b c => k dx b c⟩⟩
def m__law_raised (k_1 : Int) (words_2 : Str) (number_3 : Int) : Option (Rs Int) :=
  ifB (decide (k_1 = (0 : Int))) (
    some (.er .NoBits)) (
    ifB (decide (k_1 = (1 : Int))) (
      some (.er .NoName)) (
      ifB (decide (k_1 = (2 : Int))) (
        some (.er .NoKey)) (
        ifB (decide (k_1 = (3 : Int))) (
          some (.er .NoFrame)) (
          ifB (decide (k_1 = (4 : Int))) (
            some (.er .NoPost)) (
            ifB (decide (k_1 = (5 : Int))) (
              some (.er .NoThing)) (
              ifB (decide (k_1 = (6 : Int))) (
                some (.er .NoStrip)) (
                ifB (decide (k_1 = (7 : Int))) (
                  some (.er .NoRail)) (
                  ifB (decide (k_1 = (8 : Int))) (
                    some (.er (.NoWire number_3))) (
                    ifB (decide (k_1 = (9 : Int))) (
                      some (.er (.NoRow number_3))) (
                      some (.ok number_3)))))))))))
def sp__law_raised (K : PySem.W.Frag) (d : Eds) : Sp := fun vs H Q E => ∃ (k_1 : Int) (words_2 : Str) (number_3 : Int) (r : Rs Int), vs = [.int k_1, .str words_2, .int number_3] ∧ m__law_raised k_1 words_2 number_3 = some r ∧ RetR (fun r => RetV (.int r) H Q) d r H E
abbrev N__law_raised : List Str := ["k", "words", "number"]
theorem sc__law_raised : FnScope N__law_raised ["k", "words", "number"] (defScope s__law_raised) := ⟨rfl, rfl, rfl, by decide +kernel, rfl, by decide +kernel, by decide +kernel⟩
theorem ok__law_raised {ad : Ad} (T : Txt K mg ad) : FnOk P w K mg base (L2N.CX P w) 3 ad.f__law_raised ad.fd__law_raised ["k", "words", "number"] (sp__law_raised K ad.es) := by
  refine okN T.F__law_raised sc__law_raised (fun vs H Q E h => ?_) (fun cdv A outer s H vs Q E hr h => ?_)
  · obtain ⟨_, _, _, _, rfl, _⟩ := h
    rfl
  · obtain ⟨a, u, b, r, rfl, hm, k⟩ := h;unfold m__law_raised at hm;obtain ⟨H0, hH0⟩ : ∃ H0 : Hp, H0 = H := ⟨H, rfl⟩;have O : Own H0 H [] := by rw [hH0]; exact Own.start H
    rw [← hH0] at k;clear hH0;refine ⟨_, (pss_cons (ps_if (pt_cmpR op_eq (pv 0) pe_int (nomark _)) (pss_one (ps_errV T.e_NoBits (L2N.takes_of rfl rfl rfl rfl) rfl (by rfl) (pa_cons (pv 1) pa_nil))) pss_nil) (pss_cons (ps_if (pt_cmpR op_eq (pv 0) pe_int (nomark _)) (pss_one (ps_errV T.e_NoName (L2N.takes_of rfl rfl rfl rfl) rfl (by rfl) (pa_cons (pv 1) pa_nil))) pss_nil) (pss_cons (ps_if (pt_cmpR op_eq (pv 0) pe_int (nomark _)) (pss_one (ps_errV T.e_NoKey (L2N.takes_of rfl rfl rfl rfl) rfl (by rfl) (pa_cons (pv 1) pa_nil))) pss_nil) (pss_cons (ps_if (pt_cmpR op_eq (pv 0) pe_int (nomark _)) (pss_one (ps_errV T.e_NoFrame (L2N.takes_of rfl rfl rfl rfl) rfl (by rfl) (pa_cons (pv 1) pa_nil))) pss_nil) (pss_cons (ps_if (pt_cmpR op_eq (pv 0) pe_int (nomark _)) (pss_one (ps_errV T.e_NoPost (L2N.takes_of rfl rfl rfl rfl) rfl (by rfl) (pa_cons (pv 1) pa_nil))) pss_nil) (pss_cons (ps_if (pt_cmpR op_eq (pv 0) pe_int (nomark _)) (pss_one (ps_errV T.e_NoThing (L2N.takes_of rfl rfl rfl rfl) rfl (by rfl) (pa_cons (pv 1) pa_nil))) pss_nil) (pss_cons (ps_if (pt_cmpR op_eq (pv 0) pe_int (nomark _)) (pss_one (ps_errV T.e_NoStrip (L2N.takes_of rfl rfl rfl rfl) rfl (by rfl) (pa_cons (pv 1) pa_nil))) pss_nil) (pss_cons (ps_if (pt_cmpR op_eq (pv 0) pe_int (nomark _)) (pss_one (ps_errV T.e_NoRail (L2N.takes_of rfl rfl rfl rfl) rfl (by rfl) (pa_cons (pv 1) pa_nil))) pss_nil) (pss_cons (ps_if (pt_cmpR op_eq (pv 0) pe_int (nomark _)) (pss_one (L2N.ps_raise rfl (L2N.takes_of rfl rfl rfl rfl) (pmk_initN (sp := spI ad.es.NoWire "at") T.I_NoWire.o T.I_NoWire.i T.I_NoWire.t (ok_NoWire_init (P := P) (w := w) (base := base) T) (hr.mono (by decide)) T.b_NoWire_init pass0 (by rfl) T.n_NoWire (pa_cons (pv 2) pa_nil)))) pss_nil) (pss_cons (ps_if (pt_cmpR op_eq (pv 0) pe_int (nomark _)) (pss_one (L2N.ps_raise rfl (L2N.takes_of rfl rfl rfl rfl) (pmk_initN (sp := spI ad.es.NoRow "word") T.I_NoRow.o T.I_NoRow.i T.I_NoRow.t (ok_NoRow_init (P := P) (w := w) (base := base) T) (hr.mono (by decide)) T.b_NoRow_init pass0 (by rfl) T.n_NoRow (pa_cons (pv 2) pa_nil)))) pss_nil) (pss_one (ps_ret (pv 2))))))))))))), ?_⟩;refine o_seq ?_;refine o_ifs ?_;refine ⟨_, rfl, ?_⟩;refine o_c ?_;refine k_eqI ?_;refine ⟨_, rfl, ?_⟩;refine iteS (c := (decide (a = (0 : Int)))) (fun j => ?_) (fun j => ?_)
    · replace hm := ifT hm j;refine ⟨_, rfl, ?_⟩;refine x_nil ?_;refine ⟨_, rfl, ?_⟩;obtain rfl := sji hm;exact k _ O.ex
    · replace hm := ifF hm j;refine o_next ?_;refine o_seq ?_;refine o_ifs ?_;refine ⟨_, rfl, ?_⟩;refine o_c ?_;refine k_eqI ?_;refine ⟨_, rfl, ?_⟩;refine iteS (c := (decide (a = (1 : Int)))) (fun l => ?_) (fun l => ?_)
      · replace hm := ifT hm l;refine ⟨_, rfl, ?_⟩;refine x_nil ?_;refine ⟨_, rfl, ?_⟩;obtain rfl := sji hm;exact k _ O.ex
      · replace hm := ifF hm l;refine o_next ?_;refine o_seq ?_;refine o_ifs ?_;refine ⟨_, rfl, ?_⟩;refine o_c ?_;refine k_eqI ?_;refine ⟨_, rfl, ?_⟩;refine iteS (c := (decide (a = (2 : Int)))) (fun m => ?_) (fun m => ?_)
        · replace hm := ifT hm m;refine ⟨_, rfl, ?_⟩;refine x_nil ?_;refine ⟨_, rfl, ?_⟩;obtain rfl := sji hm;exact k _ O.ex
        · replace hm := ifF hm m;refine o_next ?_;refine o_seq ?_;refine o_ifs ?_;refine ⟨_, rfl, ?_⟩;refine o_c ?_;refine k_eqI ?_;refine ⟨_, rfl, ?_⟩;refine iteS (c := (decide (a = (3 : Int)))) (fun n => ?_) (fun n => ?_)
          · replace hm := ifT hm n;refine ⟨_, rfl, ?_⟩;refine x_nil ?_;refine ⟨_, rfl, ?_⟩;obtain rfl := sji hm;exact k _ O.ex
          · replace hm := ifF hm n;refine o_next ?_;refine o_seq ?_;refine o_ifs ?_;refine ⟨_, rfl, ?_⟩;refine o_c ?_;refine k_eqI ?_;refine ⟨_, rfl, ?_⟩;refine iteS (c := (decide (a = (4 : Int)))) (fun p => ?_) (fun p => ?_)
            · replace hm := ifT hm p;refine ⟨_, rfl, ?_⟩;refine x_nil ?_;refine ⟨_, rfl, ?_⟩;obtain rfl := sji hm;exact k _ O.ex
            · replace hm := ifF hm p;refine o_next ?_;refine o_seq ?_;refine o_ifs ?_;refine ⟨_, rfl, ?_⟩;refine o_c ?_;refine k_eqI ?_;refine ⟨_, rfl, ?_⟩;refine iteS (c := (decide (a = (5 : Int)))) (fun q => ?_) (fun q => ?_)
              · replace hm := ifT hm q;refine ⟨_, rfl, ?_⟩;refine x_nil ?_;refine ⟨_, rfl, ?_⟩;obtain rfl := sji hm;exact k _ O.ex
              · replace hm := ifF hm q;refine o_next ?_;refine o_seq ?_;refine o_ifs ?_;refine ⟨_, rfl, ?_⟩;refine o_c ?_;refine k_eqI ?_;refine ⟨_, rfl, ?_⟩;refine iteS (c := (decide (a = (6 : Int)))) (fun d => ?_) (fun d => ?_)
                · replace hm := ifT hm d;refine ⟨_, rfl, ?_⟩;refine x_nil ?_;refine ⟨_, rfl, ?_⟩;obtain rfl := sji hm;exact k _ O.ex
                · replace hm := ifF hm d;refine o_next ?_;refine o_seq ?_;refine o_ifs ?_;refine ⟨_, rfl, ?_⟩;refine o_c ?_;refine k_eqI ?_;refine ⟨_, rfl, ?_⟩;refine iteS (c := (decide (a = (7 : Int)))) (fun e => ?_) (fun e => ?_)
                  · replace hm := ifT hm e;refine ⟨_, rfl, ?_⟩;refine x_nil ?_;refine ⟨_, rfl, ?_⟩;obtain rfl := sji hm;exact k _ O.ex
                  · replace hm := ifF hm e;refine o_next ?_;refine o_seq ?_;refine o_ifs ?_;refine ⟨_, rfl, ?_⟩;refine o_c ?_;refine k_eqI ?_;refine ⟨_, rfl, ?_⟩;refine iteS (c := (decide (a = (8 : Int)))) (fun f => ?_) (fun f => ?_)
                    · replace hm := ifT hm f;refine o_mkI ?_;refine ⟨_, rfl, ?_⟩;refine x_nil ?_;refine k_mkI ?_;obtain rfl := sji hm;exact RetE.go (show RetE ad.es (.NoWire b) _ E from k) O
                    · replace hm := ifF hm f;refine o_next ?_;refine o_seq ?_;refine o_ifs ?_;refine ⟨_, rfl, ?_⟩;refine o_c ?_;refine k_eqI ?_;refine ⟨_, rfl, ?_⟩;refine iteS (c := (decide (a = (9 : Int)))) (fun g => ?_) (fun g => ?_)
                      · replace hm := ifT hm g;refine o_mkI ?_;refine ⟨_, rfl, ?_⟩;refine x_nil ?_;refine k_mkI ?_;obtain rfl := sji hm;exact RetE.go (show RetE ad.es (.NoRow b) _ E from k) O
                      · replace hm := ifF hm g;refine o_next ?_;refine o_ret ?_;refine ⟨_, rfl, ?_⟩;obtain rfl := sji hm;exact RetV.go k O
def m__law_good_C0 (k_1 : Int) (other_18 : Int) : Option Bool :=
  
  some (decide (other_18 = k_1))
def m__law_good_C1 (k_1 : Int) (other_69 : Int) : Option Bool :=
  
  some (decide (other_69 = k_1))
def m__law_good (k_1 : Int) (words_2 : Str) (number_3 : Int) : Option (Bool) :=
  bnd (m__law_raised k_1 words_2 number_3) fun x_7 =>
  tryR x_7 (fun law_ra_9 =>
    bnd (rng1 (10 : Int)) fun rg_67 =>
    bnd (compM (m__law_good_C1 k_1) rg_67 []) fun l_71 =>
    ltv ((-(1 : Int))) fun field_74 =>
    bnd (ifB (decide ((7 : Int) < k_1)) (
      some number_3) (
      some field_74)) fun field_82 =>
    some ((decide ((([] : List Bool) : List Bool) = l_71)) && false)) (fun e_ =>
    ifB (decide (e_.k ∈ ks)) (
      bnd (m__law_kinds e_) fun law_ki_10 =>
      bnd (m__law_field e_) fun law_fi_13 =>
      bnd (rng1 (10 : Int)) fun rg_16 =>
      bnd (compM (m__law_good_C0 k_1) rg_16 []) fun l_20 =>
      ltv ((-(1 : Int))) fun field_23 =>
      bnd (ifB (decide ((7 : Int) < k_1)) (
        some number_3) (
        some field_23)) fun field_31 =>
      some ((decide ((law_ki_10 : List Bool) = l_20)) && (true && (true && (decide (law_fi_13 = field_31)))))) none)
def sp__law_good (K : PySem.W.Frag) : Sp := fun vs H Q _ => ∃ (k_1 : Int) (words_2 : Str) (number_3 : Int) (r : Bool), vs = [.int k_1, .str words_2, .int number_3] ∧ m__law_good k_1 words_2 number_3 = some r ∧ RetV (.bl r) H Q
abbrev N__law_good : List Str := ["k", "words", "number", "told", "due", "field", "e", "other"]
theorem sc__law_good : FnScope N__law_good ["k", "words", "number"] (defScope s__law_good) := ⟨rfl, rfl, rfl, by decide +kernel, rfl, by decide +kernel, by decide +kernel⟩
theorem ok__law_good {ad : Ad} (T : Txt K mg ad) : FnOk P w K mg base CX0 4 ad.f__law_good ad.fd__law_good ["k", "words", "number"] (sp__law_good K) := by
  have G__law_field := ok__law_field (P := P) (w := w) (base := base) T
  have G__law_kinds := ok__law_kinds (P := P) (w := w) (base := base) T
  have G__law_raised := ok__law_raised (P := P) (w := w) (base := base) T
  refine T.F__law_good.ok sc__law_good (fun vs H Q E h => ?_) (fun cdv A outer s H vs Q E hr h => ?_)
  · obtain ⟨_, _, _, _, rfl, _⟩ := h
    rfl
  · obtain ⟨U, aX, av, r, rfl, hm, k⟩ := h;unfold m__law_good at hm;obtain ⟨Hb, hHb⟩ : ∃ Hb : Hp, Hb = H := ⟨H, rfl⟩;obtain ⟨H0, hH0⟩ : ∃ H0 : Hp, H0 = Hb := ⟨Hb, rfl⟩;have O : Own H0 H [] := by rw [hH0, hHb]; exact Own.start H
    rw [← hHb] at k;have eB : Ex Hb H0 := by rw [hH0]; exact Ex.refl _
    clear hH0 hHb;refine ⟨_, (pss_cons (ps_set (i := 3) sc__law_good.nd rfl (Or.inl rfl) (pe_tupQ (pe_tup (pa_cons (pe_lstQ (pe_lst pa_nil)) (pa_cons (pe_un un_neg pe_int) (pa_cons pe_bl pa_nil)))))) (pss_cons (L2N.ps_try_as (i := 6) (tb := fun W => _) rfl rfl sc__law_good.nd rfl rfl ⟨rfl, by decide, .inl T.n_RailError⟩ takesN0 (fun W pn xe tk _ => (pss_one (ps_expr (pe_callS G__law_raised (hr.mono (by decide)) (by rfl) T.g__law_raised T.F__law_raised.kp T.b__law_raised (fun σ => L2N.passAt tk σ) (pa_cons (pv 0) (pa_cons (pv 1) (pa_cons (pv 2) pa_nil))))))) (fun a oe cls d pn hz hf => pss_exc (es := ad.es) (ks := ks) fun ex hk hc => (pss_one (ps_set (i := 3) sc__law_good.nd rfl (Or.inl rfl) (pe_tupQ (pe_tup (pa_cons (pe_callGs (ok__law_kinds (P := P) (w := w) (base := base) T ex hk) hz hf hc (hr.mono (by decide)) (by rfl) T.g__law_kinds T.F__law_kinds.kp T.b__law_kinds (pa_cons (pv 6) pa_nil)) (pa_cons (pe_callGs (ok__law_field (P := P) (w := w) (base := base) T ex hk) hz hf hc (hr.mono (by decide)) (by rfl) T.g__law_field T.F__law_field.kp T.b__law_field (pa_cons (pv 6) pa_nil)) (pa_cons (pe_callB (r := rIsX K (ad.es.at ex.k) a ex d) (call_isP (p := (a, oe)) (hd_) (T.EC.ec _ hk) (hz.1.trans hc) hz.2.1 hf) (by rfl) T.z_isinstance (by decide +kernel) (pa_cons (pv 6) (pa_cons (pe_bltn (v := V.ty "ValueError") (u := .type "ValueError") (by rfl) T.z_ValueError (by decide +kernel) rfl) pa_nil))) pa_nil))))))))) (pss_cons (ps_setLc (i := 4) (own := [("other", 7)]) (g := gName 7) (tt := tYes) rfl sc__law_good.nd rfl rfl (sw_true rfl rfl rfl (by decide +kernel)) (pi_range1 (by rfl) T.z_range (pa_cons pe_int pa_nil)) (blkOk_by (own := [("other", 7)]) (N := N__law_good) (sc := defScope s__law_good) (by decide +kernel)) (fun _ _ _ _ _ => pg_name (i := 7) sc__law_good.nd rfl (Or.inl rfl)) (fun _ _ _ _ _ => pts_nil) (fun _ _ _ _ _ => (pe_cmpR op_eq (pv 7) (pv 0) (nomark _)))) (pss_cons (ps_set (i := 5) sc__law_good.nd rfl (Or.inl rfl) (pe_un un_neg pe_int)) (Evl.pss_cut (ps_if (pt_cmpR op_gt (pv 0) pe_int (nomark _)) (pss_one (ps_set (i := 5) sc__law_good.nd rfl (Or.inl rfl) (pv 2))) pss_nil) (pss_one (ps_ret (pe_and (pe_cmpR (r := rEqD K) (op_eqD hr.units) (pe_ix (r := rIxT K) ix_tup (pv 3) pe_int (fun _ _ => rfl)) (pv 4) (nomark _)) (pe_and (pe_ix (r := rIxT K) ix_tup (pv 3) pe_int (fun _ _ => rfl)) (pe_and (pe_callB (r := rIsi K) call_isi (by rfl) T.z_isinstance (by decide +kernel) (pa_cons (pe_ix (r := rIxT K) ix_tup (pv 3) pe_int (fun _ _ => rfl)) (pa_cons (pe_bltn (v := V.ty "int") (u := .type "int") (by rfl) T.z_int (by decide +kernel) rfl) pa_nil))) (pe_one (pe_cmpR op_eq (pe_ix (r := rIxT K) ix_tup (pv 3) pe_int (fun _ _ => rfl)) (pv 5) (nomark _))))))))))))), ?_⟩;refine o_seq ?_;refine o_asg ?_;refine o_cons ?_;refine x_nil ?_;refine n_lst (f := V.bl) (xs := ([] : List Bool)) O rfl (Nat.zero_le _) fun bq H O => ?_;refine ⟨_, rfl, ?_⟩;refine o_cons ?_;refine o_c ?_;refine x_nil ?_;obtain ⟨H0, O, e_, o⟩ := O.frz;replace eB := eB.trans e_;refine n_tup O (by show 3 ≤ sizeLine; decide) fun aq H O => ?_;obtain ⟨H0, O, e_, B⟩ := O.frz;replace o := e_ _ _ o;replace eB := eB.trans e_;have j : (rT3 (rL rB) rI rB) (H0) (.ref aq) ((([] : List Bool), (-(2 : Int)), false) : (List Bool) × Int × Bool) := ⟨_, _, _, _, rfl, B, (gB o), rfl, rfl⟩
    refine o_seq ?_;refine o_drop ?_;obtain ⟨aY, h6, hm⟩ := bndE hm;refine ⟨_, rfl, _, rfl, _, rfl, ?_⟩;refine x_nil ?_;refine ⟨_, _, _, aY, rfl, h6, ?_⟩;refine RetR.split (fun e_ h8 => ?_) (fun ax h8 => ?_)
    · subst h8;replace hm := tryEr hm;obtain ⟨hq_, hm⟩ := ifN hm;have hk_ := of_decide_eq_true hq_
      refine RetE.byX fun H1 dd hE hX hN => ?_;obtain ⟨H0, O, e1_, hX⟩ := O.growX hE hX hN;replace o := e1_ _ _ o;replace B := e1_ _ _ B;replace j := (mT3 (mL mB) mI mB) _ _ _ _ e1_ j;replace eB := eB.trans e1_;refine ⟨true, T.EC.xr _ hk_, fun _ a_ ha_ => ?_, fun q => nomatch q⟩;refine ⟨e_, hk_, rfl, ?_⟩;refine o_asg ?_;obtain ⟨C, aZ, hm⟩ := bndE hm;refine ⟨_, rfl, ?_⟩;refine x_nil ?_;refine ⟨_, rfl, (hX.ext O.ex), _, rfl, aZ, ?_⟩;refine O.retL fun bm H O => ?_;obtain ⟨l, a0, hm⟩ := bndE hm;refine ⟨_, rfl, ?_⟩;refine x_nil ?_;refine ⟨_, rfl, (hX.ext O.ex), _, rfl, a0, ?_⟩;refine O.retV fun H O => ?_;refine ⟨_, rfl, ?_⟩;refine o_cons ?_;refine o_c ?_;refine x_nil ?_;refine ⟨_, _, _, rfl, .ty _, (hX.ext O.ex), T.EC.kv _ hk_, ?_⟩;refine x_nil ?_;obtain ⟨H0, O, e_, I⟩ := O.frz;replace o := e_ _ _ o;replace B := e_ _ _ B;replace j := (mT3 (mL mB) mI mB) _ _ _ _ e_ j;replace hX := hX.ext e_;replace eB := eB.trans e_;refine n_tup O (by show 3 ≤ sizeLine; decide) fun aa H O => ?_;obtain ⟨H0, O, e_, X⟩ := O.frz;replace o := e_ _ _ o;replace B := e_ _ _ B;replace j := (mT3 (mL mB) mI mB) _ _ _ _ e_ j;replace hX := hX.ext e_;replace I := e_ _ _ I;replace eB := eB.trans e_;have b : (rT3 (rL rB) rI rB) (H0) (.ref aa) ((C, l, true) : (List Bool) × Int × Bool) := ⟨_, _, _, _, rfl, X, (gB I), rfl, rfl⟩
      refine o_dn ?_;refine o_seq ?_;refine o_asg ?_;obtain ⟨bi, a1, hm⟩ := bndE hm;refine o_ir1 ?_;refine o_cons ?_;refine o_c ?_;refine x_nil ?_;obtain ⟨c1, c2, rfl⟩ := rng1E a1;obtain ⟨F, a2, hm⟩ := bndE hm;refine ⟨_, rfl, c1, c2, fun J hD => k_lcR (fun r H => ∃ acc : List Bool, Own H0 H ((J, .lst (List.map V.bl acc)) :: []) ∧ compM (m__law_good_C0 U) r acc = some F) ⟨[], O.new hD, a2⟩ ?_ ?_⟩
      · rintro aA r H ⟨acc, O, hC⟩
        obtain ⟨y, hm, hz, hC⟩ := compM_cons hC;refine ⟨rfl, ?_⟩;unfold m__law_good_C0 at hm;refine ⟨_, rfl, _, rfl, ?_⟩;refine k_eqI ?_;obtain rfl := sji hm;refine ⟨_, O.mem (hd_), (by rw [List.length_map]; exact hz), _, ?_, hC⟩;rw [map_snoc];exact O.put0
      rintro H ⟨acc, O, hC⟩
      obtain rfl := compM_nil hC;refine o_seq ?_;refine o_asg ?_;refine ⟨_, rfl, ?_⟩;obtain ⟨aB, a3, hm⟩ := ltvE hm;refine a_set (congrArg V.int a3) ?_;obtain ⟨n, ar, hm⟩ := bndE hm;refine o_cut (fun σ H => ∃ (R_ : Hp) (ab : Option V) (ac : Option V) (ae : Option V), σ = [ab, ac, ae, some (.ref aa), some (.ref J), some (.int n), none, none] ∧ Ex H0 R_ ∧ Own R_ H [(J, .lst (List.map V.bl F))]) ?_ ?_
      · have af : Ex H0 H0 := Ex.refl _
        refine o_ifs ?_;refine ⟨_, rfl, _, _, rfl, rfl, _, rfl, ?_⟩;refine iteS (c := decide ((7 : Int) < U)) (fun ag => ?_) (fun ag => ?_)
        · replace hm := ifT ar ag;refine o_asg ?_;refine ⟨_, rfl, ?_⟩;have Oz := O
          have hq_ := sji hm
          subst hq_;exact ⟨H0, _, _, _, rfl, af, Oz⟩
        · replace hm := ifF ar ag;refine o_next ?_;have Oz := O
          have hq_ := sji hm
          subst hq_;exact ⟨H0, _, _, _, rfl, af, Oz⟩
      rintro σ H ⟨H0, ab, ac, ae, rfl, eJ_, O⟩
      replace b := (mT3 (mL mB) mI mB) _ _ _ _ eJ_ b;replace eB := eB.trans eJ_;refine o_ret ?_;refine x_andVJ (c := (decide ((C : List Bool) = F))) (e := (true && (true && (decide (l = n))))) (d := ((decide ((C : List Bool) = F)) && (true && (true && (decide (l = n)))))) (fun H => ∃ (R_ : Hp), Ex H0 R_ ∧ Own R_ H [(J, .lst (List.map V.bl F))]) (fun Q1 k1 => ?_) (fun ah => ⟨by rw [ah]; rfl, fun H hJ Q2 k2 => ?_⟩) (fun ah => by rw [ah]; rfl) (fun H hJ => ?_)
      · have m : Ex H0 H0 := Ex.refl _
        refine ⟨_, rfl, ?_⟩;refine o_c ?_;obtain ⟨aC, aD, aE, a4, a5, br, bs⟩ := rT3_at b;refine k_ixT (xs := [aC, aD, aE]) (SqT.of (O.ex _ _ a4)) rfl ?_;obtain ⟨bn, rfl, Y⟩ := fB a5;refine ⟨_, rfl, ?_⟩;refine k_eqN (x := C) (y := F) (deL deB) (mL mB) (by decide) (gB (O.ex _ _ Y)) (Ex.refl _) (gB (O.mem (hd_))) (Ex.refl _) ?_;exact k1 _ ⟨H0, m, O⟩
      · obtain ⟨H0, m, O⟩ := hJ;replace b := (mT3 (mL mB) mI mB) _ _ _ _ m b;replace eB := eB.trans m;refine x_andVJ (c := true) (e := (true && (decide (l = n)))) (d := (true && (true && (decide (l = n))))) (fun H => ∃ (R_ : Hp), Ex H0 R_ ∧ Own R_ H [(J, .lst (List.map V.bl F))]) (fun Q1 k1 => ?_) (fun ai => ⟨by rw [ai]; rfl, fun H hJ Q2 k2 => ?_⟩) (fun ai => by rw [ai]; rfl) (fun H hJ => ?_)
        · have t : Ex H0 H0 := Ex.refl _
          refine ⟨_, rfl, ?_⟩;refine o_c ?_;obtain ⟨aF, aG, aH, a6, bt, bu, a7⟩ := rT3_at b;refine k_ixT (xs := [aF, aG, aH]) (SqT.of (O.ex _ _ a6)) rfl ?_;obtain rfl := a7;exact k1 _ ⟨H0, t, O⟩
        · obtain ⟨H0, t, O⟩ := hJ;replace b := (mT3 (mL mB) mI mB) _ _ _ _ t b;replace eB := eB.trans t;replace m := m.trans t;refine x_andVJ (c := true) (e := (decide (l = n))) (d := (true && (decide (l = n)))) (fun H => ∃ (R_ : Hp), Ex H0 R_ ∧ Own R_ H [(J, .lst (List.map V.bl F))]) (fun Q1 k1 => ?_) (fun aj => ⟨by rw [aj]; rfl, fun H hJ Q2 k2 => ?_⟩) (fun aj => by rw [aj]; rfl) (fun H hJ => ?_)
          · have z : Ex H0 H0 := Ex.refl _
            refine ⟨_, rfl, ?_⟩;refine o_c ?_;obtain ⟨aI, aJ, aK, a8, bv, a9, bw⟩ := rT3_at b;refine k_ixT (xs := [aI, aJ, aK]) (SqT.of (O.ex _ _ a8)) rfl ?_;obtain rfl := a9;refine ⟨_, _, _, _, true, rfl, .ty _, .base (.int _), kit_ty (by decide +kernel), ?_⟩;exact k1 _ ⟨H0, z, O⟩
          · obtain ⟨H0, z, O⟩ := hJ;replace b := (mT3 (mL mB) mI mB) _ _ _ _ z b;replace eB := eB.trans z;replace m := m.trans z;replace t := t.trans z;refine ⟨_, rfl, ?_⟩;refine o_c ?_;obtain ⟨aL, aM, aN, ba, bx, bb, bz⟩ := rT3_at b;refine k_ixT (xs := [aL, aM, aN]) (SqT.of (O.ex _ _ ba)) rfl ?_;obtain rfl := bb;refine ⟨_, rfl, ?_⟩;refine k_eqI ?_;exact k2 _ ⟨H0, z, O⟩
          obtain ⟨H0, z, O⟩ := hJ;replace b := (mT3 (mL mB) mI mB) _ _ _ _ z b;replace eB := eB.trans z;replace m := m.trans z;replace t := t.trans z;exact k2 _ ⟨H0, t, O⟩
        obtain ⟨H0, t, O⟩ := hJ;replace b := (mT3 (mL mB) mI mB) _ _ _ _ t b;replace eB := eB.trans t;replace m := m.trans t;exact k2 _ ⟨H0, m, O⟩
      obtain ⟨H0, m, O⟩ := hJ;replace b := (mT3 (mL mB) mI mB) _ _ _ _ m b;replace eB := eB.trans m;obtain rfl := sji hm;exact RetV.goR k O eB
    subst h8;replace hm := tryOk hm;refine O.retV fun H O => ?_;refine o_seq ?_;refine o_asg ?_;obtain ⟨bj, bc, hm⟩ := bndE hm;refine o_ir1 ?_;refine o_cons ?_;refine o_c ?_;refine x_nil ?_;obtain ⟨c1, c2, rfl⟩ := rng1E bc;obtain ⟨G, bd, hm⟩ := bndE hm;refine ⟨_, rfl, c1, c2, fun L hD => k_lcR (fun r H => ∃ acc : List Bool, Own H0 H ((L, .lst (List.map V.bl acc)) :: []) ∧ compM (m__law_good_C1 U) r acc = some G) ⟨[], O.new hD, bd⟩ ?_ ?_⟩
    · rintro aO r H ⟨acc, O, hC⟩
      obtain ⟨y, hm, hz, hC⟩ := compM_cons hC;refine ⟨rfl, ?_⟩;unfold m__law_good_C1 at hm;refine ⟨_, rfl, _, rfl, ?_⟩;refine k_eqI ?_;obtain rfl := sji hm;refine ⟨_, O.mem (hd_), (by rw [List.length_map]; exact hz), _, ?_, hC⟩;rw [map_snoc];exact O.put0
    rintro H ⟨acc, O, hC⟩
    obtain rfl := compM_nil hC;refine o_seq ?_;refine o_asg ?_;refine ⟨_, rfl, ?_⟩;obtain ⟨aP, be, hm⟩ := ltvE hm;refine a_set (congrArg V.int be) ?_;obtain ⟨S, au, hm⟩ := bndE hm;refine o_cut (fun σ H => ∃ (R_ : Hp) (ak : Option V) (al : Option V) (am : Option V), σ = [ak, al, am, some (.ref aq), some (.ref L), some (.int S), none, none] ∧ Ex H0 R_ ∧ Own R_ H [(L, .lst (List.map V.bl G))]) ?_ ?_
    · have an : Ex H0 H0 := Ex.refl _
      refine o_ifs ?_;refine ⟨_, rfl, _, _, rfl, rfl, _, rfl, ?_⟩;refine iteS (c := decide ((7 : Int) < U)) (fun ao => ?_) (fun ao => ?_)
      · replace hm := ifT au ao;refine o_asg ?_;refine ⟨_, rfl, ?_⟩;have Oz := O
        have hq_ := sji hm
        subst hq_;exact ⟨H0, _, _, _, rfl, an, Oz⟩
      · replace hm := ifF au ao;refine o_next ?_;have Oz := O
        have hq_ := sji hm
        subst hq_;exact ⟨H0, _, _, _, rfl, an, Oz⟩
    rintro σ H ⟨H0, ak, al, am, rfl, eJ_, O⟩
    replace j := (mT3 (mL mB) mI mB) _ _ _ _ eJ_ j;replace eB := eB.trans eJ_;refine o_ret ?_;refine x_andVJ (c := (decide ((([] : List Bool) : List Bool) = G))) (e := false) (d := ((decide ((([] : List Bool) : List Bool) = G)) && false)) (fun H => ∃ (R_ : Hp), Ex H0 R_ ∧ Own R_ H [(L, .lst (List.map V.bl G))]) (fun Q1 k1 => ?_) (fun ap => ⟨by rw [ap]; rfl, fun H hJ Q2 k2 => ?_⟩) (fun ap => by rw [ap]; rfl) (fun H hJ => ?_)
    · have D : Ex H0 H0 := Ex.refl _
      refine ⟨_, rfl, ?_⟩;refine o_c ?_;obtain ⟨aQ, aR, aS, bf, bg, bA, bB⟩ := rT3_at j;refine k_ixT (xs := [aQ, aR, aS]) (SqT.of (O.ex _ _ bf)) rfl ?_;obtain ⟨bo, rfl, Z⟩ := fB bg;refine ⟨_, rfl, ?_⟩;refine k_eqN (x := ([] : List Bool)) (y := G) (deL deB) (mL mB) (by decide) (gB (O.ex _ _ Z)) (Ex.refl _) (gB (O.mem (hd_))) (Ex.refl _) ?_;exact k1 _ ⟨H0, D, O⟩
    · obtain ⟨H0, D, O⟩ := hJ;replace j := (mT3 (mL mB) mI mB) _ _ _ _ D j;replace eB := eB.trans D;refine x_andVJ (c := false) (e := false) (d := false) (fun H => ∃ (R_ : Hp), Ex H0 R_ ∧ Own R_ H [(L, .lst (List.map V.bl G))]) (fun Q1 k1 => ?_) (fun h_ => absurd h_ (by decide)) (fun _ => rfl) (fun H hJ => ?_)
      · have M : Ex H0 H0 := Ex.refl _
        refine ⟨_, rfl, ?_⟩;refine o_c ?_;obtain ⟨aT, aU, aV, bh, bC, bp, aW⟩ := rT3_at j;refine k_ixT (xs := [aT, aU, aV]) (SqT.of (O.ex _ _ bh)) rfl ?_;obtain rfl := aW;exact k1 _ ⟨H0, M, O⟩
      obtain ⟨H0, M, O⟩ := hJ;replace j := (mT3 (mL mB) mI mB) _ _ _ _ M j;replace eB := eB.trans M;replace D := D.trans M;exact k2 _ ⟨H0, D, O⟩
    obtain ⟨H0, D, O⟩ := hJ;replace j := (mT3 (mL mB) mI mB) _ _ _ _ D j;replace eB := eB.trans D;obtain rfl := sji hm;exact RetV.goR k O eB
def m_law_L0 (words_22 : Str) (number_23 : Int) (k_30 : Int) : Option (Fl (Unit) (Bool)) :=
  bnd (m__law_good k_30 words_22 number_23) fun law_go_35 =>
  bnd (ifB (!law_go_35) (some true) (bnd (m__law_good k_30 ("" : Str) (0 : Int)) fun law_go_37 => some (!law_go_37))) fun c_39 =>
  ifB c_39 (
    some (.rt false)) (
    some (.nx ()))
def m_law (script_1 : List Int) : Option (Bool) :=
  ltv (("" : Str)) fun words_3 =>
  bnd (ifB (decide ((0 : Int) < (List.length script_1 : Int))) (
    bnd (atI script_1 (0 : Int)) fun e_8 =>
    bnd (powG (10 : Int) (9 : Int)) fun t_10 =>
    bnd (modG e_8 t_10) fun t_12 =>
    bnd (strI t_12) fun t_14 =>
    bnd (atI script_1 ((List.length script_1 : Int) / (2 : Int))) fun e_16 =>
    bnd (powG (10 : Int) (18 : Int)) fun t_18 =>
    bnd (modG e_16 t_18) fun t_20 =>
    some (t_14, t_20)) (
    some (words_3, (0 : Int)))) fun (words_22, number_23) =>
  bnd (rng1 (10 : Int)) fun rg_24 =>
  fin (loopF (fun k_30 (_ : Unit) => m_law_L0 words_22 number_23 k_30) rg_24 ()) fun _ =>
  bnd (m__law_numbers_right script_1) fun law_nu_43 =>
  bnd (ifB (!law_nu_43) (some true) (bnd (m__law_names_right script_1) fun law_na_46 =>
  bnd (ifB (!law_na_46) (some true) (bnd (m__law_keys_right script_1) fun law_ke_48 => some (!law_ke_48))) fun c_50 => some c_50)) fun c_52 =>
  ifB c_52 (
    some false) (
    bnd (m__law_frames_right script_1) fun law_fr_56 =>
    bnd (ifB law_fr_56 (bnd (m__law_wires_right script_1) fun law_wi_58 => some law_wi_58) (some false)) fun c_60 =>
    some c_60)
def sp_law (K : PySem.W.Frag) : Sp := fun vs H Q _ => ∃ (script_1 : List Int) (a_2 : Addr) (r : Bool), vs = [.ref a_2] ∧ SqL K H a_2 (List.map V.int script_1) ∧ m_law script_1 = some r ∧ RetV (.bl r) H Q
abbrev N_law : List Str := ["script", "words", "number", "k"]
theorem sc_law : FnScope N_law ["script"] (defScope s_law) := ⟨rfl, rfl, rfl, by decide +kernel, rfl, by decide +kernel, by decide +kernel⟩
theorem ok_law {ad : Ad} (T : Txt K mg ad) : FnOk P w K mg base CX0 7 ad.f_law ad.fd_law ["script"] (sp_law K) := by
  have G__law_frames_right := ok__law_frames_right (P := P) (w := w) (base := base) T
  have G__law_good := ok__law_good (P := P) (w := w) (base := base) T
  have G__law_keys_right := ok__law_keys_right (P := P) (w := w) (base := base) T
  have G__law_names_right := ok__law_names_right (P := P) (w := w) (base := base) T
  have G__law_numbers_right := ok__law_numbers_right (P := P) (w := w) (base := base) T
  have G__law_wires_right := ok__law_wires_right (P := P) (w := w) (base := base) T
  refine T.F_law.ok sc_law (fun vs H Q E h => ?_) (fun cdv A outer s H vs Q E hr h => ?_)
  · obtain ⟨_, _, _, rfl, _⟩ := h
    rfl
  · obtain ⟨u, N, r, rfl, a, hm, k⟩ := h;unfold m_law at hm;obtain ⟨H0, hH0⟩ : ∃ H0 : Hp, H0 = H := ⟨H, rfl⟩;have O : Own H0 H [] := by rw [hH0]; exact Own.start H
    rw [← hH0] at k a;clear hH0;refine ⟨_, (pss_cons (ps_set (i := 1) sc_law.nd rfl (Or.inl rfl) pe_str) (pss_cons (ps_set (i := 2) sc_law.nd rfl (Or.inl rfl) pe_int) (Evl.pss_cut (ps_if (pt_cmpR op_gt (pe_callB (r := rLenQ K) call_lenQ (by rfl) T.z_len PySem.boot_len (pa_cons (pv 0) pa_nil)) pe_int (nomark _)) (pss_cons (ps_set (i := 1) sc_law.nd rfl (Or.inl rfl) (pe_callTy (r := rStrZ) call_strZ (by rfl) T.z_str (by decide +kernel) (pa_cons (pe_op op_mod (pe_ix (r := rIxL K) ix_list (pv 0) pe_int (fun _ _ => rfl)) (pe_op op_pow pe_int pe_int)) pa_nil))) (pss_one (ps_set (i := 2) sc_law.nd rfl (Or.inl rfl) (pe_op op_mod (pe_ix (r := rIxL K) ix_list (pv 0) (pe_op op_fdiv (pe_callB (r := rLenQ K) call_lenQ (by rfl) T.z_len PySem.boot_len (pa_cons (pv 0) pa_nil)) pe_int) (fun _ _ => rfl)) (pe_op op_pow pe_int pe_int))))) pss_nil) (pss_cons (ps_for PassesOwn.never rfl (pi_range1 (by rfl) T.z_range (pa_cons pe_int pa_nil)) (pg_name (i := 3) sc_law.nd rfl (Or.inl rfl)) (pss_one (ps_if (PW.pt (pw_or (pt_not (pt_val (pe_call G__law_good (hr.mono (by decide)) (by rfl) T.g__law_good T.F__law_good.kp T.b__law_good .nil pass0 (pa_cons (pv 3) (pa_cons (pv 1) (pa_cons (pv 2) pa_nil)))))) (pw_or1 (pt_not (pt_val (pe_call G__law_good (hr.mono (by decide)) (by rfl) T.g__law_good T.F__law_good.kp T.b__law_good .nil pass0 (pa_cons (pv 3) (pa_cons pe_str (pa_cons pe_int pa_nil))))))))) (pss_one (ps_ret pe_bl)) pss_nil))) (pss_cons (ps_if (PW.pt (pw_or (pt_not (pt_val (pe_call G__law_numbers_right (hr.mono (by decide)) (by rfl) T.g__law_numbers_right T.F__law_numbers_right.kp T.b__law_numbers_right .nil pass0 (pa_cons (pv 0) pa_nil)))) (pw_or (pt_not (pt_val (pe_call G__law_names_right (hr.mono (by decide)) (by rfl) T.g__law_names_right T.F__law_names_right.kp T.b__law_names_right .nil pass0 (pa_cons (pv 0) pa_nil)))) (pw_or1 (pt_not (pt_val (pe_call G__law_keys_right (hr.mono (by decide)) (by rfl) T.g__law_keys_right T.F__law_keys_right.kp T.b__law_keys_right .nil pass0 (pa_cons (pv 0) pa_nil)))))))) (pss_one (ps_ret pe_bl)) pss_nil) (pss_one (ps_ret (pe_and (pe_call G__law_frames_right (hr.mono (by decide)) (by rfl) T.g__law_frames_right T.F__law_frames_right.kp T.b__law_frames_right .nil pass0 (pa_cons (pv 0) pa_nil)) (pe_one (pe_call G__law_wires_right (hr.mono (by decide)) (by rfl) T.g__law_wires_right T.F__law_wires_right.kp T.b__law_wires_right .nil pass0 (pa_cons (pv 0) pa_nil))))))))))), ?_⟩;refine o_seq ?_;refine o_asg ?_;refine o_c ?_;obtain ⟨ab, h4, hm⟩ := ltvE hm;refine a_set (congrArg V.str h4) ?_;refine o_seq ?_;refine o_asg ?_;refine o_c ?_;obtain ⟨⟨g, b⟩, h7, hm⟩ := bndE hm;refine o_cut (fun σ H => σ = [some (.ref N), some (.str g), some (.int b), none] ∧ Own H0 H []) ?_ ?_
    · refine o_ifs ?_;refine ⟨_, rfl, ?_⟩;refine x_nil ?_;refine n_len (O.ex.l a) ?_;refine ⟨_, _, rfl, rfl, _, rfl, ?_⟩;refine iteS (c := decide ((0 : Int) < (List.length u : Int))) (fun h6 => ?_) (fun h6 => ?_)
      · replace hm := ifT h7 h6;refine o_seq ?_;refine o_asg ?_;obtain ⟨aG, h9, hm⟩ := bndE hm;refine ⟨_, rfl, ?_⟩;refine o_c ?_;refine k_ixL (f := V.int) (O.ex.l a) h9 ?_;obtain ⟨ay, ae, hm⟩ := bndE hm;refine o_op ?_;refine o_c ?_;refine o_c ?_;refine k_pow ae ?_;obtain ⟨az, af, hm⟩ := bndE hm;refine k_mod af ?_;obtain ⟨aA, ag, hm⟩ := bndE hm;refine x_nil ?_;refine n_strZ ag ?_;refine o_asg ?_;refine ⟨_, rfl, _, rfl, ?_⟩;refine x_nil ?_;refine n_len (O.ex.l a) ?_;obtain ⟨aB, ah, hm⟩ := bndE hm;refine ⟨_, _, rfl, rfl, ⟨by decide, by decide⟩, ?_⟩;refine k_ixL (f := V.int) (O.ex.l a) ah ?_;obtain ⟨aC, ai, hm⟩ := bndE hm;refine o_op ?_;refine o_c ?_;refine o_c ?_;refine k_pow ai ?_;obtain ⟨aD, aj, hm⟩ := bndE hm;refine k_mod aj ?_;have Oz := O
        have hq_ := sji hm
        replace hq_ := Prod.mk.inj hq_;obtain ⟨hq1_, hq_⟩ := hq_;subst hq1_;subst hq_;exact ⟨rfl, Oz⟩
      · replace hm := ifF h7 h6;refine o_next ?_;have Oz := O
        have hq_ := sji hm
        replace hq_ := Prod.mk.inj hq_;obtain ⟨hq1_, hq_⟩ := hq_;subst hq1_;subst hq_;exact ⟨rfl, Oz⟩
    rintro σ H ⟨rfl, O⟩
    refine o_seq ?_;refine o_for ?_;obtain ⟨av, ak, hm⟩ := bndE hm;refine o_ir1 ?_;refine o_cons ?_;refine o_c ?_;refine x_nil ?_;obtain ⟨c1, c2, rfl⟩ := rng1E ak;obtain ⟨B, al, S⟩ := bndE hm;refine ⟨_, rfl, c1, c2, q_forR (fun r σ H => ∃ (v : Option V), σ = [some (.ref N), some (.str g), some (.int b), v] ∧ Own H0 H [] ∧ loopF (fun x (_ : Unit) => m_law_L0 g b x) r () = some B) ⟨_, rfl, O, al⟩ ?_ ?_⟩
    · rintro x r σ H ⟨v, rfl, O, hL⟩
      obtain ⟨s_, hm, U⟩ := loopF_cons hL;replace hm : m_law_L0 g b x = some s_ := hm;unfold m_law_L0 at hm;refine o_ifs ?_;obtain ⟨j, am, hm⟩ := bndE hm;obtain ⟨y, W, hm⟩ := bndE hm;refine x_or (c := (!j)) (e := y) (d := y) O (fun Q1 k1 => ?_) (fun C => ⟨rfl, fun H O Q2 k2 => ?_⟩) (fun C => sji (ifT W C)) (fun H O => ?_)
      · refine ⟨_, rfl, _, rfl, _, rfl, ?_⟩;refine x_nil ?_;refine ⟨_, _, _, j, rfl, am, ?_⟩;refine O.retV fun H O => ?_;refine ⟨_, rfl, ?_⟩;exact k1 _ O
      · replace hm := ifF W C;obtain ⟨p, an, hm⟩ := bndE hm;obtain rfl := sji hm;refine ⟨_, rfl, ?_⟩;refine o_cons ?_;refine o_c ?_;refine o_cons ?_;refine o_c ?_;refine x_nil ?_;refine ⟨_, _, _, p, rfl, an, ?_⟩;refine O.retV fun H O => ?_;refine ⟨_, rfl, ?_⟩;exact k2 _ O
      refine iteS (c := y) (fun D => ?_) (fun D => ?_)
      · replace hm := ifT hm D;refine o_ret ?_;refine o_c ?_;obtain rfl := sji hm;obtain rfl := contRt U;obtain rfl := finRt S;exact RetV.go k O
      · replace hm := ifF hm D;refine o_next ?_;have Oz := O
        obtain rfl := sji hm;exact ⟨_, rfl, Oz, U⟩
    rintro σ H ⟨v, rfl, O, hL⟩
    obtain rfl := loopF_nil hL;replace hm := finNx S;refine o_seq ?_;refine o_ifs ?_;obtain ⟨m, ao, hm⟩ := bndE hm;obtain ⟨z, X, hm⟩ := bndE hm;refine x_or (c := (!m)) (e := z) (d := z) O (fun Q1 k1 => ?_) (fun F => ⟨rfl, fun H O Q2 k2 => ?_⟩) (fun F => sji (ifT X F)) (fun H O => ?_)
    · refine ⟨_, rfl, ?_⟩;refine x_nil ?_;refine ⟨_, _, m, rfl, (O.ex.l a), ao, ?_⟩;refine O.retV fun H O => ?_;refine ⟨_, rfl, ?_⟩;exact k1 _ O
    · replace hm := ifF X F;obtain ⟨n, ap, hm⟩ := bndE hm;obtain ⟨G, Y, hm⟩ := bndE hm;obtain rfl := sji hm;refine x_or (c := (!n)) (e := G) (d := G) O (fun Q1 k1 => ?_) (fun I => ⟨rfl, fun H O Q2 k2 => ?_⟩) (fun I => sji (ifT Y I)) (fun H O => ?_)
      · refine ⟨_, rfl, ?_⟩;refine x_nil ?_;refine ⟨_, _, n, rfl, (O.ex.l a), ap, ?_⟩;refine O.retV fun H O => ?_;refine ⟨_, rfl, ?_⟩;exact k1 _ O
      · replace hm := ifF Y I;obtain ⟨q, aq, hm⟩ := bndE hm;obtain rfl := sji hm;refine ⟨_, rfl, ?_⟩;refine x_nil ?_;refine ⟨_, _, q, rfl, (O.ex.l a), aq, ?_⟩;refine O.retV fun H O => ?_;refine ⟨_, rfl, ?_⟩;exact k2 _ O
      exact k2 _ O
    refine iteS (c := z) (fun J => ?_) (fun J => ?_)
    · replace hm := ifT hm J;refine o_ret ?_;refine o_c ?_;obtain rfl := sji hm;exact RetV.go k O
    · replace hm := ifF hm J;refine o_next ?_;refine o_ret ?_;obtain ⟨o, ar, hm⟩ := bndE hm;obtain ⟨L, Z, hm⟩ := bndE hm;refine x_andV (c := o) (e := L) (d := L) O (fun Q1 k1 => ?_) (fun M => ⟨rfl, fun H O Q2 k2 => ?_⟩) (fun M => sji (ifF Z M)) (fun H O => ?_)
      · refine ⟨_, rfl, ?_⟩;refine x_nil ?_;refine ⟨_, _, o, rfl, (O.ex.l a), ar, ?_⟩;refine O.retV fun H O => ?_;exact k1 _ O
      · replace hm := ifT Z M;obtain ⟨t, au, hm⟩ := bndE hm;obtain rfl := sji hm;refine ⟨_, rfl, ?_⟩;refine x_nil ?_;refine ⟨_, _, t, rfl, (O.ex.l a), au, ?_⟩;refine O.retV fun H O => ?_;exact k2 _ O
      obtain rfl := sji hm;exact RetV.go k O
end
theorem walk {l : PySem.W.OpenLaw} {q : Program} {loose : List Str} {XP : (Str → Option Value) → Heap → Prop} {YP : World → Heap → Prop} {d : DefRec} {K : Params → PySem.W.Frag} (M : ∀ ns : List Int, ns.length ≤ 63 → m_law ns = some true) (hn : l.most = some 63) (hdf : d.params.defaults = [])
    (hY : ∀ (w : World) (h : Heap), YP w h → (K w.params).In h)
    (F : ∀ (w : World) (mg : Str → Option Value) (fa : Addr) (h : Heap), (K w.params).In h → h.Ns mainGlobals mg → mg d.name = some (.ref fa) →
      ∃ fd : FuncData, (∀ (s : Shared) (u : Value), BindsTo s fd ⟨[u], []⟩ [("script", u)]) ∧ ∀ base : Heap, (K w.params).In base → base.Ns mainGlobals mg → FnOk l.prog w (K w.params) mg base CX0 7 fa fd ["script"] (sp_law (K w.params))) :
    PySem.W.WalkO q loose XP YP l.row.toRowW d [] (fun f vs => PySem.call f vs) :=
  L2.walk_of (n := 63) (k := 7) (x := "script") (CX := fun _ => CX0) (sp := fun w => sp_law (K w.params)) hn (by decide) hdf ⟨rfl, by decide, by decide⟩ hY F (fun _ _ a ns hl _ hS => ⟨ns, a, true, rfl, hS, M ns hl, fun _ _ => rfl⟩) fun _ _ _ _ _ z => z
theorem pack {K : PySem.W.Frag} {h : Heap} {mg : Str → Option Value} (X : K.In h) (G : h.Ns mainGlobals mg) {i b o j l m n e f g a : Addr} {F_NoWire : Addr} {oc_NoWire kV_NoWire doc_NoWire pm_NoWire cdv_NoWire ct_NoWire : Value} {od_NoWire an_NoWire : Option Addr} {osl_NoWire : Array (Option Value)} {F_NoRow : Addr} {oc_NoRow kV_NoRow doc_NoRow pm_NoRow cdv_NoRow ct_NoRow : Value} {od_NoRow an_NoRow : Option Addr} {osl_NoRow : Array (Option Value)} (u : PySem.W.nsIn K mainGlobals "NoBits" = some (some (.ref i))) (r : PySem.W.nsIn K mainGlobals "NoFrame" = some (some (.ref b))) (y : PySem.W.nsIn K mainGlobals "NoKey" = some (some (.ref o))) (v : PySem.W.nsIn K mainGlobals "NoName" = some (some (.ref j))) (w : PySem.W.nsIn K mainGlobals "NoPost" = some (some (.ref l))) (x : PySem.W.nsIn K mainGlobals "NoRail" = some (some (.ref m))) (B : PySem.W.nsIn K mainGlobals "NoRow" = some (some (.ref n))) (s : PySem.W.nsIn K mainGlobals "NoStrip" = some (some (.ref e))) (t : PySem.W.nsIn K mainGlobals "NoThing" = some (some (.ref f))) (z : PySem.W.nsIn K mainGlobals "NoWire" = some (some (.ref g))) (p : PySem.W.nsIn K mainGlobals "RailError" = some (some (.ref a))) (e_NoBits : PySem.W.excIn K i [.type "ValueError", .type "Exception", .type "BaseException", .type "object"] "ValueError.__new__" = true) (k_NoBits : PySem.W.keepIn K (.ref i) = true) (s_NoBits : PySem.W.subIn K (.ref i) (.type "BaseException") = some true) (t_NoBits : PySem.W.typeIn K (.ref i) = some (.type "type")) (e_NoFrame : PySem.W.excIn K b [.type "ValueError", .type "Exception", .type "BaseException", .type "object"] "ValueError.__new__" = true) (k_NoFrame : PySem.W.keepIn K (.ref b) = true) (s_NoFrame : PySem.W.subIn K (.ref b) (.type "BaseException") = some true) (t_NoFrame : PySem.W.typeIn K (.ref b) = some (.type "type")) (e_NoKey : PySem.W.excIn K o [.type "ValueError", .type "Exception", .type "BaseException", .type "object"] "ValueError.__new__" = true) (k_NoKey : PySem.W.keepIn K (.ref o) = true) (s_NoKey : PySem.W.subIn K (.ref o) (.type "BaseException") = some true) (t_NoKey : PySem.W.typeIn K (.ref o) = some (.type "type")) (e_NoName : PySem.W.excIn K j [.type "ValueError", .type "Exception", .type "BaseException", .type "object"] "ValueError.__new__" = true) (k_NoName : PySem.W.keepIn K (.ref j) = true) (s_NoName : PySem.W.subIn K (.ref j) (.type "BaseException") = some true) (t_NoName : PySem.W.typeIn K (.ref j) = some (.type "type")) (e_NoPost : PySem.W.excIn K l [.type "ValueError", .type "Exception", .type "BaseException", .type "object"] "ValueError.__new__" = true) (k_NoPost : PySem.W.keepIn K (.ref l) = true) (s_NoPost : PySem.W.subIn K (.ref l) (.type "BaseException") = some true) (t_NoPost : PySem.W.typeIn K (.ref l) = some (.type "type")) (e_NoRail : PySem.W.excIn K m [.type "ValueError", .type "Exception", .type "BaseException", .type "object"] "ValueError.__new__" = true) (k_NoRail : PySem.W.keepIn K (.ref m) = true) (s_NoRail : PySem.W.subIn K (.ref m) (.type "BaseException") = some true) (t_NoRail : PySem.W.typeIn K (.ref m) = some (.type "type")) (e_NoStrip : PySem.W.excIn K e [.type "ValueError", .type "Exception", .type "BaseException", .type "object"] "ValueError.__new__" = true) (k_NoStrip : PySem.W.keepIn K (.ref e) = true) (s_NoStrip : PySem.W.subIn K (.ref e) (.type "BaseException") = some true) (t_NoStrip : PySem.W.typeIn K (.ref e) = some (.type "type")) (e_NoThing : PySem.W.excIn K f [.type "ValueError", .type "Exception", .type "BaseException", .type "object"] "ValueError.__new__" = true) (k_NoThing : PySem.W.keepIn K (.ref f) = true) (s_NoThing : PySem.W.subIn K (.ref f) (.type "BaseException") = some true) (t_NoThing : PySem.W.typeIn K (.ref f) = some (.type "type")) (iga : PySem.W.specialIn K (.ref a) "__getattribute__" = some (some (.builtin "type.__getattribute__"))) (ird : PySem.W.readsIn K a (.type "type") = true) (ivV : PySem.W.findCls K (.ref a) (.type "type") "__init__" = some (.val (.builtin "ValueError.__init__"))) (lo_NoWire : ∃ nm q N bs bm sn sub ab col dd k0 k1 k2 k3 k5, K.lookup g = some (excClassObj nm q g N bs bm true sn sub ab col dd k0 k1 k2 k3 k5 "ValueError.__new__") ∧ PySem.HandSPX.refsVE bm = true) (sa_NoWire : PySem.W.findIn K (.ref g) "__setattr__" = some (some (.builtin "object.__setattr__"))) (xs_NoWire : PySem.W.subIn K (.ref g) (.type "BaseException") = some true) (xt_NoWire : PySem.W.typeIn K (.ref g) = some (.type "type")) (xk_NoWire : PySem.W.keepIn K (.ref g) = true) (ii_NoWire : PySem.W.findIn K (.ref g) "__init__" = some (some (.ref F_NoWire))) (it_NoWire : PySem.W.typeIn K (.ref F_NoWire) = some (.type "function")) (in_NoWire : PySem.W.findIn K (.ref g) "at" = some none) (il_NoWire : K.lookup F_NoWire = some ⟨oc_NoWire, od_NoWire, .func (PySem.W.fnOf "__init__" "NoWire.__init__" (defArgs s_NoWire_init) (defBody s_NoWire_init) (defScope s_NoWire_init) .none kV_NoWire doc_NoWire pm_NoWire an_NoWire cdv_NoWire ct_NoWire), osl_NoWire⟩) (ic_NoWire : PySem.W.codeIn K cdv_NoWire "NoWire.__init__" = true) (ik_NoWire : PySem.W.keepIn K (.ref F_NoWire) = true) (lo_NoRow : ∃ nm q N bs bm sn sub ab col dd k0 k1 k2 k3 k5, K.lookup n = some (excClassObj nm q n N bs bm true sn sub ab col dd k0 k1 k2 k3 k5 "ValueError.__new__") ∧ PySem.HandSPX.refsVE bm = true) (sa_NoRow : PySem.W.findIn K (.ref n) "__setattr__" = some (some (.builtin "object.__setattr__"))) (xs_NoRow : PySem.W.subIn K (.ref n) (.type "BaseException") = some true) (xt_NoRow : PySem.W.typeIn K (.ref n) = some (.type "type")) (xk_NoRow : PySem.W.keepIn K (.ref n) = true) (ii_NoRow : PySem.W.findIn K (.ref n) "__init__" = some (some (.ref F_NoRow))) (it_NoRow : PySem.W.typeIn K (.ref F_NoRow) = some (.type "function")) (in_NoRow : PySem.W.findIn K (.ref n) "word" = some none) (il_NoRow : K.lookup F_NoRow = some ⟨oc_NoRow, od_NoRow, .func (PySem.W.fnOf "__init__" "NoRow.__init__" (defArgs s_NoRow_init) (defBody s_NoRow_init) (defScope s_NoRow_init) .none kV_NoRow doc_NoRow pm_NoRow an_NoRow cdv_NoRow ct_NoRow), osl_NoRow⟩) (ic_NoRow : PySem.W.codeIn K cdv_NoRow "NoRow.__init__" = true) (ik_NoRow : PySem.W.keepIn K (.ref F_NoRow) = true) (xg_NoRow : PySem.W.findIn K (.ref n) "__getattribute__" = some (some (.builtin "BaseException.__getattribute__"))) (xh_NoRow : PySem.W.findIn K (.ref n) "__getattr__" = some none) (xb_NoRow : PySem.W.subIn K (.ref n) (.type "BaseException") = some true) (xd_NoRow : PySem.W.hasDictIn K n = true) (xn_NoRow : PySem.W.findIn K (.ref n) "word" = some none) (xg_NoWire : PySem.W.findIn K (.ref g) "__getattribute__" = some (some (.builtin "BaseException.__getattribute__"))) (xh_NoWire : PySem.W.findIn K (.ref g) "__getattr__" = some none) (xb_NoWire : PySem.W.subIn K (.ref g) (.type "BaseException") = some true) (xd_NoWire : PySem.W.hasDictIn K g = true) (xn_NoWire : PySem.W.findIn K (.ref g) "at" = some none) (q_NoBits : EcP K i) (q_NoName : EcP K j) (q_NoKey : EcP K o) (q_NoFrame : EcP K b) (q_NoPost : EcP K l) (q_NoThing : EcP K f) (q_NoStrip : EcP K e) (q_NoRail : EcP K m) (q_NoWire : EcP K g) (q_NoRow : EcP K n) (q_RailError : EcP K a) (r_NoBits : PySem.W.subIn K (.ref i) (.ref a) = some true) (p_NoBits_NoBits : PySem.W.subIn K (.ref i) (.ref i) = some true) (p_NoBits_NoName : PySem.W.subIn K (.ref i) (.ref j) = some false) (p_NoBits_NoKey : PySem.W.subIn K (.ref i) (.ref o) = some false) (p_NoBits_NoFrame : PySem.W.subIn K (.ref i) (.ref b) = some false) (p_NoBits_NoPost : PySem.W.subIn K (.ref i) (.ref l) = some false) (p_NoBits_NoThing : PySem.W.subIn K (.ref i) (.ref f) = some false) (p_NoBits_NoStrip : PySem.W.subIn K (.ref i) (.ref e) = some false) (p_NoBits_NoRail : PySem.W.subIn K (.ref i) (.ref m) = some false) (p_NoBits_NoWire : PySem.W.subIn K (.ref i) (.ref g) = some false) (p_NoBits_NoRow : PySem.W.subIn K (.ref i) (.ref n) = some false) (r_NoName : PySem.W.subIn K (.ref j) (.ref a) = some true) (p_NoName_NoBits : PySem.W.subIn K (.ref j) (.ref i) = some false) (p_NoName_NoName : PySem.W.subIn K (.ref j) (.ref j) = some true) (p_NoName_NoKey : PySem.W.subIn K (.ref j) (.ref o) = some false) (p_NoName_NoFrame : PySem.W.subIn K (.ref j) (.ref b) = some false) (p_NoName_NoPost : PySem.W.subIn K (.ref j) (.ref l) = some false) (p_NoName_NoThing : PySem.W.subIn K (.ref j) (.ref f) = some false) (p_NoName_NoStrip : PySem.W.subIn K (.ref j) (.ref e) = some false) (p_NoName_NoRail : PySem.W.subIn K (.ref j) (.ref m) = some false) (p_NoName_NoWire : PySem.W.subIn K (.ref j) (.ref g) = some false) (p_NoName_NoRow : PySem.W.subIn K (.ref j) (.ref n) = some false) (r_NoKey : PySem.W.subIn K (.ref o) (.ref a) = some true) (p_NoKey_NoBits : PySem.W.subIn K (.ref o) (.ref i) = some false) (p_NoKey_NoName : PySem.W.subIn K (.ref o) (.ref j) = some false) (p_NoKey_NoKey : PySem.W.subIn K (.ref o) (.ref o) = some true) (p_NoKey_NoFrame : PySem.W.subIn K (.ref o) (.ref b) = some false) (p_NoKey_NoPost : PySem.W.subIn K (.ref o) (.ref l) = some false) (p_NoKey_NoThing : PySem.W.subIn K (.ref o) (.ref f) = some false) (p_NoKey_NoStrip : PySem.W.subIn K (.ref o) (.ref e) = some false) (p_NoKey_NoRail : PySem.W.subIn K (.ref o) (.ref m) = some false) (p_NoKey_NoWire : PySem.W.subIn K (.ref o) (.ref g) = some false) (p_NoKey_NoRow : PySem.W.subIn K (.ref o) (.ref n) = some false) (r_NoFrame : PySem.W.subIn K (.ref b) (.ref a) = some true) (p_NoFrame_NoBits : PySem.W.subIn K (.ref b) (.ref i) = some false) (p_NoFrame_NoName : PySem.W.subIn K (.ref b) (.ref j) = some false) (p_NoFrame_NoKey : PySem.W.subIn K (.ref b) (.ref o) = some false) (p_NoFrame_NoFrame : PySem.W.subIn K (.ref b) (.ref b) = some true) (p_NoFrame_NoPost : PySem.W.subIn K (.ref b) (.ref l) = some false) (p_NoFrame_NoThing : PySem.W.subIn K (.ref b) (.ref f) = some false) (p_NoFrame_NoStrip : PySem.W.subIn K (.ref b) (.ref e) = some false) (p_NoFrame_NoRail : PySem.W.subIn K (.ref b) (.ref m) = some false) (p_NoFrame_NoWire : PySem.W.subIn K (.ref b) (.ref g) = some false) (p_NoFrame_NoRow : PySem.W.subIn K (.ref b) (.ref n) = some false) (r_NoPost : PySem.W.subIn K (.ref l) (.ref a) = some true) (p_NoPost_NoBits : PySem.W.subIn K (.ref l) (.ref i) = some false) (p_NoPost_NoName : PySem.W.subIn K (.ref l) (.ref j) = some false) (p_NoPost_NoKey : PySem.W.subIn K (.ref l) (.ref o) = some false) (p_NoPost_NoFrame : PySem.W.subIn K (.ref l) (.ref b) = some false) (p_NoPost_NoPost : PySem.W.subIn K (.ref l) (.ref l) = some true) (p_NoPost_NoThing : PySem.W.subIn K (.ref l) (.ref f) = some false) (p_NoPost_NoStrip : PySem.W.subIn K (.ref l) (.ref e) = some false) (p_NoPost_NoRail : PySem.W.subIn K (.ref l) (.ref m) = some false) (p_NoPost_NoWire : PySem.W.subIn K (.ref l) (.ref g) = some false) (p_NoPost_NoRow : PySem.W.subIn K (.ref l) (.ref n) = some false) (r_NoThing : PySem.W.subIn K (.ref f) (.ref a) = some true) (p_NoThing_NoBits : PySem.W.subIn K (.ref f) (.ref i) = some false) (p_NoThing_NoName : PySem.W.subIn K (.ref f) (.ref j) = some false) (p_NoThing_NoKey : PySem.W.subIn K (.ref f) (.ref o) = some false) (p_NoThing_NoFrame : PySem.W.subIn K (.ref f) (.ref b) = some false) (p_NoThing_NoPost : PySem.W.subIn K (.ref f) (.ref l) = some false) (p_NoThing_NoThing : PySem.W.subIn K (.ref f) (.ref f) = some true) (p_NoThing_NoStrip : PySem.W.subIn K (.ref f) (.ref e) = some false) (p_NoThing_NoRail : PySem.W.subIn K (.ref f) (.ref m) = some false) (p_NoThing_NoWire : PySem.W.subIn K (.ref f) (.ref g) = some false) (p_NoThing_NoRow : PySem.W.subIn K (.ref f) (.ref n) = some false) (r_NoStrip : PySem.W.subIn K (.ref e) (.ref a) = some true) (p_NoStrip_NoBits : PySem.W.subIn K (.ref e) (.ref i) = some false) (p_NoStrip_NoName : PySem.W.subIn K (.ref e) (.ref j) = some false) (p_NoStrip_NoKey : PySem.W.subIn K (.ref e) (.ref o) = some false) (p_NoStrip_NoFrame : PySem.W.subIn K (.ref e) (.ref b) = some false) (p_NoStrip_NoPost : PySem.W.subIn K (.ref e) (.ref l) = some false) (p_NoStrip_NoThing : PySem.W.subIn K (.ref e) (.ref f) = some false) (p_NoStrip_NoStrip : PySem.W.subIn K (.ref e) (.ref e) = some true) (p_NoStrip_NoRail : PySem.W.subIn K (.ref e) (.ref m) = some false) (p_NoStrip_NoWire : PySem.W.subIn K (.ref e) (.ref g) = some false) (p_NoStrip_NoRow : PySem.W.subIn K (.ref e) (.ref n) = some false) (r_NoRail : PySem.W.subIn K (.ref m) (.ref a) = some true) (p_NoRail_NoBits : PySem.W.subIn K (.ref m) (.ref i) = some false) (p_NoRail_NoName : PySem.W.subIn K (.ref m) (.ref j) = some false) (p_NoRail_NoKey : PySem.W.subIn K (.ref m) (.ref o) = some false) (p_NoRail_NoFrame : PySem.W.subIn K (.ref m) (.ref b) = some false) (p_NoRail_NoPost : PySem.W.subIn K (.ref m) (.ref l) = some false) (p_NoRail_NoThing : PySem.W.subIn K (.ref m) (.ref f) = some false) (p_NoRail_NoStrip : PySem.W.subIn K (.ref m) (.ref e) = some false) (p_NoRail_NoRail : PySem.W.subIn K (.ref m) (.ref m) = some true) (p_NoRail_NoWire : PySem.W.subIn K (.ref m) (.ref g) = some false) (p_NoRail_NoRow : PySem.W.subIn K (.ref m) (.ref n) = some false) (r_NoWire : PySem.W.subIn K (.ref g) (.ref a) = some true) (p_NoWire_NoBits : PySem.W.subIn K (.ref g) (.ref i) = some false) (p_NoWire_NoName : PySem.W.subIn K (.ref g) (.ref j) = some false) (p_NoWire_NoKey : PySem.W.subIn K (.ref g) (.ref o) = some false) (p_NoWire_NoFrame : PySem.W.subIn K (.ref g) (.ref b) = some false) (p_NoWire_NoPost : PySem.W.subIn K (.ref g) (.ref l) = some false) (p_NoWire_NoThing : PySem.W.subIn K (.ref g) (.ref f) = some false) (p_NoWire_NoStrip : PySem.W.subIn K (.ref g) (.ref e) = some false) (p_NoWire_NoRail : PySem.W.subIn K (.ref g) (.ref m) = some false) (p_NoWire_NoWire : PySem.W.subIn K (.ref g) (.ref g) = some true) (p_NoWire_NoRow : PySem.W.subIn K (.ref g) (.ref n) = some false) (r_NoRow : PySem.W.subIn K (.ref n) (.ref a) = some true) (p_NoRow_NoBits : PySem.W.subIn K (.ref n) (.ref i) = some false) (p_NoRow_NoName : PySem.W.subIn K (.ref n) (.ref j) = some false) (p_NoRow_NoKey : PySem.W.subIn K (.ref n) (.ref o) = some false) (p_NoRow_NoFrame : PySem.W.subIn K (.ref n) (.ref b) = some false) (p_NoRow_NoPost : PySem.W.subIn K (.ref n) (.ref l) = some false) (p_NoRow_NoThing : PySem.W.subIn K (.ref n) (.ref f) = some false) (p_NoRow_NoStrip : PySem.W.subIn K (.ref n) (.ref e) = some false) (p_NoRow_NoRail : PySem.W.subIn K (.ref n) (.ref m) = some false) (p_NoRow_NoWire : PySem.W.subIn K (.ref n) (.ref g) = some false) (p_NoRow_NoRow : PySem.W.subIn K (.ref n) (.ref n) = some true) (hn : PySem.W.specialIn K (.builtin "object.__class__") "__get__" = some (some (.builtin "getset_descriptor.__get__"))) (ht : PySem.W.takesIn K (.builtin "object.__class__") = some true) :
  ∃ (es : Eds) (f_NoWire_init : Addr) (fd_NoWire_init : FuncData) (f_NoRow_init : Addr) (fd_NoRow_init : FuncData), mg "NoBits" = some (.ref es.NoBits) ∧ mg "NoFrame" = some (.ref es.NoFrame) ∧ mg "NoKey" = some (.ref es.NoKey) ∧ mg "NoName" = some (.ref es.NoName) ∧ mg "NoPost" = some (.ref es.NoPost) ∧ mg "NoRail" = some (.ref es.NoRail) ∧ mg "NoRow" = some (.ref es.NoRow) ∧ mg "NoStrip" = some (.ref es.NoStrip) ∧ mg "NoThing" = some (.ref es.NoThing) ∧ mg "NoWire" = some (.ref es.NoWire) ∧ mg "RailError" = some (.ref es.RailError) ∧ ErrC K mg "NoBits" es.NoBits ∧ ErrC K mg "NoFrame" es.NoFrame ∧ ErrC K mg "NoKey" es.NoKey ∧ ErrC K mg "NoName" es.NoName ∧ ErrC K mg "NoPost" es.NoPost ∧ ErrC K mg "NoRail" es.NoRail ∧ ErrC K mg "NoStrip" es.NoStrip ∧ ErrC K mg "NoThing" es.NoThing ∧ L2.Fun K "__init__" "NoWire.__init__" s_NoWire_init f_NoWire_init fd_NoWire_init ∧ InF K mg es.NoWire es.RailError f_NoWire_init "at" ∧ L2.Fun K "__init__" "NoRow.__init__" s_NoRow_init f_NoRow_init fd_NoRow_init ∧ InF K mg es.NoRow es.RailError f_NoRow_init "word" ∧ XfC K es.NoRow ∧ PySem.W.findIn K (.ref es.NoRow) "word" = some none ∧ XfC K es.NoWire ∧ PySem.W.findIn K (.ref es.NoWire) "at" = some none ∧ EcF K es ks :=
  ⟨(⟨i, j, o, b, l, f, e, m, g, n, a⟩ : Eds), _, _, _, _, PySem.W.mg_of X G u, PySem.W.mg_of X G r, PySem.W.mg_of X G y, PySem.W.mg_of X G v, PySem.W.mg_of X G w, PySem.W.mg_of X G x, PySem.W.mg_of X G B, PySem.W.mg_of X G s, PySem.W.mg_of X G t, PySem.W.mg_of X G z, PySem.W.mg_of X G p, ⟨PySem.W.mg_of X G u, e_NoBits, k_NoBits, s_NoBits, t_NoBits⟩, ⟨PySem.W.mg_of X G r, e_NoFrame, k_NoFrame, s_NoFrame, t_NoFrame⟩, ⟨PySem.W.mg_of X G y, e_NoKey, k_NoKey, s_NoKey, t_NoKey⟩, ⟨PySem.W.mg_of X G v, e_NoName, k_NoName, s_NoName, t_NoName⟩, ⟨PySem.W.mg_of X G w, e_NoPost, k_NoPost, s_NoPost, t_NoPost⟩, ⟨PySem.W.mg_of X G x, e_NoRail, k_NoRail, s_NoRail, t_NoRail⟩, ⟨PySem.W.mg_of X G s, e_NoStrip, k_NoStrip, s_NoStrip, t_NoStrip⟩, ⟨PySem.W.mg_of X G t, e_NoThing, k_NoThing, s_NoThing, t_NoThing⟩, L2.fun_mk il_NoWire ic_NoWire ik_NoWire, ⟨⟨lo_NoWire, sa_NoWire, xs_NoWire, xt_NoWire, xk_NoWire⟩, ii_NoWire, it_NoWire, in_NoWire, iga, ird, ivV, PySem.W.mg_of X G p⟩, L2.fun_mk il_NoRow ic_NoRow ik_NoRow, ⟨⟨lo_NoRow, sa_NoRow, xs_NoRow, xt_NoRow, xk_NoRow⟩, ii_NoRow, it_NoRow, in_NoRow, iga, ird, ivV, PySem.W.mg_of X G p⟩, ⟨xg_NoRow, xh_NoRow, xb_NoRow, xd_NoRow⟩, xn_NoRow, ⟨xg_NoWire, xh_NoWire, xb_NoWire, xd_NoWire⟩, xn_NoWire, ecf_mk (d := (⟨i, j, o, b, l, f, e, m, g, n, a⟩ : Eds)) (all_cons (P := fun k => EcP K ((⟨i, j, o, b, l, f, e, m, g, n, a⟩ : Eds).at k)) q_NoBits (all_cons (P := fun k => EcP K ((⟨i, j, o, b, l, f, e, m, g, n, a⟩ : Eds).at k)) q_NoName (all_cons (P := fun k => EcP K ((⟨i, j, o, b, l, f, e, m, g, n, a⟩ : Eds).at k)) q_NoKey (all_cons (P := fun k => EcP K ((⟨i, j, o, b, l, f, e, m, g, n, a⟩ : Eds).at k)) q_NoFrame (all_cons (P := fun k => EcP K ((⟨i, j, o, b, l, f, e, m, g, n, a⟩ : Eds).at k)) q_NoPost (all_cons (P := fun k => EcP K ((⟨i, j, o, b, l, f, e, m, g, n, a⟩ : Eds).at k)) q_NoThing (all_cons (P := fun k => EcP K ((⟨i, j, o, b, l, f, e, m, g, n, a⟩ : Eds).at k)) q_NoStrip (all_cons (P := fun k => EcP K ((⟨i, j, o, b, l, f, e, m, g, n, a⟩ : Eds).at k)) q_NoRail (all_cons (P := fun k => EcP K ((⟨i, j, o, b, l, f, e, m, g, n, a⟩ : Eds).at k)) q_NoWire (all_cons (P := fun k => EcP K ((⟨i, j, o, b, l, f, e, m, g, n, a⟩ : Eds).at k)) q_NoRow all_nil)))))))))) (all_cons (P := fun k => ∀ c ∈ ks, PySem.W.subIn K (.ref ((⟨i, j, o, b, l, f, e, m, g, n, a⟩ : Eds).at k)) (.ref ((⟨i, j, o, b, l, f, e, m, g, n, a⟩ : Eds).at c)) = some (decide (k = c))) (all_cons (P := fun c => PySem.W.subIn K (.ref ((⟨i, j, o, b, l, f, e, m, g, n, a⟩ : Eds).at .NoBits)) (.ref ((⟨i, j, o, b, l, f, e, m, g, n, a⟩ : Eds).at c)) = some (decide (.NoBits = c))) p_NoBits_NoBits (all_cons (P := fun c => PySem.W.subIn K (.ref ((⟨i, j, o, b, l, f, e, m, g, n, a⟩ : Eds).at .NoBits)) (.ref ((⟨i, j, o, b, l, f, e, m, g, n, a⟩ : Eds).at c)) = some (decide (.NoBits = c))) p_NoBits_NoName (all_cons (P := fun c => PySem.W.subIn K (.ref ((⟨i, j, o, b, l, f, e, m, g, n, a⟩ : Eds).at .NoBits)) (.ref ((⟨i, j, o, b, l, f, e, m, g, n, a⟩ : Eds).at c)) = some (decide (.NoBits = c))) p_NoBits_NoKey (all_cons (P := fun c => PySem.W.subIn K (.ref ((⟨i, j, o, b, l, f, e, m, g, n, a⟩ : Eds).at .NoBits)) (.ref ((⟨i, j, o, b, l, f, e, m, g, n, a⟩ : Eds).at c)) = some (decide (.NoBits = c))) p_NoBits_NoFrame (all_cons (P := fun c => PySem.W.subIn K (.ref ((⟨i, j, o, b, l, f, e, m, g, n, a⟩ : Eds).at .NoBits)) (.ref ((⟨i, j, o, b, l, f, e, m, g, n, a⟩ : Eds).at c)) = some (decide (.NoBits = c))) p_NoBits_NoPost (all_cons (P := fun c => PySem.W.subIn K (.ref ((⟨i, j, o, b, l, f, e, m, g, n, a⟩ : Eds).at .NoBits)) (.ref ((⟨i, j, o, b, l, f, e, m, g, n, a⟩ : Eds).at c)) = some (decide (.NoBits = c))) p_NoBits_NoThing (all_cons (P := fun c => PySem.W.subIn K (.ref ((⟨i, j, o, b, l, f, e, m, g, n, a⟩ : Eds).at .NoBits)) (.ref ((⟨i, j, o, b, l, f, e, m, g, n, a⟩ : Eds).at c)) = some (decide (.NoBits = c))) p_NoBits_NoStrip (all_cons (P := fun c => PySem.W.subIn K (.ref ((⟨i, j, o, b, l, f, e, m, g, n, a⟩ : Eds).at .NoBits)) (.ref ((⟨i, j, o, b, l, f, e, m, g, n, a⟩ : Eds).at c)) = some (decide (.NoBits = c))) p_NoBits_NoRail (all_cons (P := fun c => PySem.W.subIn K (.ref ((⟨i, j, o, b, l, f, e, m, g, n, a⟩ : Eds).at .NoBits)) (.ref ((⟨i, j, o, b, l, f, e, m, g, n, a⟩ : Eds).at c)) = some (decide (.NoBits = c))) p_NoBits_NoWire (all_cons (P := fun c => PySem.W.subIn K (.ref ((⟨i, j, o, b, l, f, e, m, g, n, a⟩ : Eds).at .NoBits)) (.ref ((⟨i, j, o, b, l, f, e, m, g, n, a⟩ : Eds).at c)) = some (decide (.NoBits = c))) p_NoBits_NoRow all_nil)))))))))) (all_cons (P := fun k => ∀ c ∈ ks, PySem.W.subIn K (.ref ((⟨i, j, o, b, l, f, e, m, g, n, a⟩ : Eds).at k)) (.ref ((⟨i, j, o, b, l, f, e, m, g, n, a⟩ : Eds).at c)) = some (decide (k = c))) (all_cons (P := fun c => PySem.W.subIn K (.ref ((⟨i, j, o, b, l, f, e, m, g, n, a⟩ : Eds).at .NoName)) (.ref ((⟨i, j, o, b, l, f, e, m, g, n, a⟩ : Eds).at c)) = some (decide (.NoName = c))) p_NoName_NoBits (all_cons (P := fun c => PySem.W.subIn K (.ref ((⟨i, j, o, b, l, f, e, m, g, n, a⟩ : Eds).at .NoName)) (.ref ((⟨i, j, o, b, l, f, e, m, g, n, a⟩ : Eds).at c)) = some (decide (.NoName = c))) p_NoName_NoName (all_cons (P := fun c => PySem.W.subIn K (.ref ((⟨i, j, o, b, l, f, e, m, g, n, a⟩ : Eds).at .NoName)) (.ref ((⟨i, j, o, b, l, f, e, m, g, n, a⟩ : Eds).at c)) = some (decide (.NoName = c))) p_NoName_NoKey (all_cons (P := fun c => PySem.W.subIn K (.ref ((⟨i, j, o, b, l, f, e, m, g, n, a⟩ : Eds).at .NoName)) (.ref ((⟨i, j, o, b, l, f, e, m, g, n, a⟩ : Eds).at c)) = some (decide (.NoName = c))) p_NoName_NoFrame (all_cons (P := fun c => PySem.W.subIn K (.ref ((⟨i, j, o, b, l, f, e, m, g, n, a⟩ : Eds).at .NoName)) (.ref ((⟨i, j, o, b, l, f, e, m, g, n, a⟩ : Eds).at c)) = some (decide (.NoName = c))) p_NoName_NoPost (all_cons (P := fun c => PySem.W.subIn K (.ref ((⟨i, j, o, b, l, f, e, m, g, n, a⟩ : Eds).at .NoName)) (.ref ((⟨i, j, o, b, l, f, e, m, g, n, a⟩ : Eds).at c)) = some (decide (.NoName = c))) p_NoName_NoThing (all_cons (P := fun c => PySem.W.subIn K (.ref ((⟨i, j, o, b, l, f, e, m, g, n, a⟩ : Eds).at .NoName)) (.ref ((⟨i, j, o, b, l, f, e, m, g, n, a⟩ : Eds).at c)) = some (decide (.NoName = c))) p_NoName_NoStrip (all_cons (P := fun c => PySem.W.subIn K (.ref ((⟨i, j, o, b, l, f, e, m, g, n, a⟩ : Eds).at .NoName)) (.ref ((⟨i, j, o, b, l, f, e, m, g, n, a⟩ : Eds).at c)) = some (decide (.NoName = c))) p_NoName_NoRail (all_cons (P := fun c => PySem.W.subIn K (.ref ((⟨i, j, o, b, l, f, e, m, g, n, a⟩ : Eds).at .NoName)) (.ref ((⟨i, j, o, b, l, f, e, m, g, n, a⟩ : Eds).at c)) = some (decide (.NoName = c))) p_NoName_NoWire (all_cons (P := fun c => PySem.W.subIn K (.ref ((⟨i, j, o, b, l, f, e, m, g, n, a⟩ : Eds).at .NoName)) (.ref ((⟨i, j, o, b, l, f, e, m, g, n, a⟩ : Eds).at c)) = some (decide (.NoName = c))) p_NoName_NoRow all_nil)))))))))) (all_cons (P := fun k => ∀ c ∈ ks, PySem.W.subIn K (.ref ((⟨i, j, o, b, l, f, e, m, g, n, a⟩ : Eds).at k)) (.ref ((⟨i, j, o, b, l, f, e, m, g, n, a⟩ : Eds).at c)) = some (decide (k = c))) (all_cons (P := fun c => PySem.W.subIn K (.ref ((⟨i, j, o, b, l, f, e, m, g, n, a⟩ : Eds).at .NoKey)) (.ref ((⟨i, j, o, b, l, f, e, m, g, n, a⟩ : Eds).at c)) = some (decide (.NoKey = c))) p_NoKey_NoBits (all_cons (P := fun c => PySem.W.subIn K (.ref ((⟨i, j, o, b, l, f, e, m, g, n, a⟩ : Eds).at .NoKey)) (.ref ((⟨i, j, o, b, l, f, e, m, g, n, a⟩ : Eds).at c)) = some (decide (.NoKey = c))) p_NoKey_NoName (all_cons (P := fun c => PySem.W.subIn K (.ref ((⟨i, j, o, b, l, f, e, m, g, n, a⟩ : Eds).at .NoKey)) (.ref ((⟨i, j, o, b, l, f, e, m, g, n, a⟩ : Eds).at c)) = some (decide (.NoKey = c))) p_NoKey_NoKey (all_cons (P := fun c => PySem.W.subIn K (.ref ((⟨i, j, o, b, l, f, e, m, g, n, a⟩ : Eds).at .NoKey)) (.ref ((⟨i, j, o, b, l, f, e, m, g, n, a⟩ : Eds).at c)) = some (decide (.NoKey = c))) p_NoKey_NoFrame (all_cons (P := fun c => PySem.W.subIn K (.ref ((⟨i, j, o, b, l, f, e, m, g, n, a⟩ : Eds).at .NoKey)) (.ref ((⟨i, j, o, b, l, f, e, m, g, n, a⟩ : Eds).at c)) = some (decide (.NoKey = c))) p_NoKey_NoPost (all_cons (P := fun c => PySem.W.subIn K (.ref ((⟨i, j, o, b, l, f, e, m, g, n, a⟩ : Eds).at .NoKey)) (.ref ((⟨i, j, o, b, l, f, e, m, g, n, a⟩ : Eds).at c)) = some (decide (.NoKey = c))) p_NoKey_NoThing (all_cons (P := fun c => PySem.W.subIn K (.ref ((⟨i, j, o, b, l, f, e, m, g, n, a⟩ : Eds).at .NoKey)) (.ref ((⟨i, j, o, b, l, f, e, m, g, n, a⟩ : Eds).at c)) = some (decide (.NoKey = c))) p_NoKey_NoStrip (all_cons (P := fun c => PySem.W.subIn K (.ref ((⟨i, j, o, b, l, f, e, m, g, n, a⟩ : Eds).at .NoKey)) (.ref ((⟨i, j, o, b, l, f, e, m, g, n, a⟩ : Eds).at c)) = some (decide (.NoKey = c))) p_NoKey_NoRail (all_cons (P := fun c => PySem.W.subIn K (.ref ((⟨i, j, o, b, l, f, e, m, g, n, a⟩ : Eds).at .NoKey)) (.ref ((⟨i, j, o, b, l, f, e, m, g, n, a⟩ : Eds).at c)) = some (decide (.NoKey = c))) p_NoKey_NoWire (all_cons (P := fun c => PySem.W.subIn K (.ref ((⟨i, j, o, b, l, f, e, m, g, n, a⟩ : Eds).at .NoKey)) (.ref ((⟨i, j, o, b, l, f, e, m, g, n, a⟩ : Eds).at c)) = some (decide (.NoKey = c))) p_NoKey_NoRow all_nil)))))))))) (all_cons (P := fun k => ∀ c ∈ ks, PySem.W.subIn K (.ref ((⟨i, j, o, b, l, f, e, m, g, n, a⟩ : Eds).at k)) (.ref ((⟨i, j, o, b, l, f, e, m, g, n, a⟩ : Eds).at c)) = some (decide (k = c))) (all_cons (P := fun c => PySem.W.subIn K (.ref ((⟨i, j, o, b, l, f, e, m, g, n, a⟩ : Eds).at .NoFrame)) (.ref ((⟨i, j, o, b, l, f, e, m, g, n, a⟩ : Eds).at c)) = some (decide (.NoFrame = c))) p_NoFrame_NoBits (all_cons (P := fun c => PySem.W.subIn K (.ref ((⟨i, j, o, b, l, f, e, m, g, n, a⟩ : Eds).at .NoFrame)) (.ref ((⟨i, j, o, b, l, f, e, m, g, n, a⟩ : Eds).at c)) = some (decide (.NoFrame = c))) p_NoFrame_NoName (all_cons (P := fun c => PySem.W.subIn K (.ref ((⟨i, j, o, b, l, f, e, m, g, n, a⟩ : Eds).at .NoFrame)) (.ref ((⟨i, j, o, b, l, f, e, m, g, n, a⟩ : Eds).at c)) = some (decide (.NoFrame = c))) p_NoFrame_NoKey (all_cons (P := fun c => PySem.W.subIn K (.ref ((⟨i, j, o, b, l, f, e, m, g, n, a⟩ : Eds).at .NoFrame)) (.ref ((⟨i, j, o, b, l, f, e, m, g, n, a⟩ : Eds).at c)) = some (decide (.NoFrame = c))) p_NoFrame_NoFrame (all_cons (P := fun c => PySem.W.subIn K (.ref ((⟨i, j, o, b, l, f, e, m, g, n, a⟩ : Eds).at .NoFrame)) (.ref ((⟨i, j, o, b, l, f, e, m, g, n, a⟩ : Eds).at c)) = some (decide (.NoFrame = c))) p_NoFrame_NoPost (all_cons (P := fun c => PySem.W.subIn K (.ref ((⟨i, j, o, b, l, f, e, m, g, n, a⟩ : Eds).at .NoFrame)) (.ref ((⟨i, j, o, b, l, f, e, m, g, n, a⟩ : Eds).at c)) = some (decide (.NoFrame = c))) p_NoFrame_NoThing (all_cons (P := fun c => PySem.W.subIn K (.ref ((⟨i, j, o, b, l, f, e, m, g, n, a⟩ : Eds).at .NoFrame)) (.ref ((⟨i, j, o, b, l, f, e, m, g, n, a⟩ : Eds).at c)) = some (decide (.NoFrame = c))) p_NoFrame_NoStrip (all_cons (P := fun c => PySem.W.subIn K (.ref ((⟨i, j, o, b, l, f, e, m, g, n, a⟩ : Eds).at .NoFrame)) (.ref ((⟨i, j, o, b, l, f, e, m, g, n, a⟩ : Eds).at c)) = some (decide (.NoFrame = c))) p_NoFrame_NoRail (all_cons (P := fun c => PySem.W.subIn K (.ref ((⟨i, j, o, b, l, f, e, m, g, n, a⟩ : Eds).at .NoFrame)) (.ref ((⟨i, j, o, b, l, f, e, m, g, n, a⟩ : Eds).at c)) = some (decide (.NoFrame = c))) p_NoFrame_NoWire (all_cons (P := fun c => PySem.W.subIn K (.ref ((⟨i, j, o, b, l, f, e, m, g, n, a⟩ : Eds).at .NoFrame)) (.ref ((⟨i, j, o, b, l, f, e, m, g, n, a⟩ : Eds).at c)) = some (decide (.NoFrame = c))) p_NoFrame_NoRow all_nil)))))))))) (all_cons (P := fun k => ∀ c ∈ ks, PySem.W.subIn K (.ref ((⟨i, j, o, b, l, f, e, m, g, n, a⟩ : Eds).at k)) (.ref ((⟨i, j, o, b, l, f, e, m, g, n, a⟩ : Eds).at c)) = some (decide (k = c))) (all_cons (P := fun c => PySem.W.subIn K (.ref ((⟨i, j, o, b, l, f, e, m, g, n, a⟩ : Eds).at .NoPost)) (.ref ((⟨i, j, o, b, l, f, e, m, g, n, a⟩ : Eds).at c)) = some (decide (.NoPost = c))) p_NoPost_NoBits (all_cons (P := fun c => PySem.W.subIn K (.ref ((⟨i, j, o, b, l, f, e, m, g, n, a⟩ : Eds).at .NoPost)) (.ref ((⟨i, j, o, b, l, f, e, m, g, n, a⟩ : Eds).at c)) = some (decide (.NoPost = c))) p_NoPost_NoName (all_cons (P := fun c => PySem.W.subIn K (.ref ((⟨i, j, o, b, l, f, e, m, g, n, a⟩ : Eds).at .NoPost)) (.ref ((⟨i, j, o, b, l, f, e, m, g, n, a⟩ : Eds).at c)) = some (decide (.NoPost = c))) p_NoPost_NoKey (all_cons (P := fun c => PySem.W.subIn K (.ref ((⟨i, j, o, b, l, f, e, m, g, n, a⟩ : Eds).at .NoPost)) (.ref ((⟨i, j, o, b, l, f, e, m, g, n, a⟩ : Eds).at c)) = some (decide (.NoPost = c))) p_NoPost_NoFrame (all_cons (P := fun c => PySem.W.subIn K (.ref ((⟨i, j, o, b, l, f, e, m, g, n, a⟩ : Eds).at .NoPost)) (.ref ((⟨i, j, o, b, l, f, e, m, g, n, a⟩ : Eds).at c)) = some (decide (.NoPost = c))) p_NoPost_NoPost (all_cons (P := fun c => PySem.W.subIn K (.ref ((⟨i, j, o, b, l, f, e, m, g, n, a⟩ : Eds).at .NoPost)) (.ref ((⟨i, j, o, b, l, f, e, m, g, n, a⟩ : Eds).at c)) = some (decide (.NoPost = c))) p_NoPost_NoThing (all_cons (P := fun c => PySem.W.subIn K (.ref ((⟨i, j, o, b, l, f, e, m, g, n, a⟩ : Eds).at .NoPost)) (.ref ((⟨i, j, o, b, l, f, e, m, g, n, a⟩ : Eds).at c)) = some (decide (.NoPost = c))) p_NoPost_NoStrip (all_cons (P := fun c => PySem.W.subIn K (.ref ((⟨i, j, o, b, l, f, e, m, g, n, a⟩ : Eds).at .NoPost)) (.ref ((⟨i, j, o, b, l, f, e, m, g, n, a⟩ : Eds).at c)) = some (decide (.NoPost = c))) p_NoPost_NoRail (all_cons (P := fun c => PySem.W.subIn K (.ref ((⟨i, j, o, b, l, f, e, m, g, n, a⟩ : Eds).at .NoPost)) (.ref ((⟨i, j, o, b, l, f, e, m, g, n, a⟩ : Eds).at c)) = some (decide (.NoPost = c))) p_NoPost_NoWire (all_cons (P := fun c => PySem.W.subIn K (.ref ((⟨i, j, o, b, l, f, e, m, g, n, a⟩ : Eds).at .NoPost)) (.ref ((⟨i, j, o, b, l, f, e, m, g, n, a⟩ : Eds).at c)) = some (decide (.NoPost = c))) p_NoPost_NoRow all_nil)))))))))) (all_cons (P := fun k => ∀ c ∈ ks, PySem.W.subIn K (.ref ((⟨i, j, o, b, l, f, e, m, g, n, a⟩ : Eds).at k)) (.ref ((⟨i, j, o, b, l, f, e, m, g, n, a⟩ : Eds).at c)) = some (decide (k = c))) (all_cons (P := fun c => PySem.W.subIn K (.ref ((⟨i, j, o, b, l, f, e, m, g, n, a⟩ : Eds).at .NoThing)) (.ref ((⟨i, j, o, b, l, f, e, m, g, n, a⟩ : Eds).at c)) = some (decide (.NoThing = c))) p_NoThing_NoBits (all_cons (P := fun c => PySem.W.subIn K (.ref ((⟨i, j, o, b, l, f, e, m, g, n, a⟩ : Eds).at .NoThing)) (.ref ((⟨i, j, o, b, l, f, e, m, g, n, a⟩ : Eds).at c)) = some (decide (.NoThing = c))) p_NoThing_NoName (all_cons (P := fun c => PySem.W.subIn K (.ref ((⟨i, j, o, b, l, f, e, m, g, n, a⟩ : Eds).at .NoThing)) (.ref ((⟨i, j, o, b, l, f, e, m, g, n, a⟩ : Eds).at c)) = some (decide (.NoThing = c))) p_NoThing_NoKey (all_cons (P := fun c => PySem.W.subIn K (.ref ((⟨i, j, o, b, l, f, e, m, g, n, a⟩ : Eds).at .NoThing)) (.ref ((⟨i, j, o, b, l, f, e, m, g, n, a⟩ : Eds).at c)) = some (decide (.NoThing = c))) p_NoThing_NoFrame (all_cons (P := fun c => PySem.W.subIn K (.ref ((⟨i, j, o, b, l, f, e, m, g, n, a⟩ : Eds).at .NoThing)) (.ref ((⟨i, j, o, b, l, f, e, m, g, n, a⟩ : Eds).at c)) = some (decide (.NoThing = c))) p_NoThing_NoPost (all_cons (P := fun c => PySem.W.subIn K (.ref ((⟨i, j, o, b, l, f, e, m, g, n, a⟩ : Eds).at .NoThing)) (.ref ((⟨i, j, o, b, l, f, e, m, g, n, a⟩ : Eds).at c)) = some (decide (.NoThing = c))) p_NoThing_NoThing (all_cons (P := fun c => PySem.W.subIn K (.ref ((⟨i, j, o, b, l, f, e, m, g, n, a⟩ : Eds).at .NoThing)) (.ref ((⟨i, j, o, b, l, f, e, m, g, n, a⟩ : Eds).at c)) = some (decide (.NoThing = c))) p_NoThing_NoStrip (all_cons (P := fun c => PySem.W.subIn K (.ref ((⟨i, j, o, b, l, f, e, m, g, n, a⟩ : Eds).at .NoThing)) (.ref ((⟨i, j, o, b, l, f, e, m, g, n, a⟩ : Eds).at c)) = some (decide (.NoThing = c))) p_NoThing_NoRail (all_cons (P := fun c => PySem.W.subIn K (.ref ((⟨i, j, o, b, l, f, e, m, g, n, a⟩ : Eds).at .NoThing)) (.ref ((⟨i, j, o, b, l, f, e, m, g, n, a⟩ : Eds).at c)) = some (decide (.NoThing = c))) p_NoThing_NoWire (all_cons (P := fun c => PySem.W.subIn K (.ref ((⟨i, j, o, b, l, f, e, m, g, n, a⟩ : Eds).at .NoThing)) (.ref ((⟨i, j, o, b, l, f, e, m, g, n, a⟩ : Eds).at c)) = some (decide (.NoThing = c))) p_NoThing_NoRow all_nil)))))))))) (all_cons (P := fun k => ∀ c ∈ ks, PySem.W.subIn K (.ref ((⟨i, j, o, b, l, f, e, m, g, n, a⟩ : Eds).at k)) (.ref ((⟨i, j, o, b, l, f, e, m, g, n, a⟩ : Eds).at c)) = some (decide (k = c))) (all_cons (P := fun c => PySem.W.subIn K (.ref ((⟨i, j, o, b, l, f, e, m, g, n, a⟩ : Eds).at .NoStrip)) (.ref ((⟨i, j, o, b, l, f, e, m, g, n, a⟩ : Eds).at c)) = some (decide (.NoStrip = c))) p_NoStrip_NoBits (all_cons (P := fun c => PySem.W.subIn K (.ref ((⟨i, j, o, b, l, f, e, m, g, n, a⟩ : Eds).at .NoStrip)) (.ref ((⟨i, j, o, b, l, f, e, m, g, n, a⟩ : Eds).at c)) = some (decide (.NoStrip = c))) p_NoStrip_NoName (all_cons (P := fun c => PySem.W.subIn K (.ref ((⟨i, j, o, b, l, f, e, m, g, n, a⟩ : Eds).at .NoStrip)) (.ref ((⟨i, j, o, b, l, f, e, m, g, n, a⟩ : Eds).at c)) = some (decide (.NoStrip = c))) p_NoStrip_NoKey (all_cons (P := fun c => PySem.W.subIn K (.ref ((⟨i, j, o, b, l, f, e, m, g, n, a⟩ : Eds).at .NoStrip)) (.ref ((⟨i, j, o, b, l, f, e, m, g, n, a⟩ : Eds).at c)) = some (decide (.NoStrip = c))) p_NoStrip_NoFrame (all_cons (P := fun c => PySem.W.subIn K (.ref ((⟨i, j, o, b, l, f, e, m, g, n, a⟩ : Eds).at .NoStrip)) (.ref ((⟨i, j, o, b, l, f, e, m, g, n, a⟩ : Eds).at c)) = some (decide (.NoStrip = c))) p_NoStrip_NoPost (all_cons (P := fun c => PySem.W.subIn K (.ref ((⟨i, j, o, b, l, f, e, m, g, n, a⟩ : Eds).at .NoStrip)) (.ref ((⟨i, j, o, b, l, f, e, m, g, n, a⟩ : Eds).at c)) = some (decide (.NoStrip = c))) p_NoStrip_NoThing (all_cons (P := fun c => PySem.W.subIn K (.ref ((⟨i, j, o, b, l, f, e, m, g, n, a⟩ : Eds).at .NoStrip)) (.ref ((⟨i, j, o, b, l, f, e, m, g, n, a⟩ : Eds).at c)) = some (decide (.NoStrip = c))) p_NoStrip_NoStrip (all_cons (P := fun c => PySem.W.subIn K (.ref ((⟨i, j, o, b, l, f, e, m, g, n, a⟩ : Eds).at .NoStrip)) (.ref ((⟨i, j, o, b, l, f, e, m, g, n, a⟩ : Eds).at c)) = some (decide (.NoStrip = c))) p_NoStrip_NoRail (all_cons (P := fun c => PySem.W.subIn K (.ref ((⟨i, j, o, b, l, f, e, m, g, n, a⟩ : Eds).at .NoStrip)) (.ref ((⟨i, j, o, b, l, f, e, m, g, n, a⟩ : Eds).at c)) = some (decide (.NoStrip = c))) p_NoStrip_NoWire (all_cons (P := fun c => PySem.W.subIn K (.ref ((⟨i, j, o, b, l, f, e, m, g, n, a⟩ : Eds).at .NoStrip)) (.ref ((⟨i, j, o, b, l, f, e, m, g, n, a⟩ : Eds).at c)) = some (decide (.NoStrip = c))) p_NoStrip_NoRow all_nil)))))))))) (all_cons (P := fun k => ∀ c ∈ ks, PySem.W.subIn K (.ref ((⟨i, j, o, b, l, f, e, m, g, n, a⟩ : Eds).at k)) (.ref ((⟨i, j, o, b, l, f, e, m, g, n, a⟩ : Eds).at c)) = some (decide (k = c))) (all_cons (P := fun c => PySem.W.subIn K (.ref ((⟨i, j, o, b, l, f, e, m, g, n, a⟩ : Eds).at .NoRail)) (.ref ((⟨i, j, o, b, l, f, e, m, g, n, a⟩ : Eds).at c)) = some (decide (.NoRail = c))) p_NoRail_NoBits (all_cons (P := fun c => PySem.W.subIn K (.ref ((⟨i, j, o, b, l, f, e, m, g, n, a⟩ : Eds).at .NoRail)) (.ref ((⟨i, j, o, b, l, f, e, m, g, n, a⟩ : Eds).at c)) = some (decide (.NoRail = c))) p_NoRail_NoName (all_cons (P := fun c => PySem.W.subIn K (.ref ((⟨i, j, o, b, l, f, e, m, g, n, a⟩ : Eds).at .NoRail)) (.ref ((⟨i, j, o, b, l, f, e, m, g, n, a⟩ : Eds).at c)) = some (decide (.NoRail = c))) p_NoRail_NoKey (all_cons (P := fun c => PySem.W.subIn K (.ref ((⟨i, j, o, b, l, f, e, m, g, n, a⟩ : Eds).at .NoRail)) (.ref ((⟨i, j, o, b, l, f, e, m, g, n, a⟩ : Eds).at c)) = some (decide (.NoRail = c))) p_NoRail_NoFrame (all_cons (P := fun c => PySem.W.subIn K (.ref ((⟨i, j, o, b, l, f, e, m, g, n, a⟩ : Eds).at .NoRail)) (.ref ((⟨i, j, o, b, l, f, e, m, g, n, a⟩ : Eds).at c)) = some (decide (.NoRail = c))) p_NoRail_NoPost (all_cons (P := fun c => PySem.W.subIn K (.ref ((⟨i, j, o, b, l, f, e, m, g, n, a⟩ : Eds).at .NoRail)) (.ref ((⟨i, j, o, b, l, f, e, m, g, n, a⟩ : Eds).at c)) = some (decide (.NoRail = c))) p_NoRail_NoThing (all_cons (P := fun c => PySem.W.subIn K (.ref ((⟨i, j, o, b, l, f, e, m, g, n, a⟩ : Eds).at .NoRail)) (.ref ((⟨i, j, o, b, l, f, e, m, g, n, a⟩ : Eds).at c)) = some (decide (.NoRail = c))) p_NoRail_NoStrip (all_cons (P := fun c => PySem.W.subIn K (.ref ((⟨i, j, o, b, l, f, e, m, g, n, a⟩ : Eds).at .NoRail)) (.ref ((⟨i, j, o, b, l, f, e, m, g, n, a⟩ : Eds).at c)) = some (decide (.NoRail = c))) p_NoRail_NoRail (all_cons (P := fun c => PySem.W.subIn K (.ref ((⟨i, j, o, b, l, f, e, m, g, n, a⟩ : Eds).at .NoRail)) (.ref ((⟨i, j, o, b, l, f, e, m, g, n, a⟩ : Eds).at c)) = some (decide (.NoRail = c))) p_NoRail_NoWire (all_cons (P := fun c => PySem.W.subIn K (.ref ((⟨i, j, o, b, l, f, e, m, g, n, a⟩ : Eds).at .NoRail)) (.ref ((⟨i, j, o, b, l, f, e, m, g, n, a⟩ : Eds).at c)) = some (decide (.NoRail = c))) p_NoRail_NoRow all_nil)))))))))) (all_cons (P := fun k => ∀ c ∈ ks, PySem.W.subIn K (.ref ((⟨i, j, o, b, l, f, e, m, g, n, a⟩ : Eds).at k)) (.ref ((⟨i, j, o, b, l, f, e, m, g, n, a⟩ : Eds).at c)) = some (decide (k = c))) (all_cons (P := fun c => PySem.W.subIn K (.ref ((⟨i, j, o, b, l, f, e, m, g, n, a⟩ : Eds).at .NoWire)) (.ref ((⟨i, j, o, b, l, f, e, m, g, n, a⟩ : Eds).at c)) = some (decide (.NoWire = c))) p_NoWire_NoBits (all_cons (P := fun c => PySem.W.subIn K (.ref ((⟨i, j, o, b, l, f, e, m, g, n, a⟩ : Eds).at .NoWire)) (.ref ((⟨i, j, o, b, l, f, e, m, g, n, a⟩ : Eds).at c)) = some (decide (.NoWire = c))) p_NoWire_NoName (all_cons (P := fun c => PySem.W.subIn K (.ref ((⟨i, j, o, b, l, f, e, m, g, n, a⟩ : Eds).at .NoWire)) (.ref ((⟨i, j, o, b, l, f, e, m, g, n, a⟩ : Eds).at c)) = some (decide (.NoWire = c))) p_NoWire_NoKey (all_cons (P := fun c => PySem.W.subIn K (.ref ((⟨i, j, o, b, l, f, e, m, g, n, a⟩ : Eds).at .NoWire)) (.ref ((⟨i, j, o, b, l, f, e, m, g, n, a⟩ : Eds).at c)) = some (decide (.NoWire = c))) p_NoWire_NoFrame (all_cons (P := fun c => PySem.W.subIn K (.ref ((⟨i, j, o, b, l, f, e, m, g, n, a⟩ : Eds).at .NoWire)) (.ref ((⟨i, j, o, b, l, f, e, m, g, n, a⟩ : Eds).at c)) = some (decide (.NoWire = c))) p_NoWire_NoPost (all_cons (P := fun c => PySem.W.subIn K (.ref ((⟨i, j, o, b, l, f, e, m, g, n, a⟩ : Eds).at .NoWire)) (.ref ((⟨i, j, o, b, l, f, e, m, g, n, a⟩ : Eds).at c)) = some (decide (.NoWire = c))) p_NoWire_NoThing (all_cons (P := fun c => PySem.W.subIn K (.ref ((⟨i, j, o, b, l, f, e, m, g, n, a⟩ : Eds).at .NoWire)) (.ref ((⟨i, j, o, b, l, f, e, m, g, n, a⟩ : Eds).at c)) = some (decide (.NoWire = c))) p_NoWire_NoStrip (all_cons (P := fun c => PySem.W.subIn K (.ref ((⟨i, j, o, b, l, f, e, m, g, n, a⟩ : Eds).at .NoWire)) (.ref ((⟨i, j, o, b, l, f, e, m, g, n, a⟩ : Eds).at c)) = some (decide (.NoWire = c))) p_NoWire_NoRail (all_cons (P := fun c => PySem.W.subIn K (.ref ((⟨i, j, o, b, l, f, e, m, g, n, a⟩ : Eds).at .NoWire)) (.ref ((⟨i, j, o, b, l, f, e, m, g, n, a⟩ : Eds).at c)) = some (decide (.NoWire = c))) p_NoWire_NoWire (all_cons (P := fun c => PySem.W.subIn K (.ref ((⟨i, j, o, b, l, f, e, m, g, n, a⟩ : Eds).at .NoWire)) (.ref ((⟨i, j, o, b, l, f, e, m, g, n, a⟩ : Eds).at c)) = some (decide (.NoWire = c))) p_NoWire_NoRow all_nil)))))))))) (all_cons (P := fun k => ∀ c ∈ ks, PySem.W.subIn K (.ref ((⟨i, j, o, b, l, f, e, m, g, n, a⟩ : Eds).at k)) (.ref ((⟨i, j, o, b, l, f, e, m, g, n, a⟩ : Eds).at c)) = some (decide (k = c))) (all_cons (P := fun c => PySem.W.subIn K (.ref ((⟨i, j, o, b, l, f, e, m, g, n, a⟩ : Eds).at .NoRow)) (.ref ((⟨i, j, o, b, l, f, e, m, g, n, a⟩ : Eds).at c)) = some (decide (.NoRow = c))) p_NoRow_NoBits (all_cons (P := fun c => PySem.W.subIn K (.ref ((⟨i, j, o, b, l, f, e, m, g, n, a⟩ : Eds).at .NoRow)) (.ref ((⟨i, j, o, b, l, f, e, m, g, n, a⟩ : Eds).at c)) = some (decide (.NoRow = c))) p_NoRow_NoName (all_cons (P := fun c => PySem.W.subIn K (.ref ((⟨i, j, o, b, l, f, e, m, g, n, a⟩ : Eds).at .NoRow)) (.ref ((⟨i, j, o, b, l, f, e, m, g, n, a⟩ : Eds).at c)) = some (decide (.NoRow = c))) p_NoRow_NoKey (all_cons (P := fun c => PySem.W.subIn K (.ref ((⟨i, j, o, b, l, f, e, m, g, n, a⟩ : Eds).at .NoRow)) (.ref ((⟨i, j, o, b, l, f, e, m, g, n, a⟩ : Eds).at c)) = some (decide (.NoRow = c))) p_NoRow_NoFrame (all_cons (P := fun c => PySem.W.subIn K (.ref ((⟨i, j, o, b, l, f, e, m, g, n, a⟩ : Eds).at .NoRow)) (.ref ((⟨i, j, o, b, l, f, e, m, g, n, a⟩ : Eds).at c)) = some (decide (.NoRow = c))) p_NoRow_NoPost (all_cons (P := fun c => PySem.W.subIn K (.ref ((⟨i, j, o, b, l, f, e, m, g, n, a⟩ : Eds).at .NoRow)) (.ref ((⟨i, j, o, b, l, f, e, m, g, n, a⟩ : Eds).at c)) = some (decide (.NoRow = c))) p_NoRow_NoThing (all_cons (P := fun c => PySem.W.subIn K (.ref ((⟨i, j, o, b, l, f, e, m, g, n, a⟩ : Eds).at .NoRow)) (.ref ((⟨i, j, o, b, l, f, e, m, g, n, a⟩ : Eds).at c)) = some (decide (.NoRow = c))) p_NoRow_NoStrip (all_cons (P := fun c => PySem.W.subIn K (.ref ((⟨i, j, o, b, l, f, e, m, g, n, a⟩ : Eds).at .NoRow)) (.ref ((⟨i, j, o, b, l, f, e, m, g, n, a⟩ : Eds).at c)) = some (decide (.NoRow = c))) p_NoRow_NoRail (all_cons (P := fun c => PySem.W.subIn K (.ref ((⟨i, j, o, b, l, f, e, m, g, n, a⟩ : Eds).at .NoRow)) (.ref ((⟨i, j, o, b, l, f, e, m, g, n, a⟩ : Eds).at c)) = some (decide (.NoRow = c))) p_NoRow_NoWire (all_cons (P := fun c => PySem.W.subIn K (.ref ((⟨i, j, o, b, l, f, e, m, g, n, a⟩ : Eds).at .NoRow)) (.ref ((⟨i, j, o, b, l, f, e, m, g, n, a⟩ : Eds).at c)) = some (decide (.NoRow = c))) p_NoRow_NoRow all_nil)))))))))) all_nil)))))))))) (all_cons (P := fun k => PySem.W.subIn K (.ref ((⟨i, j, o, b, l, f, e, m, g, n, a⟩ : Eds).at k)) (.ref (⟨i, j, o, b, l, f, e, m, g, n, a⟩ : Eds).RailError) = some true) r_NoBits (all_cons (P := fun k => PySem.W.subIn K (.ref ((⟨i, j, o, b, l, f, e, m, g, n, a⟩ : Eds).at k)) (.ref (⟨i, j, o, b, l, f, e, m, g, n, a⟩ : Eds).RailError) = some true) r_NoName (all_cons (P := fun k => PySem.W.subIn K (.ref ((⟨i, j, o, b, l, f, e, m, g, n, a⟩ : Eds).at k)) (.ref (⟨i, j, o, b, l, f, e, m, g, n, a⟩ : Eds).RailError) = some true) r_NoKey (all_cons (P := fun k => PySem.W.subIn K (.ref ((⟨i, j, o, b, l, f, e, m, g, n, a⟩ : Eds).at k)) (.ref (⟨i, j, o, b, l, f, e, m, g, n, a⟩ : Eds).RailError) = some true) r_NoFrame (all_cons (P := fun k => PySem.W.subIn K (.ref ((⟨i, j, o, b, l, f, e, m, g, n, a⟩ : Eds).at k)) (.ref (⟨i, j, o, b, l, f, e, m, g, n, a⟩ : Eds).RailError) = some true) r_NoPost (all_cons (P := fun k => PySem.W.subIn K (.ref ((⟨i, j, o, b, l, f, e, m, g, n, a⟩ : Eds).at k)) (.ref (⟨i, j, o, b, l, f, e, m, g, n, a⟩ : Eds).RailError) = some true) r_NoThing (all_cons (P := fun k => PySem.W.subIn K (.ref ((⟨i, j, o, b, l, f, e, m, g, n, a⟩ : Eds).at k)) (.ref (⟨i, j, o, b, l, f, e, m, g, n, a⟩ : Eds).RailError) = some true) r_NoStrip (all_cons (P := fun k => PySem.W.subIn K (.ref ((⟨i, j, o, b, l, f, e, m, g, n, a⟩ : Eds).at k)) (.ref (⟨i, j, o, b, l, f, e, m, g, n, a⟩ : Eds).RailError) = some true) r_NoRail (all_cons (P := fun k => PySem.W.subIn K (.ref ((⟨i, j, o, b, l, f, e, m, g, n, a⟩ : Eds).at k)) (.ref (⟨i, j, o, b, l, f, e, m, g, n, a⟩ : Eds).RailError) = some true) r_NoWire (all_cons (P := fun k => PySem.W.subIn K (.ref ((⟨i, j, o, b, l, f, e, m, g, n, a⟩ : Eds).at k)) (.ref (⟨i, j, o, b, l, f, e, m, g, n, a⟩ : Eds).RailError) = some true) r_NoRow all_nil)))))))))) q_RailError hn ht (by decide +kernel)⟩
theorem bd__law_draw {K : PySem.W.Frag} {x qual : Str} {f : Addr} {fd : FuncData} (F : Fun K x qual s__law_draw f fd) : Binds K fd ["script", "k", "many"] [] := F.binds (ps := ["script", "k", "many"]) fun _ _ _ _ _ _ us hl => match us, hl with | [_, _, _], _ => rfl
theorem bd_bits_of {K : PySem.W.Frag} {x qual : Str} {f : Addr} {fd : FuncData} (F : Fun K x qual s_bits_of f fd) : Binds K fd ["number", "many"] [] := F.binds (ps := ["number", "many"]) fun _ _ _ _ _ _ us hl => match us, hl with | [_, _], _ => rfl
theorem bd_divided {K : PySem.W.Frag} {x qual : Str} {f : Addr} {fd : FuncData} (F : Fun K x qual s_divided f fd) : Binds K fd ["number", "key"] [] := F.binds (ps := ["number", "key"]) fun _ _ _ _ _ _ us hl => match us, hl with | [_, _], _ => rfl
theorem bd_number_of {K : PySem.W.Frag} {x qual : Str} {f : Addr} {fd : FuncData} (F : Fun K x qual s_number_of f fd) : Binds K fd ["bits"] [] := F.binds (ps := ["bits"]) fun _ _ _ _ _ _ us hl => match us, hl with | [_], _ => rfl
theorem bd_rest_of {K : PySem.W.Frag} {x qual : Str} {f : Addr} {fd : FuncData} (F : Fun K x qual s_rest_of f fd) : Binds K fd ["bits"] [] := F.binds (ps := ["bits"]) fun _ _ _ _ _ _ us hl => match us, hl with | [_], _ => rfl
theorem bd_check_of {K : PySem.W.Frag} {x qual : Str} {f : Addr} {fd : FuncData} (F : Fun K x qual s_check_of f fd) : Binds K fd ["bits"] [] := F.binds (ps := ["bits"]) fun _ _ _ _ _ _ us hl => match us, hl with | [_], _ => rfl
theorem bd_is_name {K : PySem.W.Frag} {x qual : Str} {f : Addr} {fd : FuncData} (F : Fun K x qual s_is_name f fd) : Binds K fd ["number"] [] := F.binds (ps := ["number"]) fun _ _ _ _ _ _ us hl => match us, hl with | [_], _ => rfl
theorem bd_frame_bits {K : PySem.W.Frag} {x qual : Str} {f : Addr} {fd : FuncData} (F : Fun K x qual s_frame_bits f fd) : Binds K fd ["name", "data"] [] := F.binds (ps := ["name", "data"]) fun _ _ _ _ _ _ us hl => match us, hl with | [_, _], _ => rfl
theorem bd__law_field {K : PySem.W.Frag} {x qual : Str} {f : Addr} {fd : FuncData} (F : Fun K x qual s__law_field f fd) : Binds K fd ["e"] [] := F.binds (ps := ["e"]) fun _ _ _ _ _ _ us hl => match us, hl with | [_], _ => rfl
theorem bd__law_kinds {K : PySem.W.Frag} {x qual : Str} {f : Addr} {fd : FuncData} (F : Fun K x qual s__law_kinds f fd) : Binds K fd ["e"] [] := F.binds (ps := ["e"]) fun _ _ _ _ _ _ us hl => match us, hl with | [_], _ => rfl
theorem bd__law_known {K : PySem.W.Frag} {x qual : Str} {f : Addr} {fd : FuncData} (F : Fun K x qual s__law_known f fd) : Binds K fd ["e", "k", "field"] [] := F.binds (ps := ["e", "k", "field"]) fun _ _ _ _ _ _ us hl => match us, hl with | [_, _, _], _ => rfl
theorem bd__law_no_frame {K : PySem.W.Frag} {x qual : Str} {f : Addr} {fd : FuncData} (F : Fun K x qual s__law_no_frame f fd) : Binds K fd ["name", "data"] [] := F.binds (ps := ["name", "data"]) fun _ _ _ _ _ _ us hl => match us, hl with | [_, _], _ => rfl
theorem bd__law_plain {K : PySem.W.Frag} {x qual : Str} {f : Addr} {fd : FuncData} (F : Fun K x qual s__law_plain f fd) : Binds K fd ["found", "due"] [] := F.binds (ps := ["found", "due"]) fun _ _ _ _ _ _ us hl => match us, hl with | [_, _], _ => rfl
theorem bd__law_far {K : PySem.W.Frag} {x qual : Str} {f : Addr} {fd : FuncData} (F : Fun K x qual s__law_far f fd) : Binds K fd ["script", "k"] [] := F.binds (ps := ["script", "k"]) fun _ _ _ _ _ _ us hl => match us, hl with | [_, _], _ => rfl
theorem bd__law_written {K : PySem.W.Frag} {x qual : Str} {f : Addr} {fd : FuncData} (F : Fun K x qual s__law_written f fd) : Binds K fd ["number", "many"] [] := F.binds (ps := ["number", "many"]) fun _ _ _ _ _ _ us hl => match us, hl with | [_, _], _ => rfl
theorem bd__law_worth {K : PySem.W.Frag} {x qual : Str} {f : Addr} {fd : FuncData} (F : Fun K x qual s__law_worth f fd) : Binds K fd ["bits"] [] := F.binds (ps := ["bits"]) fun _ _ _ _ _ _ us hl => match us, hl with | [_], _ => rfl
theorem bd__law_frame_due {K : PySem.W.Frag} {x qual : Str} {f : Addr} {fd : FuncData} (F : Fun K x qual s__law_frame_due f fd) : Binds K fd ["name", "data"] [] := F.binds (ps := ["name", "data"]) fun _ _ _ _ _ _ us hl => match us, hl with | [_, _], _ => rfl
theorem bd__law_frames_right {K : PySem.W.Frag} {x qual : Str} {f : Addr} {fd : FuncData} (F : Fun K x qual s__law_frames_right f fd) : Binds K fd ["script"] [] := F.binds (ps := ["script"]) fun _ _ _ _ _ _ us hl => match us, hl with | [_], _ => rfl
theorem bd_NoWire_init {K : PySem.W.Frag} {x qual : Str} {f : Addr} {fd : FuncData} (F : Fun K x qual s_NoWire_init f fd) : Binds K fd ["self", "at"] [] := F.binds (ps := ["self", "at"]) fun _ _ _ _ _ _ us hl => match us, hl with | [_, _], _ => rfl
theorem bd_taken_out {K : PySem.W.Frag} {x qual : Str} {f : Addr} {fd : FuncData} (F : Fun K x qual s_taken_out f fd) : Binds K fd ["wire"] [] := F.binds (ps := ["wire"]) fun _ _ _ _ _ _ us hl => match us, hl with | [_], _ => rfl
theorem bd__law_no_wire {K : PySem.W.Frag} {x qual : Str} {f : Addr} {fd : FuncData} (F : Fun K x qual s__law_no_wire f fd) : Binds K fd ["wire", "at"] [] := F.binds (ps := ["wire", "at"]) fun _ _ _ _ _ _ us hl => match us, hl with | [_, _], _ => rfl
theorem bd__law_row {K : PySem.W.Frag} {x qual : Str} {f : Addr} {fd : FuncData} (F : Fun K x qual s__law_row f fd) : Binds K fd ["script", "base", "many"] [] := F.binds (ps := ["script", "base", "many"]) fun _ _ _ _ _ _ us hl => match us, hl with | [_, _, _], _ => rfl
theorem bd__law_wires_right {K : PySem.W.Frag} {x qual : Str} {f : Addr} {fd : FuncData} (F : Fun K x qual s__law_wires_right f fd) : Binds K fd ["script"] [] := F.binds (ps := ["script"]) fun _ _ _ _ _ _ us hl => match us, hl with | [_], _ => rfl
theorem bd__law_no_bits {K : PySem.W.Frag} {x qual : Str} {f : Addr} {fd : FuncData} (F : Fun K x qual s__law_no_bits f fd) : Binds K fd ["number", "many"] [] := F.binds (ps := ["number", "many"]) fun _ _ _ _ _ _ us hl => match us, hl with | [_, _], _ => rfl
theorem bd__law_numbers_right {K : PySem.W.Frag} {x qual : Str} {f : Addr} {fd : FuncData} (F : Fun K x qual s__law_numbers_right f fd) : Binds K fd ["script"] [] := F.binds (ps := ["script"]) fun _ _ _ _ _ _ us hl => match us, hl with | [_], _ => rfl
theorem bd_bit_at {K : PySem.W.Frag} {x qual : Str} {f : Addr} {fd : FuncData} (F : Fun K x qual s_bit_at f fd) : Binds K fd ["name", "k"] [] := F.binds (ps := ["name", "k"]) fun _ _ _ _ _ _ us hl => match us, hl with | [_, _], _ => rfl
theorem bd_duel {K : PySem.W.Frag} {x qual : Str} {f : Addr} {fd : FuncData} (F : Fun K x qual s_duel f fd) : Binds K fd ["names"] [] := F.binds (ps := ["names"]) fun _ _ _ _ _ _ us hl => match us, hl with | [_], _ => rfl
theorem bd__law_duel_right {K : PySem.W.Frag} {x qual : Str} {f : Addr} {fd : FuncData} (F : Fun K x qual s__law_duel_right f fd) : Binds K fd ["script", "names"] [] := F.binds (ps := ["script", "names"]) fun _ _ _ _ _ _ us hl => match us, hl with | [_, _], _ => rfl
theorem bd__law_no_name {K : PySem.W.Frag} {x qual : Str} {f : Addr} {fd : FuncData} (F : Fun K x qual s__law_no_name f fd) : Binds K fd ["names"] [] := F.binds (ps := ["names"]) fun _ _ _ _ _ _ us hl => match us, hl with | [_], _ => rfl
theorem bd__law_names_right {K : PySem.W.Frag} {x qual : Str} {f : Addr} {fd : FuncData} (F : Fun K x qual s__law_names_right f fd) : Binds K fd ["script"] [] := F.binds (ps := ["script"]) fun _ _ _ _ _ _ us hl => match us, hl with | [_], _ => rfl
theorem bd__law_no_key {K : PySem.W.Frag} {x qual : Str} {f : Addr} {fd : FuncData} (F : Fun K x qual s__law_no_key f fd) : Binds K fd ["number"] [] := F.binds (ps := ["number"]) fun _ _ _ _ _ _ us hl => match us, hl with | [_], _ => rfl
theorem bd__law_keys_right {K : PySem.W.Frag} {x qual : Str} {f : Addr} {fd : FuncData} (F : Fun K x qual s__law_keys_right f fd) : Binds K fd ["script"] [] := F.binds (ps := ["script"]) fun _ _ _ _ _ _ us hl => match us, hl with | [_], _ => rfl
theorem bd_NoRow_init {K : PySem.W.Frag} {x qual : Str} {f : Addr} {fd : FuncData} (F : Fun K x qual s_NoRow_init f fd) : Binds K fd ["self", "word"] [] := F.binds (ps := ["self", "word"]) fun _ _ _ _ _ _ us hl => match us, hl with | [_, _], _ => rfl
theorem bd__law_raised {K : PySem.W.Frag} {x qual : Str} {f : Addr} {fd : FuncData} (F : Fun K x qual s__law_raised f fd) : Binds K fd ["k", "words", "number"] [] := F.binds (ps := ["k", "words", "number"]) fun _ _ _ _ _ _ us hl => match us, hl with | [_, _, _], _ => rfl
theorem bd__law_good {K : PySem.W.Frag} {x qual : Str} {f : Addr} {fd : FuncData} (F : Fun K x qual s__law_good f fd) : Binds K fd ["k", "words", "number"] [] := F.binds (ps := ["k", "words", "number"]) fun _ _ _ _ _ _ us hl => match us, hl with | [_, _, _], _ => rfl
theorem bd_law {K : PySem.W.Frag} {x qual : Str} {f : Addr} {fd : FuncData} (F : Fun K x qual s_law f fd) : Binds K fd ["script"] [] := F.binds (ps := ["script"]) fun _ _ _ _ _ _ us hl => match us, hl with | [_], _ => rfl
end Bt

namespace Bt
open PySem L2
theorem bx (a b : Nat) : Builtin.bitXor (a : Int) (b : Int) = ((a ^^^ b : Nat) : Int) := Bits.bitXor_pp (Int.natCast_nonneg a) (Int.natCast_nonneg b)
theorem ba (a b : Nat) : Builtin.bitAnd (a : Int) (b : Int) = ((a &&& b : Nat) : Int) := PyProof.Rows.bitAnd_pp (Int.natCast_nonneg a) (Int.natCast_nonneg b)
theorem ba1 (a : Nat) : Builtin.bitAnd (a : Int) 1 = ((a % 2 : Nat) : Int) := by
  have h := ba a 1
  rw [Nat.and_one_is_mod] at h
  exact h
def clm (a b : Nat) : Nat := if h : b = 0 then 0 else (if b % 2 = 1 then a else 0) ^^^ clm (2 * a) (b / 2)
termination_by b
decreasing_by omega
theorem clm_zero (a : Nat) : clm a 0 = 0 := by unfold clm; rfl
theorem clm_step (a b : Nat) : clm a b = (if b % 2 = 1 then a else 0) ^^^ clm (2 * a) (b / 2) := by
  by_cases h : b = 0
  · subst h
    rw [clm_zero]
    simp [clm_zero]
  · rw [clm]
    simp [h]
theorem xor4 (a b c d : Nat) : (a ^^^ b) ^^^ (c ^^^ d) = (a ^^^ c) ^^^ (b ^^^ d) := by
  rw [Nat.xor_assoc, Nat.xor_assoc, ← Nat.xor_assoc b c d, Nat.xor_comm b c, Nat.xor_assoc c b d]
theorem two_xor (a b : Nat) : 2 * (a ^^^ b) = (2 * a) ^^^ (2 * b) := by
  have h1 := Nat.xor_div_two (a := 2 * a) (b := 2 * b)
  have h2 := Nat.xor_mod_two_eq_one (a := 2 * a) (b := 2 * b)
  rw [show 2 * a / 2 = a from by omega, show 2 * b / 2 = b from by omega] at h1
  have h3 : ¬ (2 * a ^^^ 2 * b) % 2 = 1 := by rw [h2]; omega
  omega
theorem two_xor1 (k : Nat) : (2 * k) ^^^ 1 = 2 * k + 1 := by
  have h1 := Nat.xor_div_two (a := 2 * k) (b := 1)
  have h2 := Nat.xor_mod_two_eq_one (a := 2 * k) (b := 1)
  rw [show 2 * k / 2 = k from by omega, show 1 / 2 = 0 from rfl, Nat.xor_zero] at h1
  have h3 : (2 * k ^^^ 1) % 2 = 1 := by rw [h2]; omega
  omega
theorem clm_xor_right : ∀ (n : Nat) (a b c : Nat), b + c ≤ n → clm a (b ^^^ c) = clm a b ^^^ clm a c
  | 0, a, b, c, h => by
    obtain ⟨rfl, rfl⟩ : b = 0 ∧ c = 0 := by omega
    simp [clm_zero]
  | n + 1, a, b, c, h => by
    by_cases h0 : b = 0 ∧ c = 0
    · obtain ⟨rfl, rfl⟩ := h0
      simp [clm_zero]
    rw [clm_step a (b ^^^ c), clm_step a b, clm_step a c, Nat.xor_div_two, clm_xor_right n (2 * a) (b / 2) (c / 2) (by omega), xor4]
    congr 1
    have hm := Nat.xor_mod_two_eq_one (a := b) (b := c)
    by_cases h1 : b % 2 = 1 <;> by_cases h2 : c % 2 = 1
    · rw [if_neg (by rw [hm]; simp [h1, h2]), if_pos h1, if_pos h2, Nat.xor_self]
    · rw [if_pos (by rw [hm]; simp [h1, h2]), if_pos h1, if_neg h2, Nat.xor_zero]
    · rw [if_pos (by rw [hm]; simp [h1, h2]), if_neg h1, if_pos h2, Nat.zero_xor]
    · rw [if_neg (by rw [hm]; simp [h1, h2]), if_neg h1, if_neg h2, Nat.xor_zero]
theorem clm_xr (a b c : Nat) : clm a (b ^^^ c) = clm a b ^^^ clm a c := clm_xor_right _ a b c (Nat.le_refl _)
theorem clm_two : ∀ (n a b : Nat), b ≤ n → clm (2 * a) b = 2 * clm a b
  | 0, a, b, h => by
    obtain rfl : b = 0 := by omega
    rw [clm_zero, clm_zero]
  | n + 1, a, b, h => by
    by_cases h0 : b = 0
    · subst h0; rw [clm_zero, clm_zero]
    rw [clm_step (2 * a) b, clm_step a b, clm_two n (2 * a) (b / 2) (by omega), two_xor]
    congr 1
    by_cases h1 : b % 2 = 1
    · rw [if_pos h1, if_pos h1]
    · rw [if_neg h1, if_neg h1]
theorem clm_tl (a b : Nat) : clm (2 * a) b = 2 * clm a b := clm_two b a b (Nat.le_refl _)
theorem clm_xl : ∀ (n a b c : Nat), c ≤ n → clm (a ^^^ b) c = clm a c ^^^ clm b c
  | 0, a, b, c, h => by
    obtain rfl : c = 0 := by omega
    simp [clm_zero]
  | n + 1, a, b, c, h => by
    by_cases h0 : c = 0
    · subst h0; simp [clm_zero]
    rw [clm_step (a ^^^ b) c, clm_step a c, clm_step b c, two_xor, clm_xl n (2 * a) (2 * b) (c / 2) (by omega), xor4]
    congr 1
    by_cases h1 : c % 2 = 1
    · rw [if_pos h1, if_pos h1, if_pos h1]
    · rw [if_neg h1, if_neg h1, if_neg h1, Nat.xor_zero]
theorem clm_xl' (a b c : Nat) : clm (a ^^^ b) c = clm a c ^^^ clm b c := clm_xl c a b c (Nat.le_refl _)
theorem clm_tr (a b : Nat) : clm a (2 * b) = 2 * clm a b := by
  rw [clm_step a (2 * b), if_neg (by omega), Nat.zero_xor, show 2 * b / 2 = b from by omega, clm_tl]
theorem zero_clm : ∀ (n b : Nat), b ≤ n → clm 0 b = 0
  | 0, b, h => by
    obtain rfl : b = 0 := by omega
    exact clm_zero 0
  | n + 1, b, h => by
    by_cases h0 : b = 0
    · subst h0; exact clm_zero 0
    rw [clm_step, zero_clm n (b / 2) (by omega)]
    split <;> rfl
theorem clm_zl (b : Nat) : clm 0 b = 0 := zero_clm b b (Nat.le_refl _)
theorem one_clm : ∀ (n b : Nat), b ≤ n → clm 1 b = b
  | 0, b, h => by
    obtain rfl : b = 0 := by omega
    exact clm_zero 1
  | n + 1, b, h => by
    by_cases h0 : b = 0
    · subst h0; exact clm_zero 1
    rw [clm_step, clm_tl 1, one_clm n (b / 2) (by omega)]
    by_cases h1 : b % 2 = 1
    · rw [if_pos h1]
      rw [Nat.xor_comm, two_xor1]
      omega
    · rw [if_neg h1, Nat.zero_xor]
      omega
theorem clm_ol (b : Nat) : clm 1 b = b := one_clm b b (Nat.le_refl _)
theorem clm_or (a : Nat) : clm a 1 = a := by
  rw [clm_step, if_pos rfl, show 1 / 2 = 0 from rfl, clm_zero, Nat.xor_zero]
theorem split_bit (b : Nat) : b = (2 * (b / 2)) ^^^ (b % 2) := by
  rcases Nat.mod_two_eq_zero_or_one b with h | h
  · rw [h, Nat.xor_zero]; omega
  · rw [h, two_xor1]
    omega
theorem clm_cm : ∀ (n a b : Nat), b ≤ n → clm a b = clm b a
  | 0, a, b, h => by
    obtain rfl : b = 0 := by omega
    rw [clm_zero, clm_zl]
  | n + 1, a, b, h => by
    by_cases h0 : b = 0
    · subst h0; rw [clm_zero, clm_zl]
    have e := split_bit b
    have ih := clm_cm n a (b / 2) (by omega)
    have h1 : clm a b = 2 * clm a (b / 2) ^^^ clm a (b % 2) := by
      conv => lhs; rw [e]
      rw [clm_xr, clm_tr]
    have h2 : clm b a = 2 * clm (b / 2) a ^^^ clm (b % 2) a := by
      conv => lhs; rw [e]
      rw [clm_xl', clm_tl]
    rw [h1, h2, ih]
    congr 1
    rcases Nat.mod_two_eq_zero_or_one b with q | q
    · rw [q, clm_zero, clm_zl]
    · rw [q, clm_or, clm_ol]
theorem clm_comm (a b : Nat) : clm a b = clm b a := clm_cm b a b (Nat.le_refl _)
def pws (a b : Nat) : Nat → Nat
  | 0 => 0
  | n + 1 => pws a b n ^^^ (if b / 2 ^ n % 2 = 1 then a * 2 ^ n else 0)
theorem pws_shift (a b : Nat) : ∀ n : Nat, pws a b (n + 1) = (if b % 2 = 1 then a else 0) ^^^ pws (2 * a) (b / 2) n
  | 0 => by simp [pws]
  | n + 1 => by
    have ih := pws_shift a b n
    show pws a b (n + 1) ^^^ _ = _ ^^^ (pws (2 * a) (b / 2) n ^^^ _)
    rw [ih, Nat.xor_assoc]
    have e1 : b / 2 ^ (n + 1) = b / 2 / 2 ^ n := by rw [Nat.div_div_eq_div_mul, Nat.pow_succ, Nat.mul_comm]
    have e2 : a * 2 ^ (n + 1) = 2 * a * 2 ^ n := by rw [Nat.pow_succ]; ac_rfl
    rw [e1, e2]
theorem pws_clm : ∀ (n a b : Nat), b < 2 ^ n → pws a b n = clm a b
  | 0, a, b, h => by
    obtain rfl : b = 0 := by simp at h; omega
    rw [clm_zero]; rfl
  | n + 1, a, b, h => by
    rw [pws_shift, clm_step, pws_clm n (2 * a) (b / 2) (by rw [Nat.pow_succ] at h; omega)]
end Bt
namespace Bt
open PySem L2
theorem shrN (a k : Nat) : shrG (a : Int) (k : Int) = some ((a / 2 ^ k : Nat) : Int) := by
  rw [shrG_ok (by omega), Int.toNat_natCast, Int.natCast_ediv, Int.natCast_pow]; rfl
theorem shlN {a n : Nat} (k : Nat) (h : a < 2 ^ n) (hn : n + k ≤ 90000000) : shlG (a : Int) (k : Int) = some ((a * 2 ^ k : Nat) : Int) := by
  rw [shlG_ok (n := n) (by omega) (by omega) (by omega), Int.toNat_natCast, Int.natCast_mul, Int.natCast_pow]; rfl
end Bt

namespace Bt
open PySem L2
theorem draw_ok (ns : List Int) (k many : Int) (hk : 0 ≤ k) (hk2 : k ≤ 1000000000) (hm : 0 < many) : ∃ v, m__law_draw ns k many = some v ∧ 0 ≤ v ∧ v < many := by
  have hc : ∃ c, (ifB (decide ((0 : Int) < (List.length ns : Int))) (bnd (modG k (List.length ns : Int)) fun t => bnd (atI ns t) fun e => some e) (some (0 : Int))) = some c := by
    by_cases h : (0 : Int) < (List.length ns : Int)
    · rw [decide_eq_true h, ifB_t, modG_ok h, bnd_some]
      obtain ⟨x, hx, _⟩ := atI_mem (xs := ns) (i := k % (ns.length : Int)) (Int.emod_nonneg _ (by omega)) (Int.emod_lt_of_pos _ h)
      exact ⟨x, by rw [hx]; rfl⟩
    · rw [decide_eq_false h]
      exact ⟨0, rfl⟩
  obtain ⟨c, hc⟩ := hc
  refine ⟨(((c % 1000003 + 31 * k * k + 1) * 48271 % 999983) * 7919 % 524287) % many, ?_, Int.emod_nonneg _ (by omega), Int.emod_lt_of_pos _ hm⟩
  unfold m__law_draw
  rw [bnd_of hc, mulG_ok (a := 40) (b := 40) (by omega) (by omega) (by omega), bnd_some, ltv_eq, modG_ok hm, bnd_some]
end Bt

namespace Bt
open PySem L2
def Bits (xs : List Int) : Prop := ∀ b ∈ xs, b = 0 ∨ b = 1
theorem Bits.app {xs ys : List Int} (h : Bits xs) (k : Bits ys) : Bits (xs ++ ys) := fun b hb => by
  rcases List.mem_append.mp hb with q | q
  · exact h b q
  · exact k b q
theorem Bits.one {b : Int} (h : b = 0 ∨ b = 1) : Bits [b] := fun c hc => by rw [List.mem_singleton.mp hc]; exact h
theorem Bits.drop {xs : List Int} (h : Bits xs) (n : Nat) : Bits (xs.drop n) := fun b hb => h b (List.mem_of_mem_drop hb)
theorem Bits.rep {b : Int} (h : b = 0 ∨ b = 1) (n : Nat) : Bits (List.replicate n b) := fun c hc => by rw [List.eq_of_mem_replicate hc]; exact h
def ci (qs : List Nat) : List Int := qs.map fun (q : Nat) => (q : Int)
theorem ci_of : ∀ (l : List Int) (m : Nat), (∀ y ∈ l, ∃ n : Nat, y = (n : Int) ∧ n < m) → ∃ D, l = ci D ∧ ∀ d ∈ D, d < m
  | [], _, _ => ⟨[], rfl, fun _ h => (nomatch h)⟩
  | y :: r, m, h => by
    obtain ⟨n, rfl, hn⟩ := h y (List.Mem.head _)
    obtain ⟨D, rfl, hD⟩ := ci_of r m fun z hz => h z (List.Mem.tail _ hz)
    refine ⟨n :: D, rfl, fun d hd => ?_⟩
    rcases List.mem_cons.mp hd with rfl | hd
    · exact hn
    · exact hD d hd
theorem ci_len (D : List Nat) : (ci D).length = D.length := by simp [ci]
theorem ci_mem {D : List Nat} {x : Int} (h : x ∈ ci D) : ∃ d ∈ D, x = (d : Int) := by
  obtain ⟨d, hd, rfl⟩ := List.mem_map.mp h
  exact ⟨d, hd, rfl⟩
theorem draw2 (ns : List Int) (k : Int) (hk : 0 ≤ k) (hk2 : k ≤ 1000000000) : ∃ v, m__law_draw ns k 2 = some v ∧ (v = 0 ∨ v = 1) := by
  obtain ⟨v, h1, h2, h3⟩ := draw_ok ns k 2 hk hk2 (by decide)
  exact ⟨v, h1, by omega⟩
end Bt

namespace Bt
open PySem L2
section
variable {α : Type}
theorem cut_to (xs : List α) (n : Nat) : cutL xs none (some (n : Int)) = xs.take n := by
  unfold cutL
  rw [show HT.sIx xs.length 0 none = 0 from rfl, HT.sIx_nat, List.drop_zero, Nat.sub_zero]
  by_cases h : n ≤ xs.length
  · rw [Nat.min_eq_left h]
  · rw [Nat.min_eq_right (by omega), List.take_of_length_le (Nat.le_refl _), List.take_of_length_le (by omega)]
theorem cut_fr (xs : List α) (n : Nat) : cutL xs (some (n : Int)) none = xs.drop n := by
  unfold cutL
  rw [HT.sIx_nat, show HT.sIx xs.length xs.length none = xs.length from rfl]
  by_cases h : n ≤ xs.length
  · rw [Nat.min_eq_left h, List.take_of_length_le (by simp)]
  · rw [Nat.min_eq_right (by omega), List.drop_of_length_le (Nat.le_refl _), List.drop_of_length_le (by omega)]
    simp
end
end Bt

namespace Bt
open PySem L2
theorem xor_top {x y m : Nat} (h1 : 2 ^ m ≤ x) (h2 : x < 2 ^ (m + 1)) (h3 : y < 2 ^ m) : 2 ^ m ≤ x ^^^ y ∧ x ^^^ y < 2 ^ (m + 1) := by
  have e := Nat.xor_div_two_pow (a := x) (b := y) (n := m)
  rw [Nat.pow_succ] at h2 ⊢
  have hp : 0 < 2 ^ m := Nat.two_pow_pos m
  have e1 : x / 2 ^ m = 1 := by
    rw [Nat.div_eq_iff hp]; omega
  have e2 : y / 2 ^ m = 0 := Nat.div_eq_of_lt h3
  rw [e1, e2, Nat.xor_zero] at e
  have h4 := (Nat.div_eq_iff hp).mp e
  omega
theorem xor_cancel {x y m : Nat} (h1 : 2 ^ m ≤ x) (h2 : x < 2 ^ (m + 1)) (h3 : 2 ^ m ≤ y) (h4 : y < 2 ^ (m + 1)) : x ^^^ y < 2 ^ m := by
  have e := Nat.xor_div_two_pow (a := x) (b := y) (n := m)
  rw [Nat.pow_succ] at h2 h4
  have hp : 0 < 2 ^ m := Nat.two_pow_pos m
  have e1 : x / 2 ^ m = 1 := by
    rw [Nat.div_eq_iff hp]; omega
  have e2 : y / 2 ^ m = 1 := by
    rw [Nat.div_eq_iff hp]; omega
  rw [e1, e2, Nat.xor_self] at e
  exact (Nat.div_eq_zero_iff_lt hp).mp e
theorem clm_top : ∀ (t a b s : Nat), 2 ^ s ≤ a → a < 2 ^ (s + 1) → 2 ^ t ≤ b → b < 2 ^ (t + 1) → 2 ^ (s + t) ≤ clm a b ∧ clm a b < 2 ^ (s + t + 1)
  | 0, a, b, s, h1, h2, h3, h4 => by
    obtain rfl : b = 1 := by simp at h3 h4; omega
    rw [clm_or]
    exact ⟨h1, h2⟩
  | t + 1, a, b, s, h1, h2, h3, h4 => by
    have e := split_bit b
    have ih := clm_top t a (b / 2) s h1 h2 (by rw [Nat.pow_succ] at h3; omega) (by rw [Nat.pow_succ] at h4; omega)
    have h5 : clm a b = 2 * clm a (b / 2) ^^^ clm a (b % 2) := by
      conv => lhs; rw [e]
      rw [clm_xr, clm_tr]
    rw [h5]
    have h6 : clm a (b % 2) < 2 ^ (s + (t + 1)) := by
      have : 2 ^ (s + 1) ≤ 2 ^ (s + (t + 1)) := Nat.pow_le_pow_right (by decide) (by omega)
      rcases Nat.mod_two_eq_zero_or_one b with q | q
      · rw [q, clm_zero]; exact Nat.two_pow_pos _
      · rw [q, clm_or]; omega
    refine xor_top ?_ ?_ h6
    · rw [show s + (t + 1) = s + t + 1 from rfl, Nat.pow_succ]; omega
    · rw [show s + (t + 1) + 1 = s + t + 1 + 1 from rfl, Nat.pow_succ]; omega
theorem log_of {n : Nat} (h : n ≠ 0) : ∃ t, 2 ^ t ≤ n ∧ n < 2 ^ (t + 1) := ⟨n.log2, Nat.log2_self_le h, Nat.lt_log2_self⟩
theorem clm_small {a w s : Nat} (h1 : 2 ^ s ≤ a) (h2 : a < 2 ^ (s + 1)) (h3 : clm a w < 2 ^ s) : w = 0 := by
  by_cases h : w = 0
  · exact h
  · obtain ⟨t, h4, h5⟩ := log_of h
    have h6 := (clm_top t a w s h1 h2 h4 h5).1
    have : 2 ^ s ≤ 2 ^ (s + t) := Nat.pow_le_pow_right (by decide) (by omega)
    omega
theorem xor_zero_eq {a b : Nat} (h : a ^^^ b = 0) : a = b := by
  have h2 : a ^^^ b ^^^ b = b := by rw [h, Nat.zero_xor]
  rw [Nat.xor_assoc, Nat.xor_self, Nat.xor_zero] at h2
  exact h2
theorem xor_move {a b c d : Nat} (h : a ^^^ b = c ^^^ d) : a ^^^ c = b ^^^ d := by
  have : (a ^^^ b) ^^^ (c ^^^ d) = 0 := by rw [h, Nat.xor_self]
  rw [xor4] at this
  exact xor_zero_eq this
theorem rest_one {key s w r w' r' : Nat} (h1 : 2 ^ s ≤ key) (h2 : key < 2 ^ (s + 1)) (h3 : r < 2 ^ s) (h4 : r' < 2 ^ s) (h : clm key w ^^^ r = clm key w' ^^^ r') : w = w' ∧ r = r' := by
  have h5 := xor_move h
  rw [← clm_xr] at h5
  have h6 : clm key (w ^^^ w') < 2 ^ s := by rw [h5]; exact Nat.xor_lt_two_pow h3 h4
  have h7 := clm_small h1 h2 h6
  refine ⟨xor_zero_eq h7, xor_zero_eq ?_⟩
  rw [← h5, h7, clm_zero]
def IsR (n r : Nat) : Prop := r < 32768 ∧ ∃ w, n = clm 64647 w ^^^ r
theorem IsR.uniq {n r r' : Nat} (h : IsR n r) (k : IsR n r') : r = r' := by
  obtain ⟨h1, w, h2⟩ := h
  obtain ⟨h3, w', h4⟩ := k
  exact (rest_one (s := 15) (key := 64647) (by decide) (by decide) h1 h3 (h2.symm.trans h4)).2
theorem IsR.small {r : Nat} (h : r < 32768) : IsR r r := ⟨h, 0, by rw [clm_zero, Nat.zero_xor]⟩
def hst (r b : Nat) : Nat := if 32768 ≤ 2 * r + b then (2 * r + b) ^^^ 64647 else 2 * r + b
theorem add_bit {a b : Nat} (h : b ≤ 1) : 2 * a + b = 2 * a ^^^ b := by
  rcases (show b = 0 ∨ b = 1 by omega) with rfl | rfl
  · rw [Nat.xor_zero]; rfl
  · rw [two_xor1]
theorem IsR.step {n r b : Nat} (h : IsR n r) (hb : b ≤ 1) : IsR (2 * n + b) (hst r b) := by
  obtain ⟨h1, w, h2⟩ := h
  have e : 2 * n + b = clm 64647 (2 * w) ^^^ (2 * r + b) := by
    rw [add_bit hb, add_bit hb, h2, two_xor, clm_tr, Nat.xor_assoc]
  unfold hst
  by_cases c : 32768 ≤ 2 * r + b
  · rw [if_pos c]
    refine ⟨xor_cancel (m := 15) c (by show _ < 65536; omega) (by decide) (by decide), 2 * w + 1, ?_⟩
    rw [e, add_bit (a := w) (by decide), clm_xr, clm_or, Nat.xor_comm (2 * r + b), Nat.xor_assoc, ← Nat.xor_assoc 64647 64647, Nat.xor_self, Nat.zero_xor]
  · rw [if_neg c]
    exact ⟨by omega, 2 * w, e⟩
def hn (a : Nat) : List Int → Nat
  | [] => a
  | b :: r => hn (2 * a + b.toNat) r
def hr (a : Nat) : List Int → Nat
  | [] => a
  | b :: r => hr (hst a b.toNat) r
theorem bit_le {b : Int} (h : b = 0 ∨ b = 1) : b.toNat ≤ 1 := by omega
theorem Bits.hd {b : Int} {r : List Int} (h : Bits (b :: r)) : b = 0 ∨ b = 1 := h b (List.Mem.head _)
theorem Bits.tl {b : Int} {r : List Int} (h : Bits (b :: r)) : Bits r := fun c hc => h c (List.Mem.tail _ hc)
theorem hr_is : ∀ (xs : List Int) (a r : Nat), Bits xs → IsR a r → IsR (hn a xs) (hr r xs)
  | [], a, r, _, h => h
  | b :: xs, a, r, hb, h => hr_is xs (2 * a + b.toNat) (hst r b.toNat) hb.tl (h.step (bit_le hb.hd))
theorem hn_app : ∀ (xs ys : List Int) (a : Nat), hn a (xs ++ ys) = hn (hn a xs) ys
  | [], _, _ => rfl
  | b :: xs, ys, a => hn_app xs ys _
theorem hn_lt : ∀ (xs : List Int) (a n : Nat), Bits xs → a < 2 ^ n → hn a xs < 2 ^ (n + xs.length)
  | [], a, n, _, h => h
  | b :: xs, a, n, hb, h => by
    have := hn_lt xs (2 * a + b.toNat) (n + 1) hb.tl (by have := bit_le hb.hd; rw [Nat.pow_succ]; omega)
    rw [show n + (b :: xs).length = n + 1 + xs.length by simp only [List.length_cons]; omega]
    exact this
def zs (n : Nat) : List Int := List.replicate n 0
theorem zs_bits (n : Nat) : Bits (zs n) := Bits.rep (.inl rfl) n
def bl (c n : Nat) : List Int := (List.range n).map fun k => ((c / 2 ^ (n - 1 - k) % 2 : Nat) : Int)
theorem bl_len (c n : Nat) : (bl c n).length = n := by simp [bl]
theorem bl_bits (c n : Nat) : Bits (bl c n) := fun b hb => by
  obtain ⟨k, _, rfl⟩ := List.mem_map.mp hb
  omega
theorem bl_succ (c n : Nat) : bl c (n + 1) = bl (c / 2) n ++ [((c % 2 : Nat) : Int)] := by
  unfold bl
  rw [List.range_succ, List.map_append]
  congr 1
  · refine List.map_congr_left fun k hk => ?_
    have := List.mem_range.mp hk
    rw [Nat.div_div_eq_div_mul, show n + 1 - 1 - k = (n - 1 - k) + 1 by omega, Nat.pow_succ, Nat.mul_comm]
  · simp
theorem nb_small {a t : Nat} (h : a < 2 ^ t) : Builtin.Int.intBits (a : Int) ≤ t := bits_le (by omega)
theorem nb_big {a t : Nat} (h : 2 ^ t ≤ a) : t < Builtin.Int.intBits (a : Int) := by
  have hp : 0 < 2 ^ t := Nat.two_pow_pos t
  unfold Builtin.Int.intBits
  split
  · rename_i h0
    simp at h0
    omega
  · rename_i h0
    have h1 : a ≠ 0 := by omega
    have h2 : ¬ a.log2 < t := fun q => by
      have := (Nat.log2_lt h1).mp q
      omega
    rw [Int.natAbs_natCast]
    omega
theorem nb_eq {a t : Nat} (h1 : 2 ^ t ≤ a) (h2 : a < 2 ^ (t + 1)) : Builtin.Int.intBits (a : Int) = t + 1 := by
  have := nb_small h2
  have := nb_big h1
  omega
end Bt

namespace Bt
open PySem L2
theorem bor1 {b : Nat} (a : Nat) (h : b ≤ 1) : Builtin.bitOr ((2 * a : Nat) : Int) (b : Int) = ((2 * a + b : Nat) : Int) := by
  rw [PyProof.Rows.bitOr_and, ba]
  have e : 2 * a &&& b = 0 := by
    rcases (show b = 0 ∨ b = 1 by omega) with rfl | rfl
    · exact Nat.and_zero _
    · rw [Nat.and_one_is_mod]; omega
  rw [e]
  omega
theorem number_loop : ∀ (xs : List Int) (a n : Nat), Bits xs → a < 2 ^ n → n + xs.length ≤ 1000000 → loopM (fun b s => m_number_of_L0 b s) xs (a : Int) = some ((hn a xs : Nat) : Int)
  | [], a, n, _, _, _ => rfl
  | b :: xs, a, n, hb, ha, hz => by
    simp only [List.length_cons] at hz
    have h1 := bit_le hb.hd
    have hf : m_number_of_L0 b a = some ((2 * a + b.toNat : Nat) : Int) := by
      unfold m_number_of_L0
      rw [shlG_ok (n := n) (by omega) (by decide) (by omega), bnd_some]
      have e : (a : Int) * 2 ^ (1 : Int).toNat = ((2 * a : Nat) : Int) := by
        rw [show (2 : Int) ^ (1 : Int).toNat = 2 from rfl]; omega
      have e2 : b = ((b.toNat : Nat) : Int) := by have := hb.hd; omega
      rw [e]
      conv => lhs; rw [e2]
      rw [bor1 a h1]
    rw [loopM_go hf]
    exact number_loop xs (2 * a + b.toNat) (n + 1) hb.tl (by rw [Nat.pow_succ]; omega) (by omega)
theorem number_ok (xs : List Int) (hb : Bits xs) (hz : xs.length ≤ 900000) : m_number_of xs = some ((hn 0 xs : Nat) : Int) := by
  unfold m_number_of
  rw [show (0 : Int) = ((0 : Nat) : Int) from rfl, number_loop xs 0 0 hb (by decide) (by omega), bnd_some]
end Bt

namespace Bt
open PySem L2
theorem bits_of_ok {c n : Nat} (h : c < 2 ^ n) (hn : n ≤ 100000) : m_bits_of c n = some (.ok (bl c n)) := by
  unfold m_bits_of
  have := nb_small h
  rw [decide_eq_false (show ¬ (c : Int) < 0 by omega), decide_eq_false (show ¬ (n : Int) < (Builtin.Int.intBits (c : Int) : Int) by omega), Bool.or_false, ifB_f, rng1_ok (by omega) (by omega), bnd_some]
  have e : compM (m_bits_of_C0 c n) (rangeI 0 n) [] = some ([] ++ (rangeI 0 n).map fun k => ((c / 2 ^ (n - 1 - k.toNat) % 2 : Nat) : Int)) := by
    refine compM_ok _ _ (fun k hk => ?_) (by rw [rangeI_length]; simp; omega)
    have := mem_rangeI hk
    unfold m_bits_of_C0
    have e : (n : Int) - 1 - k = ((n - 1 - k.toNat : Nat) : Int) := by omega
    rw [e, shrN, bnd_some, ba1]
  rw [e, bnd_some]
  congr 2
  unfold bl rangeI
  rw [List.nil_append, List.map_map, show ((n : Int) - 0).toNat = n by omega]
  refine List.map_congr_left fun k _ => ?_
  simp only [Function.comp]
  rw [show ((0 : Int) + (k : Int)).toNat = k by omega]
end Bt

set_option maxRecDepth 100000
namespace Bt
open PySem L2
theorem hn_bl_bits : ∀ (xs : List Int), Bits xs → bl (hn 0 xs) xs.length = xs := by
  intro xs hb
  have key : ∀ (r : List Int) (xs : List Int), xs.reverse = r → Bits xs → bl (hn 0 xs) xs.length = xs := by
    intro r
    induction r with
    | nil =>
      intro xs e _
      have : xs = [] := by simpa using e
      subst this
      rfl
    | cons x r ih =>
      intro xs e hb
      have e2 : xs = r.reverse ++ [x] := by
        have := congrArg List.reverse e
        simpa using this
      subst e2
      have h1 := ih r.reverse (by simp) (fun b hb' => hb b (by simp at hb' ⊢; exact .inl hb'))
      have hx : x = 0 ∨ x = 1 := hb x (by simp)
      rw [hn_app, List.length_append, List.length_singleton, bl_succ]
      show bl ((2 * hn 0 r.reverse + x.toNat) / 2) _ ++ [(((2 * hn 0 r.reverse + x.toNat) % 2 : Nat) : Int)] = _
      rw [show (2 * hn 0 r.reverse + x.toNat) / 2 = hn 0 r.reverse by omega, h1]
      congr 2
      omega
  exact key _ xs rfl hb
end Bt

namespace Bt
open PySem L2
theorem clm_pow (a : Nat) : ∀ t : Nat, clm a (2 ^ t) = a * 2 ^ t
  | 0 => by rw [Nat.pow_zero, clm_or, Nat.mul_one]
  | t + 1 => by rw [Nat.pow_succ, Nat.mul_comm (2 ^ t) 2, clm_tr, clm_pow a t]; ac_rfl
theorem div_loop {key s : Nat} (h1 : 2 ^ s ≤ key) (h2 : key < 2 ^ (s + 1)) (hs : s ≤ 10000) : ∀ (N n w fuel : Nat), n < 2 ^ N → N < fuel → N ≤ 1000000 →
    ∃ n' w' : Nat, whileM (fun s' => m_divided_W0c (key : Int) ((s + 1 : Nat) : Int) s'.1 s'.2) (fun s' => m_divided_W0 (key : Int) ((s + 1 : Nat) : Int) s'.1 s'.2) fuel ((n : Int), (w : Int)) = some ((n' : Int), (w' : Int)) ∧ n' < 2 ^ s ∧ n' ^^^ clm key w' = n ^^^ clm key w
  | _, _, _, 0, _, h, _ => absurd h (Nat.not_lt_zero _)
  | N, n, w, fuel + 1, hn, hf, hN => by
    by_cases c : n < 2 ^ s
    · have := nb_small c
      rw [whileM_stop (by show m_divided_W0c _ _ (n : Int) (w : Int) = some false; unfold m_divided_W0c; rw [decide_eq_false (by omega)])]
      exact ⟨n, w, rfl, c, rfl⟩
    · cases N with
      | zero =>
        have := Nat.two_pow_pos s
        simp at hn
        omega
      | succ N =>
        by_cases d : n < 2 ^ N
        · exact div_loop h1 h2 hs N n w (fuel + 1) d (by omega) (by omega)
        · have hsN : s ≤ N := by
            by_cases q : s ≤ N
            · exact q
            · have : 2 ^ (N + 1) ≤ 2 ^ s := Nat.pow_le_pow_right (by decide) (by omega)
              omega
          have hb := nb_eq (Nat.le_of_not_lt d) hn
          have hw : m_divided_W0 (key : Int) ((s + 1 : Nat) : Int) (n : Int) (w : Int) = some (((n ^^^ key * 2 ^ (N - s) : Nat) : Int), ((w ^^^ 2 ^ (N - s) : Nat) : Int)) := by
            unfold m_divided_W0
            have e : ((Builtin.Int.intBits (n : Int) : Int) - ((s + 1 : Nat) : Int)) = ((N - s : Nat) : Int) := by omega
            rw [ltv_eq, e, show (1 : Int) = ((1 : Nat) : Int) from rfl, shlN (n := 1) (N - s) (by decide) (by omega), bnd_some, ltv_eq, shlN (n := s + 1) (N - s) h2 (by omega), bnd_some, bx, bx, Nat.one_mul]
          rw [whileM_go (s' := (((n ^^^ key * 2 ^ (N - s) : Nat) : Int), ((w ^^^ 2 ^ (N - s) : Nat) : Int))) (by show m_divided_W0c _ _ (n : Int) (w : Int) = some true; unfold m_divided_W0c; rw [decide_eq_true (by omega)]) hw]
          have e3 : 2 ^ s * 2 ^ (N - s) = 2 ^ N := by rw [← Nat.pow_add, show s + (N - s) = N by omega]
          have e4 : 2 ^ (s + 1) * 2 ^ (N - s) = 2 ^ (N + 1) := by rw [← Nat.pow_add, show s + 1 + (N - s) = N + 1 by omega]
          have hp : 0 < 2 ^ (N - s) := Nat.two_pow_pos _
          have k1 : 2 ^ N ≤ key * 2 ^ (N - s) := by rw [← e3]; exact Nat.mul_le_mul_right _ h1
          have k2 : key * 2 ^ (N - s) < 2 ^ (N + 1) := by rw [← e4]; exact Nat.mul_lt_mul_of_pos_right h2 hp
          have h5 := xor_cancel (Nat.le_of_not_lt d) hn k1 k2
          obtain ⟨n', w', e5, e6, e7⟩ := div_loop h1 h2 hs N (n ^^^ key * 2 ^ (N - s)) (w ^^^ 2 ^ (N - s)) fuel h5 (by omega) (by omega)
          refine ⟨n', w', e5, e6, ?_⟩
          rw [e7, clm_xr, clm_pow, Nat.xor_comm (clm key w), Nat.xor_assoc, ← Nat.xor_assoc (key * 2 ^ (N - s)), Nat.xor_self, Nat.zero_xor]
termination_by N n w fuel => (fuel, N)
theorem divided_ok {key s n N : Nat} (h1 : 2 ^ s ≤ key) (h2 : key < 2 ^ (s + 1)) (hs : s ≤ 10000) (hn : n < 2 ^ N) (hN : N < 90000) :
    ∃ w r : Nat, m_divided n key = some (.ok ((w : Int), (r : Int))) ∧ r < 2 ^ s ∧ n = clm key w ^^^ r := by
  obtain ⟨r, w, e1, e2, e3⟩ := div_loop h1 h2 hs N n 0 FUEL hn (by unfold FUEL; omega) (by omega)
  have hp := Nat.two_pow_pos s
  refine ⟨w, r, ?_, e2, ?_⟩
  · unfold m_divided
    rw [decide_eq_false (by omega), ifB_f, ltv_eq, nb_eq h1 h2, show (0 : Int) = ((0 : Nat) : Int) from rfl, e1, bnd_some]
  · rw [clm_zero, Nat.xor_zero] at e3
    rw [← e3, Nat.xor_comm]
end Bt

namespace Bt
open PySem L2
theorem rest_of_ok (xs : List Int) (hb : Bits xs) (hz : xs.length ≤ 80000) : m_rest_of xs = some ((hr 0 xs : Nat) : Int) := by
  have hl := hn_lt xs 0 0 hb (by decide)
  rw [Nat.zero_add] at hl
  obtain ⟨w, r, e1, e2, e3⟩ := divided_ok (key := 64647) (s := 15) (n := hn 0 xs) (N := xs.length) (by decide) (by decide) (by decide) hl (by omega)
  have hi := hr_is xs 0 0 hb (IsR.small (by decide))
  have e4 : r = hr 0 xs := IsR.uniq (n := hn 0 xs) ⟨e2, w, e3⟩ hi
  unfold m_rest_of
  rw [number_ok xs hb (by omega), bnd_some, show (64647 : Int) = ((64647 : Nat) : Int) from rfl, e1]
  show some (r : Int) = _
  rw [e4]
end Bt

namespace Bt
open PySem L2
def ck (xs : List Int) : Nat := hr 0 (xs ++ zs 15)
theorem ck_is (xs : List Int) (hb : Bits xs) : IsR (hn 0 (xs ++ zs 15)) (ck xs) := hr_is _ 0 0 (hb.app (zs_bits 15)) (IsR.small (by decide))
theorem ck_lt (xs : List Int) (hb : Bits xs) : ck xs < 32768 := (ck_is xs hb).1
theorem check_of_ok (xs : List Int) (hb : Bits xs) (hz : xs.length ≤ 70000) : m_check_of xs = some (bl (ck xs) 15) := by
  unfold m_check_of
  rw [repG_ok (by decide) (by decide) (by decide), bnd_some]
  have e : (List.replicate (15 : Int).toNat [(0 : Int)]).flatten = zs 15 := by decide
  rw [e, catG_ok (by simp [zs]; omega), bnd_some, rest_of_ok _ (hb.app (zs_bits 15)) (by simp [zs]; omega), bnd_some]
  show bndO (m_bits_of (ck xs : Int) ((15 : Nat) : Int)) _ = _
  rw [bits_of_ok (ck_lt xs hb) (by decide)]
  rfl
end Bt

set_option maxRecDepth 100000
namespace Bt
open PySem L2
def bs (D : List Nat) : List Int := (D.map fun d => bl d 8).flatten
theorem bs_bits (D : List Nat) : Bits (bs D) := fun b hb => by
  obtain ⟨l, hl, hb⟩ := List.mem_flatten.mp hb
  obtain ⟨d, _, rfl⟩ := List.mem_map.mp hl
  exact bl_bits _ _ b hb
theorem bs_len : ∀ D : List Nat, (bs D).length = 8 * D.length
  | [] => rfl
  | d :: r => by
    show (bl d 8 ++ bs r).length = _
    rw [List.length_append, bl_len, bs_len r, List.length_cons]
    omega
def hd (name : Nat) (D : List Nat) : List Int := [0] ++ bl name 8 ++ bl D.length 3 ++ bs D
theorem hd_bits (name : Nat) (D : List Nat) : Bits (hd name D) := (((Bits.one (.inl rfl)).app (bl_bits _ _)).app (bl_bits _ _)).app (bs_bits D)
theorem hd_len (name : Nat) (D : List Nat) : (hd name D).length = 12 + 8 * D.length := by
  unfold hd
  rw [List.length_append, List.length_append, List.length_append, bl_len, bl_len, bs_len]
  simp only [List.length_cons, List.length_nil]
def fb (name : Nat) (D : List Nat) : List Int := hd name D ++ bl (ck (hd name D)) 15
theorem fb_len (name : Nat) (D : List Nat) : (fb name D).length = 27 + 8 * D.length := by
  unfold fb
  rw [List.length_append, hd_len, bl_len]
  omega
theorem frame_step {b : Nat} (hb : b < 256) (bits : List Int) (hz : bits.length ≤ 10000) : m_frame_bits_L0 b bits = some (.nx (bits ++ bl b 8)) := by
  unfold m_frame_bits_L0
  rw [decide_eq_false (show ¬ (b : Int) < 0 by omega), decide_eq_false (show ¬ (255 : Int) < (b : Int) by omega), Bool.or_false, ifB_f]
  have e := bits_of_ok (n := 8) hb (by decide)
  rw [show (8 : Int) = ((8 : Nat) : Int) from rfl, e]
  show bnd (catG bits (bl b 8)) _ = _
  rw [catG_ok (by rw [bl_len]; omega), bnd_some]
theorem frame_loop : ∀ (D : List Nat) (bits : List Int), (∀ d ∈ D, d < 256) → bits.length + 8 * D.length ≤ 10000 → loopF (fun b s => m_frame_bits_L0 b s) (ci D) bits = some (.nx (bits ++ bs D))
  | [], bits, _, _ => by rw [show bs [] = [] from rfl, List.append_nil]; rfl
  | d :: r, bits, h, hz => by
    simp only [List.length_cons] at hz
    show loopF _ ((d : Int) :: ci r) _ = _
    rw [loopF_go (frame_step (h d (List.Mem.head _)) bits (by omega)), frame_loop r (bits ++ bl d 8) (fun z hz => h z (List.Mem.tail _ hz)) (by rw [List.length_append, bl_len]; omega), List.append_assoc]
    rfl
theorem frame_start {name n : Nat} (hn : name < 256) (hl : n < 8) {β : Type} (f : List Int → Option (Rs β)) :
    (bndR (m_bits_of (name : Int) (8 : Int)) fun a => bnd (catG [(0 : Int)] a) fun b => bndR (m_bits_of (n : Int) (3 : Int)) fun c => bnd (catG b c) f) = f ([0] ++ bl name 8 ++ bl n 3) := by
  have e1 := bits_of_ok (n := 8) hn (by decide)
  have e2 := bits_of_ok (n := 3) (c := n) (by omega) (by decide)
  rw [show (8 : Int) = ((8 : Nat) : Int) from rfl, e1, show (3 : Int) = ((3 : Nat) : Int) from rfl, e2, bndR_ok, catG_ok (by rw [bl_len]; decide), bnd_some, bndR_ok, catG_ok (by rw [List.length_append, bl_len, bl_len]; decide), bnd_some]
theorem frame_ok (name : Nat) (D : List Nat) (hn : name < 256) (hD : ∀ d ∈ D, d < 256) (hl : D.length ≤ 7) : m_frame_bits name (ci D) = some (.ok (fb name D)) := by
  unfold m_frame_bits m_is_name
  rw [bnd_some, decide_eq_true (show (0 : Int) ≤ (name : Int) by omega), decide_eq_true (show (name : Int) ≤ 255 by omega), ci_len, decide_eq_false (show ¬ (7 : Int) < (D.length : Int) by omega)]
  show (bndR _ _) = _
  rw [frame_start hn (by omega), frame_loop D _ hD (by simp [bl_len]; omega), fin_nx]
  show bnd (m_check_of (hd name D)) _ = _
  have hz := hd_len name D
  rw [check_of_ok _ (hd_bits name D) (by omega), bnd_some, catG_ok (by unfold hd at hz; rw [bl_len]; omega), bnd_some]
  rfl
theorem no_name {x : Int} (h : x < 0 ∨ 255 < x) (xs : List Int) : m_frame_bits x xs = some (.er .NoFrame) := by
  unfold m_frame_bits m_is_name
  have e : (decide ((0 : Int) ≤ x) && decide (x ≤ (255 : Int))) = false := by
    rw [Bool.and_eq_false_iff, decide_eq_false_iff_not, decide_eq_false_iff_not]
    omega
  rw [bnd_some, e]
  rfl
theorem too_many (x : Int) {xs : List Int} (h : 7 < xs.length) : m_frame_bits x xs = some (.er .NoFrame) := by
  unfold m_frame_bits m_is_name
  rw [bnd_some, decide_eq_true (show (7 : Int) < (xs.length : Int) by omega), Bool.or_true, ifB_t]
theorem bad_loop {x : Int} (h : x < 0 ∨ 255 < x) (post : List Int) : ∀ (D : List Nat) (bits : List Int), (∀ d ∈ D, d < 256) → bits.length + 8 * D.length ≤ 10000 → loopF (fun b s => m_frame_bits_L0 b s) (ci D ++ (x :: post)) bits = some (.rt (.er .NoFrame))
  | [], bits, _, _ => by
    show bnd (m_frame_bits_L0 x bits) (contF _) = _
    have e : m_frame_bits_L0 x bits = some (.rt (.er .NoFrame)) := by
      unfold m_frame_bits_L0
      have e : (decide (x < (0 : Int)) || decide ((255 : Int) < x)) = true := by
        rw [Bool.or_eq_true, decide_eq_true_eq, decide_eq_true_eq]
        exact h
      rw [e, ifB_t]
    rw [e]
    rfl
  | d :: r, bits, hd, hz => by
    simp only [List.length_cons] at hz
    show loopF _ ((d : Int) :: (ci r ++ (x :: post))) _ = _
    rw [loopF_go (frame_step (hd d (List.Mem.head _)) bits (by omega))]
    exact bad_loop h post r (bits ++ bl d 8) (fun z hz => hd z (List.Mem.tail _ hz)) (by rw [List.length_append, bl_len]; omega)
theorem bad_byte (name : Nat) (hn : name < 256) {x : Int} (h : x < 0 ∨ 255 < x) (D : List Nat) (post : List Int) (hD : ∀ d ∈ D, d < 256) (hl : D.length + post.length ≤ 6) : m_frame_bits name (ci D ++ (x :: post)) = some (.er .NoFrame) := by
  have hz : (ci D ++ (x :: post)).length = D.length + post.length + 1 := by rw [List.length_append, ci_len, List.length_cons]; omega
  unfold m_frame_bits m_is_name
  rw [bnd_some, decide_eq_true (show (0 : Int) ≤ (name : Int) by omega), decide_eq_true (show (name : Int) ≤ 255 by omega), hz, decide_eq_false (show ¬ (7 : Int) < ((D.length + post.length + 1 : Nat) : Int) by omega)]
  show (bndR _ _) = _
  rw [frame_start hn (by omega), bad_loop h post D _ hD (by simp [bl_len]; omega)]
  rfl
end Bt

namespace Bt
open PySem L2
def nb (k n : Nat) : Nat := n / 2 ^ (7 - k) % 2
def sk (D : List Nat) (M k : Nat) : List Nat := D.filter fun n => decide (n / 2 ^ (8 - k) = M / 2 ^ (8 - k))
def dT (D : List Nat) (M : Nat) (k : Nat) : List (Int × List Int) := (List.range k).map fun k => (((nb k M : Nat) : Int), ci (sk D M (k + 1)))
structure Du (D : List Nat) (M : Nat) : Prop where
  mem : M ∈ D
  le : ∀ n ∈ D, M ≤ n
  nd : D.Nodup
  lt : ∀ n ∈ D, n < 256
  len : D.length ≤ 1000
theorem pw_half {k : Nat} (h : k < 8) : 2 ^ (8 - k) = 2 ^ (7 - k) * 2 := by rw [← Nat.pow_succ, show (7 - k).succ = 8 - k by omega]
theorem sk0 {D : List Nat} {M : Nat} (h : Du D M) : sk D M 0 = D := by
  refine List.filter_eq_self.mpr fun n hn => decide_eq_true ?_
  have h1 := h.lt n hn
  have h2 := h.lt M h.mem
  show n / 256 = M / 256
  omega
theorem sk_mem {D : List Nat} {M k : Nat} (h : Du D M) : M ∈ sk D M k := List.mem_filter.mpr ⟨h.mem, decide_eq_true rfl⟩
theorem sk_le {D : List Nat} {M k : Nat} (h : Du D M) (hk : k < 8) : ∀ n ∈ sk D M k, nb k M ≤ nb k n := fun n hn => by
  obtain ⟨h1, h2⟩ := List.mem_filter.mp hn
  have h2 := of_decide_eq_true h2
  have h3 : M / 2 ^ (7 - k) ≤ n / 2 ^ (7 - k) := Nat.div_le_div_right (h.le n h1)
  rw [pw_half hk, ← Nat.div_div_eq_div_mul, ← Nat.div_div_eq_div_mul] at h2
  unfold nb
  omega
theorem sk_step {D : List Nat} {M k : Nat} (hk : k < 8) : (sk D M k).filter (fun n => decide (nb k n = nb k M)) = sk D M (k + 1) := by
  unfold sk
  rw [List.filter_filter]
  refine List.filter_congr fun n _ => ?_
  rw [pw_half hk, ← Nat.div_div_eq_div_mul, ← Nat.div_div_eq_div_mul, show 8 - (k + 1) = 7 - k by omega, ← Bool.decide_and]
  unfold nb
  refine decide_eq_decide.mpr ?_
  constructor
  · rintro ⟨a, b⟩; omega
  · intro a; rw [a]; exact ⟨rfl, rfl⟩
theorem sk_len {D : List Nat} {M k : Nat} (h : Du D M) : (sk D M k).length ≤ 1000 := Nat.le_trans (List.length_filter_le ..) h.len
theorem bit_at_ok {n k : Nat} (h : k ≤ 7) : m_bit_at (n : Int) (k : Int) = some ((nb k n : Nat) : Int) := by
  unfold m_bit_at
  rw [show (7 : Int) - (k : Int) = ((7 - k : Nat) : Int) by omega, shrN, bnd_some, ba1]
  rfl
theorem min_is {xs : List Nat} {m : Nat} (h1 : m ∈ xs) (h2 : ∀ n ∈ xs, m ≤ n) : minG (ci xs) = some (m : Int) := by
  cases h : ci xs with
  | nil =>
    have : xs = [] := by simpa [ci] using h
    rw [this] at h1
    cases h1
  | cons a r =>
    have e : minG (a :: r) = some (r.foldl min a) := rfl
    obtain ⟨_, hin, hle⟩ := minG_spec e
    rw [e]
    rw [← h] at hin hle
    have a1 := hle (m : Int) (List.mem_map.mpr ⟨m, h1, rfl⟩)
    obtain ⟨n, hn, en⟩ := ci_mem hin
    have a2 := h2 n hn
    congr 1
    omega
theorem duel_step {D : List Nat} {M k : Nat} (h : Du D M) (hk : k < 8) : m_duel_L1 (k : Int) (dT D M k) (ci (sk D M k)) = some (dT D M (k + 1), ci (sk D M (k + 1))) := by
  have hl := sk_len (k := k) h
  unfold m_duel_L1
  have e1 : compM (m_duel_C2 (k : Int)) (ci (sk D M k)) [] = some (ci ((sk D M k).map (nb k))) := by
    have := compM_ok (f := m_duel_C2 (k : Int)) (g := fun x => ((nb k x.toNat : Nat) : Int)) (ci (sk D M k)) [] (fun x hx => by
      obtain ⟨n, _, rfl⟩ := ci_mem hx
      unfold m_duel_C2
      rw [bit_at_ok (by omega), bnd_some]
      rfl) (by rw [ci_len]; simp; omega)
    rw [this]
    unfold ci
    rw [List.nil_append, List.map_map, List.map_map]
    rfl
  have e2 : compT (m_duel_C3t (k : Int) ((nb k M : Nat) : Int)) m_duel_C3 (ci (sk D M k)) [] = some (ci (sk D M (k + 1))) := by
    have := compT_ok (c := m_duel_C3t (k : Int) ((nb k M : Nat) : Int)) (f := m_duel_C3) (p := fun x => decide (nb k x.toNat = nb k M)) (g := id) (ci (sk D M k)) [] (fun x hx => by
      obtain ⟨n, _, rfl⟩ := ci_mem hx
      unfold m_duel_C3t
      rw [bit_at_ok (by omega), bnd_some]
      congr 1
      rw [Int.toNat_natCast]
      exact decide_eq_decide.mpr (by omega)) (fun x _ => rfl) (by rw [ci_len]; simp; omega)
    rw [this, List.nil_append, List.map_id, ← sk_step hk]
    unfold ci
    rw [List.filter_map]
    rfl
  rw [e1, bnd_some, min_is (m := nb k M) (List.mem_map.mpr ⟨M, sk_mem h, rfl⟩) (fun n hn => by
    obtain ⟨x, hx, rfl⟩ := List.mem_map.mp hn
    exact sk_le h hk x hx), bnd_some, e2, bnd_some, appG_ok (by simp [dT]; omega), bnd_some]
  unfold dT
  rw [List.range_succ, List.map_append]
  rfl
theorem setL_is : ∀ (xs acc : List Int), acc.Nodup → (xs.foldl PyProof.Rows.step_dedup acc).length ≤ acc.length + xs.length ∧ ((xs.foldl PyProof.Rows.step_dedup acc).length = acc.length + xs.length ↔ (acc ++ xs).Nodup)
  | [], acc, h => by simp [h]
  | x :: r, acc, h => by
    rw [List.foldl_cons]
    by_cases hx : x ∈ acc
    · have e : PyProof.Rows.step_dedup acc x = acc := by
        unfold PyProof.Rows.step_dedup
        rw [List.any_eq_true.mpr ⟨x, hx, by simp⟩]
        rfl
      obtain ⟨i1, i2⟩ := setL_is r acc h
      rw [e]
      simp only [List.length_cons]
      refine ⟨by omega, fun z => by omega, fun z => ?_⟩
      exact absurd rfl ((List.nodup_append.mp z).2.2 x hx x (List.Mem.head _))
    · have e : PyProof.Rows.step_dedup acc x = acc ++ [x] := by
        unfold PyProof.Rows.step_dedup
        have : acc.any (· == x) = false := by
          rw [List.any_eq_false]
          intro y hy
          simp only [beq_iff_eq]
          intro z
          subst z
          exact hx hy
        rw [this]
        rfl
      have hn : (acc ++ [x]).Nodup := List.nodup_append.mpr ⟨h, List.nodup_cons.mpr ⟨List.not_mem_nil, List.Pairwise.nil⟩, fun a ha b hb z => by
        rw [List.mem_singleton.mp hb] at z
        subst z
        exact hx ha⟩
      obtain ⟨i1, i2⟩ := setL_is r (acc ++ [x]) hn
      rw [e]
      simp only [List.length_append, List.length_cons, List.length_nil, List.append_assoc, List.singleton_append] at i1 i2 ⊢
      refine ⟨by omega, ?_⟩
      rw [← i2]
      omega
theorem lenSet_is {xs : List Int} (h : xs.length ≤ 1000) : ∃ n : Nat, lenSet xs = some (n : Int) ∧ n ≤ xs.length ∧ (n = xs.length ↔ xs.Nodup) := by
  obtain ⟨i1, i2⟩ := setL_is xs [] List.Pairwise.nil
  refine ⟨(setL xs).length, grd_of (by omega), ?_, ?_⟩
  · unfold setL
    simpa using i1
  · unfold setL
    simpa using i2
theorem ci_nodup {D : List Nat} (h : D.Nodup) : (ci D).Nodup := by
  unfold ci
  exact List.pairwise_map.mpr (h.imp fun {a b} n e => n (Int.ofNat.inj e))
theorem duel_ok {D : List Nat} {M : Nat} (h : Du D M) : m_duel (ci D) = some (.ok (dT D M 8)) := by
  have hne : 0 < D.length := List.length_pos_of_mem h.mem
  have hl := h.len
  obtain ⟨n, e1, _, e2⟩ := lenSet_is (xs := ci D) (by rw [ci_len]; omega)
  have e3 := e2.mpr (ci_nodup h.nd)
  rw [ci_len] at e3
  unfold m_duel
  rw [ci_len, decide_eq_false (by omega), ifB_f, e1, bnd_some, decide_eq_false (by omega), bnd_some, ifB_f, loopF_unit (fun x hx => by
    obtain ⟨n, hn, rfl⟩ := ci_mem hx
    have := h.lt n hn
    unfold m_duel_L0 m_is_name
    rw [bnd_some, decide_eq_true (by omega), decide_eq_true (by omega)]
    rfl), fin_nx, rng1_ok (by decide) (by decide), bnd_some]
  obtain ⟨out, e4, k, hk, ho⟩ := loopM_rng (f := fun k (s : List (Int × List Int) × List Int) => m_duel_L1 k s.1 s.2) (hi := 8) (fun i s => ∃ k : Nat, i = k ∧ s = (dT D M k, ci (sk D M k))) (by
    rintro i s hi ⟨k, rfl, rfl⟩
    exact ⟨_, duel_step h (by omega), k + 1, by omega, rfl⟩) 8 0 (([] : List (Int × List Int)), ci D) (by decide) (by decide) ⟨0, rfl, by rw [sk0 h]; rfl⟩
  have : k = 8 := by omega
  subst this
  rw [e4, bnd_some, ho]
theorem duel_bad {xs : List Int} (hz : xs.length ≤ 1000) (h : xs = [] ∨ ¬ xs.Nodup ∨ ∃ x ∈ xs, x < 0 ∨ 255 < x) : m_duel xs = some (.er .NoName) := by
  obtain ⟨n, e1, e0, e2⟩ := lenSet_is hz
  unfold m_duel
  by_cases c0 : xs = []
  · subst c0
    rfl
  · have hp : 0 < xs.length := List.length_pos_iff.mpr c0
    rw [decide_eq_false (by omega), ifB_f, e1, bnd_some]
    by_cases c1 : xs.Nodup
    · rw [decide_eq_false (by have := e2.mpr c1; omega), bnd_some, ifB_f]
      have hx : ∃ x ∈ xs, x < 0 ∨ 255 < x := by
        rcases h with h | h | h
        · exact absurd h c0
        · exact absurd c1 h
        · exact h
      have key : ∀ xs : List Int, (∃ x ∈ xs, x < 0 ∨ 255 < x) → loopF (fun name_14 (_ : Unit) => m_duel_L0 name_14) xs () = some (.rt (.er .NoName)) := fun xs => by
        induction xs with
        | nil => rintro ⟨_, h, _⟩; cases h
        | cons y r ih =>
          rintro ⟨x, hx, hb⟩
          show bnd (m_duel_L0 y) (contF (loopF _ r)) = _
          unfold m_duel_L0 m_is_name
          by_cases c : 0 ≤ y ∧ y ≤ 255
          · rw [bnd_some, decide_eq_true c.1, decide_eq_true c.2]
            show loopF _ r () = _
            refine ih ?_
            rcases List.mem_cons.mp hx with rfl | hx
            · omega
            · exact ⟨x, hx, hb⟩
          · have e : (decide ((0 : Int) ≤ y) && decide (y ≤ (255 : Int))) = false := by
              rw [Bool.and_eq_false_iff, decide_eq_false_iff_not, decide_eq_false_iff_not]
              omega
            rw [bnd_some, e]
            rfl
      rw [key xs hx, fin_rt]
    · rw [decide_eq_true (by
        have : n ≠ xs.length := fun z => c1 (e2.mp z)
        omega), bnd_some, ifB_t]
end Bt

namespace Bt
open PySem L2
def Ends' (wire : List Int) (n : Nat) (b : Int) : Prop := ∃ t : List Int, wire = t ++ List.replicate n b ∧ ∀ u x, t = u ++ [x] → x ≠ b
theorem ends_more {wire : List Int} {n : Nat} {b : Int} (e : Ends' wire n b) : Ends' (wire ++ [b]) (n + 1) b := by
  obtain ⟨t, rfl, ht⟩ := e
  exact ⟨t, by rw [List.append_assoc, List.replicate_succ'], ht⟩
theorem ends_new {wire : List Int} {b : Int} (h : ∀ u x, wire = u ++ [x] → x ≠ b) : Ends' (wire ++ [b]) 1 b := ⟨wire, rfl, h⟩
theorem ends_last {wire : List Int} {n : Nat} {b : Int} (e : Ends' wire n b) (h1 : 1 ≤ n) : ∀ u x, wire = u ++ [x] → x = b := fun u x q => by
  obtain ⟨t, rfl, _⟩ := e
  obtain ⟨m, rfl⟩ : ∃ m, n = m + 1 := ⟨n - 1, by omega⟩
  rw [List.replicate_succ', ← List.append_assoc] at q
  exact (List.append_inj_right' q rfl |> List.singleton_inj.mp).symm
theorem Ends'.le {p : List Int} {n : Nat} {b : Int} (e : Ends' p n b) : n ≤ p.length := by
  obtain ⟨t, rfl, _⟩ := e
  simp
def PI (p : List Int) (n : Nat) (b : Int) : Prop := (p = [] ∧ n = 0 ∧ b = -1) ∨ (Ends' p n b ∧ 1 ≤ n ∧ n ≤ 5 ∧ (b = 0 ∨ b = 1))
def nr (n : Nat) (b x : Int) : Nat := if x = b then n + 1 else 1
theorem PI.go {p : List Int} {n : Nat} {b x : Int} (I : PI p n b) (hx : x = 0 ∨ x = 1) : Ends' (p ++ [x]) (nr n b x) x := by
  unfold nr
  rcases I with ⟨rfl, rfl, rfl⟩ | ⟨e, h1, h5, hb⟩
  · rw [if_neg (by omega)]
    exact ends_new (fun u x q => by simp at q)
  · by_cases q : x = b
    · subst q
      rw [if_pos rfl]
      exact ends_more e
    · rw [if_neg q]
      exact ends_new (fun u y z => by
        rw [ends_last e h1 u y z]
        exact fun z => q z.symm)
theorem PI.le {p : List Int} {n : Nat} {b : Int} (I : PI p n b) : n ≤ 5 := by
  rcases I with ⟨_, rfl, _⟩ | ⟨_, _, h, _⟩ <;> omega
theorem nr_pos {n : Nat} {b x : Int} : 1 ≤ nr n b x := by unfold nr; split <;> omega
theorem nr_5 {n : Nat} {b x : Int} (h : n ≤ 5) (q : ¬ (n = 5 ∧ x = b)) : nr n b x ≤ 5 := by
  unfold nr
  split
  · by_cases c : n = 5
    · exact absurd ⟨c, by assumption⟩ q
    · omega
  · omega
theorem PI.step {p : List Int} {n : Nat} {b x : Int} (I : PI p n b) (hx : x = 0 ∨ x = 1) (q : ¬ (n = 5 ∧ x = b)) : PI (p ++ [x]) (nr n b x) x :=
  .inr ⟨I.go hx, nr_pos, nr_5 I.le q, hx⟩
def scan : Nat → Int → Nat → List Int → List Int → Nat ⊕ (Nat × List Int)
  | n, _, _, acc, [] => .inr (n, acc)
  | n, b, at_, acc, x :: r => if n = 5 ∧ x = b then .inl at_ else scan (nr n b x) x (at_ + 1) (if n = 5 then acc else acc ++ [x]) r
theorem scan_in {n : Nat} {b x : Int} {at_ : Nat} {acc r : List Int} (h : n = 5 ∧ x = b) : scan n b at_ acc (x :: r) = .inl at_ := by
  rw [scan, if_pos h]
theorem scan_go {n : Nat} {b x : Int} {at_ : Nat} {acc r : List Int} (h : ¬ (n = 5 ∧ x = b)) : scan n b at_ acc (x :: r) = scan (nr n b x) x (at_ + 1) (if n = 5 then acc else acc ++ [x]) r := by
  rw [scan, if_neg h]
def UT (w : List Int) : Nat ⊕ List Int := match scan 0 (-1) 0 [] w with
  | .inl a => .inl a
  | .inr x => if x.1 = 5 then .inl w.length else .inr x.2
end Bt

namespace Bt
open PySem L2
def rsW (x : Nat ⊕ List Int) : Rs (List Int) := match x with
  | .inl a => .er (.NoWire (a : Int))
  | .inr ys => .ok ys
theorem tk_loop : ∀ (r : List Int) (n : Nat) (b : Int) (at_ : Nat) (acc : List Int), acc.length + r.length ≤ 100000 →
    (∀ a, scan n b at_ acc r = .inl a → loopF (fun q_ s => m_taken_out_L0 q_.1 q_.2 s.1 s.2.1 s.2.2) (enumI at_ r) (acc, (n : Int), b) = some (.rt (.er (.NoWire (a : Int))))) ∧
    (∀ m out, scan n b at_ acc r = .inr (m, out) → ∃ l, loopF (fun q_ s => m_taken_out_L0 q_.1 q_.2 s.1 s.2.1 s.2.2) (enumI at_ r) (acc, (n : Int), b) = some (.nx (out, (m : Int), l)))
  | [], n, b, at_, acc, _ => ⟨fun a h => (by cases h), fun m out h => (by cases h; exact ⟨b, rfl⟩)⟩
  | x :: r, n, b, at_, acc, hz => by
    simp only [List.length_cons] at hz
    by_cases q : n = 5 ∧ x = b
    · rw [scan_in q]
      have hs : m_taken_out_L0 (at_ : Int) x acc (n : Int) b = some (.rt (.er (.NoWire (at_ : Int)))) := by
        unfold m_taken_out_L0
        rw [decide_eq_true (show (n : Int) = 5 by omega), decide_eq_true q.2, Bool.and_self, ifB_t]
      refine ⟨fun a h => ?_, fun m out h => by cases h⟩
      cases h
      show bnd (m_taken_out_L0 (at_ : Int) x acc (n : Int) b) _ = _
      rw [hs, bnd_some]
      rfl
    · have hs : m_taken_out_L0 (at_ : Int) x acc (n : Int) b = some (.nx (if n = 5 then acc else acc ++ [x], ((nr n b x : Nat) : Int), x)) := by
        unfold m_taken_out_L0
        have e0 : ((decide ((n : Int) = 5)) && (decide (x = b))) = false := by
          by_cases c : n = 5
          · rw [decide_eq_false (fun h => q ⟨c, h⟩), Bool.and_false]
          · rw [decide_eq_false (by omega), Bool.false_and]
        have e1 : (ifB (decide (x = b)) ((n : Int) + 1) 1) = ((nr n b x : Nat) : Int) := by
          unfold nr
          by_cases c : x = b
          · rw [decide_eq_true c, if_pos c]; rfl
          · rw [decide_eq_false c, if_neg c]; rfl
        simp only [e0, ifB_f, ltv_eq, e1]
        by_cases c : n = 5
        · rw [decide_eq_true (show (n : Int) = 5 by omega), Bool.not_true, ifB_f, bnd_some, if_pos c]
        · rw [decide_eq_false (show ¬ (n : Int) = 5 by omega), Bool.not_false, ifB_t, appG_ok (by omega), bnd_some, bnd_some, if_neg c]
      rw [scan_go q]
      have hgo : loopF (fun (q_ : Int × Int) (s : List Int × Int × Int) => m_taken_out_L0 q_.1 q_.2 s.1 s.2.1 s.2.2) (enumI at_ (x :: r)) (acc, (n : Int), b) = loopF (fun q_ s => m_taken_out_L0 q_.1 q_.2 s.1 s.2.1 s.2.2) (enumI (at_ + 1) r) (if n = 5 then acc else acc ++ [x], ((nr n b x : Nat) : Int), x) :=
        loopF_go (f := fun (q_ : Int × Int) (s : List Int × Int × Int) => m_taken_out_L0 q_.1 q_.2 s.1 s.2.1 s.2.2) (x := ((at_ : Int), x)) hs
      rw [hgo]
      exact tk_loop r _ _ _ _ (by split <;> (try simp) <;> omega)
theorem taken_ok (w : List Int) (hz : w.length ≤ 50000) : m_taken_out w = some (rsW (UT w)) := by
  unfold m_taken_out UT
  rw [ltv_eq]
  have h := tk_loop w 0 (-1) 0 [] (by simp; omega)
  cases hs : scan 0 (-1) 0 [] w with
  | inl a =>
    have := h.1 a hs
    rw [show (((0 : Nat)) : Int) = 0 from rfl] at this
    rw [this, fin_rt]
    rfl
  | inr x =>
    obtain ⟨l, e⟩ := h.2 x.1 x.2 hs
    rw [show (((0 : Nat)) : Int) = 0 from rfl] at e
    rw [e, fin_nx]
    dsimp only
    by_cases c : x.1 = 5
    · rw [decide_eq_true (show (x.1 : Int) = 5 by omega), ifB_t, if_pos c]
      rfl
    · rw [decide_eq_false (show ¬ (x.1 : Int) = 5 by omega), ifB_f, if_neg c]
      rfl
end Bt

set_option maxRecDepth 100000
namespace Bt
open PySem L2
theorem worth_loop : ∀ (xs : List Int) (a : Nat), Bits xs → loopM (fun b s => m__law_worth_L0 b s) xs (a : Int) = some ((hn a xs : Nat) : Int)
  | [], _, _ => rfl
  | b :: r, a, hb => by
    have h := hb.hd
    have e : m__law_worth_L0 b (a : Int) = some ((2 * a + b.toNat : Nat) : Int) := by
      unfold m__law_worth_L0
      congr 1
      omega
    rw [loopM_go (f := fun b s => m__law_worth_L0 b s) e]
    exact worth_loop r _ hb.tl
theorem worth_ok (xs : List Int) (hb : Bits xs) : m__law_worth xs = some ((hn 0 xs : Nat) : Int) := by
  unfold m__law_worth
  have := worth_loop xs 0 hb
  rw [show (((0 : Nat)) : Int) = 0 from rfl] at this
  rw [this, bnd_some]
theorem written_ok {c n : Nat} (hn : n ≤ 100000) : m__law_written c n = some (bl c n) := by
  unfold m__law_written
  have e : compM (m__law_written_C0 c n) (rangeI 0 n) [] = some ([] ++ (rangeI 0 n).map fun k => ((c / 2 ^ (n - 1 - k.toNat) % 2 : Nat) : Int)) := by
    refine compM_ok _ _ (fun k hk => ?_) (by rw [rangeI_length]; simp; omega)
    have := mem_rangeI hk
    unfold m__law_written_C0
    have e : (n : Int) - 1 - k = ((n - 1 - k.toNat : Nat) : Int) := by omega
    rw [e, shrN, bnd_some, ba1]
  rw [rng1_ok (by omega) (by omega), bnd_some, e, bnd_some]
  congr 1
  unfold bl rangeI
  rw [List.nil_append, List.map_map, show ((n : Int) - 0).toNat = n by omega]
  refine List.map_congr_left fun k _ => ?_
  simp only [Function.comp]
  rw [show ((0 : Int) + (k : Int)).toNat = k by omega]
theorem row_ok19 (ns : List Int) (base : Int) (n : Nat) (h0 : 0 ≤ base) (h1 : base ≤ 100000) (hn : n ≤ 1000) : ∃ xs, m__law_row ns base (n : Int) = some xs ∧ Bits xs ∧ xs.length = n := by
  unfold m__law_row
  obtain ⟨ys, e, hl, hp⟩ := compM_all (f := m__law_row_C0 ns base) (P := fun y => y = 0 ∨ y = 1) (rangeI 0 (n : Int)) [] (fun k hk => by
    have := mem_rangeI hk
    obtain ⟨v, ev, hv⟩ := draw2 ns (base + k) (by omega) (by omega)
    unfold m__law_row_C0
    rw [ev, bnd_some]
    exact ⟨v, rfl, hv⟩) (by rw [rangeI_length]; simp; omega) (fun _ h => nomatch h)
  rw [rng1_ok (by omega) (by omega), bnd_some, e, bnd_some]
  exact ⟨ys, rfl, hp, by rw [hl, rangeI_length]; simp⟩
theorem plain_ok (xs : List Int) (hz : xs.length ≤ 100000) : m__law_plain xs xs = some true := by
  unfold m__law_plain
  rw [decide_eq_true (show (xs.length : Int) = (xs.length : Int) from rfl), show ((!true) || (!true)) = false from rfl, ifB_f, rng1_ok (by omega) (by omega), bnd_some]
  rw [loopF_unit (f := fun k_13 (_ : Unit) => m__law_plain_L0 xs xs k_13) fun k hk => ?_]
  · rfl
  · have := mem_rangeI hk
    unfold m__law_plain_L0
    obtain ⟨x, hx⟩ : ∃ x, atI xs k = some x := ⟨_, (atI_ok (by omega) (by omega)).trans (List.getElem?_eq_getElem (show k.toNat < xs.length by omega))⟩
    rw [hx, bnd_some, show (!true) = false from rfl, ifB_f, bnd_some, ifB_f, bnd_some, bnd_some, decide_eq_true (show x = x from rfl)]
    rfl
theorem known_bits : m__law_known .NoBits 0 (-1) = some true := by decide +kernel
theorem known_name : m__law_known .NoName 1 (-1) = some true := by decide +kernel
theorem known_key : m__law_known .NoKey 2 (-1) = some true := by decide +kernel
theorem known_frame : m__law_known .NoFrame 3 (-1) = some true := by decide +kernel
theorem rng10 : rng1 10 = some (rangeI 0 10) := rng1_ok (by decide) (by decide)
theorem known_wire (n : Int) : m__law_known (.NoWire n) 8 n = some true := by
  unfold m__law_known
  rw [show m__law_field (.NoWire n) = some n from rfl, bnd_some, rng10, bnd_some, show compM (m__law_known_C0 8) (rangeI 0 10) [] = some [false, false, false, false, false, false, false, false, true, false] by decide +kernel, bnd_some, show m__law_kinds (.NoWire n) = some [false, false, false, false, false, false, false, false, true, false] from rfl, bnd_some, decide_eq_true (show n = n from rfl)]
  rfl
theorem no_bits_ok {x n : Int} (h : m_bits_of x n = some (.er .NoBits)) : m__law_no_bits x n = some true := by
  unfold m__law_no_bits
  rw [h, bnd_some]
  show ifB (okE ks .NoBits) (bnd (m__law_known .NoBits 0 (-1)) fun x => some x) none = _
  rw [show okE ks .NoBits = true by decide, ifB_t, known_bits, bnd_some]
theorem no_name_ok {xs : List Int} (h : m_duel xs = some (.er .NoName)) : m__law_no_name xs = some true := by
  unfold m__law_no_name
  rw [h, bnd_some]
  show ifB (okE ks .NoName) (bnd (m__law_known .NoName 1 (-1)) fun x => some x) none = _
  rw [show okE ks .NoName = true by decide, ifB_t, known_name, bnd_some]
theorem no_key_ok {x : Int} : m__law_no_key x = some true := by
  unfold m__law_no_key
  rw [show m_divided x 0 = some (.er .NoKey) from rfl, bnd_some]
  show ifB (okE ks .NoKey) (bnd (m__law_known .NoKey 2 (-1)) fun x => some x) none = _
  rw [show okE ks .NoKey = true by decide, ifB_t, known_key, bnd_some]
theorem no_frame_ok {x : Int} {xs : List Int} (h : m_frame_bits x xs = some (.er .NoFrame)) : m__law_no_frame x xs = some true := by
  unfold m__law_no_frame
  rw [h, bnd_some]
  show ifB (okE ks .NoFrame) (bnd (m__law_known .NoFrame 3 (-1)) fun x => some x) none = _
  rw [show okE ks .NoFrame = true by decide, ifB_t, known_frame, bnd_some]
theorem no_wire_ok {xs : List Int} {n : Int} (h : m_taken_out xs = some (.er (.NoWire n))) : m__law_no_wire xs n = some true := by
  unfold m__law_no_wire
  rw [h, bnd_some]
  show ifB (decide ((Er.NoWire n).k ∈ ks)) (bnd (m__law_known (.NoWire n) 8 n) fun x => some x) none = _
  rw [show decide ((Er.NoWire n).k ∈ ks) = true by show decide (Ek.NoWire ∈ ks) = true; decide, ifB_t, known_wire, bnd_some]
theorem good_ok (k : Int) (w : Str) (n : Int) (h0 : 0 ≤ k) (h1 : k < 10) : m__law_good k w n = some true := by
  have hc : ∀ (k : Int) (l : List Bool), compM (m__law_good_C0 k) (rangeI 0 10) [] = some l → ∀ (e : Er) (f : Int), m__law_raised k w n = some (.er e) → e.k ∈ ks → m__law_kinds e = some l → m__law_field e = some f → f = (if 7 < k then n else -1) → m__law_good k w n = some true := by
    intro k l hl e f he hk hki hf hff
    unfold m__law_good
    rw [he, bnd_some]
    show ifB (decide (e.k ∈ ks)) (bnd (m__law_kinds e) fun law_ki_10 => bnd (m__law_field e) fun law_fi_13 => bnd (rng1 (10 : Int)) fun rg_16 => bnd (compM (m__law_good_C0 k) rg_16 []) fun l_20 => ltv ((-(1 : Int))) fun field_23 =>
      bnd (ifB (decide ((7 : Int) < k)) (some n) (some field_23)) fun field_31 => some ((decide ((law_ki_10 : List Bool) = l_20)) && (true && (true && (decide (law_fi_13 = field_31)))))) none = _
    rw [decide_eq_true hk, ifB_t, hki, bnd_some, hf, bnd_some, rng10, bnd_some, hl, bnd_some, ltv_eq, ifB_dec]
    have e2 : (if 7 < k then some n else some (-1)) = some f := by rw [hff]; split <;> rfl
    rw [e2, bnd_some, decide_eq_true (show f = f from rfl), decide_eq_true (show l = l from rfl)]
    rfl
  rcases (show k = 0 ∨ k = 1 ∨ k = 2 ∨ k = 3 ∨ k = 4 ∨ k = 5 ∨ k = 6 ∨ k = 7 ∨ k = 8 ∨ k = 9 by omega) with rfl | rfl | rfl | rfl | rfl | rfl | rfl | rfl | rfl | rfl
  · exact hc 0 _ (by decide +kernel : _ = some [true, false, false, false, false, false, false, false, false, false]) .NoBits (-1) rfl (by decide) rfl rfl rfl
  · exact hc 1 _ (by decide +kernel : _ = some [false, true, false, false, false, false, false, false, false, false]) .NoName (-1) rfl (by decide) rfl rfl rfl
  · exact hc 2 _ (by decide +kernel : _ = some [false, false, true, false, false, false, false, false, false, false]) .NoKey (-1) rfl (by decide) rfl rfl rfl
  · exact hc 3 _ (by decide +kernel : _ = some [false, false, false, true, false, false, false, false, false, false]) .NoFrame (-1) rfl (by decide) rfl rfl rfl
  · exact hc 4 _ (by decide +kernel : _ = some [false, false, false, false, true, false, false, false, false, false]) .NoPost (-1) rfl (by decide) rfl rfl rfl
  · exact hc 5 _ (by decide +kernel : _ = some [false, false, false, false, false, true, false, false, false, false]) .NoThing (-1) rfl (by decide) rfl rfl rfl
  · exact hc 6 _ (by decide +kernel : _ = some [false, false, false, false, false, false, true, false, false, false]) .NoStrip (-1) rfl (by decide) rfl rfl rfl
  · exact hc 7 _ (by decide +kernel : _ = some [false, false, false, false, false, false, false, true, false, false]) .NoRail (-1) rfl (by decide) rfl rfl rfl
  · exact hc 8 _ (by decide +kernel : _ = some [false, false, false, false, false, false, false, false, true, false]) (.NoWire n) n rfl (by show Ek.NoWire ∈ ks; decide) rfl rfl rfl
  · exact hc 9 _ (by decide +kernel : _ = some [false, false, false, false, false, false, false, false, false, true]) (.NoRow n) n rfl (by show Ek.NoRow ∈ ks; decide) rfl rfl rfl
theorem numbers_ok (ns : List Int) : m__law_numbers_right ns = some true := by
  unfold m__law_numbers_right
  obtain ⟨v, e1, v0, v1⟩ := draw_ok ns 101 129 (by decide) (by decide) (by decide)
  obtain ⟨n, rfl⟩ : ∃ n : Nat, v = (n : Int) := ⟨v.toNat, by omega⟩
  obtain ⟨xs, e2, hb, hl⟩ := row_ok19 ns 200 n (by decide) (by decide) (by omega)
  have hlt := hn_lt xs 0 0 hb (by decide)
  rw [hl, Nat.zero_add] at hlt
  have hbl := hn_bl_bits xs hb
  rw [hl] at hbl
  rw [e1, bnd_some, e2, bnd_some, worth_ok xs hb, bnd_some, bits_of_ok hlt (by omega), bndO_ok, hbl, plain_ok xs (by omega), bnd_some, show (!true) = false from rfl, ifB_f]
  obtain ⟨d, e3, d0, d1⟩ := draw_ok ns 102 9 (by decide) (by decide) (by decide)
  obtain ⟨m, rfl⟩ : ∃ m : Nat, d = (m : Int) := ⟨d.toNat, by omega⟩
  rw [e3, bnd_some, show (1 : Int) + (m : Int) = ((1 + m : Nat) : Int) by omega, shlN (n := 4) n (by omega) (by omega), bnd_some, ltv_eq]
  have b1 : m_bits_of (((hn 0 xs : Nat) : Int) + (((1 + m) * 2 ^ n : Nat) : Int)) (n : Int) = some (.er .NoBits) := by
    have hbig : 2 ^ n ≤ hn 0 xs + (1 + m) * 2 ^ n := by
      have : 2 ^ n ≤ (1 + m) * 2 ^ n := by
        rw [Nat.add_mul, Nat.one_mul]
        exact Nat.le_add_right _ _
      omega
    have := nb_big hbig
    unfold m_bits_of
    rw [show ((hn 0 xs : Nat) : Int) + (((1 + m) * 2 ^ n : Nat) : Int) = ((hn 0 xs + (1 + m) * 2 ^ n : Nat) : Int) by rw [Int.natCast_add]]
    rw [decide_eq_true (show (n : Int) < (Builtin.Int.intBits ((hn 0 xs + (1 + m) * 2 ^ n : Nat) : Int) : Int) by omega), Bool.or_true, ifB_t]
  have b2 : m_bits_of ((-(1 : Int)) - ((hn 0 xs : Nat) : Int)) (n : Int) = some (.er .NoBits) := by
    unfold m_bits_of
    rw [decide_eq_true (show (-(1 : Int)) - ((hn 0 xs : Nat) : Int) < 0 by omega), Bool.true_or, ifB_t]
  rw [no_bits_ok b1, bnd_some, ifB_t, no_bits_ok b2, bnd_some, bnd_some]
end Bt

set_option maxRecDepth 100000
namespace Bt
open PySem L2
theorem hn_ge : ∀ (xs : List Int) (a : Nat), a * 2 ^ xs.length ≤ hn a xs
  | [], a => by show a * 1 ≤ a; omega
  | b :: r, a => by
    have ih := hn_ge r (2 * a + b.toNat)
    rw [List.length_cons, Nat.pow_succ]
    refine Nat.le_trans ?_ ih
    have e : a * (2 ^ r.length * 2) = 2 * a * 2 ^ r.length := by ac_rfl
    rw [e]
    exact Nat.mul_le_mul_right _ (Nat.le_add_right _ _)
theorem far_ok (ns : List Int) (k : Int) (h0 : 0 ≤ k) (h1 : k ≤ 100000) : ∃ x, m__law_far ns k = some x ∧ (x < 0 ∨ 255 < x) := by
  unfold m__law_far
  obtain ⟨z, ez⟩ : ∃ z : Int, (bnd (ifB (decide ((0 : Int) < (List.length ns : Int))) (bnd (modG k (List.length ns : Int)) fun t_4 => bnd (atI ns t_4) fun e_6 => some e_6) (some (0 : Int))) fun z => some z) = some z := by
    by_cases c : (0 : Int) < (ns.length : Int)
    · rw [decide_eq_true c, ifB_t, modG_ok c, bnd_some]
      have m0 := Int.emod_nonneg k (show (ns.length : Int) ≠ 0 by omega)
      have m1 := Int.emod_lt_of_pos k c
      rw [atI_ok m0 m1, List.getElem?_eq_getElem (show (k % (ns.length : Int)).toNat < ns.length by omega), bnd_some, bnd_some]
      exact ⟨_, rfl⟩
    · rw [decide_eq_false c, ifB_f, bnd_some]
      exact ⟨_, rfl⟩
  have ez' : (ifB (decide ((0 : Int) < (List.length ns : Int))) (bnd (modG k (List.length ns : Int)) fun t_4 => bnd (atI ns t_4) fun e_6 => some e_6) (some (0 : Int))) = some z := by
    revert ez
    cases (ifB (decide ((0 : Int) < (List.length ns : Int))) (bnd (modG k (List.length ns : Int)) fun t_4 => bnd (atI ns t_4) fun e_6 => some e_6) (some (0 : Int))) with
    | none => exact fun e => nomatch e
    | some y => exact fun e => e
  have hp : powG (10 : Int) (18 : Int) = some 1000000000000000000 := by
    unfold powG
    rw [grd_of (by decide)]
    rfl
  obtain ⟨d, ed, d0, d1⟩ := draw_ok ns k 4 h0 (by omega) (by decide)
  have q0 := Int.emod_nonneg z (show (1000000000000000000 : Int) ≠ 0 by decide)
  rw [ez', bnd_some, hp, bnd_some, modG_ok (by decide), bnd_some, bnd_some, modG_ok (by decide), bnd_some, ed, bnd_some]
  generalize z % 1000000000000000000 = q at q0
  rcases (show d = 0 ∨ d = 1 ∨ d = 2 ∨ d = 3 by omega) with rfl | rfl | rfl | rfl
  · exact ⟨-1, rfl, by omega⟩
  · exact ⟨256, rfl, by omega⟩
  · exact ⟨256 + q, rfl, by omega⟩
  · exact ⟨-1 - q, rfl, by omega⟩
theorem keys_ok (ns : List Int) : m__law_keys_right ns = some true := by
  unfold m__law_keys_right
  obtain ⟨d, e1, d0, d1⟩ := draw_ok ns 109 100 (by decide) (by decide) (by decide)
  obtain ⟨s, rfl⟩ : ∃ s : Nat, d = (s : Int) := ⟨d.toNat, by omega⟩
  obtain ⟨xs, e2, hb, hl⟩ := row_ok19 ns 400 s (by decide) (by decide) (by omega)
  have hB : Bits ((1 : Int) :: xs) := fun b h => (List.mem_cons.mp h).elim (fun e => .inr e) (hb b)
  rw [e1, bnd_some, e2, bnd_some, catG_ok (by simp; omega), bnd_some, show [(1 : Int)] ++ xs = 1 :: xs from rfl, worth_ok _ hB, bnd_some]
  have hk : hn 0 (1 :: xs) = hn 1 xs := rfl
  have lo := hn_ge xs 1
  have hi := hn_lt xs 1 1 hb (by decide)
  rw [hl, Nat.one_mul, ← hk] at lo
  rw [hl, ← hk, Nat.add_comm] at hi
  generalize hn 0 (1 :: xs) = key at lo hi
  have hnb : (Builtin.Int.intBits (key : Int) : Int) = ((s + 1 : Nat) : Int) := by rw [nb_eq lo hi]
  rw [hnb, show ((s + 1 : Nat) : Int) - 1 = (s : Int) by omega]
  obtain ⟨ys, e3, hb3, hl3⟩ := row_ok19 ns 500 s (by decide) (by decide) (by omega)
  have r1 := hn_lt ys 0 0 hb3 (by decide)
  rw [hl3, Nat.zero_add] at r1
  rw [e3, bnd_some, worth_ok _ hb3, bnd_some]
  generalize hn 0 ys = rest at r1
  obtain ⟨m, e4, m0, m1⟩ := draw_ok ns 110 100 (by decide) (by decide) (by decide)
  obtain ⟨m, rfl⟩ : ∃ k : Nat, m = (k : Int) := ⟨m.toNat, by omega⟩
  obtain ⟨zs', e5, hb5, hl5⟩ := row_ok19 ns 600 m (by decide) (by decide) (by omega)
  have w1 := hn_lt zs' 0 0 hb5 (by decide)
  rw [hl5, Nat.zero_add] at w1
  rw [e4, bnd_some, e5, bnd_some, worth_ok _ hb5, bnd_some, rng1_ok (by omega) (by omega), bnd_some]
  generalize hn 0 zs' = whole at w1
  have w2 : whole < 2 ^ 100 := Nat.lt_of_lt_of_le w1 (Nat.pow_le_pow_right (by decide) (by omega))
  have r2 : rest < 2 ^ 300 := Nat.lt_of_lt_of_le r1 (Nat.pow_le_pow_right (by decide) (by omega))
  obtain ⟨out, e6, k, hk', ho, hb6⟩ := loopM_rng (f := fun k_35 s => m__law_keys_right_L0 (key : Int) (whole : Int) k_35 s) (hi := ((s + 1 : Nat) : Int)) (fun i x => ∃ k : Nat, i = k ∧ x = ((rest ^^^ pws whole key k : Nat) : Int) ∧ rest ^^^ pws whole key k < 2 ^ 300) (fun i x hi' ⟨k, hk, hx, hlt⟩ => by
    subst hk hx
    show ∃ s', m__law_keys_right_L0 (key : Int) (whole : Int) (k : Int) _ = some s' ∧ _
    unfold m__law_keys_right_L0
    rw [shrN, bnd_some, ba1]
    by_cases c : key / 2 ^ k % 2 = 1
    · rw [decide_eq_true (show ((key / 2 ^ k % 2 : Nat) : Int) = 1 by omega), ifB_t, shlN (n := 100) k w2 (by omega), bnd_some, bx]
      have e : rest ^^^ pws whole key k ^^^ whole * 2 ^ k = rest ^^^ pws whole key (k + 1) := by
        show _ = rest ^^^ (pws whole key k ^^^ (if key / 2 ^ k % 2 = 1 then whole * 2 ^ k else 0))
        rw [if_pos c, Nat.xor_assoc]
      have hw : whole * 2 ^ k < 2 ^ 300 := by
        have : whole * 2 ^ k < 2 ^ 100 * 2 ^ k := Nat.mul_lt_mul_of_pos_right w2 (Nat.two_pow_pos k)
        rw [← Nat.pow_add] at this
        exact Nat.lt_of_lt_of_le this (Nat.pow_le_pow_right (by decide) (by omega))
      rw [e]
      exact ⟨_, rfl, k + 1, by omega, rfl, by rw [← e]; exact Nat.xor_lt_two_pow hlt hw⟩
    · rw [decide_eq_false (show ¬ ((key / 2 ^ k % 2 : Nat) : Int) = 1 by omega), ifB_f]
      have e : rest ^^^ pws whole key k = rest ^^^ pws whole key (k + 1) := by
        show _ = rest ^^^ (pws whole key k ^^^ (if key / 2 ^ k % 2 = 1 then whole * 2 ^ k else 0))
        rw [if_neg c, Nat.xor_zero]
      exact ⟨_, rfl, k + 1, by omega, by rw [e], by rw [← e]; exact hlt⟩) (s + 1) 0 (rest : Int) (by omega) (by omega) ⟨0, rfl, by show (rest : Int) = ((rest ^^^ 0 : Nat) : Int); rw [Nat.xor_zero], by show rest ^^^ 0 < _; rw [Nat.xor_zero]; exact r2⟩
  have hk2 : k = s + 1 := by omega
  subst hk2
  rw [pws_clm _ _ _ hi] at ho hb6
  rw [e6, bnd_some, ho]
  obtain ⟨w, r, e7, hr, e8⟩ := divided_ok lo hi (by omega) hb6 (by decide)
  rw [clm_comm whole key, Nat.xor_comm rest] at e8
  obtain ⟨rfl, rfl⟩ := rest_one lo hi r1 hr e8
  rw [e7, bndO_ok]
  dsimp only
  rw [show (!true) = false from rfl, ifB_f, plain_ok _ (by simp), bnd_some, bnd_some]
  show ifB (!true) _ _ = _
  rw [show (!true) = false from rfl, ifB_f, no_key_ok, bnd_some]
theorem shl_clm (k : Nat) : 64647 * 2 ^ k = clm 64647 (2 ^ k) := by
  induction k with
  | zero => rw [Nat.pow_zero, clm_or]
  | succ k ih => rw [Nat.pow_succ, Nat.mul_comm (2 ^ k) 2, clm_tr, ← ih]; ac_rfl
theorem q_one {x m : Nat} (h : x < 2 ^ (m + 1)) (b : x / 2 ^ m % 2 = 1) : x / 2 ^ m = 1 := by
  have q : x / 2 ^ m < 2 := Nat.div_lt_of_lt_mul (by rw [Nat.pow_succ] at h; exact h)
  rw [Nat.mod_eq_of_lt q] at b
  exact b
theorem q_zero {x m : Nat} (h : x < 2 ^ (m + 1)) (b : ¬ x / 2 ^ m % 2 = 1) : x < 2 ^ m := by
  have q : x / 2 ^ m < 2 := Nat.div_lt_of_lt_mul (by rw [Nat.pow_succ] at h; exact h)
  rw [Nat.mod_eq_of_lt q] at b
  have hz : x / 2 ^ m = 0 := by
    generalize x / 2 ^ m = z at q b
    omega
  exact (Nat.div_eq_zero_iff_lt (Nat.two_pow_pos m)).mp hz
theorem xor_down {x k : Nat} (h : x < 2 ^ (k + 16)) (b : x / 2 ^ (k + 15) % 2 = 1) : x ^^^ 64647 * 2 ^ k < 2 ^ (k + 15) := by
  have hp : 0 < 2 ^ (k + 15) := Nat.two_pow_pos _
  have h1 : x / 2 ^ (k + 15) = 1 := q_one h b
  have h2 : 2 ^ (k + 15) ≤ x := by
    have := (Nat.div_eq_iff hp).mp h1
    omega
  have e : 2 ^ (k + 15) = 2 ^ k * 32768 := by rw [Nat.pow_add]
  have e2 : 2 ^ (k + 15 + 1) = 2 ^ k * 65536 := by rw [show k + 15 + 1 = k + 16 from rfl, Nat.pow_add]
  have hq : 0 < 2 ^ k := Nat.two_pow_pos _
  exact xor_cancel h2 h (by rw [e]; omega) (by rw [e2]; omega)
theorem due_down : ∀ (j x : Nat), j ≤ 1000 → x < 2 ^ (j + 15) → ∃ r, loopM (fun k s => m__law_frame_due_L1 k s) ((List.range j).map fun i : Nat => ((j : Int) - 1) + (i : Int) * (-1)) (x : Int) = some ((r : Nat) : Int) ∧ IsR x r
  | 0, x, _, h => ⟨x, rfl, IsR.small h⟩
  | j + 1, x, hj, h => by
    have hs : m__law_frame_due_L1 (j : Int) (x : Int) = some ((if x / 2 ^ (j + 15) % 2 = 1 then x ^^^ 64647 * 2 ^ j else x : Nat) : Int) := by
      unfold m__law_frame_due_L1
      rw [show (j : Int) + 15 = ((j + 15 : Nat) : Int) by omega, shrN, bnd_some, ba1]
      by_cases c : x / 2 ^ (j + 15) % 2 = 1
      · rw [decide_eq_true (by omega), ifB_t, if_pos c, show (64647 : Int) = ((64647 : Nat) : Int) from rfl, shlN (n := 16) j (by decide) (by omega), bnd_some, bx]
      · rw [decide_eq_false (by omega), ifB_f, if_neg c]
    have hl : (List.range (j + 1)).map (fun i : Nat => (((j + 1 : Nat) : Int) - 1) + (i : Int) * (-1)) = (j : Int) :: (List.range j).map fun i : Nat => ((j : Int) - 1) + (i : Int) * (-1) := by
      rw [List.range_succ_eq_map, List.map_cons, List.map_map]
      refine congr (congrArg List.cons (by omega)) (List.map_congr_left fun i _ => ?_)
      show (((j + 1 : Nat) : Int) - 1) + ((i + 1 : Nat) : Int) * (-1) = _
      omega
    rw [hl, loopM_go (f := fun k s => m__law_frame_due_L1 k s) hs]
    by_cases c : x / 2 ^ (j + 15) % 2 = 1
    · rw [if_pos c]
      obtain ⟨r, e, R⟩ := due_down j _ (by omega) (xor_down h c)
      refine ⟨r, e, R.1, ?_⟩
      obtain ⟨w, hw⟩ := R.2
      refine ⟨w ^^^ 2 ^ j, ?_⟩
      rw [clm_xr, ← shl_clm, Nat.xor_assoc, Nat.xor_comm (64647 * 2 ^ j) r, ← Nat.xor_assoc, ← hw, Nat.xor_assoc, Nat.xor_self, Nat.xor_zero]
    · rw [if_neg c]
      exact due_down j x (by omega) (q_zero (by rw [show j + 15 + 1 = j + 1 + 15 by omega]; exact h) c)
theorem hn_zs : ∀ (n a : Nat), hn a (zs n) = a * 2 ^ n
  | 0, a => by show a = a * 1; omega
  | n + 1, a => by
    show hn (2 * a + 0) (zs n) = _
    rw [hn_zs n, Nat.add_zero, Nat.pow_succ]
    ac_rfl
theorem due_data : ∀ (D : List Nat) (bits : List Int), bits.length + 8 * D.length ≤ 10000 → loopM (fun b s => m__law_frame_due_L0 b s) (ci D) bits = some (bits ++ bs D)
  | [], bits, _ => by show some bits = some (bits ++ []); rw [List.append_nil]
  | d :: r, bits, hz => by
    simp only [List.length_cons] at hz
    have hs : m__law_frame_due_L0 (d : Int) bits = some (bits ++ bl d 8) := by
      unfold m__law_frame_due_L0
      rw [show (8 : Int) = ((8 : Nat) : Int) from rfl, written_ok (by decide), bnd_some, catG_ok (by rw [bl_len]; omega), bnd_some]
    show loopM _ ((d : Int) :: ci r) _ = _
    rw [loopM_go (f := fun b s => m__law_frame_due_L0 b s) hs, due_data r _ (by rw [List.length_append, bl_len]; omega)]
    show some (bits ++ bl d 8 ++ bs r) = some (bits ++ (bl d 8 ++ bs r))
    rw [List.append_assoc]
theorem due_ok (n : Nat) (D : List Nat) (h3 : D.length ≤ 7) : m__law_frame_due (n : Int) (ci D) = some (fb n D) := by
  have hzh := hd_len n D
  have hB := hd_bits n D
  unfold m__law_frame_due
  rw [show (8 : Int) = ((8 : Nat) : Int) from rfl, written_ok (by decide), bnd_some, catG_ok (by rw [bl_len]; decide), bnd_some, ci_len, show (3 : Int) = ((3 : Nat) : Int) from rfl, written_ok (by decide), bnd_some, catG_ok (by rw [List.length_append, bl_len, bl_len]; decide), bnd_some]
  rw [due_data D _ (by simp [bl_len]; omega), bnd_some, show [(0 : Int)] ++ bl n 8 ++ bl D.length 3 ++ bs D = hd n D from rfl, worth_ok _ hB, bnd_some]
  have hlt := hn_lt (hd n D) 0 0 hB (by decide)
  rw [Nat.zero_add] at hlt
  rw [show (15 : Int) = ((15 : Nat) : Int) from rfl, shlN (n := (hd n D).length) 15 hlt (by omega), bnd_some]
  have hx : hn 0 (hd n D) * 2 ^ 15 < 2 ^ ((hd n D).length + 15) := by
    rw [Nat.pow_add]
    exact Nat.mul_lt_mul_of_pos_right hlt (Nat.two_pow_pos 15)
  obtain ⟨r, er, R⟩ := due_down (hd n D).length _ (by omega) hx
  have hrv : rvG ((hd n D).length : Int) = some ((List.range (hd n D).length).map fun i : Nat => (((hd n D).length : Int) - 1) + (i : Int) * (-1)) := by
    unfold rvG
    rw [grd_of ⟨by omega, by omega⟩, show (((hd n D).length : Int) - 0).toNat = (hd n D).length by omega]
    congr 1
    refine List.map_congr_left fun i _ => ?_
    omega
  rw [hrv, bnd_some, er, bnd_some, written_ok (by decide), bnd_some, catG_ok (by rw [bl_len]; omega), bnd_some]
  have hu : r = ck (hd n D) := by
    have h1 := ck_is (hd n D) hB
    rw [hn_app, hn_zs] at h1
    exact R.uniq h1
  rw [hu]
  rfl
end Bt

set_option maxRecDepth 100000
namespace Bt
open PySem L2
theorem min_ex : ∀ (D : List Nat), D ≠ [] → ∃ M ∈ D, ∀ n ∈ D, M ≤ n
  | [], h => absurd rfl h
  | [a], _ => ⟨a, List.Mem.head _, fun n h => by rw [List.mem_singleton.mp h]; exact Nat.le_refl _⟩
  | a :: b :: r, _ => by
    obtain ⟨M, h1, h2⟩ := min_ex (b :: r) (by simp)
    by_cases c : a ≤ M
    · refine ⟨a, List.Mem.head _, fun n h => ?_⟩
      rcases List.mem_cons.mp h with rfl | h
      · exact Nat.le_refl _
      · exact Nat.le_trans c (h2 n h)
    · refine ⟨M, List.Mem.tail _ h1, fun n h => ?_⟩
      rcases List.mem_cons.mp h with rfl | h
      · omega
      · exact h2 n h
theorem frames_ok19 (ns : List Int) : m__law_frames_right ns = some true := by
  unfold m__law_frames_right
  obtain ⟨v, e1, v0, v1⟩ := draw_ok ns 111 256 (by decide) (by decide) (by decide)
  obtain ⟨nm, rfl⟩ : ∃ n : Nat, v = (n : Int) := ⟨v.toNat, by omega⟩
  obtain ⟨l, e2, l0, l1⟩ := draw_ok ns 112 8 (by decide) (by decide) (by decide)
  have dr : ∀ (a : Int) (f : Int → Option Int) (n : Int), 0 ≤ a → a ≤ 1000 → 0 ≤ n → n ≤ 1000 → (∀ k, f k = bnd (m__law_draw ns (a + k) (256 : Int)) fun d => some d) → ∃ D : List Nat, compM f (rangeI 0 n) [] = some (ci D) ∧ (∀ d ∈ D, d < 256) ∧ (D.length : Int) = n := by
    intro a f n ha ha2 hn hn2 hf
    obtain ⟨ys, e, hl, hp⟩ := compM_all (f := f) (P := fun y => ∃ n : Nat, y = (n : Int) ∧ n < 256) (rangeI 0 n) [] (fun k hk => by
      have := mem_rangeI hk
      obtain ⟨v, ev, h0, h1⟩ := draw_ok ns (a + k) 256 (by omega) (by omega) (by decide)
      rw [hf, ev, bnd_some]
      exact ⟨v, rfl, v.toNat, by omega, by omega⟩) (by rw [rangeI_length]; simp; omega) (fun _ h => nomatch h)
    obtain ⟨D, rfl, hD⟩ := ci_of ys 256 hp
    refine ⟨D, e, hD, ?_⟩
    rw [ci_len, rangeI_length] at hl
    simp at hl
    omega
  obtain ⟨D, e3, hD, hDl⟩ := dr 120 (m__law_frames_right_C0 ns) l (by decide) (by decide) l0 (by omega) (fun k => rfl)
  have hl7 : D.length ≤ 7 := by omega
  have hfl := fb_len nm D
  rw [e1, bnd_some, e2, bnd_some, rng1_ok (by omega) (by omega), bnd_some, e3, bnd_some, frame_ok nm D (by omega) hD hl7, bndO_ok, due_ok nm D hl7, bnd_some, plain_ok _ (by omega), bnd_some, show (!true) = false from rfl, ifB_f]
  obtain ⟨x, e4, hx⟩ := far_ok ns 113 (by decide) (by decide)
  rw [e4, bnd_some, no_frame_ok (no_name hx _), bnd_some, show (!true) = false from rfl, ifB_f]
  have hc : cutL (ci D) none (some (6 : Int)) = ci (D.take 6) := by
    rw [show (6 : Int) = ((6 : Nat) : Int) from rfl, cut_to]
    unfold ci
    rw [List.map_take]
  have htl : (D.take 6).length ≤ 6 := by rw [List.length_take]; omega
  rw [hc, ci_len]
  obtain ⟨a, e5, a0, a1⟩ := draw_ok ns 114 (((D.take 6).length : Int) + 1) (by decide) (by decide) (by omega)
  obtain ⟨a, rfl⟩ : ∃ n : Nat, a = (n : Int) := ⟨a.toNat, by omega⟩
  obtain ⟨y, e6, hy⟩ := far_ok ns 115 (by decide) (by decide)
  have hins : insG (ci (D.take 6)) (a : Int) y = some (ci ((D.take 6).take a) ++ (y :: ci ((D.take 6).drop a))) := by
    unfold insG
    rw [grd_of ⟨by rw [ci_len]; exact Nat.lt_of_le_of_lt htl (by decide), by omega, by omega⟩, Int.toNat_natCast]
    simp only [ci, List.map_take, List.map_drop, List.append_assoc, List.singleton_append]
  have hD6 : ∀ d ∈ D.take 6, d < 256 := fun d h => hD d (List.mem_of_mem_take h)
  rw [e5, bnd_some, e6, bnd_some, hins, bnd_some, no_frame_ok (bad_byte nm (by omega) hy _ _ (fun d h => hD6 d (List.mem_of_mem_take h)) (by rw [List.length_take, ci_len, List.length_drop]; omega)), bnd_some, show (!true) = false from rfl, ifB_f]
  obtain ⟨m, e7, m0, m1⟩ := draw_ok ns 116 3 (by decide) (by decide) (by decide)
  obtain ⟨D2, e8, hD2, hl2⟩ := dr 130 (m__law_frames_right_C1 ns) (8 + m) (by decide) (by decide) (by omega) (by omega) (fun k => rfl)
  rw [e7, bnd_some, rng1_ok (by omega) (by omega), bnd_some, e8, bnd_some, no_frame_ok (too_many _ (by rw [ci_len]; omega)), bnd_some]
theorem odd_apart : ∀ o : Fin 128, ∀ d : Fin 19, d.val ≠ 0 → ((1 + 2 * o.val) * d.val) % 256 ≠ 0 := by decide +kernel
theorem apart (f o i j : Nat) (ho : o < 128) (hi : i < 19) (hj : j < 19) (h : (f + (1 + 2 * o) * i) % 256 = (f + (1 + 2 * o) * j) % 256) (hij : i ≤ j) : i = j := by
  have h1 := odd_apart ⟨o, ho⟩ ⟨j - i, by omega⟩
  dsimp only at h1
  refine Classical.byContradiction fun hne => h1 (by omega) ?_
  have e : (1 + 2 * o) * j = (1 + 2 * o) * i + (1 + 2 * o) * (j - i) := by
    rw [← Nat.mul_add]
    congr 1
    omega
  rw [e] at h
  generalize (1 + 2 * o) * i = p at h
  generalize (1 + 2 * o) * (j - i) = q at h ⊢
  omega
theorem shr128 : ∀ k : Fin 8, 128 / 2 ^ k.val = 2 ^ (7 - k.val) := by decide
theorem right_step {D : List Nat} {M k : Nat} (h : Du D M) (hk : k < 8) : m__law_duel_right_L0 (dT D M 8) (k : Int) (ci (sk D M k)) = some (.nx (ci (sk D M (k + 1)))) := by
  have hl := sk_len (k := k) h
  have hl1 := sk_len (k := k + 1) h
  unfold m__law_duel_right_L0
  have et : shrG (128 : Int) (k : Int) = some ((2 ^ (7 - k) : Nat) : Int) := by
    rw [show (128 : Int) = ((128 : Nat) : Int) from rfl, shrN, shr128 ⟨k, hk⟩]
  have tp := Nat.two_pow_pos (7 - k)
  have t8 : 2 ^ (7 - k) < 2 ^ 8 := Nat.pow_lt_pow_right (by decide) (by omega)
  have dv : ∀ n : Nat, fdivG (n : Int) ((2 ^ (7 - k) : Nat) : Int) = some ((n / 2 ^ (7 - k) : Nat) : Int) := fun n => by
    rw [fdivG_ok (b := 8) (by omega) (by simpa using t8) (by decide), Int.natCast_ediv]
  have e1 : compM (m__law_duel_right_C1 ((2 ^ (7 - k) : Nat) : Int)) (ci (sk D M k)) [] = some (ci ((sk D M k).map (nb k))) := by
    have := compM_ok (f := m__law_duel_right_C1 ((2 ^ (7 - k) : Nat) : Int)) (g := fun x => ((nb k x.toNat : Nat) : Int)) (ci (sk D M k)) [] (fun x hx => by
      obtain ⟨n, _, rfl⟩ := ci_mem hx
      unfold m__law_duel_right_C1
      rw [dv, bnd_some]
      rfl) (by rw [ci_len]; simp; omega)
    rw [this]
    unfold ci
    rw [List.nil_append, List.map_map, List.map_map]
    rfl
  have e2 : compT (m__law_duel_right_C2t ((2 ^ (7 - k) : Nat) : Int) ((nb k M : Nat) : Int)) m__law_duel_right_C2 (ci (sk D M k)) [] = some (ci (sk D M (k + 1))) := by
    have := compT_ok (c := m__law_duel_right_C2t ((2 ^ (7 - k) : Nat) : Int) ((nb k M : Nat) : Int)) (f := m__law_duel_right_C2) (p := fun x => decide (nb k x.toNat = nb k M)) (g := id) (ci (sk D M k)) [] (fun x hx => by
      obtain ⟨n, _, rfl⟩ := ci_mem hx
      unfold m__law_duel_right_C2t
      rw [dv, bnd_some]
      congr 1
      rw [Int.toNat_natCast]
      refine decide_eq_decide.mpr ?_
      show ((n / 2 ^ (7 - k) : Nat) : Int) % 2 = _ ↔ n / 2 ^ (7 - k) % 2 = _
      generalize n / 2 ^ (7 - k) = z
      omega) (fun x _ => rfl) (by rw [ci_len]; simp; omega)
    rw [this, List.nil_append, List.map_id, ← sk_step hk]
    unfold ci
    rw [List.filter_map]
    rfl
  have e3 : atI (dT D M 8) (k : Int) = some (((nb k M : Nat) : Int), ci (sk D M (k + 1))) := by
    rw [atI_ok (by omega) (by simp [dT]; omega), Int.toNat_natCast]
    unfold dT
    rw [List.getElem?_map, List.getElem?_range hk]
    rfl
  rw [et, bnd_some, e1, bnd_some, min_is (m := nb k M) (List.mem_map.mpr ⟨M, sk_mem h, rfl⟩) (fun n hn => by
    obtain ⟨x, hx, rfl⟩ := List.mem_map.mp hn
    exact sk_le h hk x hx), bnd_some, e2, bnd_some, e3, bnd_some]
  dsimp only
  rw [show (!true) = false from rfl, ifB_f, show (!decide (((2 : Nat) : Int) = (2 : Int))) = false from rfl, ifB_f, plain_ok _ (by simp), bnd_some, show (!true) = false from rfl, bnd_some, bnd_some, ifB_f, plain_ok _ (by rw [ci_len]; omega), bnd_some, show (!true) = false from rfl, ifB_f]
theorem right_ok (ns : List Int) {D : List Nat} {M : Nat} (h : Du D M) : m__law_duel_right ns (ci D) = some true := by
  unfold m__law_duel_right
  rw [duel_ok h, bndO_ok, show ((List.length (dT D M 8) : Nat) : Int) = 8 by simp [dT], decide_eq_true (show (8 : Int) = 8 from rfl), show ((!true) || (!true)) = false from rfl, ifB_f, rng1_ok (by decide) (by decide), bnd_some]
  obtain ⟨out, e4, k, hk, ho⟩ := loopF_rng (R := Bool) (f := fun k_34 s => m__law_duel_right_L0 (dT D M 8) k_34 s) (hi := 8) (fun i s => ∃ k : Nat, i = k ∧ s = ci (sk D M k)) (by
    rintro i s hi ⟨k, rfl, rfl⟩
    exact ⟨_, right_step h (by omega), k + 1, by omega, rfl⟩) 8 0 (ci D) (by decide) (by decide) ⟨0, rfl, by rw [sk0 h]⟩
  rw [e4, fin_nx]
theorem names_ok19 (ns : List Int) : m__law_names_right ns = some true := by
  unfold m__law_names_right
  obtain ⟨f, e1, f0, f1⟩ := draw_ok ns 103 256 (by decide) (by decide) (by decide)
  obtain ⟨f, rfl⟩ : ∃ n : Nat, f = (n : Int) := ⟨f.toNat, by omega⟩
  obtain ⟨o, e2, o0, o1⟩ := draw_ok ns 104 128 (by decide) (by decide) (by decide)
  obtain ⟨o, rfl⟩ : ∃ n : Nat, o = (n : Int) := ⟨o.toNat, by omega⟩
  obtain ⟨c, e3, c0, c1⟩ := draw_ok ns 105 19 (by decide) (by decide) (by decide)
  obtain ⟨c, rfl⟩ : ∃ n : Nat, c = (n : Int) := ⟨c.toNat, by omega⟩
  rw [e1, bnd_some, e2, bnd_some, ltv_eq, e3, bnd_some, show (1 : Int) + (c : Int) = ((1 + c : Nat) : Int) by omega, rng1_ok (by omega) (by omega), bnd_some]
  let D : List Nat := (List.range (1 + c)).map fun i => (f + (1 + 2 * o) * i) % 256
  have hDl : D.length = 1 + c := by simp [D]
  have eC : compM (m__law_names_right_C0 (f : Int) ((1 : Int) + (2 : Int) * (o : Int))) (rangeI 0 ((1 + c : Nat) : Int)) [] = some (ci D) := by
    have := compM_ok (f := m__law_names_right_C0 (f : Int) ((1 : Int) + (2 : Int) * (o : Int))) (g := fun k => (((f + (1 + 2 * o) * k.toNat) % 256 : Nat) : Int)) (rangeI 0 ((1 + c : Nat) : Int)) [] (fun k hk => by
      have := mem_rangeI hk
      obtain ⟨k, rfl⟩ : ∃ n : Nat, k = (n : Int) := ⟨k.toNat, by omega⟩
      unfold m__law_names_right_C0
      rw [mulG_ok (a := 20) (b := 20) (by omega) (by omega) (by decide), bnd_some, Int.toNat_natCast]
      congr 1) (by rw [rangeI_length]; simp; omega)
    rw [this, List.nil_append]
    congr 1
    unfold rangeI ci
    rw [List.map_map, List.map_map, show (((1 + c : Nat) : Int) - 0).toNat = 1 + c by omega]
    refine List.map_congr_left fun i _ => ?_
    simp only [Function.comp]
    rw [show ((0 : Int) + (i : Int)).toNat = i by omega]
  have hnd : D.Nodup := by
    refine List.pairwise_map.mpr (List.nodup_range.imp_of_mem fun {i j} hi hj hne e => ?_)
    have hi := List.mem_range.mp hi
    have hj := List.mem_range.mp hj
    rcases Nat.le_total i j with h | h
    · exact hne (apart f o i j (by omega) (by omega) (by omega) e h)
    · exact hne (apart f o j i (by omega) (by omega) (by omega) e.symm h).symm
  have hlt : ∀ n ∈ D, n < 256 := fun n hn => by
    obtain ⟨i, _, rfl⟩ := List.mem_map.mp hn
    exact Nat.mod_lt _ (by decide)
  obtain ⟨M, hM, hle⟩ := min_ex D (fun z => by rw [z] at hDl; simp at hDl; omega)
  have hDu : Du D M := ⟨hM, hle, hnd, hlt, by omega⟩
  rw [eC, bnd_some, right_ok ns hDu, bnd_some, show (!true) = false from rfl, ifB_f, ci_len, hDl]
  obtain ⟨a, e4, a0, a1⟩ := draw_ok ns 106 (((1 + c : Nat) : Int) + 1) (by decide) (by decide) (by omega)
  obtain ⟨a, rfl⟩ : ∃ n : Nat, a = (n : Int) := ⟨a.toNat, by omega⟩
  obtain ⟨t, e5, t0, t1⟩ := draw_ok ns 107 ((1 + c : Nat) : Int) (by decide) (by decide) (by omega)
  have htn : t.toNat < (ci D).length := by rw [ci_len]; omega
  obtain ⟨w, hw⟩ : ∃ w, (ci D)[t.toNat]? = some w := ⟨_, List.getElem?_eq_getElem htn⟩
  have hwm : w ∈ ci D := List.mem_of_getElem? hw
  have cl1 : ((ci D).take a).length ≤ 1 + c := by rw [List.length_take, ci_len]; omega
  have cl2 : ((ci D).drop a).length ≤ 1 + c := by rw [List.length_drop, ci_len]; omega
  rw [e4, bnd_some, e5, bnd_some, atI_ok t0 (by rw [ci_len]; omega), hw, bnd_some, cut_to, cut_fr, catG_ok (by rw [List.length_singleton]; omega), bnd_some, catG_ok (by rw [List.length_append, List.length_singleton]; omega), bnd_some]
  have b1 : m_duel ((ci D).take a ++ [w] ++ (ci D).drop a) = some (.er .NoName) := by
    refine duel_bad (by rw [List.length_append, List.length_append, List.length_singleton]; omega) (.inr (.inl fun hn => ?_))
    have hm : w ∈ (ci D).take a ++ (ci D).drop a := by rw [List.take_append_drop]; exact hwm
    rw [List.append_assoc] at hn
    have h1 := List.nodup_append.mp hn
    have h2 := List.nodup_cons.mp h1.2.1
    rcases List.mem_append.mp hm with h | h
    · exact h1.2.2 w h w (List.Mem.head _) rfl
    · exact h2.1 h
  obtain ⟨x, e6, hx⟩ := far_ok ns 108 (by decide) (by decide)
  have b2 : m_duel ((ci D).take a ++ [x] ++ (ci D).drop a) = some (.er .NoName) := duel_bad (by rw [List.length_append, List.length_append, List.length_singleton]; omega) (.inr (.inr ⟨x, by simp, hx⟩))
  have b3 : m_duel ([] : List Int) = some (.er .NoName) := duel_bad (by decide) (.inl rfl)
  rw [no_name_ok b1, bnd_some, show (!true) = false from rfl, ifB_f, e6, bnd_some, catG_ok (by rw [List.length_singleton]; omega), bnd_some, catG_ok (by rw [List.length_append, List.length_singleton]; omega), bnd_some, no_name_ok b2, bnd_some, ifB_t, no_name_ok b3, bnd_some, bnd_some]
end Bt

set_option maxRecDepth 100000
namespace Bt
open PySem L2
theorem rep19 (x : Int) (n : Nat) (h : n ≤ 1000) : repG [x] (n : Int) = some (List.replicate n x) := by
  rw [repG_ok (by omega) (by omega) (by simp; omega)]
  congr 1
  rw [show (n : Int).toNat = n from rfl]
  clear h
  induction n with
  | zero => rfl
  | succ n ih => rw [List.replicate_succ, List.flatten_cons, ih, List.replicate_succ]; rfl
theorem last19 (q : List Int) (b : Int) : atI (q ++ [b]) (-1) = some b ∧ cutL (q ++ [b]) (some (-(1 : Int))) none = [b] := by
  constructor
  · unfold atI ixN
    rw [if_neg (by decide), List.length_append, List.length_singleton, if_pos (by omega), show -1 + ((q.length + 1 : Nat) : Int) = (q.length : Int) by omega, Int.toNat_natCast]
    show (q ++ [b])[q.length]? = some b
    rw [List.getElem?_append_right (Nat.le_refl _), Nat.sub_self]
    rfl
  · unfold cutL
    have e : HT.sIx (q ++ [b]).length 0 (some (-(1 : Int))) = q.length := by
      rw [List.length_append, List.length_singleton]
      unfold HT.sIx
      simp
      try omega
    rw [e, show HT.sIx (q ++ [b]).length (q ++ [b]).length none = (q ++ [b]).length from rfl, List.drop_left, List.length_append, Nat.add_sub_cancel_left]
    rfl
theorem pi_last {w : List Int} {n : Nat} {b : Int} (P : PI w n b) : (w = [] ∧ n = 0 ∧ b = -1) ∨ (∃ q, w = q ++ [b] ∧ 1 ≤ n ∧ (b = 0 ∨ b = 1)) := by
  rcases P with h | ⟨⟨t, e, -⟩, h1, -, hb⟩
  · exact .inl h
  · refine .inr ⟨t ++ List.replicate (n - 1) b, ?_, h1, hb⟩
    rw [List.append_assoc, e, ← List.replicate_succ', show n - 1 + 1 = n by omega]
theorem cut_last {w : List Int} {n : Nat} {b x : Int} (P : PI w n b) (hx : x = 0 ∨ x = 1) : decide (cutL w (some (-(1 : Int))) none = [x]) = decide (x = b) := by
  rcases pi_last P with ⟨rfl, rfl, rfl⟩ | ⟨q, rfl, -, -⟩
  · rw [decide_eq_false (show ¬ x = -1 by omega)]
    rfl
  · rw [(last19 q b).2]
    refine decide_eq_decide.mpr ?_
    rw [List.cons.injEq]
    exact ⟨fun h => h.1.symm, fun h => ⟨h.symm, rfl⟩⟩
structure WI (bits wire : List Int) (run : Int) (k : Int) : Prop where
  x : ∃ (n : Nat) (b : Int), run = n ∧ PI wire n b ∧ n ≤ 4 ∧ ∀ v, scan 0 (-1) 0 [] (wire ++ v) = scan n b wire.length bits v
  hb : Bits bits
  hw : Bits wire
  l1 : (bits.length : Int) = k
  l2 : (wire.length : Int) ≤ 2 * k
theorem wire_step (ns : List Int) {bits wire : List Int} {run k : Int} (k0 : 0 ≤ k) (k1 : k < 60) (I : WI bits wire run k) : ∃ b' w' r', m__law_wires_right_L0 ns k bits wire run = some (b', w', r') ∧ WI b' w' r' (k + 1) := by
  obtain ⟨⟨n, b, rfl, P, hn, hs⟩, hb, hw, l1, l2⟩ := I
  unfold m__law_wires_right_L0
  obtain ⟨d, e1, hd⟩ := draw2 ns (700 + k) (by omega) (by omega)
  rw [e1, bnd_some]
  obtain ⟨c, e2, hc⟩ : ∃ c : Bool, (ifB (decide ((0 : Int) < (List.length wire : Int))) (bnd (m__law_draw ns ((800 : Int) + k) (4 : Int)) fun law_dr_28 => some (decide ((0 : Int) < law_dr_28))) (some false)) = some c ∧ (c = true → wire ≠ []) := by
    by_cases h : (0 : Int) < (wire.length : Int)
    · obtain ⟨v, ev, -⟩ := draw_ok ns (800 + k) 4 (by omega) (by omega) (by decide)
      rw [decide_eq_true h, ifB_t, ev, bnd_some]
      exact ⟨_, rfl, fun _ z => by rw [z] at h; simp at h⟩
    · rw [decide_eq_false h, ifB_f]
      exact ⟨_, rfl, fun z => nomatch z⟩
  rw [e2, bnd_some]
  obtain ⟨x, e3, hx⟩ : ∃ x : Int, (ifB c (bnd (atI wire (-(1 : Int))) fun e_34 => some e_34) (some d)) = some x ∧ (x = 0 ∨ x = 1) := by
    cases c with
    | false => exact ⟨d, rfl, hd⟩
    | true =>
      rcases pi_last P with ⟨h, -, -⟩ | ⟨q, rfl, -, h⟩
      · exact absurd h (hc rfl)
      · rw [ifB_t, (last19 q b).1, bnd_some]
        exact ⟨b, rfl, h⟩
  rw [e3, bnd_some, cut_last P hx, ltv_eq, appG_ok (by omega), bnd_some, appG_ok (by omega), bnd_some]
  have hq : ¬ (n = 5 ∧ x = b) := fun z => by omega
  have er : (ifB (decide (x = b)) ((n : Int) + 1) 1) = ((nr n b x : Nat) : Int) := by
    unfold nr
    by_cases h : x = b
    · rw [decide_eq_true h, if_pos h]; rfl
    · rw [decide_eq_false h, if_neg h]; rfl
  have P' := P.step hx hq
  have hs' : ∀ v, scan 0 (-1) 0 [] (wire ++ [x] ++ v) = scan (nr n b x) x (wire ++ [x]).length (bits ++ [x]) v := fun v => by
    rw [List.append_assoc, hs, List.length_append]
    show scan n b wire.length bits (x :: v) = _
    rw [scan_go hq, if_neg (by omega)]
    rfl
  have hb' : Bits (bits ++ [x]) := hb.app (Bits.one hx)
  have hw' : Bits (wire ++ [x]) := hw.app (Bits.one hx)
  have hnr : nr n b x ≤ 5 := by unfold nr; split <;> omega
  rw [er]
  by_cases h5 : nr n b x = 5
  · rw [decide_eq_true (show ((nr n b x : Nat) : Int) = 5 by omega), ifB_t, appG_ok (by simp; omega), bnd_some]
    have hx2 : (1 - x = 0 ∨ 1 - x = 1) := by omega
    have q2 : ¬ (nr n b x = 5 ∧ 1 - x = x) := fun z => by omega
    have e1' : nr (nr n b x) x (1 - x) = 1 := by
      unfold nr
      rw [if_neg (by omega)]
    refine ⟨_, _, _, rfl, ⟨1, 1 - x, rfl, ?_, by decide, fun v => ?_⟩, hb', hw'.app (Bits.one hx2), by simp; omega, by simp; omega⟩
    · have := P'.step hx2 q2
      rw [e1'] at this
      exact this
    · rw [List.append_assoc, hs']
      show scan (nr n b x) x _ _ ((1 - x) :: v) = _
      rw [scan_go q2, e1', if_pos h5, List.length_append (as := wire ++ [x])]
      rfl
  · rw [decide_eq_false (show ¬ ((nr n b x : Nat) : Int) = 5 by omega), ifB_f]
    exact ⟨_, _, _, rfl, ⟨nr n b x, x, rfl, P', by omega, hs'⟩, hb', hw', by simp; omega, by simp; omega⟩
theorem scan_rep (d : Int) (v : List Int) : ∀ (j m at_ : Nat) (acc : List Int), m + j ≤ 5 → scan m d at_ acc (List.replicate j d ++ v) = scan (m + j) d (at_ + j) (acc ++ List.replicate j d) v
  | 0, m, at_, acc, _ => by
    show scan m d at_ acc v = scan m d at_ (acc ++ []) v
    rw [List.append_nil]
  | j + 1, m, at_, acc, h => by
    rw [List.replicate_succ, List.cons_append, scan_go (by omega), if_neg (by omega)]
    have e : nr m d d = m + 1 := by unfold nr; rw [if_pos rfl]
    rw [e, scan_rep d v j (m + 1) (at_ + 1) (acc ++ [d]) (by omega), List.append_assoc, show [d] ++ List.replicate j d = d :: List.replicate j d from rfl, show m + 1 + j = m + (j + 1) by omega, show at_ + 1 + j = at_ + (j + 1) by omega]
theorem wires_ok (ns : List Int) : m__law_wires_right ns = some true := by
  unfold m__law_wires_right
  obtain ⟨l, e1, l0, l1⟩ := draw_ok ns 117 60 (by decide) (by decide) (by decide)
  rw [e1, bnd_some, rng1_ok (by omega) (by omega), bnd_some]
  obtain ⟨⟨bits, wire, run⟩, e2, -, I⟩ := loopM_rng (f := fun k_20 (s : List Int × List Int × Int) => m__law_wires_right_L0 ns k_20 s.1 s.2.1 s.2.2) (hi := l) (fun k s => 0 ≤ k ∧ WI s.1 s.2.1 s.2.2 k) (fun k s hk ⟨h0, I⟩ => by
    obtain ⟨b', w', r', e, I'⟩ := wire_step ns h0 (by omega) I
    exact ⟨(b', w', r'), e, by omega, I'⟩) l.toNat 0 ([], [], 0) (by omega) (by omega) ⟨by decide, ⟨0, -1, rfl, .inl ⟨rfl, rfl, rfl⟩, by decide, fun v => rfl⟩, (fun _ h => nomatch h), (fun _ h => nomatch h), rfl, by decide⟩
  obtain ⟨⟨n, b, hr, P, hn, hs⟩, hb, hw, hl1, hl2⟩ := I
  dsimp only at hr P hs hb hw hl1 hl2
  subst hr
  rw [e2, bnd_some]
  dsimp only
  have h0 := hs []
  rw [List.append_nil] at h0
  have h0' : scan 0 (-1) 0 [] wire = .inr (n, bits) := h0
  have hu : UT wire = .inr bits := by
    unfold UT
    rw [h0']
    dsimp only
    rw [if_neg (by omega)]
  rw [taken_ok wire (by omega), hu]
  show bndO (some (.ok bits)) _ = _
  rw [bndO_ok, plain_ok bits (by omega), bnd_some, show (!true) = false from rfl, ifB_f]
  obtain ⟨d, e3, hd⟩ := draw2 ns 118 (by decide) (by decide)
  rw [e3, bnd_some, cut_last P hd]
  obtain ⟨m, e4, hm4, hm⟩ : ∃ m : Nat, (ifB (!decide (d = b)) (some (0 : Int)) (some (n : Int))) = some (m : Int) ∧ m ≤ 4 ∧ ∀ v at_ acc, scan n b at_ acc (List.replicate (5 - m) d ++ v) = scan 5 d (at_ + (5 - m)) (acc ++ List.replicate (5 - m) d) v := by
    by_cases h : d = b
    · subst h
      rw [decide_eq_true rfl]
      refine ⟨n, rfl, hn, fun v at_ acc => ?_⟩
      rw [scan_rep d v (5 - n) n at_ acc (by omega), show n + (5 - n) = 5 by omega]
    · rw [decide_eq_false h]
      refine ⟨0, rfl, by decide, fun v at_ acc => ?_⟩
      show scan n b at_ acc (d :: (List.replicate 4 d ++ v)) = _
      rw [scan_go (fun z => h z.2), if_neg (by omega)]
      have e : nr n b d = 1 := by unfold nr; rw [if_neg h]
      rw [e, scan_rep d v 4 1 (at_ + 1) (acc ++ [d]) (by decide), List.append_assoc]
      rfl
  obtain ⟨x, e5, x0, x1⟩ := draw_ok ns 119 3 (by decide) (by decide) (by decide)
  obtain ⟨x, rfl⟩ : ∃ k : Nat, x = (k : Int) := ⟨x.toNat, by omega⟩
  rw [e4, bnd_some, ltv_eq, e5, bnd_some, show (5 : Int) - (m : Int) + (x : Int) = ((5 - m + x : Nat) : Int) by omega, rep19 d _ (by omega), bnd_some, catG_ok (by simp; omega), bnd_some]
  have hat : (wire.length : Int) - (m : Int) + 5 = ((wire.length + (5 - m) : Nat) : Int) := by omega
  have hlen : (wire ++ List.replicate (5 - m + x) d).length = wire.length + (5 - m) + x := by simp; omega
  rw [hat, hlen]
  have split : ∀ t : List Int, wire ++ List.replicate (5 - m + x) d ++ t = wire ++ (List.replicate (5 - m) d ++ (List.replicate x d ++ t)) := fun t => by
    rw [List.append_assoc, List.append_cancel_left_eq, ← List.append_assoc, List.replicate_append_replicate]
  by_cases hx : x = 0
  · subst hx
    rw [decide_eq_false (by omega), ifB_f, bnd_some]
    have hsc : scan 0 (-1) 0 [] (wire ++ List.replicate (5 - m + 0) d) = .inr (5, bits ++ List.replicate (5 - m) d) := by
      have := split []
      rw [List.append_nil] at this
      rw [this, hs, hm]
      rfl
    have hut : UT (wire ++ List.replicate (5 - m + 0) d) = .inl (wire.length + (5 - m)) := by
      unfold UT
      rw [hsc]
      dsimp only
      rw [if_pos rfl, hlen, Nat.add_zero]
    have ht := taken_ok (wire ++ List.replicate (5 - m + 0) d) (by omega)
    rw [hut] at ht
    rw [no_wire_ok ht, bnd_some]
  · obtain ⟨y, e6, y0, y1⟩ := draw_ok ns 140 9 (by decide) (by decide) (by decide)
    obtain ⟨y, rfl⟩ : ∃ k : Nat, y = (k : Int) := ⟨y.toNat, by omega⟩
    obtain ⟨t, e7, tb, tl⟩ := row_ok19 ns 900 y (by decide) (by decide) (by omega)
    rw [decide_eq_true (by omega), ifB_t, e6, bnd_some, e7, bnd_some, catG_ok (by omega), bnd_some, bnd_some]
    have hsc : scan 0 (-1) 0 [] (wire ++ List.replicate (5 - m + x) d ++ t) = .inl (wire.length + (5 - m)) := by
      rw [split, hs, hm]
      obtain ⟨z, rfl⟩ : ∃ z, x = z + 1 := ⟨x - 1, by omega⟩
      rw [List.replicate_succ, List.cons_append, scan_in ⟨rfl, rfl⟩]
    have hut : UT (wire ++ List.replicate (5 - m + x) d ++ t) = .inl (wire.length + (5 - m)) := by
      unfold UT
      rw [hsc]
    have ht := taken_ok (wire ++ List.replicate (5 - m + x) d ++ t) (by rw [List.length_append]; omega)
    rw [hut] at ht
    rw [no_wire_ok ht, bnd_some]
theorem law_true (ns : List Int) (hn : ns.length ≤ 63) : m_law ns = some true := by
  unfold m_law
  rw [ltv_eq]
  obtain ⟨w, n, e⟩ : ∃ (w : Str) (n : Int), (ifB (decide ((0 : Int) < (List.length ns : Int))) (bnd (atI ns (0 : Int)) fun e_8 => bnd (powG (10 : Int) (9 : Int)) fun t_10 => bnd (modG e_8 t_10) fun t_12 => bnd (strI t_12) fun t_14 => bnd (atI ns ((List.length ns : Int) / (2 : Int))) fun e_16 => bnd (powG (10 : Int) (18 : Int)) fun t_18 => bnd (modG e_16 t_18) fun t_20 => some (t_14, t_20)) (some (("" : Str), (0 : Int)))) = some (w, n) := by
    by_cases c : (0 : Int) < (ns.length : Int)
    · have p9 : powG (10 : Int) (9 : Int) = some 1000000000 := by
        unfold powG
        rw [grd_of (by decide)]
        rfl
      have p18 : powG (10 : Int) (18 : Int) = some 1000000000000000000 := by
        unfold powG
        rw [grd_of (by decide)]
        rfl
      rw [decide_eq_true c, ifB_t, atI_ok (by decide) c, List.getElem?_eq_getElem (show (0 : Int).toNat < ns.length by omega), bnd_some, p9, bnd_some, modG_ok (by decide), bnd_some]
      have z0 := Int.emod_nonneg (ns[(0 : Int).toNat]'(by omega)) (show (1000000000 : Int) ≠ 0 by decide)
      have z1 := Int.emod_lt_of_pos (ns[(0 : Int).toNat]'(by omega)) (show (0 : Int) < 1000000000 by decide)
      generalize (ns[(0 : Int).toNat]'(by omega)) % 1000000000 = z at z0 z1
      have es : strI z = some (Str.ofString (toString z)) := grd_of (by
        have := log2_small (n := z.natAbs) (k := 30) (by omega)
        omega)
      rw [es, bnd_some, atI_ok (by omega) (by omega), List.getElem?_eq_getElem (show ((ns.length : Int) / 2).toNat < ns.length by omega), bnd_some, p18, bnd_some, modG_ok (by decide), bnd_some]
      exact ⟨_, _, rfl⟩
    · rw [decide_eq_false c, ifB_f]
      exact ⟨_, _, rfl⟩
  rw [e, bnd_some]
  dsimp only
  rw [rng10, bnd_some, loopF_unit (f := fun k_30 (_ : Unit) => m_law_L0 w n k_30) (fun k hk => by
    have := mem_rangeI hk
    unfold m_law_L0
    rw [good_ok k w n (by omega) (by omega), bnd_some, show (!true) = false from rfl, ifB_f, good_ok k _ _ (by omega) (by omega), bnd_some, show (!true) = false from rfl, bnd_some, ifB_f]), fin_nx]
  rw [numbers_ok, bnd_some, show (!true) = false from rfl, ifB_f, names_ok19, bnd_some, show (!true) = false from rfl, ifB_f, keys_ok, bnd_some, show (!true) = false from rfl, bnd_some, bnd_some, ifB_f, frames_ok19, bnd_some, ifB_t, wires_ok, bnd_some, bnd_some]
end Bt

open PySem PySem.W PyProof.Rows in
set_option maxRecDepth 100000 in
set_option maxHeartbeats 0 in
theorem PySem.Challenge.cw_bitrail_k19_refusals_apart_holds : PySem.Challenge.rw_bitrail_k19_refusals_apart.Holds := by
  w_on; o_law; k_head; (case hw => w_witness2)
  k_fill
  refine Bt.walk Bt.law_true (l := PySem.Challenge.rw_bitrail_k19_refusals_apart) rfl rfl (fun w h Y => PySem.W.kIn_of Y) ?F
  case F =>
    intro w mg fa h KX G hmg
    obtain ⟨f__law_draw, fd__law_draw, F__law_draw, g__law_draw⟩ : ∃ f fd, L2.Fun _ "_law_draw" "_law_draw" Bt.s__law_draw f fd ∧ mg "_law_draw" = some (.ref f) := by
      refine' Bt.def_mk KX G ?a ?l ?c ?k
      (case a => k_is)
      (case l => k_is)
      (case c => k_is)
      (case k => k_is)
    obtain ⟨f_bits_of, fd_bits_of, F_bits_of, g_bits_of⟩ : ∃ f fd, L2.Fun _ "bits_of" "bits_of" Bt.s_bits_of f fd ∧ mg "bits_of" = some (.ref f) := by
      refine' Bt.def_mk KX G ?a ?l ?c ?k
      (case a => k_is)
      (case l => k_is)
      (case c => k_is)
      (case k => k_is)
    obtain ⟨f_divided, fd_divided, F_divided, g_divided⟩ : ∃ f fd, L2.Fun _ "divided" "divided" Bt.s_divided f fd ∧ mg "divided" = some (.ref f) := by
      refine' Bt.def_mk KX G ?a ?l ?c ?k
      (case a => k_is)
      (case l => k_is)
      (case c => k_is)
      (case k => k_is)
    obtain ⟨f_number_of, fd_number_of, F_number_of, g_number_of⟩ : ∃ f fd, L2.Fun _ "number_of" "number_of" Bt.s_number_of f fd ∧ mg "number_of" = some (.ref f) := by
      refine' Bt.def_mk KX G ?a ?l ?c ?k
      (case a => k_is)
      (case l => k_is)
      (case c => k_is)
      (case k => k_is)
    obtain ⟨f_rest_of, fd_rest_of, F_rest_of, g_rest_of⟩ : ∃ f fd, L2.Fun _ "rest_of" "rest_of" Bt.s_rest_of f fd ∧ mg "rest_of" = some (.ref f) := by
      refine' Bt.def_mk KX G ?a ?l ?c ?k
      (case a => k_is)
      (case l => k_is)
      (case c => k_is)
      (case k => k_is)
    obtain ⟨f_check_of, fd_check_of, F_check_of, g_check_of⟩ : ∃ f fd, L2.Fun _ "check_of" "check_of" Bt.s_check_of f fd ∧ mg "check_of" = some (.ref f) := by
      refine' Bt.def_mk KX G ?a ?l ?c ?k
      (case a => k_is)
      (case l => k_is)
      (case c => k_is)
      (case k => k_is)
    obtain ⟨f_is_name, fd_is_name, F_is_name, g_is_name⟩ : ∃ f fd, L2.Fun _ "is_name" "is_name" Bt.s_is_name f fd ∧ mg "is_name" = some (.ref f) := by
      refine' Bt.def_mk KX G ?a ?l ?c ?k
      (case a => k_is)
      (case l => k_is)
      (case c => k_is)
      (case k => k_is)
    obtain ⟨f_frame_bits, fd_frame_bits, F_frame_bits, g_frame_bits⟩ : ∃ f fd, L2.Fun _ "frame_bits" "frame_bits" Bt.s_frame_bits f fd ∧ mg "frame_bits" = some (.ref f) := by
      refine' Bt.def_mk KX G ?a ?l ?c ?k
      (case a => k_is)
      (case l => k_is)
      (case c => k_is)
      (case k => k_is)
    obtain ⟨f__law_field, fd__law_field, F__law_field, g__law_field⟩ : ∃ f fd, L2.Fun _ "_law_field" "_law_field" Bt.s__law_field f fd ∧ mg "_law_field" = some (.ref f) := by
      refine' Bt.def_mk KX G ?a ?l ?c ?k
      (case a => k_is)
      (case l => k_is)
      (case c => k_is)
      (case k => k_is)
    obtain ⟨f__law_kinds, fd__law_kinds, F__law_kinds, g__law_kinds⟩ : ∃ f fd, L2.Fun _ "_law_kinds" "_law_kinds" Bt.s__law_kinds f fd ∧ mg "_law_kinds" = some (.ref f) := by
      refine' Bt.def_mk KX G ?a ?l ?c ?k
      (case a => k_is)
      (case l => k_is)
      (case c => k_is)
      (case k => k_is)
    obtain ⟨f__law_known, fd__law_known, F__law_known, g__law_known⟩ : ∃ f fd, L2.Fun _ "_law_known" "_law_known" Bt.s__law_known f fd ∧ mg "_law_known" = some (.ref f) := by
      refine' Bt.def_mk KX G ?a ?l ?c ?k
      (case a => k_is)
      (case l => k_is)
      (case c => k_is)
      (case k => k_is)
    obtain ⟨f__law_no_frame, fd__law_no_frame, F__law_no_frame, g__law_no_frame⟩ : ∃ f fd, L2.Fun _ "_law_no_frame" "_law_no_frame" Bt.s__law_no_frame f fd ∧ mg "_law_no_frame" = some (.ref f) := by
      refine' Bt.def_mk KX G ?a ?l ?c ?k
      (case a => k_is)
      (case l => k_is)
      (case c => k_is)
      (case k => k_is)
    obtain ⟨f__law_plain, fd__law_plain, F__law_plain, g__law_plain⟩ : ∃ f fd, L2.Fun _ "_law_plain" "_law_plain" Bt.s__law_plain f fd ∧ mg "_law_plain" = some (.ref f) := by
      refine' Bt.def_mk KX G ?a ?l ?c ?k
      (case a => k_is)
      (case l => k_is)
      (case c => k_is)
      (case k => k_is)
    obtain ⟨f__law_far, fd__law_far, F__law_far, g__law_far⟩ : ∃ f fd, L2.Fun _ "_law_far" "_law_far" Bt.s__law_far f fd ∧ mg "_law_far" = some (.ref f) := by
      refine' Bt.def_mk KX G ?a ?l ?c ?k
      (case a => k_is)
      (case l => k_is)
      (case c => k_is)
      (case k => k_is)
    obtain ⟨f__law_written, fd__law_written, F__law_written, g__law_written⟩ : ∃ f fd, L2.Fun _ "_law_written" "_law_written" Bt.s__law_written f fd ∧ mg "_law_written" = some (.ref f) := by
      refine' Bt.def_mk KX G ?a ?l ?c ?k
      (case a => k_is)
      (case l => k_is)
      (case c => k_is)
      (case k => k_is)
    obtain ⟨f__law_worth, fd__law_worth, F__law_worth, g__law_worth⟩ : ∃ f fd, L2.Fun _ "_law_worth" "_law_worth" Bt.s__law_worth f fd ∧ mg "_law_worth" = some (.ref f) := by
      refine' Bt.def_mk KX G ?a ?l ?c ?k
      (case a => k_is)
      (case l => k_is)
      (case c => k_is)
      (case k => k_is)
    obtain ⟨f__law_frame_due, fd__law_frame_due, F__law_frame_due, g__law_frame_due⟩ : ∃ f fd, L2.Fun _ "_law_frame_due" "_law_frame_due" Bt.s__law_frame_due f fd ∧ mg "_law_frame_due" = some (.ref f) := by
      refine' Bt.def_mk KX G ?a ?l ?c ?k
      (case a => k_is)
      (case l => k_is)
      (case c => k_is)
      (case k => k_is)
    obtain ⟨f__law_frames_right, fd__law_frames_right, F__law_frames_right, g__law_frames_right⟩ : ∃ f fd, L2.Fun _ "_law_frames_right" "_law_frames_right" Bt.s__law_frames_right f fd ∧ mg "_law_frames_right" = some (.ref f) := by
      refine' Bt.def_mk KX G ?a ?l ?c ?k
      (case a => k_is)
      (case l => k_is)
      (case c => k_is)
      (case k => k_is)
    obtain ⟨f_taken_out, fd_taken_out, F_taken_out, g_taken_out⟩ : ∃ f fd, L2.Fun _ "taken_out" "taken_out" Bt.s_taken_out f fd ∧ mg "taken_out" = some (.ref f) := by
      refine' Bt.def_mk KX G ?a ?l ?c ?k
      (case a => k_is)
      (case l => k_is)
      (case c => k_is)
      (case k => k_is)
    obtain ⟨f__law_no_wire, fd__law_no_wire, F__law_no_wire, g__law_no_wire⟩ : ∃ f fd, L2.Fun _ "_law_no_wire" "_law_no_wire" Bt.s__law_no_wire f fd ∧ mg "_law_no_wire" = some (.ref f) := by
      refine' Bt.def_mk KX G ?a ?l ?c ?k
      (case a => k_is)
      (case l => k_is)
      (case c => k_is)
      (case k => k_is)
    obtain ⟨f__law_row, fd__law_row, F__law_row, g__law_row⟩ : ∃ f fd, L2.Fun _ "_law_row" "_law_row" Bt.s__law_row f fd ∧ mg "_law_row" = some (.ref f) := by
      refine' Bt.def_mk KX G ?a ?l ?c ?k
      (case a => k_is)
      (case l => k_is)
      (case c => k_is)
      (case k => k_is)
    obtain ⟨f__law_wires_right, fd__law_wires_right, F__law_wires_right, g__law_wires_right⟩ : ∃ f fd, L2.Fun _ "_law_wires_right" "_law_wires_right" Bt.s__law_wires_right f fd ∧ mg "_law_wires_right" = some (.ref f) := by
      refine' Bt.def_mk KX G ?a ?l ?c ?k
      (case a => k_is)
      (case l => k_is)
      (case c => k_is)
      (case k => k_is)
    obtain ⟨f__law_no_bits, fd__law_no_bits, F__law_no_bits, g__law_no_bits⟩ : ∃ f fd, L2.Fun _ "_law_no_bits" "_law_no_bits" Bt.s__law_no_bits f fd ∧ mg "_law_no_bits" = some (.ref f) := by
      refine' Bt.def_mk KX G ?a ?l ?c ?k
      (case a => k_is)
      (case l => k_is)
      (case c => k_is)
      (case k => k_is)
    obtain ⟨f__law_numbers_right, fd__law_numbers_right, F__law_numbers_right, g__law_numbers_right⟩ : ∃ f fd, L2.Fun _ "_law_numbers_right" "_law_numbers_right" Bt.s__law_numbers_right f fd ∧ mg "_law_numbers_right" = some (.ref f) := by
      refine' Bt.def_mk KX G ?a ?l ?c ?k
      (case a => k_is)
      (case l => k_is)
      (case c => k_is)
      (case k => k_is)
    obtain ⟨f_bit_at, fd_bit_at, F_bit_at, g_bit_at⟩ : ∃ f fd, L2.Fun _ "bit_at" "bit_at" Bt.s_bit_at f fd ∧ mg "bit_at" = some (.ref f) := by
      refine' Bt.def_mk KX G ?a ?l ?c ?k
      (case a => k_is)
      (case l => k_is)
      (case c => k_is)
      (case k => k_is)
    obtain ⟨f_duel, fd_duel, F_duel, g_duel⟩ : ∃ f fd, L2.Fun _ "duel" "duel" Bt.s_duel f fd ∧ mg "duel" = some (.ref f) := by
      refine' Bt.def_mk KX G ?a ?l ?c ?k
      (case a => k_is)
      (case l => k_is)
      (case c => k_is)
      (case k => k_is)
    obtain ⟨f__law_duel_right, fd__law_duel_right, F__law_duel_right, g__law_duel_right⟩ : ∃ f fd, L2.Fun _ "_law_duel_right" "_law_duel_right" Bt.s__law_duel_right f fd ∧ mg "_law_duel_right" = some (.ref f) := by
      refine' Bt.def_mk KX G ?a ?l ?c ?k
      (case a => k_is)
      (case l => k_is)
      (case c => k_is)
      (case k => k_is)
    obtain ⟨f__law_no_name, fd__law_no_name, F__law_no_name, g__law_no_name⟩ : ∃ f fd, L2.Fun _ "_law_no_name" "_law_no_name" Bt.s__law_no_name f fd ∧ mg "_law_no_name" = some (.ref f) := by
      refine' Bt.def_mk KX G ?a ?l ?c ?k
      (case a => k_is)
      (case l => k_is)
      (case c => k_is)
      (case k => k_is)
    obtain ⟨f__law_names_right, fd__law_names_right, F__law_names_right, g__law_names_right⟩ : ∃ f fd, L2.Fun _ "_law_names_right" "_law_names_right" Bt.s__law_names_right f fd ∧ mg "_law_names_right" = some (.ref f) := by
      refine' Bt.def_mk KX G ?a ?l ?c ?k
      (case a => k_is)
      (case l => k_is)
      (case c => k_is)
      (case k => k_is)
    obtain ⟨f__law_no_key, fd__law_no_key, F__law_no_key, g__law_no_key⟩ : ∃ f fd, L2.Fun _ "_law_no_key" "_law_no_key" Bt.s__law_no_key f fd ∧ mg "_law_no_key" = some (.ref f) := by
      refine' Bt.def_mk KX G ?a ?l ?c ?k
      (case a => k_is)
      (case l => k_is)
      (case c => k_is)
      (case k => k_is)
    obtain ⟨f__law_keys_right, fd__law_keys_right, F__law_keys_right, g__law_keys_right⟩ : ∃ f fd, L2.Fun _ "_law_keys_right" "_law_keys_right" Bt.s__law_keys_right f fd ∧ mg "_law_keys_right" = some (.ref f) := by
      refine' Bt.def_mk KX G ?a ?l ?c ?k
      (case a => k_is)
      (case l => k_is)
      (case c => k_is)
      (case k => k_is)
    obtain ⟨f__law_raised, fd__law_raised, F__law_raised, g__law_raised⟩ : ∃ f fd, L2.Fun _ "_law_raised" "_law_raised" Bt.s__law_raised f fd ∧ mg "_law_raised" = some (.ref f) := by
      refine' Bt.def_mk KX G ?a ?l ?c ?k
      (case a => k_is)
      (case l => k_is)
      (case c => k_is)
      (case k => k_is)
    obtain ⟨f__law_good, fd__law_good, F__law_good, g__law_good⟩ : ∃ f fd, L2.Fun _ "_law_good" "_law_good" Bt.s__law_good f fd ∧ mg "_law_good" = some (.ref f) := by
      refine' Bt.def_mk KX G ?a ?l ?c ?k
      (case a => k_is)
      (case l => k_is)
      (case c => k_is)
      (case k => k_is)
    obtain ⟨f_law, fd_law, F_law, g_law⟩ : ∃ f fd, L2.Fun _ "law" "law" Bt.s_law f fd ∧ mg "law" = some (.ref f) := by
      refine' Bt.def_mk KX G ?a ?l ?c ?k
      (case a => k_is)
      (case l => k_is)
      (case c => k_is)
      (case k => k_is)
    have z_ValueError : mg "ValueError" = none := PySem.W.mg_none_of KX G (by k_is)
    have z_bool : mg "bool" = none := PySem.W.mg_none_of KX G (by k_is)
    have z_enumerate : mg "enumerate" = none := PySem.W.mg_none_of KX G (by k_is)
    have z_int : mg "int" = none := PySem.W.mg_none_of KX G (by k_is)
    have z_isinstance : mg "isinstance" = none := PySem.W.mg_none_of KX G (by k_is)
    have z_len : mg "len" = none := PySem.W.mg_none_of KX G (by k_is)
    have z_list : mg "list" = none := PySem.W.mg_none_of KX G (by k_is)
    have z_min : mg "min" = none := PySem.W.mg_none_of KX G (by k_is)
    have z_range : mg "range" = none := PySem.W.mg_none_of KX G (by k_is)
    have z_reversed : mg "reversed" = none := PySem.W.mg_none_of KX G (by k_is)
    have z_set : mg "set" = none := PySem.W.mg_none_of KX G (by k_is)
    have z_str : mg "str" = none := PySem.W.mg_none_of KX G (by k_is)
    have z_tuple : mg "tuple" = none := PySem.W.mg_none_of KX G (by k_is)
    have g_KEY : Bt.Gv mg "KEY" (.int 64647) := by
      refine' Bt.gv_int KX G ?a
      (case a => k_is)
    have g_WIDE : Bt.Gv mg "WIDE" (.int 15) := by
      refine' Bt.gv_int KX G ?a
      (case a => k_is)
    obtain ⟨es, f_NoWire_init, fd_NoWire_init, f_NoRow_init, fd_NoRow_init, n_NoBits, n_NoFrame, n_NoKey, n_NoName, n_NoPost, n_NoRail, n_NoRow, n_NoStrip, n_NoThing, n_NoWire, n_RailError, e_NoBits, e_NoFrame, e_NoKey, e_NoName, e_NoPost, e_NoRail, e_NoStrip, e_NoThing, F_NoWire_init, I_NoWire, F_NoRow_init, I_NoRow, X_NoRow, Y_NoRow, X_NoWire, Y_NoWire, EC⟩ : ∃ (es : Bt.Eds) (f_NoWire_init : Addr) (fd_NoWire_init : FuncData) (f_NoRow_init : Addr) (fd_NoRow_init : FuncData), mg "NoBits" = some (.ref es.NoBits) ∧ mg "NoFrame" = some (.ref es.NoFrame) ∧ mg "NoKey" = some (.ref es.NoKey) ∧ mg "NoName" = some (.ref es.NoName) ∧ mg "NoPost" = some (.ref es.NoPost) ∧ mg "NoRail" = some (.ref es.NoRail) ∧ mg "NoRow" = some (.ref es.NoRow) ∧ mg "NoStrip" = some (.ref es.NoStrip) ∧ mg "NoThing" = some (.ref es.NoThing) ∧ mg "NoWire" = some (.ref es.NoWire) ∧ mg "RailError" = some (.ref es.RailError) ∧ Bt.ErrC _ mg "NoBits" es.NoBits ∧ Bt.ErrC _ mg "NoFrame" es.NoFrame ∧ Bt.ErrC _ mg "NoKey" es.NoKey ∧ Bt.ErrC _ mg "NoName" es.NoName ∧ Bt.ErrC _ mg "NoPost" es.NoPost ∧ Bt.ErrC _ mg "NoRail" es.NoRail ∧ Bt.ErrC _ mg "NoStrip" es.NoStrip ∧ Bt.ErrC _ mg "NoThing" es.NoThing ∧ L2.Fun _ "__init__" "NoWire.__init__" Bt.s_NoWire_init f_NoWire_init fd_NoWire_init ∧ Bt.InF _ mg es.NoWire es.RailError f_NoWire_init "at" ∧ L2.Fun _ "__init__" "NoRow.__init__" Bt.s_NoRow_init f_NoRow_init fd_NoRow_init ∧ Bt.InF _ mg es.NoRow es.RailError f_NoRow_init "word" ∧ L2.XfC _ es.NoRow ∧ PySem.W.findIn _ (.ref es.NoRow) "word" = some none ∧ L2.XfC _ es.NoWire ∧ PySem.W.findIn _ (.ref es.NoWire) "at" = some none ∧ Bt.EcF _ es Bt.ks := by
      refine' Bt.pack KX G ?a_NoBits ?a_NoFrame ?a_NoKey ?a_NoName ?a_NoPost ?a_NoRail ?a_NoRow ?a_NoStrip ?a_NoThing ?a_NoWire ?a_RailError ?e_NoBits ?k_NoBits ?s_NoBits ?t_NoBits ?e_NoFrame ?k_NoFrame ?s_NoFrame ?t_NoFrame ?e_NoKey ?k_NoKey ?s_NoKey ?t_NoKey ?e_NoName ?k_NoName ?s_NoName ?t_NoName ?e_NoPost ?k_NoPost ?s_NoPost ?t_NoPost ?e_NoRail ?k_NoRail ?s_NoRail ?t_NoRail ?e_NoStrip ?k_NoStrip ?s_NoStrip ?t_NoStrip ?e_NoThing ?k_NoThing ?s_NoThing ?t_NoThing ?iga ?ird ?ivV ?lo_NoWire ?sa_NoWire ?xs_NoWire ?xt_NoWire ?xk_NoWire ?ii_NoWire ?it_NoWire ?in_NoWire ?il_NoWire ?ic_NoWire ?ik_NoWire ?lo_NoRow ?sa_NoRow ?xs_NoRow ?xt_NoRow ?xk_NoRow ?ii_NoRow ?it_NoRow ?in_NoRow ?il_NoRow ?ic_NoRow ?ik_NoRow ?xg_NoRow ?xh_NoRow ?xb_NoRow ?xd_NoRow ?xn_NoRow ?xg_NoWire ?xh_NoWire ?xb_NoWire ?xd_NoWire ?xn_NoWire ?q_NoBits ?q_NoName ?q_NoKey ?q_NoFrame ?q_NoPost ?q_NoThing ?q_NoStrip ?q_NoRail ?q_NoWire ?q_NoRow ?q_RailError ?r_NoBits ?p_NoBits_NoBits ?p_NoBits_NoName ?p_NoBits_NoKey ?p_NoBits_NoFrame ?p_NoBits_NoPost ?p_NoBits_NoThing ?p_NoBits_NoStrip ?p_NoBits_NoRail ?p_NoBits_NoWire ?p_NoBits_NoRow ?r_NoName ?p_NoName_NoBits ?p_NoName_NoName ?p_NoName_NoKey ?p_NoName_NoFrame ?p_NoName_NoPost ?p_NoName_NoThing ?p_NoName_NoStrip ?p_NoName_NoRail ?p_NoName_NoWire ?p_NoName_NoRow ?r_NoKey ?p_NoKey_NoBits ?p_NoKey_NoName ?p_NoKey_NoKey ?p_NoKey_NoFrame ?p_NoKey_NoPost ?p_NoKey_NoThing ?p_NoKey_NoStrip ?p_NoKey_NoRail ?p_NoKey_NoWire ?p_NoKey_NoRow ?r_NoFrame ?p_NoFrame_NoBits ?p_NoFrame_NoName ?p_NoFrame_NoKey ?p_NoFrame_NoFrame ?p_NoFrame_NoPost ?p_NoFrame_NoThing ?p_NoFrame_NoStrip ?p_NoFrame_NoRail ?p_NoFrame_NoWire ?p_NoFrame_NoRow ?r_NoPost ?p_NoPost_NoBits ?p_NoPost_NoName ?p_NoPost_NoKey ?p_NoPost_NoFrame ?p_NoPost_NoPost ?p_NoPost_NoThing ?p_NoPost_NoStrip ?p_NoPost_NoRail ?p_NoPost_NoWire ?p_NoPost_NoRow ?r_NoThing ?p_NoThing_NoBits ?p_NoThing_NoName ?p_NoThing_NoKey ?p_NoThing_NoFrame ?p_NoThing_NoPost ?p_NoThing_NoThing ?p_NoThing_NoStrip ?p_NoThing_NoRail ?p_NoThing_NoWire ?p_NoThing_NoRow ?r_NoStrip ?p_NoStrip_NoBits ?p_NoStrip_NoName ?p_NoStrip_NoKey ?p_NoStrip_NoFrame ?p_NoStrip_NoPost ?p_NoStrip_NoThing ?p_NoStrip_NoStrip ?p_NoStrip_NoRail ?p_NoStrip_NoWire ?p_NoStrip_NoRow ?r_NoRail ?p_NoRail_NoBits ?p_NoRail_NoName ?p_NoRail_NoKey ?p_NoRail_NoFrame ?p_NoRail_NoPost ?p_NoRail_NoThing ?p_NoRail_NoStrip ?p_NoRail_NoRail ?p_NoRail_NoWire ?p_NoRail_NoRow ?r_NoWire ?p_NoWire_NoBits ?p_NoWire_NoName ?p_NoWire_NoKey ?p_NoWire_NoFrame ?p_NoWire_NoPost ?p_NoWire_NoThing ?p_NoWire_NoStrip ?p_NoWire_NoRail ?p_NoWire_NoWire ?p_NoWire_NoRow ?r_NoRow ?p_NoRow_NoBits ?p_NoRow_NoName ?p_NoRow_NoKey ?p_NoRow_NoFrame ?p_NoRow_NoPost ?p_NoRow_NoThing ?p_NoRow_NoStrip ?p_NoRow_NoRail ?p_NoRow_NoWire ?p_NoRow_NoRow ?hn ?ht
      (case a_NoBits => k_is)
      (case a_NoFrame => k_is)
      (case a_NoKey => k_is)
      (case a_NoName => k_is)
      (case a_NoPost => k_is)
      (case a_NoRail => k_is)
      (case a_NoRow => k_is)
      (case a_NoStrip => k_is)
      (case a_NoThing => k_is)
      (case a_NoWire => k_is)
      (case a_RailError => k_is)
      (case e_NoBits => first | k_exc | k_is | decide +kernel)
      (case k_NoBits => k_is)
      (case s_NoBits => k_is)
      (case t_NoBits => k_is)
      (case e_NoFrame => first | k_exc | k_is | decide +kernel)
      (case k_NoFrame => k_is)
      (case s_NoFrame => k_is)
      (case t_NoFrame => k_is)
      (case e_NoKey => first | k_exc | k_is | decide +kernel)
      (case k_NoKey => k_is)
      (case s_NoKey => k_is)
      (case t_NoKey => k_is)
      (case e_NoName => first | k_exc | k_is | decide +kernel)
      (case k_NoName => k_is)
      (case s_NoName => k_is)
      (case t_NoName => k_is)
      (case e_NoPost => first | k_exc | k_is | decide +kernel)
      (case k_NoPost => k_is)
      (case s_NoPost => k_is)
      (case t_NoPost => k_is)
      (case e_NoRail => first | k_exc | k_is | decide +kernel)
      (case k_NoRail => k_is)
      (case s_NoRail => k_is)
      (case t_NoRail => k_is)
      (case e_NoStrip => first | k_exc | k_is | decide +kernel)
      (case k_NoStrip => k_is)
      (case s_NoStrip => k_is)
      (case t_NoStrip => k_is)
      (case e_NoThing => first | k_exc | k_is | decide +kernel)
      (case k_NoThing => k_is)
      (case s_NoThing => k_is)
      (case t_NoThing => k_is)
      (case iga => k_is)
      (case ird => k_is)
      (case ivV => k_is)
      (case lo_NoWire => exact ⟨_, _, _, _, _, _, _, _, _, _, _, _, _, _, _, by k_is, by decide +kernel⟩)
      (case sa_NoWire => k_is)
      (case xs_NoWire => k_is)
      (case xt_NoWire => k_is)
      (case xk_NoWire => k_is)
      (case ii_NoWire => k_is)
      (case it_NoWire => k_is)
      (case in_NoWire => k_is)
      (case il_NoWire => k_is)
      (case ic_NoWire => k_is)
      (case ik_NoWire => k_is)
      (case lo_NoRow => exact ⟨_, _, _, _, _, _, _, _, _, _, _, _, _, _, _, by k_is, by decide +kernel⟩)
      (case sa_NoRow => k_is)
      (case xs_NoRow => k_is)
      (case xt_NoRow => k_is)
      (case xk_NoRow => k_is)
      (case ii_NoRow => k_is)
      (case it_NoRow => k_is)
      (case in_NoRow => k_is)
      (case il_NoRow => k_is)
      (case ic_NoRow => k_is)
      (case ik_NoRow => k_is)
      (case xg_NoRow => k_is)
      (case xh_NoRow => k_is)
      (case xb_NoRow => k_is)
      (case xd_NoRow => k_is)
      (case xn_NoRow => k_is)
      (case xg_NoWire => k_is)
      (case xh_NoWire => k_is)
      (case xb_NoWire => k_is)
      (case xd_NoWire => k_is)
      (case xn_NoWire => k_is)
      (case q_NoBits => exact ⟨by k_is, by k_is, by k_is, by k_is, by k_is, by k_is, by k_is, by k_is⟩)
      (case q_NoName => exact ⟨by k_is, by k_is, by k_is, by k_is, by k_is, by k_is, by k_is, by k_is⟩)
      (case q_NoKey => exact ⟨by k_is, by k_is, by k_is, by k_is, by k_is, by k_is, by k_is, by k_is⟩)
      (case q_NoFrame => exact ⟨by k_is, by k_is, by k_is, by k_is, by k_is, by k_is, by k_is, by k_is⟩)
      (case q_NoPost => exact ⟨by k_is, by k_is, by k_is, by k_is, by k_is, by k_is, by k_is, by k_is⟩)
      (case q_NoThing => exact ⟨by k_is, by k_is, by k_is, by k_is, by k_is, by k_is, by k_is, by k_is⟩)
      (case q_NoStrip => exact ⟨by k_is, by k_is, by k_is, by k_is, by k_is, by k_is, by k_is, by k_is⟩)
      (case q_NoRail => exact ⟨by k_is, by k_is, by k_is, by k_is, by k_is, by k_is, by k_is, by k_is⟩)
      (case q_NoWire => exact ⟨by k_is, by k_is, by k_is, by k_is, by k_is, by k_is, by k_is, by k_is⟩)
      (case q_NoRow => exact ⟨by k_is, by k_is, by k_is, by k_is, by k_is, by k_is, by k_is, by k_is⟩)
      (case q_RailError => exact ⟨by k_is, by k_is, by k_is, by k_is, by k_is, by k_is, by k_is, by k_is⟩)
      (case r_NoBits => k_is)
      (case p_NoBits_NoBits => k_is)
      (case p_NoBits_NoName => k_is)
      (case p_NoBits_NoKey => k_is)
      (case p_NoBits_NoFrame => k_is)
      (case p_NoBits_NoPost => k_is)
      (case p_NoBits_NoThing => k_is)
      (case p_NoBits_NoStrip => k_is)
      (case p_NoBits_NoRail => k_is)
      (case p_NoBits_NoWire => k_is)
      (case p_NoBits_NoRow => k_is)
      (case r_NoName => k_is)
      (case p_NoName_NoBits => k_is)
      (case p_NoName_NoName => k_is)
      (case p_NoName_NoKey => k_is)
      (case p_NoName_NoFrame => k_is)
      (case p_NoName_NoPost => k_is)
      (case p_NoName_NoThing => k_is)
      (case p_NoName_NoStrip => k_is)
      (case p_NoName_NoRail => k_is)
      (case p_NoName_NoWire => k_is)
      (case p_NoName_NoRow => k_is)
      (case r_NoKey => k_is)
      (case p_NoKey_NoBits => k_is)
      (case p_NoKey_NoName => k_is)
      (case p_NoKey_NoKey => k_is)
      (case p_NoKey_NoFrame => k_is)
      (case p_NoKey_NoPost => k_is)
      (case p_NoKey_NoThing => k_is)
      (case p_NoKey_NoStrip => k_is)
      (case p_NoKey_NoRail => k_is)
      (case p_NoKey_NoWire => k_is)
      (case p_NoKey_NoRow => k_is)
      (case r_NoFrame => k_is)
      (case p_NoFrame_NoBits => k_is)
      (case p_NoFrame_NoName => k_is)
      (case p_NoFrame_NoKey => k_is)
      (case p_NoFrame_NoFrame => k_is)
      (case p_NoFrame_NoPost => k_is)
      (case p_NoFrame_NoThing => k_is)
      (case p_NoFrame_NoStrip => k_is)
      (case p_NoFrame_NoRail => k_is)
      (case p_NoFrame_NoWire => k_is)
      (case p_NoFrame_NoRow => k_is)
      (case r_NoPost => k_is)
      (case p_NoPost_NoBits => k_is)
      (case p_NoPost_NoName => k_is)
      (case p_NoPost_NoKey => k_is)
      (case p_NoPost_NoFrame => k_is)
      (case p_NoPost_NoPost => k_is)
      (case p_NoPost_NoThing => k_is)
      (case p_NoPost_NoStrip => k_is)
      (case p_NoPost_NoRail => k_is)
      (case p_NoPost_NoWire => k_is)
      (case p_NoPost_NoRow => k_is)
      (case r_NoThing => k_is)
      (case p_NoThing_NoBits => k_is)
      (case p_NoThing_NoName => k_is)
      (case p_NoThing_NoKey => k_is)
      (case p_NoThing_NoFrame => k_is)
      (case p_NoThing_NoPost => k_is)
      (case p_NoThing_NoThing => k_is)
      (case p_NoThing_NoStrip => k_is)
      (case p_NoThing_NoRail => k_is)
      (case p_NoThing_NoWire => k_is)
      (case p_NoThing_NoRow => k_is)
      (case r_NoStrip => k_is)
      (case p_NoStrip_NoBits => k_is)
      (case p_NoStrip_NoName => k_is)
      (case p_NoStrip_NoKey => k_is)
      (case p_NoStrip_NoFrame => k_is)
      (case p_NoStrip_NoPost => k_is)
      (case p_NoStrip_NoThing => k_is)
      (case p_NoStrip_NoStrip => k_is)
      (case p_NoStrip_NoRail => k_is)
      (case p_NoStrip_NoWire => k_is)
      (case p_NoStrip_NoRow => k_is)
      (case r_NoRail => k_is)
      (case p_NoRail_NoBits => k_is)
      (case p_NoRail_NoName => k_is)
      (case p_NoRail_NoKey => k_is)
      (case p_NoRail_NoFrame => k_is)
      (case p_NoRail_NoPost => k_is)
      (case p_NoRail_NoThing => k_is)
      (case p_NoRail_NoStrip => k_is)
      (case p_NoRail_NoRail => k_is)
      (case p_NoRail_NoWire => k_is)
      (case p_NoRail_NoRow => k_is)
      (case r_NoWire => k_is)
      (case p_NoWire_NoBits => k_is)
      (case p_NoWire_NoName => k_is)
      (case p_NoWire_NoKey => k_is)
      (case p_NoWire_NoFrame => k_is)
      (case p_NoWire_NoPost => k_is)
      (case p_NoWire_NoThing => k_is)
      (case p_NoWire_NoStrip => k_is)
      (case p_NoWire_NoRail => k_is)
      (case p_NoWire_NoWire => k_is)
      (case p_NoWire_NoRow => k_is)
      (case r_NoRow => k_is)
      (case p_NoRow_NoBits => k_is)
      (case p_NoRow_NoName => k_is)
      (case p_NoRow_NoKey => k_is)
      (case p_NoRow_NoFrame => k_is)
      (case p_NoRow_NoPost => k_is)
      (case p_NoRow_NoThing => k_is)
      (case p_NoRow_NoStrip => k_is)
      (case p_NoRow_NoRail => k_is)
      (case p_NoRow_NoWire => k_is)
      (case p_NoRow_NoRow => k_is)
      (case hn => k_is)
      (case ht => k_is)
    cases hmg.symm.trans g_law
    refine ⟨fd_law, ?_, fun base _ _ => Bt.ok_law (ad := ⟨f__law_draw, fd__law_draw, f_bits_of, fd_bits_of, f_divided, fd_divided, f_number_of, fd_number_of, f_rest_of, fd_rest_of, f_check_of, fd_check_of, f_is_name, fd_is_name, f_frame_bits, fd_frame_bits, f__law_field, fd__law_field, f__law_kinds, fd__law_kinds, f__law_known, fd__law_known, f__law_no_frame, fd__law_no_frame, f__law_plain, fd__law_plain, f__law_far, fd__law_far, f__law_written, fd__law_written, f__law_worth, fd__law_worth, f__law_frame_due, fd__law_frame_due, f__law_frames_right, fd__law_frames_right, f_NoWire_init, fd_NoWire_init, f_taken_out, fd_taken_out, f__law_no_wire, fd__law_no_wire, f__law_row, fd__law_row, f__law_wires_right, fd__law_wires_right, f__law_no_bits, fd__law_no_bits, f__law_numbers_right, fd__law_numbers_right, f_bit_at, fd_bit_at, f_duel, fd_duel, f__law_duel_right, fd__law_duel_right, f__law_no_name, fd__law_no_name, f__law_names_right, fd__law_names_right, f__law_no_key, fd__law_no_key, f__law_keys_right, fd__law_keys_right, f_NoRow_init, fd_NoRow_init, f__law_raised, fd__law_raised, f__law_good, fd__law_good, fa, fd_law, es⟩) ⟨F__law_draw, g__law_draw, Bt.bd__law_draw F__law_draw, F_bits_of, g_bits_of, Bt.bd_bits_of F_bits_of, F_divided, g_divided, Bt.bd_divided F_divided, F_number_of, g_number_of, Bt.bd_number_of F_number_of, F_rest_of, g_rest_of, Bt.bd_rest_of F_rest_of, F_check_of, g_check_of, Bt.bd_check_of F_check_of, F_is_name, g_is_name, Bt.bd_is_name F_is_name, F_frame_bits, g_frame_bits, Bt.bd_frame_bits F_frame_bits, F__law_field, g__law_field, Bt.bd__law_field F__law_field, F__law_kinds, g__law_kinds, Bt.bd__law_kinds F__law_kinds, F__law_known, g__law_known, Bt.bd__law_known F__law_known, F__law_no_frame, g__law_no_frame, Bt.bd__law_no_frame F__law_no_frame, F__law_plain, g__law_plain, Bt.bd__law_plain F__law_plain, F__law_far, g__law_far, Bt.bd__law_far F__law_far, F__law_written, g__law_written, Bt.bd__law_written F__law_written, F__law_worth, g__law_worth, Bt.bd__law_worth F__law_worth, F__law_frame_due, g__law_frame_due, Bt.bd__law_frame_due F__law_frame_due, F__law_frames_right, g__law_frames_right, Bt.bd__law_frames_right F__law_frames_right, F_NoWire_init, Bt.bd_NoWire_init F_NoWire_init, F_taken_out, g_taken_out, Bt.bd_taken_out F_taken_out, F__law_no_wire, g__law_no_wire, Bt.bd__law_no_wire F__law_no_wire, F__law_row, g__law_row, Bt.bd__law_row F__law_row, F__law_wires_right, g__law_wires_right, Bt.bd__law_wires_right F__law_wires_right, F__law_no_bits, g__law_no_bits, Bt.bd__law_no_bits F__law_no_bits, F__law_numbers_right, g__law_numbers_right, Bt.bd__law_numbers_right F__law_numbers_right, F_bit_at, g_bit_at, Bt.bd_bit_at F_bit_at, F_duel, g_duel, Bt.bd_duel F_duel, F__law_duel_right, g__law_duel_right, Bt.bd__law_duel_right F__law_duel_right, F__law_no_name, g__law_no_name, Bt.bd__law_no_name F__law_no_name, F__law_names_right, g__law_names_right, Bt.bd__law_names_right F__law_names_right, F__law_no_key, g__law_no_key, Bt.bd__law_no_key F__law_no_key, F__law_keys_right, g__law_keys_right, Bt.bd__law_keys_right F__law_keys_right, F_NoRow_init, Bt.bd_NoRow_init F_NoRow_init, F__law_raised, g__law_raised, Bt.bd__law_raised F__law_raised, F__law_good, g__law_good, Bt.bd__law_good F__law_good, F_law, g_law, Bt.bd_law F_law, z_ValueError, z_bool, z_enumerate, z_int, z_isinstance, z_len, z_list, z_min, z_range, z_reversed, z_set, z_str, z_tuple, g_KEY, g_WIDE, e_NoBits, e_NoFrame, e_NoKey, e_NoName, e_NoPost, e_NoRail, e_NoStrip, e_NoThing, n_NoBits, n_NoFrame, n_NoKey, n_NoName, n_NoPost, n_NoRail, n_NoRow, n_NoStrip, n_NoThing, n_NoWire, n_RailError, X_NoRow, Y_NoRow, X_NoWire, Y_NoWire, EC, I_NoWire, I_NoRow⟩⟩
    obtain ⟨oc, od, kV, doc, pm, an, cdv, ct, osl, rfl, lk, hcd⟩ := F_law.ex
    exact fun s u => .of_eq rfl
