import PyProof.Rows.All
import Wide.All
import OpenK.AllK
import Wide.FinOn
import HandS.ForMost
import HandS.Exc
import HandS.TryOnly
import HandS.ExcOwn
import HandS.WordsExc
import HandS.IsInst
import HandS.Wide
import HandS.WideBits
import HandS.Flow
import HandS.Evl
import HandS.TryMany
import HandS.Style
import HandS.SortKw
import KE.DatumOrd
import HandS.ExcIs
import HandS.HotCalls
import KE.KExcIs
import HandS.ExcInit
import HandS.ExcField
import HandS.Deep
import HandS.Iter
import HandS.Text
import HandS.Codes
import HandS.StrMore
import HandS.Replace
import HandS.Zip
import HandS.SortInts
import KE.DataCmp
import HandS.Head0
import HandS.Head1
import HandS.Head2
import HandS.HeadEnd
import HandS.HeadHook1
import HandS.HeadHook2
import PyProof.ListOps
import HandS.More
import PySem.Challenge.RW_bitrail_k05_a_duel
set_option Elab.async false
set_option linter.all false
set_option maxRecDepth 100000
set_option maxHeartbeats 4000000
/-! The base of all proofs over bitrail: owned cells over a frame, and the readings' steps, one a construct. -/
namespace Bt
open PySem L2
theorem n1 {α β : Type} {f : α → β} : List.map f [] = [] := rfl
theorem n2 {α : Type} {l : List α} {L : List (List α)} : (l :: L).flatten = l ++ L.flatten := List.flatten_cons
theorem n3 {α : Type} : ([] : List (List α)).flatten = [] := rfl
theorem n4 {α : Type} {a : α} {l m : List α} : (a :: l) ++ m = a :: (l ++ m) := rfl
theorem n5 {α : Type} {l : List α} : [] ++ l = l := rfl
theorem n6 {α : Type} {l : List α} : l ++ [] = l := List.append_nil l
theorem n7 {α : Type} {l m n : List α} : (l ++ m) ++ n = l ++ (m ++ n) := List.append_assoc l m n
theorem hd_ {α : Type} {a : α} {l : List α} : a ∈ a :: l := List.Mem.head _
theorem tl_ {α : Type} {a b : α} {l : List α} (h : a ∈ l) : a ∈ b :: l := List.Mem.tail _ h

/-! ### owned cells -/
abbrev Cell := Addr × HO
abbrev Ex (H H' : Hp) : Prop := ∀ a o, H a = some o → H' a = some o
theorem Ex.refl (H : Hp) : Ex H H := fun _ _ h => h
theorem Ex.trans {H H1 H2 : Hp} (a : Ex H H1) (b : Ex H1 H2) : Ex H H2 := fun x o h => b x o (a x o h)
theorem Ex.new {H : Hp} {p : Addr} {o : HO} (h : H p = none) : Ex H (upd H p o) := fun a u e => by
  rw [upd_ne (ne_of_none e h)]
  exact e
theorem Ex.back {H H' : Hp} {p : Addr} (e : Ex H H') (h : H' p = none) : H p = none := by
  cases h1 : H p with
  | none => rfl
  | some o =>
    rw [e p o h1] at h
    cases h
theorem Ex.rd {H H' : Hp} {a : Addr} {u : HO} (e : Ex H H') (h : Rd H a u) : Rd H' a u := by
  rcases h with h | ⟨o, h⟩
  · exact Or.inl (e a _ h)
  · exact Or.inr ⟨o, e a _ h⟩
theorem Ex.l {K : PySem.W.Frag} {H H' : Hp} {a : Addr} {xs : List V} (e : Ex H H') (h : SqL K H a xs) : SqL K H' a xs := by
  rcases h with h | h
  · exact Or.inl (e.rd h)
  · exact Or.inr h
theorem Ex.t {K : PySem.W.Frag} {H H' : Hp} {a : Addr} {xs : List V} (e : Ex H H') (h : SqT K H a xs) : SqT K H' a xs := by
  rcases h with h | h
  · exact Or.inl (e.rd h)
  · exact Or.inr h

/-- H holds the frame R, and beside it the cells L, at unlike places that R does not know -/
structure Own (R H : Hp) (L : List Cell) : Prop where
  ex : Ex R H
  at_ : ∀ c ∈ L, H c.1 = some c.2
  fr : ∀ c ∈ L, R c.1 = none
  nd : (L.map (·.1)).Nodup

section
variable {R H H' : Hp} {L L' A B C : List Cell} {a p q : Addr} {o o' : HO}
theorem Own.start (H : Hp) : Own H H [] := ⟨Ex.refl H, fun _ h => (nomatch h), fun _ h => (nomatch h), List.Pairwise.nil⟩
theorem Own.mem (O : Own R H L) (h : (a, o) ∈ L) : H a = some o := O.at_ _ h
theorem Own.g0 {c1 : Cell} (O : Own R H (c1 :: L)) : H c1.1 = some c1.2 := O.at_ _ (List.Mem.head _)
theorem Own.tl {c1 : Cell} (O : Own R H (c1 :: L)) : Own R H L :=
  ⟨O.ex, fun c h => O.at_ c (List.Mem.tail _ h), fun c h => O.fr c (List.Mem.tail _ h), (List.nodup_cons.mp O.nd).2⟩
theorem Own.ext (O : Own R H L) (e : Ex H H') : Own R H' L := ⟨O.ex.trans e, fun c h => e _ _ (O.at_ c h), O.fr, O.nd⟩
theorem Own.notin (O : Own R H L) (h : H p = none) : p ∉ L.map (·.1) := fun m => by
  obtain ⟨c, hc, e⟩ := List.mem_map.mp m
  have := O.at_ c hc
  rw [e, h] at this
  cases this
theorem Own.ext1 (O : Own R H L) (e : Ex H H') (h : H p = none) (h' : H' p = some o) : Own R H' ((p, o) :: L) :=
  ⟨O.ex.trans e, fun c hc => by
    rcases List.mem_cons.mp hc with rfl | hc
    · exact h'
    · exact e _ _ (O.at_ c hc), fun c hc => by
    rcases List.mem_cons.mp hc with rfl | hc
    · exact O.ex.back h
    · exact O.fr c hc, List.nodup_cons.mpr ⟨O.notin h, O.nd⟩⟩
theorem Own.new (O : Own R H L) (h : H p = none) : Own R (upd H p o) ((p, o) :: L) := O.ext1 (Ex.new h) h upd_same
/-- more cells, owned over H -/
theorem Own.app (O : Own R H L) (N : Own H H' A) : Own R H' (A ++ L) :=
  ⟨O.ex.trans N.ex, fun c hc => by
    rcases List.mem_append.mp hc with hc | hc
    · exact N.at_ c hc
    · exact N.ex _ _ (O.at_ c hc), fun c hc => by
    rcases List.mem_append.mp hc with hc | hc
    · exact O.ex.back (N.fr c hc)
    · exact O.fr c hc, by
    rw [List.map_append]
    refine List.nodup_append.mpr ⟨N.nd, O.nd, fun x hx y hy e => ?_⟩
    subst e
    obtain ⟨c, hc, e⟩ := List.mem_map.mp hx
    have := N.fr c hc
    rw [e] at this
    exact O.notin this hy⟩
theorem Own.put (O : Own R H (A ++ (p, o) :: B)) : Own R (upd H p o') (A ++ (p, o') :: B) := by
  have nd := O.nd
  rw [List.map_append, List.map_cons] at nd
  have nA : p ∉ A.map (·.1) := fun m => by
    have := (List.nodup_append.mp nd).2.2
    exact this _ m p (List.Mem.head _) rfl
  have nB : p ∉ B.map (·.1) := (List.nodup_cons.mp (List.nodup_append.mp nd).2.1).1
  have hp : R p = none := O.fr (p, o) (by simp)
  refine ⟨fun b u e => ?_, fun c hc => ?_, fun c hc => ?_, by rw [List.map_append, List.map_cons]; exact nd⟩
  · rw [upd_ne (ne_of_none e hp)]
    exact O.ex _ _ e
  · rcases List.mem_append.mp hc with hA | hc
    · rw [upd_ne (fun e : c.1 = p => nA (by rw [← e]; exact List.mem_map_of_mem hA))]
      exact O.at_ c (List.mem_append.mpr (Or.inl hA))
    · rcases List.mem_cons.mp hc with rfl | hB
      · exact upd_same
      · rw [upd_ne (fun e : c.1 = p => nB (by rw [← e]; exact List.mem_map_of_mem hB))]
        exact O.at_ c (List.mem_append.mpr (Or.inr (List.mem_cons_of_mem _ hB)))
  · rcases List.mem_append.mp hc with hA | hc
    · exact O.fr c (List.mem_append.mpr (Or.inl hA))
    · rcases List.mem_cons.mp hc with rfl | hB
      · exact hp
      · exact O.fr c (List.mem_append.mpr (Or.inr (List.mem_cons_of_mem _ hB)))
theorem Own.put0 (O : Own R H ((p, o) :: B)) : Own R (upd H p o') ((p, o') :: B) := Own.put (A := []) O
theorem Own.put1 {c1 : Cell} (O : Own R H (c1 :: (p, o) :: B)) : Own R (upd H p o') (c1 :: (p, o') :: B) := Own.put (A := [c1]) O
theorem Own.put2 {c1 c2 : Cell} (O : Own R H (c1 :: c2 :: (p, o) :: B)) : Own R (upd H p o') (c1 :: c2 :: (p, o') :: B) := Own.put (A := [c1, c2]) O
theorem Own.put3 {c1 c2 c3 : Cell} (O : Own R H (c1 :: c2 :: c3 :: (p, o) :: B)) : Own R (upd H p o') (c1 :: c2 :: c3 :: (p, o') :: B) := Own.put (A := [c1, c2, c3]) O
theorem Own.put4 {c1 c2 c3 c4 : Cell} (O : Own R H (c1 :: c2 :: c3 :: c4 :: (p, o) :: B)) : Own R (upd H p o') (c1 :: c2 :: c3 :: c4 :: (p, o') :: B) := Own.put (A := [c1, c2, c3, c4]) O
theorem Own.put5 {c1 c2 c3 c4 c5 : Cell} (O : Own R H (c1 :: c2 :: c3 :: c4 :: c5 :: (p, o) :: B)) : Own R (upd H p o') (c1 :: c2 :: c3 :: c4 :: c5 :: (p, o') :: B) := Own.put (A := [c1, c2, c3, c4, c5]) O
theorem Own.put6 {c1 c2 c3 c4 c5 c6 : Cell} (O : Own R H (c1 :: c2 :: c3 :: c4 :: c5 :: c6 :: (p, o) :: B)) : Own R (upd H p o') (c1 :: c2 :: c3 :: c4 :: c5 :: c6 :: (p, o') :: B) := Own.put (A := [c1, c2, c3, c4, c5, c6]) O
theorem Own.perm (O : Own R H L) (e : L.Perm L') : Own R H L' :=
  ⟨O.ex, fun c h => O.at_ c (e.mem_iff.mpr h), fun c h => O.fr c (e.mem_iff.mpr h), (e.map _).nodup_iff.mp O.nd⟩
/-- fewer cells -/
theorem Own.sub (O : Own R H L) (e : L'.Sublist L) : Own R H L' :=
  ⟨O.ex, fun c h => O.at_ c (e.subset h), fun c h => O.fr c (e.subset h), List.Nodup.sublist (e.map _) O.nd⟩
/-- THE FRAME: what is done to some of the cells, the others being its frame -/
theorem Own.focus (O : Own R H (A ++ B)) : ∃ R', Own R' H A ∧ Ex R R' ∧ (∀ c ∈ B, R' c.1 = some c.2) ∧ ∀ H' A', Own R' H' A' → Own R H' (A' ++ B) := by
  have nd := O.nd
  rw [List.map_append] at nd
  obtain ⟨ndA, ndB, dis⟩ := List.nodup_append.mp nd
  refine ⟨fun b => if b ∈ A.map (·.1) then none else H b, ⟨fun b u e => ?_, fun c h => O.at_ c (List.mem_append.mpr (Or.inl h)), fun c h => if_pos (List.mem_map_of_mem h), ndA⟩, fun b u e => ?_, fun c hc => ?_, fun H' A' O' => ?_⟩
  · by_cases hb : b ∈ A.map (·.1)
    · rw [if_pos hb] at e; cases e
    · rw [if_neg hb] at e; exact e
  · have hb : b ∉ A.map (·.1) := fun m => by
      obtain ⟨c, hc, e1⟩ := List.mem_map.mp m
      have := O.fr c (List.mem_append.mpr (Or.inl hc))
      rw [e1, e] at this
      cases this
    show (if b ∈ A.map (·.1) then none else H b) = some u
    rw [if_neg hb]
    exact O.ex _ _ e
  · have hb : c.1 ∉ A.map (·.1) := fun m => dis _ m _ (List.mem_map_of_mem hc) rfl
    show (if c.1 ∈ A.map (·.1) then none else H c.1) = some c.2
    rw [if_neg hb]
    exact O.at_ c (List.mem_append.mpr (Or.inr hc))
  · have hB : ∀ c ∈ B, (if c.1 ∈ A.map (·.1) then none else H c.1) = some c.2 := fun c hc => by
      have hb : c.1 ∉ A.map (·.1) := fun m => dis _ m _ (List.mem_map_of_mem hc) rfl
      rw [if_neg hb]
      exact O.at_ c (List.mem_append.mpr (Or.inr hc))
    have hR : ∀ b u, R b = some u → (if b ∈ A.map (·.1) then none else H b) = some u := fun b u e => by
      have hb : b ∉ A.map (·.1) := fun m => by
        obtain ⟨c, hc, e1⟩ := List.mem_map.mp m
        have := O.fr c (List.mem_append.mpr (Or.inl hc))
        rw [e1, e] at this
        cases this
      rw [if_neg hb]
      exact O.ex _ _ e
    refine ⟨fun b u e => O'.ex _ _ (hR b u e), fun c hc => ?_, fun c hc => ?_, ?_⟩
    · rcases List.mem_append.mp hc with hc | hc
      · exact O'.at_ c hc
      · exact O'.ex _ _ (hB c hc)
    · rcases List.mem_append.mp hc with hc | hc
      · cases e : R c.1 with
        | none => rfl
        | some u =>
          have := O'.fr c hc
          rw [hR _ _ e] at this
          cases this
      · exact O.fr c (List.mem_append.mpr (Or.inr hc))
    · rw [List.map_append]
      refine List.nodup_append.mpr ⟨O'.nd, ndB, fun x hx y hy e => ?_⟩
      subst e
      obtain ⟨c, hc, e⟩ := List.mem_map.mp hx
      obtain ⟨d, hd, e2⟩ := List.mem_map.mp hy
      have h1 := O'.fr c hc
      have h2 := hB d hd
      rw [e2, ← e, h1] at h2
      cases h2
/-- the frame may be what is there now: all else is kept -/
theorem Own.over (O : Own R H L) : Own H H [] := Own.start H
end

/-! ### what a call hands back: a value; a new list; a new tuple -/
def RetV (v : V) (H : Hp) (Q : VK) : Prop := ∀ H', Ex H H' → Q v H'
def RetL (xs : List V) (H : Hp) (Q : VK) : Prop := ∀ p H', H p = none → Ex H H' → H' p = some (.lst xs) → Q (.ref p) H'
def RetT (xs : List V) (H : Hp) (Q : VK) : Prop := ∀ p H', H p = none → Ex H H' → H' p = some (.tup xs) → Q (.ref p) H'
/-- any new cells, as D says -/
def RetN (D : V → List Cell → Prop) (H : Hp) (Q : VK) : Prop := ∀ v H' L, Own H H' L → D v L → Q v H'
section
variable {R H : Hp} {L : List Cell} {Q : VK} {v : V} {xs : List V}
theorem Own.retV (O : Own R H L) (k : ∀ H', Own R H' L → Q v H') : RetV v H Q := fun H' e => k H' (O.ext e)
theorem Own.retL (O : Own R H L) (k : ∀ p H', Own R H' ((p, .lst xs) :: L) → Q (.ref p) H') : RetL xs H Q := fun p H' h e h' => k p H' (O.ext1 e h h')
theorem Own.retT (O : Own R H L) (k : ∀ p H', Own R H' ((p, .tup xs) :: L) → Q (.ref p) H') : RetT xs H Q := fun p H' h e h' => k p H' (O.ext1 e h h')
theorem Own.retN {D : V → List Cell → Prop} (O : Own R H L) (k : ∀ v H' N, Own R H' (N ++ L) → D v N → Q v H') : RetN D H Q := fun v H' N o d => k v H' N (O.app o) d
/-- the end of a def that started at H: what it hands back is new -/
theorem RetV.go {H0 H : Hp} {L : List Cell} {v : V} {Q : VK} (k : RetV v H0 Q) (O : Own H0 H L) : Q v H := k H O.ex
theorem RetL.go {H0 H : Hp} {L : List Cell} {xs : List V} {Q : VK} {p : Addr} (k : RetL xs H0 Q) (O : Own H0 H L) (h : (p, HO.lst xs) ∈ L) : Q (.ref p) H := k p H (O.fr _ h) O.ex (O.at_ _ h)
theorem RetT.go {H0 H : Hp} {L : List Cell} {xs : List V} {Q : VK} {p : Addr} (k : RetT xs H0 Q) (O : Own H0 H L) (h : (p, HO.tup xs) ∈ L) : Q (.ref p) H := k p H (O.fr _ h) O.ex (O.at_ _ h)
theorem RetN.go {H0 H : Hp} {L N : List Cell} {D : V → List Cell → Prop} {Q : VK} {v : V} (k : RetN D H0 Q) (O : Own H0 H L) (e : N.Sublist L) (d : D v N) : Q v H := k v H N (O.sub e) d
end

end Bt

set_option Elab.async false
set_option linter.all false
set_option maxRecDepth 100000
set_option maxHeartbeats 4000000
/-! The mirror's words (partial functions: none where the program would stop), and the steps that join a reading with its mirror. -/
namespace Bt
open PySem L2

/-! ### the mirror's words -/
section
variable {α β γ S R T : Type}
def ltv (a : α) (f : α → Option β) : Option β := f a
theorem ltvE {a : α} {f : α → Option β} {r : β} (h : ltv a f = some r) : ∃ x, a = x ∧ f x = some r := ⟨a, rfl, h⟩
def bnd (a : Option α) (f : α → Option β) : Option β := match a with
  | some x => f x
  | none => none
theorem bndE {a : Option α} {f : α → Option β} {r : β} (h : bnd a f = some r) : ∃ x, a = some x ∧ f x = some r := by
  cases a with
  | none => cases h
  | some x => exact ⟨x, rfl, h⟩
def ifB (c : Bool) (a b : α) : α := match c with
  | true => a
  | false => b
theorem ifT {c : Bool} {a b r : α} (h : ifB c a b = r) (hc : c = true) : a = r := by subst hc; exact h
theorem ifF {c : Bool} {a b r : α} (h : ifB c a b = r) (hc : c = false) : b = r := by subst hc; exact h
inductive Fl (S R : Type) where
  | nx (s : S)
  | rt (r : R)
  | bk (s : S)
def finK (rest : S → Option R) : Fl S R → Option R
  | .nx s => rest s
  | .rt r => some r
  | .bk _ => none
def fin (a : Option (Fl S R)) (rest : S → Option R) : Option R := bnd a (finK rest)
def floK (rest : S → Option (Fl T R)) : Fl S R → Option (Fl T R)
  | .nx s => rest s
  | .rt r => some (.rt r)
  | .bk _ => none
def flo (a : Option (Fl S R)) (rest : S → Option (Fl T R)) : Option (Fl T R) := bnd a (floK rest)
theorem finRt {rest : S → Option R} {v r : R} (h : finK rest (.rt v) = some r) : v = r := Option.some.inj h
theorem floRt {rest : S → Option (Fl T R)} {v : R} {fl : Fl T R} (h : floK rest (.rt v) = some fl) : Fl.rt v = fl := Option.some.inj h
def loopM (f : α → S → Option S) : List α → S → Option S
  | [], s => some s
  | x :: r, s => bnd (f x s) (loopM f r)
theorem loopM_nil {f : α → S → Option S} {s out : S} (h : loopM f [] s = some out) : out = s := (Option.some.inj h).symm
theorem loopM_cons {f : α → S → Option S} {x : α} {r : List α} {s out : S} (h : loopM f (x :: r) s = some out) : ∃ s', f x s = some s' ∧ loopM f r s' = some out := bndE h
def contF (go : S → Option (Fl S R)) : Fl S R → Option (Fl S R)
  | .nx s => go s
  | .rt r => some (.rt r)
  | .bk s => some (.nx s)
def loopF (f : α → S → Option (Fl S R)) : List α → S → Option (Fl S R)
  | [], s => some (.nx s)
  | x :: r, s => bnd (f x s) (contF (loopF f r))
theorem loopF_nil {f : α → S → Option (Fl S R)} {s : S} {out : Fl S R} (h : loopF f [] s = some out) : Fl.nx s = out := Option.some.inj h
theorem loopF_cons {f : α → S → Option (Fl S R)} {x : α} {r : List α} {s : S} {out : Fl S R} (h : loopF f (x :: r) s = some out) : ∃ fl, f x s = some fl ∧ contF (loopF f r) fl = some out := bndE h
theorem contRt {go : S → Option (Fl S R)} {v : R} {out : Fl S R} (h : contF go (.rt v) = some out) : Fl.rt v = out := Option.some.inj h
theorem contBk {go : S → Option (Fl S R)} {s : S} {out : Fl S R} (h : contF go (.bk s) = some out) : Fl.nx s = out := Option.some.inj h
def whileM (c : S → Option Bool) (f : S → Option S) : Nat → S → Option S
  | 0, _ => none
  | n + 1, s => bnd (c s) fun b => ifB b (bnd (f s) (whileM c f n)) (some s)
theorem whileM_zero {c : S → Option Bool} {f : S → Option S} {s out : S} (h : whileM c f 0 s = some out) : False := nomatch h
theorem whileM_succ {c : S → Option Bool} {f : S → Option S} {n : Nat} {s out : S} (h : whileM c f (n + 1) s = some out) : ∃ b, c s = some b ∧ ifB b (bnd (f s) (whileM c f n)) (some s) = some out := bndE h
def whileF (c : S → Option Bool) (f : S → Option (Fl S R)) : Nat → S → Option (Fl S R)
  | 0, _ => none
  | n + 1, s => bnd (c s) fun b => ifB b (bnd (f s) (contF (whileF c f n))) (some (.nx s))
theorem whileF_succ {c : S → Option Bool} {f : S → Option (Fl S R)} {n : Nat} {s : S} {out : Fl S R} (h : whileF c f (n + 1) s = some out) : ∃ b, c s = some b ∧ ifB b (bnd (f s) (contF (whileF c f n))) (some (.nx s)) = some out := bndE h
/-- a comprehension: what is kept, in order -/
def compM (f : α → Option β) : List α → List β → Option (List β)
  | [], acc => some acc
  | x :: r, acc => bnd (f x) fun y => if acc.length < 16777216 then compM f r (acc ++ [y]) else none
theorem compM_cons {f : α → Option β} {x : α} {r : List α} {acc out : List β} (h : compM f (x :: r) acc = some out) : ∃ y, f x = some y ∧ acc.length < 16777216 ∧ compM f r (acc ++ [y]) = some out := by
  obtain ⟨y, h1, h2⟩ := bndE (show bnd (f x) (fun y => if acc.length < 16777216 then compM f r (acc ++ [y]) else none) = some out from h)
  by_cases c : acc.length < 16777216
  · rw [if_pos c] at h2
    exact ⟨y, h1, c, h2⟩
  · rw [if_neg c] at h2
    cases h2
theorem compM_nil {f : α → Option β} {acc out : List β} (h : compM f [] acc = some out) : out = acc := (Option.some.inj h).symm
/-- .. with a test -/
def compT (c : α → Option Bool) (f : α → Option β) : List α → List β → Option (List β)
  | [], acc => some acc
  | x :: r, acc => bnd (c x) fun b => ifB b (bnd (f x) fun y => if acc.length < 16777216 then compT c f r (acc ++ [y]) else none) (compT c f r acc)
theorem compT_nil {c : α → Option Bool} {f : α → Option β} {acc out : List β} (h : compT c f [] acc = some out) : out = acc := (Option.some.inj h).symm
theorem compT_cons {c : α → Option Bool} {f : α → Option β} {x : α} {r : List α} {acc out : List β} (h : compT c f (x :: r) acc = some out) :
    ∃ b, c x = some b ∧ ifB b (bnd (f x) fun y => if acc.length < 16777216 then compT c f r (acc ++ [y]) else none) (compT c f r acc) = some out := bndE h
theorem compT_yes {c : α → Option Bool} {f : α → Option β} {x : α} {r : List α} {acc out : List β} (h : (bnd (f x) fun y => if acc.length < 16777216 then compT c f r (acc ++ [y]) else none) = some out) :
    ∃ y, f x = some y ∧ acc.length < 16777216 ∧ compT c f r (acc ++ [y]) = some out := by
  obtain ⟨y, h1, h2⟩ := bndE h
  by_cases c : acc.length < 16777216
  · rw [if_pos c] at h2
    exact ⟨y, h1, c, h2⟩
  · rw [if_neg c] at h2
    cases h2
end
section
variable {α : Type}
def grd (c : Prop) [Decidable c] (a : α) : Option α := if c then some a else none
theorem grdE {c : Prop} [Decidable c] {a r : α} (h : grd c a = some r) : c ∧ a = r := by
  unfold grd at h
  by_cases hc : c
  · rw [if_pos hc] at h
    exact ⟨hc, Option.some.inj h⟩
  · rw [if_neg hc] at h
    cases h
theorem grd_of {c : Prop} [Decidable c] {a : α} (h : c) : grd c a = some a := if_pos h
def appG (xs : List α) (y : α) : Option (List α) := grd (xs.length < 16777216) (xs ++ [y])
def catG (xs ys : List α) : Option (List α) := grd (xs.length + ys.length ≤ 16777216) (xs ++ ys)
def repL (xs : List α) : Nat → List α
  | 0 => []
  | n + 1 => xs ++ repL xs n
def repG (xs : List α) (k : Int) : Option (List α) := grd (-(2 ^ 63) ≤ k ∧ k < 2 ^ 63 ∧ xs.length * k.toNat ≤ 16777216) (List.flatten (List.replicate k.toNat xs))
def setG (xs : List α) (i : Int) (y : α) : Option (List α) := match ixN xs.length i with
  | some j => some (xs.set j y)
  | none => none
def cutL (xs : List α) (lo hi : Option Int) : List α := (xs.drop (HT.sIx xs.length 0 lo)).take (HT.sIx xs.length xs.length hi - HT.sIx xs.length 0 lo)
def rangeI (lo hi : Int) : List Int := (List.range (hi - lo).toNat).map fun (i : Nat) => lo + (i : Int)
def rng1 (hi : Int) : Option (List Int) := grd (-(2 ^ 62) ≤ hi ∧ hi < 2 ^ 62) (rangeI 0 hi)
def rng2 (lo hi : Int) : Option (List Int) := grd (-(2 ^ 62) ≤ lo ∧ lo < 2 ^ 62 ∧ -(2 ^ 62) ≤ hi ∧ hi < 2 ^ 62) (rangeI lo hi)
end
def modG (i j : Int) : Option Int := grd (0 < j) (i % j)
def fdivG (i j : Int) : Option Int := grd (0 < j ∧ j.natAbs.log2 < 9000) (i / j)
def mulG (i j : Int) : Option Int := grd (i.natAbs.log2 + j.natAbs.log2 < 1000000) (i * j)
def shlG (i j : Int) : Option Int := grd (0 ≤ j ∧ (Builtin.Int.intBits i : Int) + j ≤ 2 ^ 27) (i * 2 ^ j.toNat)
def shrG (i j : Int) : Option Int := grd (0 ≤ j) (i / 2 ^ j.toNat)
def powG (i j : Int) : Option Int := grd (0 ≤ j ∧ j ≤ 1000000 ∧ i.natAbs < 2 ^ 64) (i ^ j.toNat)

/-! ### the steps -/
section
variable {K : PySem.W.Frag} {σ : St} {H R : Hp} {L : List Cell} {Q : VK} {i j t : Int} {x y z v : V} {a b p q : Addr} {α : Type} {f : α → V} {xs ys zs : List α} {xs' ys' : List Int}
theorem k_mul (h : mulG i j = some t) (k : Q (.int t) H) : rI CMulW (fun i j => .int (i * j)) (.int i) (.int j) H Q := by
  obtain ⟨c, rfl⟩ := grdE h
  exact ⟨_, _, rfl, rfl, c, k⟩
theorem k_mod (h : modG i j = some t) (k : Q (.int t) H) : rI (fun _ j => 0 < j) (fun i j => .int (i % j)) (.int i) (.int j) H Q := by
  obtain ⟨c, rfl⟩ := grdE h
  exact ⟨_, _, rfl, rfl, c, k⟩
theorem k_fdiv (h : fdivG i j = some t) (k : Q (.int t) H) : rI CDivW (fun i j => .int (i / j)) (.int i) (.int j) H Q := by
  obtain ⟨c, rfl⟩ := grdE h
  exact ⟨_, _, rfl, rfl, c, k⟩
theorem k_shl (h : shlG i j = some t) (k : Q (.int t) H) : rI CShl (fun i j => .int (i * 2 ^ j.toNat)) (.int i) (.int j) H Q := by
  obtain ⟨c, rfl⟩ := grdE h
  exact ⟨_, _, rfl, rfl, c, k⟩
theorem k_shr (h : shrG i j = some t) (k : Q (.int t) H) : rI (fun _ j => 0 ≤ j) (fun i j => .int (i / 2 ^ j.toNat)) (.int i) (.int j) H Q := by
  obtain ⟨c, rfl⟩ := grdE h
  exact ⟨_, _, rfl, rfl, c, k⟩
theorem k_pow (h : powG i j = some t) (k : Q (.int t) H) : rI CPow (fun i j => .int (i ^ j.toNat)) (.int i) (.int j) H Q := by
  obtain ⟨c, rfl⟩ := grdE h
  exact ⟨_, _, rfl, rfl, c, k⟩
theorem dec_int (i j : Int) : decide (V.int i = V.int j) = decide (i = j) := by
  by_cases h : i = j
  · subst h; simp
  · have : ¬ V.int i = V.int j := fun e => h (V.int.inj e)
    simp [h, this]
theorem dec_bl (i j : Bool) : decide (V.bl i = V.bl j) = decide (i = j) := by
  by_cases h : i = j
  · subst h; simp
  · have : ¬ V.bl i = V.bl j := fun e => h (V.bl.inj e)
    simp [h, this]
theorem dec_str (i j : Str) : decide (V.str i = V.str j) = decide (i = j) := by
  by_cases h : i = j
  · subst h; simp
  · have : ¬ V.str i = V.str j := fun e => h (V.str.inj e)
    simp [h, this]
theorem k_eqI (k : Q (.bl (decide (i = j))) H) : rEq (.int i) (.int j) H Q := ⟨rfl, by rw [dec_int]; exact k⟩
theorem k_neI (k : Q (.bl (!decide (i = j))) H) : rNe (.int i) (.int j) H Q := ⟨rfl, by rw [dec_int]; exact k⟩
theorem k_eqB {c d : Bool} (k : Q (.bl (decide (c = d))) H) : rEq (.bl c) (.bl d) H Q := ⟨rfl, by rw [dec_bl]; exact k⟩
theorem k_neB {c d : Bool} (k : Q (.bl (!decide (c = d))) H) : rNe (.bl c) (.bl d) H Q := ⟨rfl, by rw [dec_bl]; exact k⟩
theorem k_eqS {c d : Str} (k : Q (.bl (decide (c = d))) H) : rEq (.str c) (.str d) H Q := ⟨rfl, by rw [dec_str]; exact k⟩
theorem k_neS {c d : Str} (k : Q (.bl (!decide (c = d))) H) : rNe (.str c) (.str d) H Q := ⟨rfl, by rw [dec_str]; exact k⟩
/-! deep == of flat lists -/
theorem dpI : ∀ (ns : List Int), DpAll K H (ns.map V.int) (ns.map PyData.int)
  | [] => .nil
  | n :: r => .cons (.int n) (dpI r)
theorem dpB : ∀ (ns : List Bool), DpAll K H (ns.map V.bl) (ns.map PyData.bool)
  | [] => .nil
  | n :: r => .cons (.bl n) (dpB r)
theorem dpS : ∀ (ns : List Str), DpAll K H (ns.map V.str) (ns.map PyData.str)
  | [] => .nil
  | n :: r => .cons (.str n) (dpS r)

theorem sh_I (ns : List Int) : SeqAt.shaped (.list (ns.map PyData.int)) = true := by
  have h1 : ∀ ns : List Int, PyData.canLayAll0 (ns.map PyData.int) = true := fun ns => by
    induction ns with
    | nil => rfl
    | cons n r ih => simpa [PyData.canLayAll0, PyData.canLay0] using ih
  have h2 : ∀ ns : List Int, PyData.depthAll (ns.map PyData.int) = 0 := fun ns => by
    induction ns with
    | nil => rfl
    | cons n r ih => simpa [PyData.depthAll, PyData.depth] using ih
  simp [SeqAt.shaped, PyData.canLay0, h1, PyData.depth, h2]
theorem sh_B (ns : List Bool) : SeqAt.shaped (.list (ns.map PyData.bool)) = true := by
  have h1 : ∀ ns : List Bool, PyData.canLayAll0 (ns.map PyData.bool) = true := fun ns => by
    induction ns with
    | nil => rfl
    | cons n r ih => simpa [PyData.canLayAll0, PyData.canLay0] using ih
  have h2 : ∀ ns : List Bool, PyData.depthAll (ns.map PyData.bool) = 0 := fun ns => by
    induction ns with
    | nil => rfl
    | cons n r ih => simpa [PyData.depthAll, PyData.depth] using ih
  simp [SeqAt.shaped, PyData.canLay0, h1, PyData.depth, h2]
theorem ev_I : ∀ (ns ms : List Int), PyData.eqv (.list (ns.map PyData.int)) (.list (ms.map PyData.int)) = decide (ns = ms) := by
  have h : ∀ (ns ms : List Int), PyData.eqvAll (ns.map PyData.int) (ms.map PyData.int) = decide (ns = ms) := fun ns => by
    induction ns with
    | nil => intro ms; cases ms <;> simp [PyData.eqvAll]
    | cons n r ih =>
      intro ms
      cases ms with
      | nil => simp [PyData.eqvAll]
      | cons m s =>
        simp only [List.map_cons, PyData.eqvAll, PyData.eqv, ih, List.cons.injEq, Bool.decide_and]
        rw [Bool.beq_eq_decide_eq]
  exact fun ns ms => by simpa only [PyData.eqv] using h ns ms
theorem k_eqLI (ha : SqL K H a (xs'.map V.int)) (hb : SqL K H b (ys'.map V.int)) (k : Q (.bl (decide (xs' = ys'))) H) : rEqD K (.ref a) (.ref b) H Q :=
  ⟨_, _, .lst ha (dpI _), .lst hb (dpI _), sh_I _, sh_I _, by rw [ev_I]; exact k⟩
theorem k_neLI (ha : SqL K H a (xs'.map V.int)) (hb : SqL K H b (ys'.map V.int)) (k : Q (.bl (!decide (xs' = ys'))) H) : rNeD K (.ref a) (.ref b) H Q :=
  ⟨_, _, .lst ha (dpI _), .lst hb (dpI _), sh_I _, sh_I _, by rw [ev_I]; exact k⟩
/-! lists -/
theorem k_len (h : SqL K H a (xs.map f)) (k : Q (.int (xs.length : Int)) H) : ∃ p ys, [V.ref a] = [V.ref p] ∧ (SqL K H p ys ∨ SqT K H p ys) ∧ Q (.int ys.length) H :=
  ⟨a, _, rfl, .inl h, by rw [List.length_map]; exact k⟩
theorem k_list (O : Own R H L) {ys : List V} (h : SqL K H a ys) (k : ∀ p H', Own R H' ((p, .lst ys) :: L) → Q (.ref p) H') : ∃ p ys, [V.ref a] = [V.ref p] ∧ (SqL K H p ys ∨ SqT K H p ys) ∧ ∀ l, H l = none → Q (.ref l) (upd H l (.lst ys)) :=
  ⟨a, _, rfl, .inl h, fun l hl => k l _ (O.new hl)⟩
theorem k_sum (h : SqL K H a (xs'.map V.int)) (k : Q (.int xs'.sum) H) : rSum K [.ref a] H Q := ⟨a, _, rfl, h, k⟩
theorem k_new {zs : List V} (O : Own R H L) (k : ∀ p H', Own R H' ((p, .lst zs) :: L) → Q (.ref p) H') : ∀ p, H p = none → Q (.ref p) (upd H p (.lst zs)) := fun p hp => k p _ (O.new hp)
theorem k_newT {zs : List V} (O : Own R H L) (k : ∀ p H', Own R H' ((p, .tup zs) :: L) → Q (.ref p) H') : ∀ p, H p = none → Q (.ref p) (upd H p (.tup zs)) := fun p hp => k p _ (O.new hp)
theorem at_map {xs : List α} {i : Int} {x : α} (h : atI xs i = some x) (f : α → V) : atI (xs.map f) i = some (f x) := by
  unfold atI at h ⊢
  rw [List.length_map]
  cases e : ixN xs.length i with
  | none => rw [e] at h; cases h
  | some j =>
    rw [e] at h
    show (xs.map f)[j]? = some (f x)
    rw [List.getElem?_map, (show xs[j]? = some x from h)]
    rfl
theorem k_ixL {x : α} (hs : SqL K H a (xs.map f)) (h : atI xs i = some x) (k : Q (f x) H) : rIxL K (.ref a) (.int i) H Q := ⟨a, _, i, _, rfl, rfl, hs, at_map h f, k⟩
theorem map_snoc (xs : List α) (x : α) (f : α → V) : xs.map f ++ [f x] = (xs ++ [x]).map f := by rw [List.map_append]; rfl
theorem k_app {x : α} {g : HO → List Cell} (hl : H a = some (.lst (xs.map f))) (hp : ∀ o', Own R (upd H a o') (g o')) (h : appG xs x = some ys) (k : ∀ H', Own R H' (g (.lst (ys.map f))) → Q .non H') : rAppend (.ref a) [f x] H Q := by
  obtain ⟨c, rfl⟩ := grdE h
  refine ⟨a, _, _, rfl, rfl, hl, by rw [List.length_map]; exact c, ?_⟩
  rw [map_snoc]
  exact k _ (hp _)
theorem map_cut (xs : List α) (lo hi : Option Int) (f : α → V) : cutV (xs.map f) lo hi = (cutL xs lo hi).map f := by
  unfold cutV cutL
  rw [List.length_map, ← List.map_drop, ← List.map_take]
theorem k_cut {lo hi : Option Int} (O : Own R H L) (hs : SqL K H a (xs.map f)) (k : ∀ p H', Own R H' ((p, .lst ((cutL xs lo hi).map f)) :: L) → Q (.ref p) H') : rSlL K (.ref a) lo hi H Q :=
  ⟨a, _, rfl, hs, fun p hp => by rw [map_cut]; exact k p _ (O.new hp)⟩
theorem k_cat {ys zs : List α} (O : Own R H L) (h1 : H a = some (.lst (xs.map f))) (h2 : H b = some (.lst (ys.map f))) (h : catG xs ys = some zs) (k : ∀ p H', Own R H' ((p, .lst (zs.map f)) :: L) → Q (.ref p) H') : rCat (.ref a) (.ref b) H Q := by
  obtain ⟨c, rfl⟩ := grdE h
  exact ⟨a, b, _, _, rfl, rfl, h1, h2, by rw [List.length_map, List.length_map]; exact c, fun p hp => by rw [← List.map_append]; exact k p _ (O.new hp)⟩
theorem k_setL {x : α} {g : HO → List Cell} {QH : Hp → Prop} (hl : H a = some (.lst (xs.map f))) (hp : ∀ o', Own R (upd H a o') (g o')) (h : setG xs i x = some ys) (k : ∀ H', Own R H' (g (.lst (ys.map f))) → QH H') : rSetL (.ref a) (.int i) (f x) H QH := by
  unfold setG at h
  cases e : ixN xs.length i with
  | none => rw [e] at h; cases h
  | some j =>
    rw [e] at h
    cases h
    refine ⟨a, _, i, j, rfl, rfl, hl, by rw [List.length_map]; exact e, ?_⟩
    have e2 : (xs.map f).set j (f x) = (xs.set j x).map f := by rw [List.map_set]
    rw [e2]
    exact k _ (hp _)
/-! tests with two sides: what the one is asked for, the other is not seen -/
theorem x_and {c d e : Bool} {tt uu : TT} {QB : Bool → Hp → Prop} (O : Own R H L) (h1 : ∀ Q1 : Bool → Hp → Prop, (∀ H', Own R H' L → Q1 c H') → tt σ H Q1) (h2 : c = true → e = d ∧ ∀ H', Own R H' L → ∀ Q2 : Bool → Hp → Prop, (∀ H'', Own R H'' L → Q2 e H'') → uu σ H' Q2)
    (h3 : c = false → false = d) (k : ∀ H', Own R H' L → QB d H') : tAnd tt uu σ H QB := by
  refine h1 _ fun H' O' => ?_
  cases c with
  | true =>
    obtain ⟨e1, g2⟩ := h2 rfl
    subst e1
    exact g2 H' O' QB k
  | false =>
    rw [← h3 rfl] at k
    exact k H' O'
theorem x_or {c d e : Bool} {tt uu : TT} {QB : Bool → Hp → Prop} (O : Own R H L) (h1 : ∀ Q1 : Bool → Hp → Prop, (∀ H', Own R H' L → Q1 c H') → tt σ H Q1) (h2 : c = false → e = d ∧ ∀ H', Own R H' L → ∀ Q2 : Bool → Hp → Prop, (∀ H'', Own R H'' L → Q2 e H'') → uu σ H' Q2)
    (h3 : c = true → true = d) (k : ∀ H', Own R H' L → QB d H') : tOr tt uu σ H QB := by
  refine h1 _ fun H' O' => ?_
  cases c with
  | false =>
    obtain ⟨e1, g2⟩ := h2 rfl
    subst e1
    exact g2 H' O' QB k
  | true =>
    rw [← h3 rfl] at k
    exact k H' O'
theorem x_andV {c d e : Bool} {tt uu : TE} (O : Own R H L) (h1 : ∀ Q1 : VK, (∀ H', Own R H' L → Q1 (.bl c) H') → tt σ H Q1) (h2 : c = true → e = d ∧ ∀ H', Own R H' L → ∀ Q2 : VK, (∀ H'', Own R H'' L → Q2 (.bl e) H'') → uu σ H' Q2)
    (h3 : c = false → false = d) (k : ∀ H', Own R H' L → Q (.bl d) H') : tAndV tt uu σ H Q := by
  refine h1 _ fun H' O' => ⟨_, rfl, ?_⟩
  cases c with
  | true =>
    obtain ⟨e1, g2⟩ := h2 rfl
    subst e1
    exact g2 H' O' Q k
  | false =>
    rw [← h3 rfl] at k
    exact k H' O'
theorem x_orV {c d e : Bool} {tt uu : TE} (O : Own R H L) (h1 : ∀ Q1 : VK, (∀ H', Own R H' L → Q1 (.bl c) H') → tt σ H Q1) (h2 : c = false → e = d ∧ ∀ H', Own R H' L → ∀ Q2 : VK, (∀ H'', Own R H'' L → Q2 (.bl e) H'') → uu σ H' Q2)
    (h3 : c = true → true = d) (k : ∀ H', Own R H' L → Q (.bl d) H') : tOrV tt uu σ H Q := by
  refine h1 _ fun H' O' => ⟨_, rfl, ?_⟩
  cases c with
  | false =>
    obtain ⟨e1, g2⟩ := h2 rfl
    subst e1
    exact g2 H' O' Q k
  | true =>
    rw [← h3 rfl] at k
    exact k H' O'
/-- a < b < c -/
theorem x_chain {r r' : R2} {c d e : Bool} {ta tb tc : TE} (O : Own R H L) (h1 : ∀ Q1 : VK, (∀ H', Own R H' L → Q1 x H') → ta σ H Q1) (h2 : ∀ H', Own R H' L → ∀ Q1 : VK, (∀ H', Own R H' L → Q1 y H') → tb σ H' Q1) (h3 : ∀ H' (Q1 : VK), Q1 (.bl c) H' → r x y H' Q1)
    (h4 : c = true → e = d ∧ ∀ H', Own R H' L → ∀ Q1 : VK, (∀ H', Own R H' L → Q1 z H') → tc σ H' Q1) (h5 : ∀ H' (Q1 : VK), Q1 (.bl e) H' → r' y z H' Q1) (h6 : c = false → false = d) (k : ∀ H', Own R H' L → Q (.bl d) H') : tChain r r' ta tb tc σ H Q := by
  refine h1 _ fun H1 O1 => h2 H1 O1 _ fun H2 O2 => h3 H2 _ ⟨c, rfl, ?_⟩
  cases c with
  | true =>
    obtain ⟨e1, g4⟩ := h4 rfl
    subst e1
    exact g4 H2 O2 _ fun H3 O3 => h5 H3 _ (k H3 O3)
  | false =>
    rw [← h6 rfl] at k
    exact k H2 O2
/-- a if c else b, a value -/
theorem x_if {c : Bool} {tt : TT} {ta tb : TE} (O : Own R H L) (h1 : ∀ Q1 : Bool → Hp → Prop, (∀ H', Own R H' L → Q1 c H') → tt σ H Q1) (h2 : c = true → x = v ∧ ∀ H', Own R H' L → ∀ Q2 : VK, (∀ H'', Own R H'' L → Q2 x H'') → ta σ H' Q2)
    (h3 : c = false → y = v ∧ ∀ H', Own R H' L → ∀ Q2 : VK, (∀ H'', Own R H'' L → Q2 y H'') → tb σ H' Q2) (k : ∀ H', Own R H' L → Q v H') : tIf tt ta tb σ H Q := by
  refine h1 _ fun H' O' => ?_
  cases c with
  | true =>
    obtain ⟨e1, g2⟩ := h2 rfl
    subst e1
    exact g2 H' O' Q k
  | false =>
    obtain ⟨e1, g3⟩ := h3 rfl
    subst e1
    exact g3 H' O' Q k
theorem iteS {c : Bool} {A B : Prop} (h1 : c = true → A) (h2 : c = false → B) : if c = true then A else B := by
  cases c with
  | true => rw [if_pos rfl]; exact h1 rfl
  | false => rw [if_neg Bool.false_ne_true]; exact h2 rfl
/-! loops -/
theorem k_forL {g : TG} {tb : TS} {D : Ends} (J : List α → St → Hp → Prop) (h0 : J xs σ H) (hl : ∀ r σ H, J r σ H → SqL K H a (xs.map f))
    (hs : ∀ x r σ H, J (x :: r) σ H → g (f x) σ H fun σ2 H2 => tb { D with nx := J r, ct := J r, bk := D.nx } σ2 H2) (hd : ∀ σ H, J [] σ H → D.nx σ H) :
    ∃ W : Nat → Nat → St → Hp → Prop, (∃ m, W 0 m σ H) ∧ ∀ i m σ H, W i m σ H →
      ((Itl K a).stop i H ∧ D.nx σ H) ∨ ((Itl K a).go i H ∧ ∃ N : St → Hp → Prop, (∀ σ' H', N σ' H' → ∃ m', m' < m ∧ W (i + 1) m' σ' H') ∧ ∀ x H', (Itl K a).yld i H x H' → g x σ H' fun σ2 H2 => tb { D with nx := N, ct := N, bk := D.nx } σ2 H2) := by
  refine for_list (xs := xs.map f) (fun i σ H => J (xs.drop i) σ H) h0 (fun i σ H _ => hl _ σ H) (fun i x σ H hi hJ => ?_) fun σ H hJ => ?_
  · rw [List.getElem?_map] at hi
    cases e : xs[i]? with
    | none => rw [e] at hi; cases hi
    | some y =>
      rw [e] at hi
      cases hi
      have e2 : xs.drop i = y :: xs.drop (i + 1) := by
        obtain ⟨h1, h2⟩ := List.getElem?_eq_some_iff.mp e
        rw [← h2]
        exact List.drop_eq_getElem_cons h1
      rw [e2] at hJ
      exact hs y _ σ H hJ
  · rw [List.length_map, List.drop_length] at hJ
    exact hd σ H hJ
theorem k_forR {lo : Int} {n : Nat} {g : TG} {tb : TS} {D : Ends} (J : List Int → St → Hp → Prop) (h0 : J ((List.range n).map fun (i : Nat) => lo + (i : Int)) σ H)
    (hs : ∀ x r σ H, J (x :: r) σ H → g (.int x) σ H fun σ2 H2 => tb { D with nx := J r, ct := J r, bk := D.nx } σ2 H2) (hd : ∀ σ H, J [] σ H → D.nx σ H) :
    ∃ W : Nat → Nat → St → Hp → Prop, (∃ m, W 0 m σ H) ∧ ∀ i m σ H, W i m σ H →
      ((Itr lo n).stop i H ∧ D.nx σ H) ∨ ((Itr lo n).go i H ∧ ∃ N : St → Hp → Prop, (∀ σ' H', N σ' H' → ∃ m', m' < m ∧ W (i + 1) m' σ' H') ∧ ∀ x H', (Itr lo n).yld i H x H' → g x σ H' fun σ2 H2 => tb { D with nx := N, ct := N, bk := D.nx } σ2 H2) := by
  refine for_range (fun i σ H => J (((List.range n).map fun (i : Nat) => lo + (i : Int)).drop i) σ H) h0 (fun i σ H hi hJ => ?_) fun σ H hJ => ?_
  · have e2 : ((List.range n).map fun (i : Nat) => lo + (i : Int)).drop i = (lo + (i : Int)) :: ((List.range n).map fun (i : Nat) => lo + (i : Int)).drop (i + 1) := by
      have h1 : i < ((List.range n).map fun (i : Nat) => lo + (i : Int)).length := by simpa using hi
      rw [List.drop_eq_getElem_cons h1]
      simp
    rw [e2] at hJ
    exact hs _ _ σ H hJ
  · have e : ((List.range n).map fun (i : Nat) => lo + (i : Int)).drop n = [] := List.drop_eq_nil_of_le (by simp)
    rw [e] at hJ
    exact hd σ H hJ
theorem k_rng1 {RJ : It → Hp → Prop} (h : rng1 j = some xs') (k : xs' = ((List.range j.toNat).map fun (i : Nat) => (0 : Int) + (i : Int)) → RJ (Itr 0 j.toNat) H) : ∃ j' : Int, [V.int j] = [V.int j'] ∧ -(2 ^ 62) ≤ j' ∧ j' < 2 ^ 62 ∧ RJ (Itr 0 j'.toNat) H := by
  obtain ⟨⟨c1, c2⟩, rfl⟩ := grdE h
  exact ⟨j, rfl, c1, c2, k (by unfold rangeI; rw [Int.sub_zero])⟩
theorem k_rng2 {RJ : It → Hp → Prop} (h : rng2 i j = some xs') (k : xs' = ((List.range (j - i).toNat).map fun (n : Nat) => i + (n : Int)) → RJ (Itr i (j - i).toNat) H) :
    ∃ i' j' : Int, [V.int i, V.int j] = [V.int i', V.int j'] ∧ (-(2 ^ 62) ≤ i' ∧ i' < 2 ^ 62 ∧ -(2 ^ 62) ≤ j' ∧ j' < 2 ^ 62) ∧ RJ (Itr i' (j' - i').toNat) H := by
  obtain ⟨c, rfl⟩ := grdE h
  exact ⟨i, j, rfl, c, k rfl⟩
/-- while: J, by the turns that the mirror still has -/
theorem k_while {tc : TT} {tb : TS} {D : Ends} (J : Nat → St → Hp → Prop) (n : Nat) (h0 : J n σ H)
    (hs : ∀ n σ H, J n σ H → tc σ H fun b H1 => if b = true then ∃ N : St → Hp → Prop, (∀ σ' H', N σ' H' → ∃ m', m' < n ∧ J m' σ' H') ∧ tb { D with nx := N, ct := N, bk := D.nx } σ H1 else D.nx σ H1) : tWhile tc tb D σ H :=
  ⟨J, ⟨n, h0⟩, hs⟩
/-! comprehensions -/
theorem k_lcL {g : TG} {te : TE} {vs : List Nat} {D : Addr} {Qd : Hp → Prop} (J : List α → Hp → Prop) (h0 : J xs (upd H D (.lst []))) (hl : ∀ r H, J r H → SqL K H a (xs.map f))
    (hs : ∀ x r H, J (x :: r) H → g (f x) (wipe σ vs) H fun σ2 H2 => wipe σ2 vs = wipe σ vs ∧ te σ2 H2 fun y H4 => ∃ acc, H4 D = some (.lst acc) ∧ acc.length < sizeLine ∧ J r (upd H4 D (.lst (acc ++ [y])))) (hd : ∀ H, J [] H → Qd H) :
    ∃ W : Nat → Nat → Hp → Prop, (∃ m, W 0 m (upd H D (.lst []))) ∧ ∀ i m H, W i m H →
      ((Itl K a).stop i H ∧ Qd H) ∨ ((Itl K a).go i H ∧ ∃ Nx : Hp → Prop, (∀ H', Nx H' → ∃ m', m' < m ∧ W (i + 1) m' H') ∧ ∀ x H', (Itl K a).yld i H x H' → g x (wipe σ vs) H' fun σ2 H2 => wipe σ2 vs = wipe σ vs ∧ tYes σ2 H2 fun b H3 =>
        if b = true then te σ2 H3 fun y H4 => ∃ acc, H4 D = some (.lst acc) ∧ acc.length < sizeLine ∧ Nx (upd H4 D (.lst (acc ++ [y]))) else Nx H3) := by
  refine lc_list (xs := xs.map f) (fun i H => J (xs.drop i) H) h0 (fun i H _ => hl _ H) (fun i x H hi hJ => ?_) fun H hJ => ?_
  · rw [List.getElem?_map] at hi
    cases e : xs[i]? with
    | none => rw [e] at hi; cases hi
    | some y =>
      rw [e] at hi
      cases hi
      have e2 : xs.drop i = y :: xs.drop (i + 1) := by
        obtain ⟨h1, h2⟩ := List.getElem?_eq_some_iff.mp e
        rw [← h2]
        exact List.drop_eq_getElem_cons h1
      rw [e2] at hJ
      exact hs y _ H hJ
  · rw [List.length_map, List.drop_length] at hJ
    exact hd H hJ
theorem k_lcR {lo : Int} {n : Nat} {g : TG} {te : TE} {vs : List Nat} {D : Addr} {Qd : Hp → Prop} (J : List Int → Hp → Prop) (h0 : J ((List.range n).map fun (i : Nat) => lo + (i : Int)) (upd H D (.lst [])))
    (hs : ∀ x r H, J (x :: r) H → g (.int x) (wipe σ vs) H fun σ2 H2 => wipe σ2 vs = wipe σ vs ∧ te σ2 H2 fun y H4 => ∃ acc, H4 D = some (.lst acc) ∧ acc.length < sizeLine ∧ J r (upd H4 D (.lst (acc ++ [y])))) (hd : ∀ H, J [] H → Qd H) :
    ∃ W : Nat → Nat → Hp → Prop, (∃ m, W 0 m (upd H D (.lst []))) ∧ ∀ i m H, W i m H →
      ((Itr lo n).stop i H ∧ Qd H) ∨ ((Itr lo n).go i H ∧ ∃ Nx : Hp → Prop, (∀ H', Nx H' → ∃ m', m' < m ∧ W (i + 1) m' H') ∧ ∀ x H', (Itr lo n).yld i H x H' → g x (wipe σ vs) H' fun σ2 H2 => wipe σ2 vs = wipe σ vs ∧ tYes σ2 H2 fun b H3 =>
        if b = true then te σ2 H3 fun y H4 => ∃ acc, H4 D = some (.lst acc) ∧ acc.length < sizeLine ∧ Nx (upd H4 D (.lst (acc ++ [y]))) else Nx H3) := by
  refine lc_range (fun i H => J (((List.range n).map fun (i : Nat) => lo + (i : Int)).drop i) H) h0 (fun i H hi hJ => ?_) fun H hJ => ?_
  · have e2 : ((List.range n).map fun (i : Nat) => lo + (i : Int)).drop i = (lo + (i : Int)) :: ((List.range n).map fun (i : Nat) => lo + (i : Int)).drop (i + 1) := by
      have h1 : i < ((List.range n).map fun (i : Nat) => lo + (i : Int)).length := by simpa using hi
      rw [List.drop_eq_getElem_cons h1]
      simp
    rw [e2] at hJ
    exact hs _ _ H hJ
  · have e : ((List.range n).map fun (i : Nat) => lo + (i : Int)).drop n = [] := List.drop_eq_nil_of_le (by simp)
    rw [e] at hJ
    exact hd H hJ
end
end Bt

set_option Elab.async false
set_option linter.all false
set_option maxRecDepth 100000
set_option maxHeartbeats 4000000
/-! More steps. -/
namespace Bt
open PySem L2
/-- a name of the module that holds a value -/
def Gv (mg : Str → Option Value) (x : Str) (v : V) : Prop := ∃ u, mg x = some u ∧ RelV v u
theorem pe_gv {X : Cx} {x : Str} {v : V} {pos : Pos} (hg : Gl X x) (h : Gv X.mg x v) (hd : (x == ("__debug__" : Str)) = false := by decide) : PE X (.Name x pos) (tC v) := by
  obtain ⟨u, h1, h2⟩ := h
  exact pe_glob hg h1 h2 hd
section
variable {α S T R' : Type}
theorem finNx {rest : S → Option R'} {s : S} {r : R'} (h : finK rest (.nx s) = some r) : rest s = some r := h
theorem floNx {rest : S → Option (Fl T R')} {s : S} {fl : Fl T R'} (h : floK rest (.nx s) = some fl) : rest s = some fl := h
end
section
variable {K : PySem.W.Frag} {σ : St} {H R : Hp} {L L' : List Cell} {Q : VK} {a b p : Addr} {α : Type} {f : α → V} {xs ys zs : List α}
/-- some of the cells, by their places -/
theorem Own.sel (O : Own R H L) (is : List Nat) (hd : is.Nodup) (e : is.map (fun i => L[i]?) = L'.map some) : Own R H L' := by
  have hm : ∀ c ∈ L', c ∈ L := fun c hc => by
    have h1 : some c ∈ is.map (fun i => L[i]?) := by rw [e]; exact List.mem_map_of_mem hc
    obtain ⟨i, _, h2⟩ := List.mem_map.mp h1
    exact List.mem_of_getElem? h2
  refine ⟨O.ex, fun c h => O.at_ c (hm c h), fun c h => O.fr c (hm c h), ?_⟩
  clear hm
  induction is generalizing L' with
  | nil =>
    cases L' with
    | nil => exact List.Pairwise.nil
    | cons c r => simp at e
  | cons i is ih =>
    cases L' with
    | nil => simp at e
    | cons c r =>
      simp only [List.map_cons, List.cons.injEq] at e
      obtain ⟨e1, e2⟩ := e
      obtain ⟨n1, n2⟩ := List.nodup_cons.mp hd
      refine List.nodup_cons.mpr ⟨fun m => ?_, ih n2 e2⟩
      obtain ⟨d, hdm, ed⟩ := List.mem_map.mp m
      have h1 : some d ∈ is.map (fun i => L[i]?) := by rw [e2]; exact List.mem_map_of_mem hdm
      obtain ⟨j, hj, h2⟩ := List.mem_map.mp h1
      have g1 : (L.map (·.1))[i]? = some c.1 := by rw [List.getElem?_map, e1]; rfl
      have g2 : (L.map (·.1))[j]? = some c.1 := by
        rw [List.getElem?_map, h2]
        exact congrArg some ed
      have : i = j := nd_ix O.nd g1 g2
      subst this
      exact n1 hj
/-- the same, told by what is left -/
def pickL (L : List Cell) (is : List Nat) : List Cell := is.filterMap fun i => L[i]?
theorem pick_some (L : List Cell) : ∀ is : List Nat, (∀ i ∈ is, i < L.length) → is.map (fun i => L[i]?) = (pickL L is).map some
  | [], _ => rfl
  | i :: r, h => by
    have h1 := h i (List.Mem.head _)
    have ih := pick_some L r fun j hj => h j (List.Mem.tail _ hj)
    unfold pickL at ih ⊢
    rw [List.map_cons, List.filterMap_cons, ih, List.getElem?_eq_getElem h1]
    rfl
theorem Own.pk (O : Own R H L) (is : List Nat) (hd : is.Nodup) (e : pickL L is = L') : Own R H L' := by
  subst e
  have hm : pickL L is = pickL L (is.filter fun i => decide (i < L.length)) := by
    unfold pickL
    clear hd
    induction is with
    | nil => rfl
    | cons i r ih =>
      rw [List.filterMap_cons, List.filter_cons, ih]
      by_cases h : i < L.length
      · rw [decide_eq_true h, if_pos rfl, List.filterMap_cons]
      · rw [decide_eq_false h, if_neg (by simp), List.getElem?_eq_none (by omega)]
  rw [hm]
  exact O.sel _ (hd.filter _) (pick_some L _ fun i hi => by
    obtain ⟨_, h⟩ := List.mem_filter.mp hi
    exact of_decide_eq_true h)
theorem a_set {v v' : V} {nx : St → Hp → Prop} {i : Nat} (e : v = v') (k : nx (σ.set i (some v')) H) : nx (σ.set i (some v)) H := by rw [e]; exact k
theorem k_newM {zs : List V} (O : Own R H L) (e : xs.map f = zs) (k : ∀ p H', Own R H' ((p, .lst (xs.map f)) :: L) → Q (.ref p) H') : ∀ p, H p = none → Q (.ref p) (upd H p (.lst zs)) := by
  subst e
  exact fun p hp => k p _ (O.new hp)
theorem k_rep {k : Int} (O : Own R H L) (h1 : H a = some (.lst (xs.map f))) (h : repG xs k = some zs) (q : ∀ p H', Own R H' ((p, .lst (zs.map f)) :: L) → Q (.ref p) H') : rRep (.ref a) (.int k) H Q := by
  obtain ⟨⟨c1, c2, c3⟩, rfl⟩ := grdE h
  refine ⟨a, k, _, rfl, rfl, h1, c1, c2, by rw [List.length_map]; exact c3, fun p hp => ?_⟩
  have e : ∀ n : Nat, (List.replicate n (xs.map f)).flatten = (List.replicate n xs).flatten.map f := fun n => by
    induction n with
    | zero => rfl
    | succ n ih => rw [List.replicate_succ, List.flatten_cons, ih, List.replicate_succ, List.flatten_cons, List.map_append]
  first
    | (rw [e]; exact q p _ (O.new hp))
    | (show Q (.ref p) _; simpa only [e] using q p _ (O.new hp))
end
end Bt
namespace Bt
open PySem L2
/-! readings under a name of their own, so that what follows stands as an argument -/
@[irreducible] def rNewL (xs : List V) (H : Hp) (Q : VK) : Prop := xs.length ≤ sizeLine ∧ ∀ p, H p = none → Q (.ref p) (upd H p (.lst xs))
@[irreducible] def rNewT (xs : List V) (H : Hp) (Q : VK) : Prop := xs.length ≤ sizeLine ∧ ∀ p, H p = none → Q (.ref p) (upd H p (.tup xs))
@[irreducible] def rLenQ (K : PySem.W.Frag) (xs : List V) (H : Hp) (Q : VK) : Prop := ∃ p ys, xs = [V.ref p] ∧ (SqL K H p ys ∨ SqT K H p ys) ∧ Q (.int ys.length) H
@[irreducible] def rListQ (K : PySem.W.Frag) (xs : List V) (H : Hp) (Q : VK) : Prop := ∃ p ys, xs = [V.ref p] ∧ (SqL K H p ys ∨ SqT K H p ys) ∧ ∀ l, H l = none → Q (.ref l) (upd H l (.lst ys))
section
variable {X : Cx}
theorem pe_lstQ {es : List Expr} {t : TA} {pos : Pos} (h : PE X (.List es pos) (tLst t)) : PE X (.List es pos) (fun σ H Q => t σ H fun xs H1 => rNewL xs H1 Q) := by
  unfold rNewL
  exact h
theorem pe_tupQ {es : List Expr} {k : Nat} {t : TA} {pos : Pos} (h : PE X (.Tuple es k pos) (tTup t)) : PE X (.Tuple es k pos) (fun σ H Q => t σ H fun xs H1 => rNewT xs H1 Q) := by
  unfold rNewT
  exact h
theorem call_lenQ : CallR X (.builtin "len") (rLenQ X.K) := by
  have e : rLenQ X.K = fun xs H Q => ∃ p ys, xs = [V.ref p] ∧ (SqL X.K H p ys ∨ SqT X.K H p ys) ∧ Q (.int ys.length) H := by
    funext xs H Q
    unfold rLenQ
    rfl
  rw [e]
  exact call_len_seq
theorem call_listQ : CallR X (.type "list") (rListQ X.K) := by
  have e : rListQ X.K = fun xs H Q => ∃ p ys, xs = [V.ref p] ∧ (SqL X.K H p ys ∨ SqT X.K H p ys) ∧ ∀ l, H l = none → Q (.ref l) (upd H l (.lst ys)) := by
    funext xs H Q
    unfold rListQ
    rfl
  rw [e]
  exact call_list_of
end
section
variable {K : PySem.W.Frag} {σ : St} {H R : Hp} {L L' : List Cell} {Q : VK} {a b p : Addr} {α : Type} {f : α → V} {xs ys zs : List α}
theorem x_nil {QA : List V → Hp → Prop} (h : QA [] H) : tNil σ H QA := h
theorem x_np {QO : Option Int → Hp → Prop} (h : QO none H) : tNoPart σ H QO := h
theorem n_lst {zs : List V} (O : Own R H L) (e : xs.map f = zs) (hz : zs.length ≤ sizeLine) (k : ∀ p H', Own R H' ((p, .lst (xs.map f)) :: L) → Q (.ref p) H') : rNewL zs H Q := by
  subst e
  unfold rNewL
  exact ⟨hz, fun p hp => k p _ (O.new hp)⟩
theorem n_lenT {K : PySem.W.Frag} {H : Hp} {Q : VK} {a : Addr} {ys : List V} {n : Nat} (hs : SqT K H a ys) (hn : ys.length = n) (q : Q (.int (n : Int)) H) : rLenQ K [.ref a] H Q := by
  unfold rLenQ
  exact ⟨a, ys, rfl, .inr hs, by rw [hn]; exact q⟩
theorem n_len (h : SqL K H a (xs.map f)) (k : Q (.int (xs.length : Int)) H) : rLenQ K [.ref a] H Q := by
  unfold rLenQ
  exact ⟨a, _, rfl, .inl h, by rw [List.length_map]; exact k⟩
theorem n_list {ys : List V} (O : Own R H L) (h : SqL K H a ys) (k : ∀ p H', Own R H' ((p, .lst ys) :: L) → Q (.ref p) H') : rListQ K [.ref a] H Q := by
  unfold rListQ
  exact ⟨a, _, rfl, .inl h, fun l hl => k l _ (O.new hl)⟩
theorem rng1E {j : Int} {xs : List Int} (h : rng1 j = some xs) : -(2 ^ 62) ≤ j ∧ j < 2 ^ 62 ∧ ((List.range j.toNat).map fun (i : Nat) => (0 : Int) + (i : Int)) = xs := by
  obtain ⟨⟨c1, c2⟩, rfl⟩ := grdE h
  exact ⟨c1, c2, by unfold rangeI; rw [Int.sub_zero]⟩
theorem rng2E {i j : Int} {xs : List Int} (h : rng2 i j = some xs) : (-(2 ^ 62) ≤ i ∧ i < 2 ^ 62 ∧ -(2 ^ 62) ≤ j ∧ j < 2 ^ 62) ∧ ((List.range (j - i).toNat).map fun (n : Nat) => i + (n : Int)) = xs := by
  obtain ⟨c, rfl⟩ := grdE h
  exact ⟨c, rfl⟩
end
end Bt
namespace Bt
open PySem L2
/-! a reading opened by one step, by its head -/
section
variable {K : PySem.W.Frag} {σ : St} {H : Hp} {Q : VK} {D : Ends} {t u ts : TS} {te ta tb tl : TE} {tr : TA} {c : TT} {v : V} {i : Nat} {r : R2} {QB : Bool → Hp → Prop} {QA : List V → Hp → Prop} {QO : Option Int → Hp → Prop} {R : It → Hp → Prop}
theorem o_seq {n b k : St → Hp → Prop} {w : VK} (h : t (Ends.mk (u (Ends.mk n w b k)) w b k) σ H) : tSeq t u (Ends.mk n w b k) σ H := h
theorem o_asg {n b k : St → Hp → Prop} {w : VK} (h : te σ H fun x H1 => n (σ.set i (some x)) H1) : tAsg te (gName i) (Ends.mk n w b k) σ H := h
theorem o_drop {n b k : St → Hp → Prop} {w : VK} (h : te σ H fun _ H1 => n σ H1) : tDrop te (Ends.mk n w b k) σ H := h
theorem o_ret {n b k : St → Hp → Prop} {w : VK} (h : te σ H w) : tRet te (Ends.mk n w b k) σ H := h
theorem o_ifs {n b k : St → Hp → Prop} {w : VK} (h : c σ H fun z H1 => if z = true then t (Ends.mk n w b k) σ H1 else u (Ends.mk n w b k) σ H1) : tIfS c t u (Ends.mk n w b k) σ H := h
theorem o_next {n b k : St → Hp → Prop} {w : VK} (h : n σ H) : tNext (Ends.mk n w b k) σ H := h
theorem o_brk {n b k : St → Hp → Prop} {w : VK} (h : b σ H) : tBreak (Ends.mk n w b k) σ H := h
theorem o_cont {n b k : St → Hp → Prop} {w : VK} (h : k σ H) : tCont (Ends.mk n w b k) σ H := h
theorem o_retN {n b k : St → Hp → Prop} {w : VK} (h : w .non H) : tRetN (Ends.mk n w b k) σ H := h
theorem o_cut {n b k : St → Hp → Prop} {w : VK} (Mid : St → Hp → Prop) (h1 : t (Ends.mk Mid w b k) σ H) (h2 : ∀ σ' H', Mid σ' H' → u (Ends.mk n w b k) σ' H') : Evl.tCut t u (Ends.mk n w b k) σ H := ⟨Mid, h1, h2⟩
theorem o_op (h : ta σ H fun x H1 => tb σ H1 fun y H2 => r x y H2 Q) : tOp r ta tb σ H Q := h
theorem o_un {r : V → Hp → VK → Prop} (h : ta σ H fun x H1 => r x H1 Q) : tUn r ta σ H Q := h
theorem o_c (h : Q v H) : tC v σ H Q := h
theorem o_test (h : te σ H fun x H' => ∃ k, x = .bl k ∧ QB k H') : tTest te σ H QB := h
theorem o_B (h : te σ H fun x H' => ∃ k, x = .bl k ∧ QB k H') : tB te σ H QB := h
theorem o_not (h : c σ H fun b H1 => QB (!b) H1) : tNot c σ H QB := h
theorem o_notV (h : te σ H fun x H1 => ∃ c, x = .bl c ∧ Q (.bl (!c)) H1) : tNotV te σ H Q := h
theorem o_cons (h : ta σ H fun x H1 => tr σ H1 fun xs H2 => QA (x :: xs) H2) : tCons ta tr σ H QA := h
theorem o_cb {r : List V → Hp → VK → Prop} (h : tr σ H fun vs H1 => r vs H1 Q) : tCB r tr σ H Q := h
theorem o_call {sp : Sp} {dvs : List V} {E : XK} (h : tr σ H fun vs H1 => sp (vs ++ dvs) H1 Q E) : tCall sp dvs E tr σ H Q := h
theorem o_bm {T : String} {r : V → List V → Hp → VK → Prop} (h : te σ H fun x H1 => tyV K T x H1 ∧ tr σ H1 fun xs H2 => r x xs H2 Q) : tBM K T r te tr σ H Q := h
theorem o_bm0 {T : String} {r : V → List V → Hp → VK → Prop} (h : te σ H fun x H1 => tyV K T x H1 ∧ r x [] H1 Q) : tBM0 K T r te σ H Q := h
theorem o_sl {r : V → Option Int → Option Int → Hp → VK → Prop} {t1 t2 : TO} (h : te σ H fun x H1 => t1 σ H1 fun l H2 => t2 σ H2 fun u H3 => r x l u H3 Q) : tSl r te t1 t2 σ H Q := h
theorem o_part (h : te σ H fun x H1 => ∃ i, x = .int i ∧ QO (some i) H1) : tPart te σ H QO := h
theorem o_for {wi : TI} {g : TG} {n b k : St → Hp → Prop} {w : VK} (h : wi σ H fun J H1 => ∃ W : Nat → Nat → St → Hp → Prop, (∃ m, W 0 m σ H1) ∧ ∀ i m σ H, W i m σ H →
    (J.stop i H ∧ n σ H) ∨ (J.go i H ∧ ∃ N : St → Hp → Prop, (∀ σ' H', N σ' H' → ∃ m', m' < m ∧ W (i + 1) m' σ' H') ∧ ∀ x H', J.yld i H x H' → g x σ H' fun σ2 H2 => ts (Ends.mk N w n N) σ2 H2)) : tFor wi g ts (Ends.mk n w b k) σ H := h
theorem o_il (h : tl σ H fun x H1 => ∃ a, x = .ref a ∧ (∃ xs, SqL K H1 a xs) ∧ R (Itl K a) H1) : iList K tl σ H R := h
theorem o_ir1 (h : tr σ H fun vs H1 => ∃ j : Int, vs = [.int j] ∧ -(2 ^ 62) ≤ j ∧ j < 2 ^ 62 ∧ R (Itr 0 j.toNat) H1) : iRng1 tr σ H R := h
theorem o_ir2 (h : tr σ H fun vs H1 => ∃ i j : Int, vs = [.int i, .int j] ∧ (-(2 ^ 62) ≤ i ∧ i < 2 ^ 62 ∧ -(2 ^ 62) ≤ j ∧ j < 2 ^ 62) ∧ R (Itr i (j - i).toNat) H1) : iRng2 tr σ H R := h
theorem o_sub {to ti : TE} {tset : TSet} {n b k : St → Hp → Prop} {w : VK} (h : te σ H fun x H1 => to σ H1 fun o H2 => ti σ H2 fun i H3 => tset o i x H3 fun H4 => n σ H4) : tAsg te (gSub to ti tset) (Ends.mk n w b k) σ H := h
/-! the loops once more, their ends apart -/
variable {α : Type} {f : α → V} {xs : List α} {a : Addr} {g : TG} {n b k : St → Hp → Prop} {w : VK}
theorem q_forL {j : Nat} (J : List α → St → Hp → Prop) (h0 : J xs σ H) (hl : ∀ r σ H, J r σ H → SqL K H a (xs.map f))
    (hs : ∀ x r σ H, J (x :: r) σ H → ts (Ends.mk (J r) w n (J r)) (σ.set j (some (f x))) H) (hd : ∀ σ H, J [] σ H → n σ H) :
    ∃ W : Nat → Nat → St → Hp → Prop, (∃ m, W 0 m σ H) ∧ ∀ i m σ H, W i m σ H →
      ((Itl K a).stop i H ∧ n σ H) ∨ ((Itl K a).go i H ∧ ∃ N : St → Hp → Prop, (∀ σ' H', N σ' H' → ∃ m', m' < m ∧ W (i + 1) m' σ' H') ∧ ∀ x H', (Itl K a).yld i H x H' → gName j x σ H' fun σ2 H2 => ts (Ends.mk N w n N) σ2 H2) :=
  k_forL (D := Ends.mk n w (fun _ _ => False) fun _ _ => False) (g := gName j) (tb := ts) J h0 hl hs hd
theorem q_forR {j : Nat} {lo : Int} {m : Nat} (J : List Int → St → Hp → Prop) (h0 : J ((List.range m).map fun (i : Nat) => lo + (i : Int)) σ H)
    (hs : ∀ x r σ H, J (x :: r) σ H → ts (Ends.mk (J r) w n (J r)) (σ.set j (some (.int x))) H) (hd : ∀ σ H, J [] σ H → n σ H) :
    ∃ W : Nat → Nat → St → Hp → Prop, (∃ m, W 0 m σ H) ∧ ∀ i m' σ H, W i m' σ H →
      ((Itr lo m).stop i H ∧ n σ H) ∨ ((Itr lo m).go i H ∧ ∃ N : St → Hp → Prop, (∀ σ' H', N σ' H' → ∃ m'', m'' < m' ∧ W (i + 1) m'' σ' H') ∧ ∀ x H', (Itr lo m).yld i H x H' → gName j x σ H' fun σ2 H2 => ts (Ends.mk N w n N) σ2 H2) :=
  k_forR (D := Ends.mk n w (fun _ _ => False) fun _ _ => False) (g := gName j) (tb := ts) J h0 hs hd
end
end Bt
namespace Bt
open PySem L2
/-! what the head tells of a def -/
theorem def_mk {K : PySem.W.Frag} {h : Heap} {mg : Str → Option Value} {name qual : Str} {st : Stmt} {f : Addr} {od an : Option Addr} {sl : Array (Option Value)} {oc kV dc pm cd ct : Value} (X : K.In h) (G : h.Ns mainGlobals mg)
    (a : PySem.W.nsIn K mainGlobals name = some (some (.ref f))) (l : K.lookup f = some ⟨oc, od, .func (PySem.W.fnOf name qual (defArgs st) (defBody st) (defScope st) .none kV dc pm an cd ct), sl⟩) (c : PySem.W.codeIn K cd qual = true) (k : PySem.W.keepIn K (.ref f) = true) :
    ∃ f fd, Fun K name qual st f fd ∧ mg name = some (.ref f) := ⟨f, _, fun_mk l c k, PySem.W.mg_of X G a⟩
theorem gv_int {K : PySem.W.Frag} {h : Heap} {mg : Str → Option Value} {x : Str} {i : Int} {t : Tok} (X : K.In h) (G : h.Ns mainGlobals mg) (a : PySem.W.nsIn K mainGlobals x = some (some (.int i t))) : Gv mg x (.int i) := ⟨_, PySem.W.mg_of X G a, _, rfl⟩
end Bt
namespace Bt
open PySem L2
section
variable {K : PySem.W.Frag} {σ : St} {H R : Hp} {L : List Cell} {Q : VK} {a p : Addr} {i : Int} {x v : V} {S R' : Type}
def FUEL : Nat := 100000
theorem whileM_end {c : Bool} {s out : S} {f : Option S} (h : ifB c f (some s) = some out) (hc : c = false) : out = s := (Option.some.inj (ifF h hc)).symm
theorem whileF_end {c : Bool} {s : S} {out : Fl S R'} {f : Option (Fl S R')} (h : ifB c f (some (.nx s)) = some out) (hc : c = false) : Fl.nx s = out := Option.some.inj (ifF h hc)
/-- while: J, by the turns that the mirror still has -/
theorem q_while {tc : TT} {ts : TS} {n b k : St → Hp → Prop} {w : VK} (J : Nat → St → Hp → Prop) (m : Nat) (h0 : J m σ H) (hz : ∀ σ H, J 0 σ H → False)
    (hs : ∀ m σ H, J (m + 1) σ H → tc σ H fun z H1 => if z = true then ts (Ends.mk (J m) w n (J m)) σ H1 else n σ H1) (mono : ∀ σ H (Q Q' : Bool → Hp → Prop), (∀ z H1, Q z H1 → Q' z H1) → tc σ H Q → tc σ H Q') : tWhile tc ts (Ends.mk n w b k) σ H := by
  refine ⟨J, ⟨m, h0⟩, fun m σ H hJ => ?_⟩
  cases m with
  | zero => exact (hz σ H hJ).elim
  | succ m =>
    refine mono σ H _ _ (fun z H1 q => ?_) (hs m σ H hJ)
    cases z with
    | true =>
      rw [if_pos rfl] at q ⊢
      exact ⟨J m, fun σ' H' hJ' => ⟨m, Nat.lt_succ_self m, hJ'⟩, q⟩
    | false =>
      rw [if_neg Bool.false_ne_true] at q ⊢
      exact q
theorem o_while {tc : TT} {ts : TS} {n b k : St → Hp → Prop} {w : VK} (J : Nat → St → Hp → Prop) (m : Nat) (h0 : J m σ H) (hz : ∀ σ H, J 0 σ H → False)
    (hs : ∀ m σ H, J (m + 1) σ H → tc σ H fun z H1 => if z = true then ∃ N : St → Hp → Prop, (∀ σ' H', N σ' H' → ∃ m', m' < m + 1 ∧ J m' σ' H') ∧ ts (Ends.mk N w n N) σ H1 else n σ H1) : tWhile tc ts (Ends.mk n w b k) σ H := by
  refine ⟨J, ⟨m, h0⟩, fun m σ H hJ => ?_⟩
  cases m with
  | zero => exact (hz σ H hJ).elim
  | succ m => exact hs m σ H hJ
theorem o_turn {J : Nat → St → Hp → Prop} {m : Nat} {ts : TS} {n : St → Hp → Prop} {w : VK} (h : ts (Ends.mk (J m) w n (J m)) σ H) :
    ∃ N : St → Hp → Prop, (∀ σ' H', N σ' H' → ∃ m', m' < m + 1 ∧ J m' σ' H') ∧ ts (Ends.mk N w n N) σ H := ⟨J m, fun _ _ hJ => ⟨m, Nat.lt_succ_self m, hJ⟩, h⟩
theorem n_tup {zs : List V} (O : Own R H L) (hz : zs.length ≤ sizeLine) (k : ∀ p H', Own R H' ((p, .tup zs) :: L) → Q (.ref p) H') : rNewT zs H Q := by
  unfold rNewT
  exact ⟨hz, fun p hp => k p _ (O.new hp)⟩
theorem k_ixT {xs : List V} (hs : SqT K H a xs) (h : atI xs i = some v) (k : Q v H) : rIxT K (.ref a) (.int i) H Q := ⟨a, xs, i, v, rfl, rfl, hs, h, k⟩
end
end Bt
namespace Bt
open PySem L2
section
variable {K : PySem.W.Frag} {σ : St} {H R : Hp} {L : List Cell} {Q : VK} {a p : Addr} {i : Int} {x v : V} {α : Type} {f : α → V} {xs : List α}
theorem inV_int (i : Int) : ∀ xs : List Int, inV (.int i) (xs.map V.int) = decide (i ∈ xs)
  | [] => rfl
  | y :: r => by
    have ih := inV_int i r
    have e : inV (.int i) ((y :: r).map V.int) = (eqV (.int y) (.int i) || inV (.int i) (r.map V.int)) := rfl
    rw [e, ih]
    have e2 : eqV (.int y) (.int i) = decide (i = y) := by
      by_cases h : i = y
      · subst h; simp [eqV]
      · have : ¬ y = i := fun q => h q.symm
        simp [eqV, h, this]
    rw [e2]
    simp
theorem flat_int : ∀ xs : List Int, (xs.map V.int).all flatV = true
  | [] => rfl
  | y :: r => by
    have ih := flat_int r
    show (flatV (.int y) && (r.map V.int).all flatV) = true
    rw [ih]
    rfl
theorem k_inL {ns : List Int} (hs : SqL K H a (ns.map V.int)) (k : Q (.bl (decide (i ∈ ns))) H) : rIn K false (.int i) (.ref a) H Q :=
  ⟨a, _, rfl, .inl hs, rfl, flat_int _, by rw [inV_int]; exact k⟩
theorem k_niL {ns : List Int} (hs : SqL K H a (ns.map V.int)) (k : Q (.bl (!decide (i ∈ ns))) H) : rIn K true (.int i) (.ref a) H Q :=
  ⟨a, _, rfl, .inl hs, rfl, flat_int _, by rw [inV_int]; exact k⟩
theorem k_inT {ns : List Int} (hs : SqT K H a (ns.map V.int)) (k : Q (.bl (decide (i ∈ ns))) H) : rIn K false (.int i) (.ref a) H Q :=
  ⟨a, _, rfl, .inr hs, rfl, flat_int _, by rw [inV_int]; exact k⟩
theorem k_niT {ns : List Int} (hs : SqT K H a (ns.map V.int)) (k : Q (.bl (!decide (i ∈ ns))) H) : rIn K true (.int i) (.ref a) H Q :=
  ⟨a, _, rfl, .inr hs, rfl, flat_int _, by rw [inV_int]; exact k⟩
/-! comprehensions with a test -/
theorem k_lcLt {g : TG} {tt : TT} {te : TE} {vs : List Nat} {D : Addr} {Qd : Hp → Prop} (J : List α → Hp → Prop) (h0 : J xs (upd H D (.lst []))) (hl : ∀ r H, J r H → SqL K H a (xs.map f))
    (hs : ∀ x r H, J (x :: r) H → g (f x) (wipe σ vs) H fun σ2 H2 => wipe σ2 vs = wipe σ vs ∧ tt σ2 H2 fun b H3 => if b = true then te σ2 H3 fun y H4 => ∃ acc, H4 D = some (.lst acc) ∧ acc.length < sizeLine ∧ J r (upd H4 D (.lst (acc ++ [y]))) else J r H3) (hd : ∀ H, J [] H → Qd H) :
    ∃ W : Nat → Nat → Hp → Prop, (∃ m, W 0 m (upd H D (.lst []))) ∧ ∀ i m H, W i m H →
      ((Itl K a).stop i H ∧ Qd H) ∨ ((Itl K a).go i H ∧ ∃ Nx : Hp → Prop, (∀ H', Nx H' → ∃ m', m' < m ∧ W (i + 1) m' H') ∧ ∀ x H', (Itl K a).yld i H x H' → g x (wipe σ vs) H' fun σ2 H2 => wipe σ2 vs = wipe σ vs ∧ tt σ2 H2 fun b H3 =>
        if b = true then te σ2 H3 fun y H4 => ∃ acc, H4 D = some (.lst acc) ∧ acc.length < sizeLine ∧ Nx (upd H4 D (.lst (acc ++ [y]))) else Nx H3) := by
  refine lc_list (xs := xs.map f) (fun i H => J (xs.drop i) H) h0 (fun i H _ => hl _ H) (fun i x H hi hJ => ?_) fun H hJ => ?_
  · rw [List.getElem?_map] at hi
    cases e : xs[i]? with
    | none => rw [e] at hi; cases hi
    | some y =>
      rw [e] at hi
      cases hi
      have e2 : xs.drop i = y :: xs.drop (i + 1) := by
        obtain ⟨h1, h2⟩ := List.getElem?_eq_some_iff.mp e
        rw [← h2]
        exact List.drop_eq_getElem_cons h1
      rw [e2] at hJ
      exact hs y _ H hJ
  · rw [List.length_map, List.drop_length] at hJ
    exact hd H hJ
theorem k_lcRt {lo : Int} {n : Nat} {g : TG} {tt : TT} {te : TE} {vs : List Nat} {D : Addr} {Qd : Hp → Prop} (J : List Int → Hp → Prop) (h0 : J ((List.range n).map fun (i : Nat) => lo + (i : Int)) (upd H D (.lst [])))
    (hs : ∀ x r H, J (x :: r) H → g (.int x) (wipe σ vs) H fun σ2 H2 => wipe σ2 vs = wipe σ vs ∧ tt σ2 H2 fun b H3 => if b = true then te σ2 H3 fun y H4 => ∃ acc, H4 D = some (.lst acc) ∧ acc.length < sizeLine ∧ J r (upd H4 D (.lst (acc ++ [y]))) else J r H3) (hd : ∀ H, J [] H → Qd H) :
    ∃ W : Nat → Nat → Hp → Prop, (∃ m, W 0 m (upd H D (.lst []))) ∧ ∀ i m H, W i m H →
      ((Itr lo n).stop i H ∧ Qd H) ∨ ((Itr lo n).go i H ∧ ∃ Nx : Hp → Prop, (∀ H', Nx H' → ∃ m', m' < m ∧ W (i + 1) m' H') ∧ ∀ x H', (Itr lo n).yld i H x H' → g x (wipe σ vs) H' fun σ2 H2 => wipe σ2 vs = wipe σ vs ∧ tt σ2 H2 fun b H3 =>
        if b = true then te σ2 H3 fun y H4 => ∃ acc, H4 D = some (.lst acc) ∧ acc.length < sizeLine ∧ Nx (upd H4 D (.lst (acc ++ [y]))) else Nx H3) := by
  refine lc_range (fun i H => J (((List.range n).map fun (i : Nat) => lo + (i : Int)).drop i) H) h0 (fun i H hi hJ => ?_) fun H hJ => ?_
  · have e2 : ((List.range n).map fun (i : Nat) => lo + (i : Int)).drop i = (lo + (i : Int)) :: ((List.range n).map fun (i : Nat) => lo + (i : Int)).drop (i + 1) := by
      have h1 : i < ((List.range n).map fun (i : Nat) => lo + (i : Int)).length := by simpa using hi
      rw [List.drop_eq_getElem_cons h1]
      simp
    rw [e2] at hJ
    exact hs _ _ H hJ
  · have e : ((List.range n).map fun (i : Nat) => lo + (i : Int)).drop n = [] := List.drop_eq_nil_of_le (by simp)
    rw [e] at hJ
    exact hd H hJ
/-! for i, x in enumerate(xs) -/
def enumI {α : Type} : Nat → List α → List (Int × α)
  | _, [] => []
  | n, x :: r => ((n : Int), x) :: enumI (n + 1) r
theorem enumI_drop {α : Type} : ∀ (xs : List α) (n i : Nat) (x : α), xs[i]? = some x → (enumI n xs).drop i = (((n + i : Nat) : Int), x) :: (enumI n xs).drop (i + 1)
  | [], _, _, _, h => by simp at h
  | y :: r, n, 0, x, h => by
    cases (Option.some.inj h)
    rfl
  | y :: r, n, i + 1, x, h => by
    have ih := enumI_drop r (n + 1) i x (by simpa using h)
    show (enumI (n + 1) r).drop i = _ :: (enumI (n + 1) r).drop (i + 1)
    rw [ih]
    have : n + 1 + i = n + (i + 1) := by omega
    rw [this]
theorem enumI_len {α : Type} : ∀ (xs : List α) (n : Nat), (enumI n xs).length = xs.length
  | [], _ => rfl
  | x :: r, n => by show (enumI (n + 1) r).length + 1 = r.length + 1; rw [enumI_len r]
theorem q_forE {i1 i2 : Nat} {ts : TS} {n b k : St → Hp → Prop} {w : VK} {KK : PySem.W.Frag} (J : List (Int × α) → St → Hp → Prop) (h0 : J (enumI 0 xs) σ H) (hl : ∀ r σ H, J r σ H → SqL K H a (xs.map f)) (hx : ∀ r σ H H', J r σ H → Ex H H' → J r σ H')
    (hs : ∀ j x r σ H, J ((j, x) :: r) σ H → ts (Ends.mk (J r) w n (J r)) ((σ.set i1 (some (.int j))).set i2 (some (f x))) H) (hd : ∀ σ H, J [] σ H → n σ H) :
    ∃ W : Nat → Nat → St → Hp → Prop, (∃ m, W 0 m σ H) ∧ ∀ i m σ H, W i m σ H →
      ((Ite K a).stop i H ∧ n σ H) ∨ ((Ite K a).go i H ∧ ∃ N : St → Hp → Prop, (∀ σ' H', N σ' H' → ∃ m', m' < m ∧ W (i + 1) m' σ' H') ∧ ∀ x H', (Ite K a).yld i H x H' → gTup KK 2 (gCons (gName i1) (gCons (gName i2) gNil)) x σ H' fun σ2 H2 => ts (Ends.mk N w n N) σ2 H2) := by
  refine ⟨fun i m σ H => m = xs.length - i ∧ i ≤ xs.length ∧ J ((enumI 0 xs).drop i) σ H, ⟨xs.length, by simp, Nat.zero_le _, h0⟩, ?_⟩
  rintro i m σ H ⟨rfl, hi, hJ⟩
  have hS := hl _ σ H hJ
  by_cases hlt : i < xs.length
  · have e : xs[i]? = some xs[i] := List.getElem?_eq_getElem hlt
    have e1 : (xs.map f)[i]? = some (f xs[i]) := by rw [List.getElem?_map, e]; rfl
    have e2 := enumI_drop xs 0 i xs[i] e
    rw [e2] at hJ
    refine .inr ⟨⟨_, _, hS, e1⟩, J ((enumI 0 xs).drop (i + 1)), fun σ' H' hJ' => ⟨_, by omega, rfl, hlt, hJ'⟩, fun y H' hy => ?_⟩
    obtain ⟨T, x, rfl, hT, rfl, hq⟩ := hy
    have hxx := hq _ hS
    rw [e1] at hxx
    cases hxx
    refine ⟨T, _, rfl, SqT.of upd_same, rfl, _, _, rfl, _, _, rfl, rfl, ?_⟩
    have hJ2 := hx _ _ _ (upd H T (.tup [.int ((i : Nat) : Int), f xs[i]])) hJ (Ex.new hT)
    have e3 : ((0 + i : Nat) : Int) = (i : Int) := by omega
    rw [e3] at hJ2
    exact hs _ _ _ _ _ hJ2
  · have e : (enumI 0 xs).drop i = [] := List.drop_eq_nil_of_le (by rw [enumI_len]; omega)
    rw [e] at hJ
    exact .inl ⟨⟨_, hS, by rw [List.length_map]; omega⟩, hd σ H hJ⟩
end
end Bt
namespace Bt
open PySem L2
/-! what is refused -/
inductive Er where
  | NoBits | NoName | NoKey | NoFrame | NoPost | NoThing | NoStrip | NoRail
  | NoWire (i : Int) | NoRow (i : Int)
  deriving DecidableEq
structure Eds where
  NoBits : Addr
  NoName : Addr
  NoKey : Addr
  NoFrame : Addr
  NoPost : Addr
  NoThing : Addr
  NoStrip : Addr
  NoRail : Addr
  NoWire : Addr
  NoRow : Addr
  RailError : Addr
def Eds.of (d : Eds) : Er → Addr
  | .NoBits => d.NoBits
  | .NoName => d.NoName
  | .NoKey => d.NoKey
  | .NoFrame => d.NoFrame
  | .NoPost => d.NoPost
  | .NoThing => d.NoThing
  | .NoStrip => d.NoStrip
  | .NoRail => d.NoRail
  | .NoWire _ => d.NoWire
  | .NoRow _ => d.NoRow
inductive Rs (R : Type) where
  | ok (r : R)
  | er (e : Er)
def RetE (d : Eds) (e : Er) (H : Hp) (E : XK) : Prop := match e with
  | .NoWire i => ∀ H' a, H a = none → Ex H H' → H' a = some (.xd [(("at" : Str), .int i)]) → E (.ref d.NoWire) (some a) H'
  | .NoRow i => ∀ H' a, H a = none → Ex H H' → H' a = some (.xd [(("word" : Str), .int i)]) → E (.ref d.NoRow) (some a) H'
  | e => ∀ H', Ex H H' → E (.ref (d.of e)) none H'
def RetR {R : Type} (P : R → Prop) (d : Eds) (r : Rs R) (H : Hp) (E : XK) : Prop := match r with
  | .ok r => P r
  | .er e => RetE d e H E
section
variable {α β S R' : Type} {d : Eds} {H H0 : Hp} {E : XK} {L : List Cell}
theorem RetE.go {e : Er} (k : RetE d e H0 E) (O : Own H0 H L) : RetE d e H E := by
  cases e <;> first
    | exact fun H' h => k H' (O.ex.trans h)
    | exact fun H' a ha h => k H' a (O.ex.back ha) (O.ex.trans h)
theorem RetR.ok {P : α → Prop} {y : α} (h : P y) : RetR P d (.ok y) H E := h
theorem RetR.split {P : α → Prop} {x : Rs α} (h2 : ∀ e, x = .er e → RetE d e H E) (h1 : ∀ y, x = .ok y → P y) : RetR P d x H E := by
  cases x with
  | ok y => exact h1 y rfl
  | er e => exact h2 e rfl
def contR (f : α → Option (Rs β)) : Rs α → Option (Rs β)
  | .ok x => f x
  | .er e => some (.er e)
def bndR (a : Option (Rs α)) (f : α → Option (Rs β)) : Option (Rs β) := bnd a (contR f)
def contRF (f : α → Option (Fl S (Rs β))) : Rs α → Option (Fl S (Rs β))
  | .ok x => f x
  | .er e => some (.rt (.er e))
def bndRF (a : Option (Rs α)) (f : α → Option (Fl S (Rs β))) : Option (Fl S (Rs β)) := bnd a (contRF f)
def contO (f : α → Option β) : Rs α → Option β
  | .ok x => f x
  | .er _ => none
def bndO (a : Option (Rs α)) (f : α → Option β) : Option β := bnd a (contO f)
theorem bndRE {a : Option (Rs α)} {f : α → Option (Rs β)} {r : Rs β} (h : bndR a f = some r) : ∃ x, a = some x ∧ contR f x = some r := bndE h
theorem bndRFE {a : Option (Rs α)} {f : α → Option (Fl S (Rs β))} {r : Fl S (Rs β)} (h : bndRF a f = some r) : ∃ x, a = some x ∧ contRF f x = some r := bndE h
theorem okR {f : α → Option (Rs β)} {y : α} {r : Rs β} (h : contR f (.ok y) = some r) : f y = some r := h
theorem okRF {f : α → Option (Fl S (Rs β))} {y : α} {r : Fl S (Rs β)} (h : contRF f (.ok y) = some r) : f y = some r := h
theorem erR {f : α → Option (Rs β)} {e : Er} {r : Rs β} (h : contR f (.er e) = some r) : Rs.er e = r := Option.some.inj h
theorem erRF {f : α → Option (Fl S (Rs β))} {e : Er} {r : Fl S (Rs β)} (h : contRF f (.er e) = some r) : Fl.rt (Rs.er e) = r := Option.some.inj h
theorem bndOE {a : Option (Rs α)} {f : α → Option β} {r : β} (h : bndO a f = some r) : ∃ y, a = some (.ok y) ∧ f y = some r := by
  obtain ⟨x, h1, h2⟩ := bndE h
  cases x with
  | ok y => exact ⟨y, h1, h2⟩
  | er e => cases h2
end
/-- a class of refusals, as the top has made it -/
structure ErrC (K : PySem.W.Frag) (mg : Str → Option Value) (x : Str) (C : Addr) : Prop where
  g : mg x = some (.ref C)
  ex : PySem.W.excIn K C [.type "ValueError", .type "Exception", .type "BaseException", .type "object"] "ValueError.__new__" = true
  kp : PySem.W.keepIn K (.ref C) = true
  b : PySem.W.subIn K (.ref C) (.type "BaseException") = some true
  t : PySem.W.typeIn K (.ref C) = some (.type "type")
theorem ps_err {X : Cx} {W : WX} {x m : Str} {j : Nat} {p p2 pos pos' : Pos} {C : Addr} (e : ErrC X.K X.mg x C) (tk : Takes X W) (hc : X.calm = true) (hg : Gl X x) (hdb : (x == ("__debug__" : Str)) = false := by decide) :
    PS X (.Raise (some (.Call (.Name x p) [.Constant (.str m) j p2] [] pos)) none pos') (fun _ σ H => W (.ref C) none σ H) :=
  ps_raise hc tk (pmk_own PySem.F.excBase_ValueError e.ex e.g e.kp (raises_own e.b e.t) hg hdb)
end Bt
namespace Bt
open PySem L2
theorem err_mk {K : PySem.W.Frag} {h : Heap} {mg : Str → Option Value} {x : Str} {C : Addr} (X : K.In h) (G : h.Ns mainGlobals mg) (a : PySem.W.nsIn K mainGlobals x = some (some (.ref C)))
    (e : PySem.W.excIn K C [.type "ValueError", .type "Exception", .type "BaseException", .type "object"] "ValueError.__new__" = true) (k : PySem.W.keepIn K (.ref C) = true) (b : PySem.W.subIn K (.ref C) (.type "BaseException") = some true) (t : PySem.W.typeIn K (.ref C) = some (.type "type")) :
    ∃ C, ErrC K mg x C := ⟨C, PySem.W.mg_of X G a, e, k, b, t⟩
end Bt
namespace Bt
open PySem L2
inductive Ek where
  | NoBits | NoName | NoKey | NoFrame | NoPost | NoThing | NoStrip | NoRail | NoWire | NoRow
  deriving DecidableEq
def Er.k : Er → Ek
  | .NoBits => .NoBits
  | .NoName => .NoName
  | .NoKey => .NoKey
  | .NoFrame => .NoFrame
  | .NoPost => .NoPost
  | .NoThing => .NoThing
  | .NoStrip => .NoStrip
  | .NoRail => .NoRail
  | .NoWire _ => .NoWire
  | .NoRow _ => .NoRow
def tryR {α β : Type} (x : Rs α) (f : α → β) (g : Er → β) : β := match x with
  | .ok y => f y
  | .er e => g e
theorem tryOk {α β : Type} {y : α} {f : α → β} {g : Er → β} {r : β} (h : tryR (.ok y) f g = r) : f y = r := h
theorem tryEr {α β : Type} {e : Er} {f : α → β} {g : Er → β} {r : β} (h : tryR (.er e) f g = r) : g e = r := h
theorem exm_mk {K : PySem.W.Frag} {C S : Addr} {r : Bool} (h1 : PySem.W.subIn K (.ref S) (.type "BaseException") = some true) (h2 : (PySem.W.clsIn K S).isSome = true) (h3 : PySem.W.typeIn K (.ref S) = some (.type "type")) (h4 : PySem.W.subIn K (.ref C) (.ref S) = some r) :
    PySem.W.exmOne K (.ref C) (.ref S) = some r := by
  have e1 : (PySem.W.subIn K (.ref S) (.type "BaseException") == some true) = true := by rw [h1] <;> rfl
  have e2 : ((PySem.W.clsIn K S).isSome && PySem.W.typeIn K (.ref S) == some (.type "type")) = true := by
    rw [h2, h3] <;> rfl
  unfold PySem.W.exmOne
  rw [if_pos e1]
  unfold PySem.W.kitCls
  dsimp only
  rw [if_pos e2]
  exact h4
end Bt
namespace Bt
open PySem L2
theorem o_callS {sp : Sp} {E : L2.St → XK} {tr : TA} {σ : L2.St} {H : Hp} {Q : VK} (h : tr σ H fun vs H1 => sp vs H1 Q (E σ)) : tCallS sp E tr σ H Q := h
end Bt
namespace Bt
open PySem L2
section
variable {α : Type} {R H : Hp} {Q : VK} {a : Addr} {xs ys : List α} {y : α} {f : α → V}
def popL (xs : List α) : Option (α × List α) := match xs[xs.length - 1]? with
  | some y => some (y, xs.dropLast)
  | none => none
theorem popE (h : popL xs = some (y, ys)) : xs[xs.length - 1]? = some y ∧ xs.dropLast = ys := by
  unfold popL at h
  split at h
  · rename_i e
    cases h
    exact ⟨e, rfl⟩
  · cases h
theorem popL_ok {xs : List α} {y : α} : popL (xs ++ [y]) = some (y, xs) := by
  unfold popL
  rw [List.length_append, List.length_singleton, Nat.add_sub_cancel, List.getElem?_append_right (Nat.le_refl _), Nat.sub_self]
  simp
theorem k_clr {g : HO → List Cell} (hl : H a = some (.lst (xs.map f))) (hp : ∀ o', Own R (upd H a o') (g o')) (k : ∀ H', Own R H' (g (.lst (([] : List α).map f))) → Q .non H') : rClear (.ref a) [] H Q :=
  ⟨a, _, rfl, rfl, hl, k _ (hp _)⟩
theorem k_pop {g : HO → List Cell} (hl : H a = some (.lst (xs.map f))) (hp : ∀ o', Own R (upd H a o') (g o')) (h : popL xs = some (y, ys)) (k : ∀ H', Own R H' (g (.lst (ys.map f))) → Q (f y) H') : rPop (.ref a) [] H Q := by
  obtain ⟨e, rfl⟩ := popE h
  refine ⟨a, _, f y, rfl, rfl, hl, ?_, ?_⟩
  · rw [List.length_map, List.getElem?_map, e]; rfl
  · rw [← List.map_dropLast]
    exact k _ (hp _)
theorem k_ext {b : Addr} {zs : List α} {g : HO → List Cell} (hl : H a = some (.lst (xs.map f))) (hb : H b = some (.lst (zs.map f))) (hp : ∀ o', Own R (upd H a o') (g o')) (h : catG xs zs = some ys) (k : ∀ H', Own R H' (g (.lst (ys.map f))) → Q .non H') : rExtend (.ref a) [.ref b] H Q := by
  obtain ⟨c, rfl⟩ := grdE h
  refine ⟨a, b, _, _, rfl, rfl, hl, hb, ?_, ?_⟩
  · rw [List.length_map, List.length_map]; exact c
  · rw [← List.map_append]
    exact k _ (hp _)
end
end Bt

set_option Elab.async false
set_option linter.all false
set_option maxRecDepth 100000
set_option maxHeartbeats 4000000
/-! Built-ins that the kit's rules do not name. -/
namespace Bt
open PySem L2 PyProof.Rows
section
variable {X : Cx}
def maxL (d : Int) : List Int → Int
  | [] => d
  | n :: ns => ns.foldl (fun a y => if a < y then y else a) n
def rMaxD (K : PySem.W.Frag) : List V → List V → Hp → VK → Prop := fun xs zs H Q => ∃ a ns d, xs = [.ref a] ∧ zs = [.int d] ∧ SqL K H a (ns.map V.int) ∧ Q (.int (maxL d ns)) H
theorem maxOf_int (x : Int) (xs : List Int) : PySem.W.maxOf x xs = xs.foldl (fun a y => if a < y then y else a) x := by
  unfold PySem.W.maxOf
  congr 1
  funext a y
  show (if decide (a < y) = true then y else a) = _
  by_cases h : a < y
  · rw [if_pos (decide_eq_true h), if_pos h]
  · rw [if_neg (by simpa using h), if_neg h]
theorem cr_maxD (hc : X.calm = true) (hu : X.A.units + 64 < cLine) : CallRK X (.builtin "max") [Str.ofString "default"] (rMaxD X.K) := by
  intro pins s σ H xs zs us ws Q I r1 r2 h
  obtain ⟨a, ns, d, rfl, rfl, hs, q⟩ := h
  obtain ⟨its, rv, hl, _⟩ := I.list hs
  rw [Vals.ref1 r1]
  obtain ⟨w, rfl, t, rfl⟩ := r2.one
  refine PySem.W.max_list_datum_default (α := Int) (I.ok.hd hc) hl.isList (PySem.W.HoldAll.of_ints rv.ints) (by show X.A.units + 1 + 0 < cLine; omega) (fun e h' tk k => ?_) fun y ys i v h' tk e _ hv k => ?_
  · subst e
    exact ⟨.int d, H, I.kept k, ⟨_, rfl⟩, q⟩
  · subst e
    obtain ⟨bs, hv⟩ := hv
    rw [maxOf_int] at hv
    cases hv
    exact ⟨.int _, H, I.kept k, ⟨_, rfl⟩, q⟩
variable {K : PySem.W.Frag} {H : Hp} {Q : VK} {a : Addr} {ns : List Int} {d : Int} {t tk : TA} {r : List V → List V → Hp → VK → Prop} {σ : L2.St}
theorem o_kw (h : t σ H fun vs H1 => tk σ H1 fun zs H2 => r vs zs H2 Q) : tCKw r t tk σ H Q := h
theorem k_maxD (hs : SqL K H a (ns.map V.int)) (q : Q (.int (maxL d ns)) H) : rMaxD K [.ref a] [.int d] H Q := ⟨a, ns, d, rfl, rfl, hs, q⟩
theorem o_en {ta : TA} {R : It → Hp → Prop} (h : ta σ H fun vs H1 => ∃ a xs, vs = [.ref a] ∧ SqL K H1 a xs ∧ R (Ite K a) H1) : iEnum K ta σ H R := h
end
end Bt

set_option Elab.async false
set_option linter.all false
set_option maxRecDepth 100000
set_option maxHeartbeats 4000000
/-! Data in data: what stands in a heap that only grows. -/
namespace Bt
open PySem L2
inductive All2 {α β : Type} (P : α → β → Prop) : List α → List β → Prop
  | nil : All2 P [] []
  | cons {a : α} {b : β} {as : List α} {bs : List β} : P a b → All2 P as bs → All2 P (a :: as) (b :: bs)
section
variable {α β : Type} {P Q : α → β → Prop} {as cs : List α} {bs ds : List β} {a : α} {b : β}
theorem All2.mp (f : ∀ a b, P a b → Q a b) (h : All2 P as bs) : All2 Q as bs := by
  induction h with
  | nil => exact .nil
  | cons h _ ih => exact .cons (f _ _ h) ih
theorem All2.app (h : All2 P as bs) (k : All2 P cs ds) : All2 P (as ++ cs) (bs ++ ds) := by
  induction h with
  | nil => exact k
  | cons h _ ih => exact .cons h ih
theorem All2.snoc (h : All2 P as bs) (k : P a b) : All2 P (as ++ [a]) (bs ++ [b]) := h.app (.cons k .nil)
theorem All2.len (h : All2 P as bs) : as.length = bs.length := by
  induction h with
  | nil => rfl
  | cons _ _ ih => simp [ih]
theorem All2.get (h : All2 P as bs) : ∀ {i : Nat} {b : β}, bs[i]? = some b → ∃ a, as[i]? = some a ∧ P a b := by
  induction h with
  | nil => intro i b e; simp at e
  | cons h _ ih =>
    intro i b e
    cases i with
    | zero => cases Option.some.inj e; exact ⟨_, rfl, h⟩
    | succ i => exact ih (by simpa using e)
theorem All2.drop (h : All2 P as bs) : ∀ n, All2 P (as.drop n) (bs.drop n) := by
  induction h with
  | nil => intro n; simp; exact .nil
  | cons h t ih =>
    intro n
    cases n with
    | zero => exact .cons h t
    | succ n => exact ih n
theorem All2.take (h : All2 P as bs) : ∀ n, All2 P (as.take n) (bs.take n) := by
  induction h with
  | nil => intro n; simp; exact .nil
  | cons h t ih =>
    intro n
    cases n with
    | zero => exact .nil
    | succ n => exact .cons h (ih n)
theorem All2.set (h : All2 P as bs) (k : P a b) : ∀ n, All2 P (as.set n a) (bs.set n b) := by
  induction h with
  | nil => intro n; exact .nil
  | cons h t ih =>
    intro n
    cases n with
    | zero => exact .cons k t
    | succ n => exact .cons h (ih n)
end
/-- what a value stands for, in a heap -/
abbrev Rp (α : Type) := Hp → V → α → Prop
def Mono {α : Type} (P : Rp α) : Prop := ∀ F F' v x, Ex F F' → P F v x → P F' v x
def rI : Rp Int := fun _ v a => v = .int a
def rB : Rp Bool := fun _ v a => v = .bl a
def rS : Rp Str := fun _ v a => v = .str a
def rL {α : Type} (P : Rp α) : Rp (List α) := fun F v xs => ∃ p vs, v = .ref p ∧ F p = some (.lst vs) ∧ All2 (P F) vs xs
def rT2 {α β : Type} (P : Rp α) (Q : Rp β) : Rp (α × β) := fun F v x => ∃ p a b, v = .ref p ∧ F p = some (.tup [a, b]) ∧ P F a x.1 ∧ Q F b x.2
def rT3 {α β γ : Type} (P : Rp α) (Q : Rp β) (R : Rp γ) : Rp (α × β × γ) := fun F v x => ∃ p a b c, v = .ref p ∧ F p = some (.tup [a, b, c]) ∧ P F a x.1 ∧ Q F b x.2.1 ∧ R F c x.2.2
def rT4 {α β γ δ : Type} (P : Rp α) (Q : Rp β) (R : Rp γ) (S : Rp δ) : Rp (α × β × γ × δ) := fun F v x => ∃ p a b c d, v = .ref p ∧ F p = some (.tup [a, b, c, d]) ∧ P F a x.1 ∧ Q F b x.2.1 ∧ R F c x.2.2.1 ∧ S F d x.2.2.2
def rO {α : Type} (P : Rp α) : Rp (Option α) := fun F v x => match x with
  | none => v = .non
  | some y => P F v y
theorem mI : Mono rI := fun _ _ _ _ _ h => h
theorem mB : Mono rB := fun _ _ _ _ _ h => h
theorem mS : Mono rS := fun _ _ _ _ _ h => h
theorem mL {α : Type} {P : Rp α} (m : Mono P) : Mono (rL P) := fun F F' v x e ⟨p, vs, h1, h2, h3⟩ => ⟨p, vs, h1, e _ _ h2, h3.mp fun a b h => m F F' a b e h⟩
theorem mA {α : Type} {P : Rp α} (m : Mono P) {F F' : Hp} {vs : List V} {xs : List α} (e : Ex F F') (h : All2 (P F) vs xs) : All2 (P F') vs xs := h.mp fun a b h => m F F' a b e h
theorem mT2 {α β : Type} {P : Rp α} {Q : Rp β} (m : Mono P) (n : Mono Q) : Mono (rT2 P Q) := fun F F' v x e ⟨p, a, b, h1, h2, h3, h4⟩ => ⟨p, a, b, h1, e _ _ h2, m _ _ _ _ e h3, n _ _ _ _ e h4⟩
theorem mT3 {α β γ : Type} {P : Rp α} {Q : Rp β} {R : Rp γ} (m : Mono P) (n : Mono Q) (o : Mono R) : Mono (rT3 P Q R) := fun F F' v x e ⟨p, a, b, c, h1, h2, h3, h4, h5⟩ => ⟨p, a, b, c, h1, e _ _ h2, m _ _ _ _ e h3, n _ _ _ _ e h4, o _ _ _ _ e h5⟩
theorem mT4 {α β γ δ : Type} {P : Rp α} {Q : Rp β} {R : Rp γ} {S : Rp δ} (m : Mono P) (n : Mono Q) (o : Mono R) (q : Mono S) : Mono (rT4 P Q R S) := fun F F' v x e ⟨p, a, b, c, d, h1, h2, h3, h4, h5, h6⟩ => ⟨p, a, b, c, d, h1, e _ _ h2, m _ _ _ _ e h3, n _ _ _ _ e h4, o _ _ _ _ e h5, q _ _ _ _ e h6⟩
theorem mO {α : Type} {P : Rp α} (m : Mono P) : Mono (rO P) := fun F F' v x e h => by
  cases x with
  | none => exact h
  | some y => exact m _ _ _ _ e h
/-! flat lists in a heap -/
theorem aI {F : Hp} : ∀ {vs : List V} {xs : List Int}, All2 (rI F) vs xs → vs = xs.map V.int
  | _, _, .nil => rfl
  | _, _, .cons h t => by rw [show _ = _ from h, aI t]; rfl
theorem aB {F : Hp} : ∀ {vs : List V} {xs : List Bool}, All2 (rB F) vs xs → vs = xs.map V.bl
  | _, _, .nil => rfl
  | _, _, .cons h t => by rw [show _ = _ from h, aB t]; rfl
theorem aS {F : Hp} : ∀ {vs : List V} {xs : List Str}, All2 (rS F) vs xs → vs = xs.map V.str
  | _, _, .nil => rfl
  | _, _, .cons h t => by rw [show _ = _ from h, aS t]; rfl
theorem iA {F : Hp} : ∀ (xs : List Int), All2 (rI F) (xs.map V.int) xs
  | [] => .nil
  | x :: r => .cons rfl (iA r)
theorem bA {F : Hp} : ∀ (xs : List Bool), All2 (rB F) (xs.map V.bl) xs
  | [] => .nil
  | x :: r => .cons rfl (bA r)
theorem sA {F : Hp} : ∀ (xs : List Str), All2 (rS F) (xs.map V.str) xs
  | [] => .nil
  | x :: r => .cons rfl (sA r)
theorem fI {F : Hp} {v : V} {xs : List Int} (h : rL rI F v xs) : ∃ p, v = .ref p ∧ F p = some (.lst (xs.map V.int)) := by
  obtain ⟨p, vs, h1, h2, h3⟩ := h
  rw [aI h3] at h2
  exact ⟨p, h1, h2⟩
theorem fB {F : Hp} {v : V} {xs : List Bool} (h : rL rB F v xs) : ∃ p, v = .ref p ∧ F p = some (.lst (xs.map V.bl)) := by
  obtain ⟨p, vs, h1, h2, h3⟩ := h
  rw [aB h3] at h2
  exact ⟨p, h1, h2⟩
theorem fS {F : Hp} {v : V} {xs : List Str} (h : rL rS F v xs) : ∃ p, v = .ref p ∧ F p = some (.lst (xs.map V.str)) := by
  obtain ⟨p, vs, h1, h2, h3⟩ := h
  rw [aS h3] at h2
  exact ⟨p, h1, h2⟩
theorem gI {F : Hp} {p : Addr} {xs : List Int} (h : F p = some (.lst (xs.map V.int))) : rL rI F (.ref p) xs := ⟨p, _, rfl, h, iA xs⟩
theorem gB {F : Hp} {p : Addr} {xs : List Bool} (h : F p = some (.lst (xs.map V.bl))) : rL rB F (.ref p) xs := ⟨p, _, rfl, h, bA xs⟩
theorem gS {F : Hp} {p : Addr} {xs : List Str} (h : F p = some (.lst (xs.map V.str))) : rL rS F (.ref p) xs := ⟨p, _, rfl, h, sA xs⟩
/-! the frame grows -/
/-- of X what R knows, or what H does not -/
def ovr (R H X : Hp) : Hp := fun a => if R a ≠ none ∨ H a = none then X a else none
theorem ovr_some {R H X : Hp} {a : Addr} {u : HO} (h : ovr R H X a = some u) : (R a ≠ none ∨ H a = none) ∧ X a = some u := by
  unfold ovr at h
  split at h
  · exact ⟨by assumption, h⟩
  · cases h
theorem ovr_mk {R H X : Hp} {a : Addr} {u : HO} (h : R a ≠ none ∨ H a = none) (k : X a = some u) : ovr R H X a = some u := by
  unfold ovr
  rw [if_pos h]
  exact k
theorem ovr_ex {R H X : Hp} : Ex (ovr R H X) X := fun a o h => by
  unfold ovr at h
  split at h
  · exact h
  · cases h
theorem ovr_mono {R H X Y : Hp} (e : Ex X Y) : Ex (ovr R H X) (ovr R H Y) := fun a o h => by
  unfold ovr at h ⊢
  split at h
  · rename_i c
    rw [if_pos c]
    exact e _ _ h
  · cases h
theorem ovr_start {R H : Hp} (e : Ex R H) : Ex R (ovr R H H) := fun a o h => by
  unfold ovr
  rw [if_pos (.inl (by rw [h]; simp))]
  exact e _ _ h
section
variable {R H H' F H0 R0 : Hp} {L : List Cell} {p : Addr} {o : HO}
theorem Own.freeze (O : Own R H ((p, o) :: L)) : Own (upd R p o) H L :=
  ⟨fun a u h => by
    by_cases e : a = p
    · subst e
      rw [upd_same] at h
      cases h
      exact O.at_ _ (List.Mem.head _)
    · rw [upd_ne e] at h
      exact O.ex _ _ h, fun c h => O.at_ c (List.Mem.tail _ h), fun c h => by
    have hne : c.1 ≠ p := fun e => (List.nodup_cons.mp O.nd).1 (by rw [← e]; exact List.mem_map_of_mem (f := (·.1)) h)
    rw [upd_ne hne]
    exact O.fr c (List.Mem.tail _ h), (List.nodup_cons.mp O.nd).2⟩
/-- R grows by a cell; what was known of it stays, the new cell is known -/
theorem Own.frz (O : Own R H ((p, o) :: L)) : ∃ R', Own R' H L ∧ Ex R R' ∧ R' p = some o := ⟨_, O.freeze, Ex.new (O.fr _ (List.Mem.head _)), upd_same⟩
theorem Own.frzO (O : Own R H ((p, o) :: L)) (e0 : Ex H0 R) : ∃ R', Own R' H L ∧ Ex R R' ∧ ovr R0 H0 R' p = some o := ⟨_, O.freeze, Ex.new (O.fr _ (List.Mem.head _)), by
  unfold ovr
  rw [if_pos (.inr (e0.back (O.fr _ (List.Mem.head _))))]
  exact upd_same⟩
/-- R grows by all that is new -/
theorem Own.grow (O : Own R H L) (e : Ex H H') : ∃ R', Own R' H' L ∧ Ex R R' ∧ ∀ F, Ex F R → Ex (ovr F H H') R' := by
  refine ⟨fun a => if H a = none then H' a else R a, ⟨fun a u h => ?_, fun c h => e _ _ (O.at_ c h), fun c h => ?_, O.nd⟩, fun a u h => ?_, fun F hF a u h => ?_⟩
  · by_cases c : H a = none
    · rw [if_pos c] at h; exact h
    · rw [if_neg c] at h; exact e _ _ (O.ex _ _ h)
  · rw [if_neg (by rw [O.at_ c h]; simp)]
    exact O.fr c h
  · show (if H a = none then H' a else R a) = some u
    rw [if_neg (by rw [O.ex _ _ h]; simp)]
    exact h
  · unfold ovr at h
    split at h
    · rename_i q
      rcases q with q | q
      · cases hf : F a with
        | none => exact absurd hf q
        | some w =>
          have h1 := O.ex _ _ (hF _ _ hf)
          have h2 := e _ _ h1
          rw [h] at h2
          cases h2
          show (if H a = none then H' a else R a) = some u
          rw [if_neg (by rw [h1]; simp)]
          exact hF _ _ hf
      · show (if H a = none then H' a else R a) = some u
        rw [if_pos q]
        exact h
    · cases h
theorem Own.growO (O : Own R H L) (e : Ex H H') (e0 : Ex H0 R) : ∃ R', Own R' H' L ∧ Ex R R' ∧ Ex (ovr (ovr R0 H0 R) H H') (ovr R0 H0 R') := by
  obtain ⟨R', O', e1, e2⟩ := O.grow e
  refine ⟨R', O', e1, fun a u h => ?_⟩
  have h1 := e2 (ovr R0 H0 R) ovr_ex _ _ h
  obtain ⟨q, _⟩ := ovr_some h
  refine ovr_mk ?_ h1
  rcases q with q | q
  · cases hq : ovr R0 H0 R a with
    | none => exact absurd hq q
    | some w => exact (ovr_some hq).1
  · exact .inr (Ex.back (e0.trans O.ex) q)
end
/-- a new thing is handed back, in what R knows or what is new -/
def RetG {α : Type} (P : Rp α) (R : Hp) (r : α) (H : Hp) (Q : VK) : Prop := ∀ v H', Ex H H' → P (ovr R H H') v r → Q v H'
section
variable {α : Type} {P : Rp α} {R H F H0 R0 : Hp} {L : List Cell} {r : α} {Q : VK} {v : V}
theorem Own.retG (O : Own R H L) (m : Mono P) (k : ∀ v H' R', Own R' H' L → Ex R R' → P R' v r → Q v H') : RetG P R r H Q := fun v H' e h => by
  obtain ⟨R', O', e1, e2⟩ := O.grow e
  exact k v H' R' O' e1 (m _ _ _ _ (e2 R (Ex.refl R)) h)
theorem Own.retGO (O : Own R H L) (m : Mono P) (e0 : Ex H0 R) (k : ∀ v H' R', Own R' H' L → Ex R R' → P (ovr R0 H0 R') v r → Q v H') : RetG P (ovr R0 H0 R) r H Q := fun v H' e h => by
  obtain ⟨R', O', e1, e2⟩ := O.growO (R0 := R0) e e0
  exact k v H' R' O' e1 (m _ _ _ _ e2 h)
theorem RetG.go (k : RetG P R0 r H0 Q) (m : Mono P) (O : Own R H L) (e0 : Ex H0 R) (h : P (ovr R0 H0 R) v r) : Q v H := k v H (e0.trans O.ex) (m _ _ _ _ (ovr_mono O.ex) h)
theorem RetV.goR {v : V} (k : RetV v H0 Q) (O : Own R H L) (e0 : Ex H0 R) : Q v H := k H (e0.trans O.ex)
theorem RetL.goR {xs : List V} {p : Addr} (k : RetL xs H0 Q) (O : Own R H L) (e0 : Ex H0 R) (h : (p, HO.lst xs) ∈ L) : Q (.ref p) H := k p H (e0.back (O.fr _ h)) (e0.trans O.ex) (O.at_ _ h)
theorem RetT.goR {xs : List V} {p : Addr} (k : RetT xs H0 Q) (O : Own R H L) (e0 : Ex H0 R) (h : (p, HO.tup xs) ∈ L) : Q (.ref p) H := k p H (e0.back (O.fr _ h)) (e0.trans O.ex) (O.at_ _ h)
end
/-! == of such data -/
structure De {α : Type} [DecidableEq α] (P : Rp α) where
  d : α → PyData
  dp : ∀ (K : PySem.W.Frag) F v a, P F v a → Dp K F v (d a)
  ok : ∀ a, PyData.canLay0 (d a) = true
  n : Nat
  dep : ∀ a, PyData.depth (d a) ≤ n
  eq : ∀ a b, PyData.eqv (d a) (d b) = decide (a = b)
def deI : De rI where
  d := PyData.int
  dp := fun K F v a h => by rw [show v = V.int a from h]; exact .int a
  ok := fun _ => rfl
  n := 0
  dep := fun _ => Nat.le_refl _
  eq := fun a b => by simp only [PyData.eqv]; rw [Bool.beq_eq_decide_eq]
def deB : De rB where
  d := PyData.bool
  dp := fun K F v a h => by rw [show v = V.bl a from h]; exact .bl a
  ok := fun _ => rfl
  n := 0
  dep := fun _ => Nat.le_refl _
  eq := fun a b => by simp only [PyData.eqv]; rw [Bool.beq_eq_decide_eq]
section
variable {α β γ : Type} [DecidableEq α] [DecidableEq β] [DecidableEq γ]
theorem de_all {P : Rp α} (e : De P) {K : PySem.W.Frag} {F : Hp} : ∀ {vs : List V} {xs : List α}, All2 (P F) vs xs → DpAll K F vs (xs.map e.d)
  | _, _, .nil => .nil
  | _, _, .cons h t => .cons (e.dp K F _ _ h) (de_all e t)
theorem ok_all {P : Rp α} (e : De P) : ∀ xs : List α, PyData.canLayAll0 (xs.map e.d) = true
  | [] => rfl
  | x :: r => by simp only [List.map_cons, PyData.canLayAll0, e.ok x, ok_all e r, Bool.and_self]
theorem dep_all {P : Rp α} (e : De P) : ∀ xs : List α, PyData.depthAll (xs.map e.d) ≤ e.n
  | [] => by simp [PyData.depthAll]
  | x :: r => by
    have h1 := e.dep x
    have h2 := dep_all e r
    simp only [List.map_cons, PyData.depthAll]
    omega
theorem eq_all {P : Rp α} (e : De P) : ∀ xs ys : List α, PyData.eqvAll (xs.map e.d) (ys.map e.d) = decide (xs = ys)
  | [], [] => by simp [PyData.eqvAll]
  | [], y :: s => by simp [PyData.eqvAll]
  | x :: r, [] => by simp [PyData.eqvAll]
  | x :: r, y :: s => by simp only [List.map_cons, PyData.eqvAll, e.eq x y, eq_all e r s, List.cons.injEq, Bool.decide_and]
def deL {P : Rp α} (e : De P) : De (rL P) where
  d := fun xs => .list (xs.map e.d)
  dp := fun K F v xs ⟨p, vs, h1, h2, h3⟩ => by
    subst h1
    exact .lst (SqL.of h2) (de_all e h3)
  ok := fun xs => by simp only [PyData.canLay0]; exact ok_all e xs
  n := e.n + 1
  dep := fun xs => by
    have := dep_all e xs
    simp only [PyData.depth]
    omega
  eq := fun xs ys => by simp only [PyData.eqv]; exact eq_all e xs ys
def deT2 {P : Rp α} {Q : Rp β} (e : De P) (f : De Q) : De (rT2 P Q) where
  d := fun x => .tuple [e.d x.1, f.d x.2]
  dp := fun K F v x ⟨p, a, b, h1, h2, h3, h4⟩ => by
    subst h1
    exact .tup (SqT.of h2) (.cons (e.dp K F _ _ h3) (.cons (f.dp K F _ _ h4) .nil))
  ok := fun x => by simp only [PyData.canLay0, PyData.canLayAll0, e.ok, f.ok, Bool.and_self]
  n := max e.n f.n + 1
  dep := fun x => by
    have h1 := e.dep x.1
    have h2 := f.dep x.2
    simp only [PyData.depth, PyData.depthAll]
    omega
  eq := fun x y => by
    obtain ⟨x1, x2⟩ := x
    obtain ⟨y1, y2⟩ := y
    simp only [PyData.eqv, PyData.eqvAll, e.eq, f.eq, Prod.mk.injEq, Bool.decide_and, Bool.and_true]
def deT3 {P : Rp α} {Q : Rp β} {R : Rp γ} (e : De P) (f : De Q) (g : De R) : De (rT3 P Q R) where
  d := fun x => .tuple [e.d x.1, f.d x.2.1, g.d x.2.2]
  dp := fun K F v x ⟨p, a, b, c, h1, h2, h3, h4, h5⟩ => by
    subst h1
    exact .tup (SqT.of h2) (.cons (e.dp K F _ _ h3) (.cons (f.dp K F _ _ h4) (.cons (g.dp K F _ _ h5) .nil)))
  ok := fun x => by simp only [PyData.canLay0, PyData.canLayAll0, e.ok, f.ok, g.ok, Bool.and_self]
  n := max e.n (max f.n g.n) + 1
  dep := fun x => by
    have h1 := e.dep x.1
    have h2 := f.dep x.2.1
    have h3 := g.dep x.2.2
    simp only [PyData.depth, PyData.depthAll]
    omega
  eq := fun x y => by
    obtain ⟨x1, x2, x3⟩ := x
    obtain ⟨y1, y2, y3⟩ := y
    simp only [PyData.eqv, PyData.eqvAll, e.eq, f.eq, g.eq, Prod.mk.injEq, Bool.decide_and, Bool.and_true, Bool.and_assoc]
end
section
variable {α : Type} [DecidableEq α] {P : Rp α} {K : PySem.W.Frag} {F F' H : Hp} {v w : V} {x y : α} {Q : VK}
theorem sh_de (e : De P) (h : e.n ≤ 64) (x : α) : SeqAt.shaped (e.d x) = true := by
  have h1 := e.dep x
  simp only [SeqAt.shaped, e.ok, Bool.true_and]
  exact decide_eq_true (by omega)
theorem k_eqN (e : De P) (m : Mono P) (h : e.n ≤ 64) (h1 : P F v x) (e1 : Ex F H) (h2 : P F' w y) (e2 : Ex F' H) (k : Q (.bl (decide (x = y))) H) : rEqD K v w H Q :=
  ⟨_, _, e.dp K H _ _ (m _ _ _ _ e1 h1), e.dp K H _ _ (m _ _ _ _ e2 h2), sh_de e h x, sh_de e h y, by rw [e.eq]; exact k⟩
theorem k_neN (e : De P) (m : Mono P) (h : e.n ≤ 64) (h1 : P F v x) (e1 : Ex F H) (h2 : P F' w y) (e2 : Ex F' H) (k : Q (.bl (!decide (x = y))) H) : rNeD K v w H Q :=
  ⟨_, _, e.dp K H _ _ (m _ _ _ _ e1 h1), e.dp K H _ _ (m _ _ _ _ e2 h2), sh_de e h x, sh_de e h y, by rw [e.eq]; exact k⟩
end
section
variable {α : Type} {P : Rp α} {K : PySem.W.Frag} {F H R : Hp} {L : List Cell} {p a : Addr} {i : Int} {xs : List α} {y : α} {Q : VK} {vs : List V} {σ : L2.St}
theorem All2.at {β : Type} {P : α → β → Prop} {as : List α} {bs : List β} (h : All2 P as bs) {i : Int} {b : β} (e : atI bs i = some b) : ∃ a, atI as i = some a ∧ P a b := by
  unfold atI at e ⊢
  rw [h.len]
  cases hj : ixN bs.length i with
  | none => rw [hj] at e; cases e
  | some j =>
    rw [hj] at e
    obtain ⟨a, h1, h2⟩ := h.get e
    exact ⟨a, h1, h2⟩
theorem k_ixN (hn : rL P F (.ref p) xs) (e : Ex F H) (h : atI xs i = some y) (k : ∀ v, P F v y → Q v H) : rIxL K (.ref p) (.int i) H Q := by
  obtain ⟨q, vs, h1, h2, h3⟩ := hn
  cases h1
  obtain ⟨v, e1, hv⟩ := h3.at h
  exact ⟨p, vs, i, v, rfl, rfl, SqL.of (e _ _ h2), e1, k v hv⟩
theorem n_lenN (hn : rL P F (.ref p) xs) (e : Ex F H) (k : Q (.int (xs.length : Int)) H) : rLenQ K [.ref p] H Q := by
  obtain ⟨q, vs, h1, h2, h3⟩ := hn
  cases h1
  unfold rLenQ
  exact ⟨p, vs, rfl, .inl (SqL.of (e _ _ h2)), by rw [h3.len]; exact k⟩
theorem n_lstV (O : Own R H L) (hz : vs.length ≤ sizeLine) (k : ∀ p H', Own R H' ((p, .lst vs) :: L) → Q (.ref p) H') : rNewL vs H Q := by
  unfold rNewL
  exact ⟨hz, fun p hp => k p _ (O.new hp)⟩
end
end Bt

set_option Elab.async false
set_option linter.all false
set_option maxRecDepth 100000
set_option maxHeartbeats 4000000
/-! What is refused, caught by a name, asked of its class. -/
namespace Bt
open PySem L2 PyProof.Rows
theorem passN {X : Cx} : Passes (L2N.CX X.prog X.w) X E0 := fun _ _ _ _ _ _ _ h => by
  obtain ⟨_, _, _, _, _, _, _, _, _, _, _, _, z⟩ := h
  exact z.elim
theorem takesN0 {X : Cx} : L2N.Takes X (fun _ _ _ _ => False) := fun _ _ x => by
  obtain ⟨_, _, _, _, _, _, _, _, _, _, _, _, _, _, _, _, z⟩ := x
  exact z.elim
theorem okN {P : Program} {w : World} {K : PySem.W.Frag} {mg : Str → Option Value} {base : Heap} {x qual : Str} {st : Stmt} {f : Addr} {fd : FuncData} {N ps : List Str} {k : Nat} {sp : Sp} (F : Fun K x qual st f fd) (S : FnScope N ps (defScope st)) (len : ∀ vs H Q E, sp vs H Q E → vs.length = ps.length)
    (hbody : ∀ (cdv : Value) (A : Around) (outer : List Env) (s : Shared) (H : Hp) (vs : List V) (Q : VK) (E : XK), Room k (A.deeper (envOfC qual (defScope st) s.heap.objs.size f cdv)) → sp vs H Q E →
      ∃ t, PSs (cxOf (L2N.CX P w) P w K mg base N qual (defScope st) f cdv A outer s H E) (defBody st) t ∧ t { nx := fun _ H' => Q .non H', rt := Q } (start N vs) H) : FnOk P w K mg base (L2N.CX P w) (k + 1) f fd ps sp := by
  obtain ⟨oc, od, kV, doc, pm, an, cdv, ct, osl, rfl, lk, hcd⟩ := F.ex
  exact fn_of lk hcd S len fun A outer s H vs Q E hr hsp => hbody cdv A outer s H vs Q E hr hsp
theorem ps_errN {X : Cx} {W : WX} {x m : Str} {j : Nat} {p p2 pos pos' : Pos} {C : Addr} (e : ErrC X.K X.mg x C) (tk : L2N.Takes X W) (hc : X.calm = true) (hg : Gl X x) (hdb : (x == ("__debug__" : Str)) = false := by decide) :
    PS X (.Raise (some (.Call (.Name x p) [.Constant (.str m) j p2] [] pos)) none pos') (fun _ σ H => W (.ref C) none σ H) :=
  L2N.ps_raise hc tk (L2N.pmk_own PySem.F.excBase_ValueError e.ex e.g e.kp (raises_own e.b e.t) hg hdb)
/-! classes by their letters -/
def Eds.at (d : Eds) : Ek → Addr
  | .NoBits => d.NoBits
  | .NoName => d.NoName
  | .NoKey => d.NoKey
  | .NoFrame => d.NoFrame
  | .NoPost => d.NoPost
  | .NoThing => d.NoThing
  | .NoStrip => d.NoStrip
  | .NoRail => d.NoRail
  | .NoWire => d.NoWire
  | .NoRow => d.NoRow
/-- what the walk knows of the classes ks -/
structure EcF (K : PySem.W.Frag) (d : Eds) (ks : List Ek) : Prop where
  ec : ∀ k ∈ ks, ExcC K (d.at k)
  kt : ∀ k ∈ ks, ∀ c ∈ ks, PySem.W.kitOne K (.ref (d.at k)) (.ref (d.at c)) = some (decide (k = c))
  kv : ∀ k ∈ ks, PySem.W.kitOne K (.ref (d.at k)) (.type "ValueError") = some true
  kr : ∀ k ∈ ks, PySem.W.kitOne K (.ref (d.at k)) (.ref d.RailError) = some true
  xr : ∀ k ∈ ks, PySem.W.exmOne K (.ref (d.at k)) (.ref d.RailError) = some true
  xx : ∀ k ∈ ks, ∀ c ∈ ks, PySem.W.exmOne K (.ref (d.at k)) (.ref (d.at c)) = some (decide (k = c))
/-- what an exception's own dict holds -/
def XFl (e : Er) (d : Option Addr) (H : Hp) : Prop := match e with
  | .NoWire i => ∃ x, d = some x ∧ H x = some (.xd [(("at" : Str), .int i)])
  | .NoRow i => ∃ x, d = some x ∧ H x = some (.xd [(("word" : Str), .int i)])
  | _ => d = none
theorem XFl.ext {e : Er} {d : Option Addr} {H H' : Hp} (h : XFl e d H) (x : Ex H H') : XFl e d H' := by
  cases e <;> first
    | exact h
    | (obtain ⟨a, h1, h2⟩ := h; exact ⟨a, h1, x _ _ h2⟩)
theorem RetE.by {d : Eds} {e : Er} {H : Hp} {E : XK} (h : ∀ H' dd, Ex H H' → XFl e dd H' → E (.ref (d.at e.k)) dd H') : RetE d e H E := by
  cases e <;> first
    | exact fun H' x => h H' none x rfl
    | exact fun H' a _ x q => h H' (some a) x ⟨a, rfl, q⟩
/-! isinstance of the exception in hand -/
section
variable {X : Cx} {p : Addr × Obj} {D : Addr} {ex : Er}
theorem inst_pin {pins : List (Addr × Obj)} {σ : L2.St} {H : Hp} {s : Shared} (I : Inv X pins σ H s) (hp : p ∈ X.pn) (hz : p.2.cls = .ref D) (hd : XFl ex p.2.dict H) (hf : ∃ vs, p.2.data = .fields vs) : ∃ od, PySem.W.InstAt s.heap p.1 p.2 D od := by
  obtain ⟨hget, _⟩ := I.pin p (List.mem_append.mpr (.inl hp))
  obtain ⟨a, oc, od, oda, osl⟩ := p
  obtain ⟨vs, hv⟩ := hf
  dsimp only at hz hd hv hget
  subst hz hv
  have hk : od = none ∨ ∃ x fs, od = some x ∧ H x = some (.xd fs) := by
    cases ex <;> first
      | exact .inl hd
      | (obtain ⟨x, h1, h2⟩ := hd; exact .inr ⟨x, _, h1, h2⟩)
  rcases hk with rfl | ⟨x, fs, rfl, hx⟩
  · exact ⟨none, hget, rfl, rfl, trivial⟩
  · obtain ⟨_, ⟨o, _, _, e, _⟩, _⟩ := (show ∃ mA, s.heap.Ns1 x mA ∧ ∀ f, RelO (fs.lookup f) (mA f) from I.hok x _ hx)
    exact ⟨some _, hget, rfl, rfl, e⟩
theorem exc_cls {K : PySem.W.Frag} {D : Addr} (C : ExcC K D) : (PySem.W.clsIn K D).isSome = true := by
  obtain ⟨cd, hc, _⟩ := PySem.W.any_some C.hd
  rw [hc]; rfl
/-- isinstance(e, c), e the exception in hand -/
def rIsX (K : PySem.W.Frag) (D a : Addr) (ex : Er) (d : Option Addr) : List V → Hp → VK → Prop := fun xs H Q => ∃ (c : V) (cv : Value) (b : Bool), xs = [.ref a, c] ∧ ClsV c cv ∧ XFl ex d H ∧ PySem.W.kitOne K (.ref D) cv = some b ∧ Q (.bl b) H
theorem call_isP (hp : p ∈ X.pn) (C : ExcC X.K D) (hz : p.2.cls = .ref D) {d : Option Addr} (hdd : p.2.dict = d) (hf : ∃ vs, p.2.data = .fields vs) : CallR X (.builtin "isinstance") (rIsX X.K D p.1 ex d) := by
  subst hdd
  intro pins s σ H xs us Q I r h
  obtain ⟨c, cv, b, rfl, hcv, hd, e, q⟩ := h
  obtain ⟨u1, u2, rfl, r1, r2⟩ := vals2 r
  cases (show u1 = Value.ref p.1 from r1)
  have ec := hcv.eq r2
  subst ec
  obtain ⟨od, J⟩ := inst_pin I hp hz hd hf
  exact PySem.W.kia_one (PySem.W.kitx_exc (exc_cls C) C.hg C.hk C.hs C.ha C.hn C.ht C.hm) I.kIn J e (fun z => nomatch z) fun tk => ⟨.bl b, H, I.kept (t' := tk) fun _ _ z => z, rfl, q⟩
/-- .. and of a row of classes -/
def rIsXt (K : PySem.W.Frag) (D a : Addr) (ex : Er) (d : Option Addr) : List V → Hp → VK → Prop := fun xs H Q => ∃ (tp : Addr) (cs : List V) (us : List Value) (b : Bool), xs = [.ref a, .ref tp] ∧ H tp = some (.tup cs) ∧ Paired ClsV cs us ∧ XFl ex d H ∧ PySem.W.kitAny K (.ref D) us = some b ∧ Q (.bl b) H
theorem call_isPt (hp : p ∈ X.pn) (C : ExcC X.K D) (hz : p.2.cls = .ref D) {d : Option Addr} (hdd : p.2.dict = d) (hf : ∃ vs, p.2.data = .fields vs) : CallR X (.builtin "isinstance") (rIsXt X.K D p.1 ex d) := by
  subst hdd
  intro pins s σ H xs us Q I r h
  obtain ⟨tp, cs, ws, b, rfl, hT, k, hd, e, q⟩ := h
  obtain ⟨u1, u2, rfl, r1, r2⟩ := vals2 r
  cases (show u1 = Value.ref p.1 from r1)
  cases (show u2 = Value.ref tp from r2)
  obtain ⟨_, its, rv, o, h1, h2, n, h3⟩ := (show ObjOk X.prog X.w H s.heap tp (.tup cs) from I.hok tp _ hT)
  have e3 := ClsV.all k rv
  subst e3
  obtain ⟨oc, od, dt, sl⟩ := o
  simp only at h2 h3
  subst h2 h3
  obtain ⟨od, J⟩ := inst_pin I hp hz hd hf
  exact PySem.W.kia_tup (PySem.W.kitx_exc (exc_cls C) C.hg C.hk C.hs C.ha C.hn C.ht C.hm) I.kIn J h1 e (fun z => nomatch z) fun tk => ⟨.bl b, H, I.kept (t' := tk) fun _ _ z => z, rfl, q⟩
end
/-- the classes of a row, asked -/
def inKs (k : Ek) : List Ek → Bool
  | [] => false
  | c :: r => decide (k = c) || inKs k r
theorem kit_any {K : PySem.W.Frag} {d : Eds} {ks : List Ek} (T : EcF K d ks) {k : Ek} (hk : k ∈ ks) : ∀ (cs : List Ek), (∀ c ∈ cs, c ∈ ks) → PySem.W.kitAny K (.ref (d.at k)) (cs.map fun c => .ref (d.at c)) = some (inKs k cs)
  | [], _ => rfl
  | c :: r, h => by
    refine kitAny_cons (T.kt k hk c (h c (List.Mem.head _))) (fun e => ?_) fun e => ?_
    · rw [kit_any T hk r fun z hz => h z (List.Mem.tail _ hz)]
      show some (inKs k r) = some (decide (k = c) || inKs k r)
      rw [e, Bool.false_or]
    · show (decide (k = c) || inKs k r) = true
      rw [e, Bool.true_or]
/-! a def of the exception in hand, called in the suite -/
structure FnE (P : Program) (w : World) (K : PySem.W.Frag) (mg : Str → Option Value) (base : Heap) (k : Nat) (f : Addr) (fd : FuncData) (x : Str) (D : Addr) (ex : Er) (R : Bool) : Prop where
  run : ∀ (A : Around) (outer : List Env) (s : Shared) (H : Hp) (args : Args) (p : Addr × Obj) (Q : VK), L2H.RoomH k A → L2H.Hot1 A p → L2H.PinOk outer H s p → p.2.cls = .ref D → XFl ex p.2.dict H → Env0 P w K mg base A outer s H → BindsTo s fd args ([x].zip [.ref p.1]) → RetV (.bl R) H Q →
    codeAny (model P w) A (.call (.ref f) args) (CR CX0 outer P w H s Q E0) s
theorem fnE_of {P : Program} {w : World} {K : PySem.W.Frag} {mg : Str → Option Value} {base : Heap} {x qual : Str} {st : Stmt} {f : Addr} {fd : FuncData} {N : List Str} {y : Str} {k : Nat} {D : Addr} {ex : Er} {R : Bool} (F : Fun K x qual st f fd) (S : FnScope N [y] (defScope st))
    (hbody : ∀ (cdv : Value) (A : Around) (outer : List Env) (s : Shared) (H : Hp) (p : Addr × Obj) (Q : VK), A.units + 64 < cLine → p.2.cls = .ref D → XFl ex p.2.dict H → (∃ vs, p.2.data = .fields vs) → RetV (.bl R) H Q →
      ∃ t, PSs (L2H.cxH CX0 P w K mg base N qual (defScope st) f cdv A outer s H E0 p) (defBody st) t ∧ t { nx := fun _ H' => Q .non H', rt := Q } (start N [.ref p.1]) H) : FnE P w K mg base (k + 1) f fd y D ex R := by
  obtain ⟨oc, od, kV, doc, pm, an, cdv, ct, osl, rfl, lk, hcd⟩ := F.ex
  refine ⟨fun A outer s H args p Q hr hot hpin hz hd e0 hb hq => ?_⟩
  have KX : K.In s.heap := e0.mod.kin.keeps fun b o e => (e0.bs b o e).1
  have lim : s.heap.NoLimit := e0.mod.nolimit.keeps fun b o e => (e0.bs b o e).1
  have hkind : ∀ z ∈ [y].zip [Value.ref p.1], (defScope st).names.lookup z.1 = some .local ∨ ((defScope st).names.lookup z.1 = some .cell ∧ ((cellsFrom (s.heap.objs.size + 1) (defScope st).names []).lookup z.1).isSome = true) := fun ⟨n, v⟩ hy =>
    (S.par n (List.of_mem_zip hy).1).imp id fun q => ⟨q, PySem.W.cellsFrom_some _ _ _ (.inl q)⟩
  refine codeAny_call_function hr.depth (KX _ _ lk) rfl S.co S.gen rfl (PySem.W.codeRec_of KX hcd) (hb _ _ _ _ (wpAny_newFunctionEnv_cells S.kind hkind fun env he s1 hx => ?_))
  subst he
  refine ⟨lim.keeps hx.toInCall.keep, codeAny_func ?_⟩
  obtain ⟨h1, vs, h2, _⟩ := hot
  obtain ⟨t, ht, h3⟩ := hbody cdv A outer s H p Q (by have := hr.un; omega) hz hd ⟨vs, h2⟩ hq
  have rv : Vals [V.ref p.1] [Value.ref p.1] := .cons rfl .nil
  have I := L2H.inv_startH (CX := CX0) (qual := qual) (f := f) (cd := cdv) (E := E0) S hpin e0 rfl rv hx
  refine wpAny_mono (ht.run [] s1 _ H _ I h3) (fun fl s' hs => ?_) fun e s' hs => hs
  cases fl with
  | ret u =>
    obtain ⟨v, σ', H', J, r, q⟩ := hs
    exact ⟨v, H', J.os, J.bare, J.base, J.hok, r, q⟩
  | next =>
    obtain ⟨σ', H', J, q⟩ := hs
    exact ⟨V.non, H', J.os, J.bare, J.base, J.hok, rfl, q⟩
  | brk =>
    obtain ⟨_, _, _, q⟩ := hs
    exact q.elim
  | cont =>
    obtain ⟨_, _, _, q⟩ := hs
    exact q.elim
def tCallE (a : Addr) (ex : Er) (d : Option Addr) (R : Bool) (t : TA) : TE := fun σ H Q => t σ H fun vs H1 => vs = [.ref a] ∧ XFl ex d H1 ∧ RetV (.bl R) H1 Q
theorem pe_callE {X : Cx} {k : Nat} {f : Addr} {fd : FuncData} {x y : Str} {q pos : Pos} {e : Expr} {t : TA} {D : Addr} {ex : Er} {R : Bool} {p : Addr × Obj} (F : FnE X.prog X.w X.K X.mg X.base k f fd y D ex R) (hp : p ∈ X.pn) (hot : L2H.Hot1 X.A p) (hz : p.2.cls = .ref D) {d : Option Addr} (hdd : p.2.dict = d)
    (hr : L2H.RoomH k X.A) (hg : Gl X x) (hm : X.mg x = some (.ref f)) (hk : PySem.W.keepIn X.K (.ref f) = true) (hb : Binds X.K fd [y] []) (ha : PA X [e] t) (hdb : (x == ("__debug__" : Str)) = false := by decide)
    (he : starEach [e] X.env = (false, eval e X.env) :: starEach [] X.env := by rfl) (hpl : (backTo pos (starEach [] X.env)).any (·.1) = false := by rfl) : PE X (.Call (.Name x q) [e] [] pos) (tCallE p.1 ex d R t) := by
  subst hdd
  refine ⟨fun pins s σ H Q I h => ?_⟩
  refine wpAny_Call_Name_kw (ld_glob I hg hm ?_ hdb)
  refine PySem.W.callWith_K (h₀ := X.base) I.ok.mod.kin hk (thn (ha.run pos pins s σ H _ I h) fun us s1 ⟨vs, H1, I1, r, e1, hd, hq⟩ => ⟨I1.kIn, ?_⟩) he hpl
  subst e1
  obtain ⟨u, rfl, r1⟩ := r.one
  cases (show u = Value.ref p.1 from r1)
  have b := hb s1 [.ref p.1] I1.kIn (by rw [List.append_nil]; rfl)
  rw [List.append_nil] at b
  obtain ⟨p1, p2, p3, p4, p5⟩ := I1.pin p (List.mem_append_left _ hp)
  have hpin : L2H.PinOk X.stack H1 s1 p := ⟨p1, p2, fun hm => (List.mem_cons.mp (I1.stkSub p.1 hm)).elim p3 p4, p5⟩
  refine wpAny_call (codeAny_mono (F.run X.A X.stack s1 H1 ⟨[.ref p.1], []⟩ p Q hr hot hpin hz hd I1.env0 b hq) fun r s' hq => ?_)
  cases r with
  | error e => exact (show False from hq).elim
  | ok fl =>
    cases fl with
    | ret u => exact I1.after hq
    | next => exact False.elim hq
    | brk => exact False.elim hq
    | cont => exact False.elim hq
/-! all of it, class by class -/
structure EcP (K : PySem.W.Frag) (C : Addr) : Prop where
  hg : PySem.W.findIn K (.ref C) "__getattribute__" = some (some (.builtin "BaseException.__getattribute__"))
  hk : PySem.W.findIn K (.ref C) "__getattr__" = some none
  hs : PySem.W.subIn K (.ref C) (.type "BaseException") = some true
  hd : PySem.W.hasDictIn K C = true
  ha : PySem.W.findIn K (.ref C) "__class__" = some (some (.builtin "object.__class__"))
  hm : PySem.W.mroIn K C (.type "object") = some true
  ct : PySem.W.typeIn K (.ref C) = some (.type "type")
  sv : PySem.W.subIn K (.ref C) (.type "ValueError") = some true
theorem all_nil {α : Type} {P : α → Prop} : ∀ x ∈ ([] : List α), P x := fun _ h => (nomatch h)
theorem all_cons {α : Type} {P : α → Prop} {a : α} {l : List α} (h : P a) (t : ∀ x ∈ l, P x) : ∀ x ∈ a :: l, P x := fun x hx => by
  rcases List.mem_cons.mp hx with rfl | hx
  · exact h
  · exact t x hx
theorem ecf_mk {K : PySem.W.Frag} {d : Eds} {ks : List Ek} (h : ∀ k ∈ ks, EcP K (d.at k)) (hp : ∀ k ∈ ks, ∀ c ∈ ks, PySem.W.subIn K (.ref (d.at k)) (.ref (d.at c)) = some (decide (k = c)))
    (hr : ∀ k ∈ ks, PySem.W.subIn K (.ref (d.at k)) (.ref d.RailError) = some true) (rr : EcP K d.RailError)
    (hn : PySem.W.specialIn K (.builtin "object.__class__") "__get__" = some (some (.builtin "getset_descriptor.__get__"))) (ht : PySem.W.takesIn K (.builtin "object.__class__") = some true) (hv : PySem.W.kitMeta "ValueError" = true) : EcF K d ks := by
  have ec : ∀ k ∈ ks, ExcC K (d.at k) := fun k hk => by
    obtain ⟨h1, h2, h3, h4, h5, h6, h7, h8⟩ := h k hk
    exact ⟨h1, h2, h3, h4, h5, hn, ht, h6⟩
  have cl : ∀ {C : Addr}, EcP K C → (PySem.W.clsIn K C).isSome = true := fun q => by
    obtain ⟨cd, hc, _⟩ := PySem.W.any_some q.hd
    rw [hc]; rfl
  have ko : ∀ {a b : Addr} {r : Bool}, EcP K b → PySem.W.subIn K (.ref a) (.ref b) = some r → (a = b → r = true) → PySem.W.kitOne K (.ref a) (.ref b) = some r := fun {a b r} q e1 e2 => by
    unfold PySem.W.kitOne
    by_cases e : a = b
    · subst e
      rw [if_pos (by simp), e2 rfl]
    · rw [if_neg (by simp [e])]
      unfold PySem.W.kitCls
      dsimp only
      rw [if_pos (by rw [cl q, q.ct]; rfl)]
      exact e1
  refine ⟨ec, fun k hk c hc => ko (h c hc) (hp k hk c hc) (fun e => ?_), fun k hk => ?_, fun k hk => ko rr (hr k hk) fun _ => rfl, fun k hk => exm_mk rr.hs (cl rr) rr.ct (hr k hk), fun k hk c hc => exm_mk (h c hc).hs (cl (h c hc)) (h c hc).ct (hp k hk c hc)⟩
  · have e1 := hp k hk c hc
    have e2 := hp c hc c hc
    rw [e] at e1
    rw [e2] at e1
    rw [decide_eq_true (rfl : c = c)] at e1
    exact (Option.some.inj e1).symm
  · unfold PySem.W.kitOne
    rw [if_neg (by simp)]
    unfold PySem.W.kitCls
    dsimp only
    rw [if_pos hv]
    exact (h k hk).sv
theorem gv_ref {K : PySem.W.Frag} {h : Heap} {mg : Str → Option Value} {x : Str} {C : Addr} (X : K.In h) (G : h.Ns mainGlobals mg) (a : PySem.W.nsIn K mainGlobals x = some (some (.ref C))) : Gv mg x (.ref C) := ⟨_, PySem.W.mg_of X G a, rfl⟩
theorem err_at {K : PySem.W.Frag} {h : Heap} {mg : Str → Option Value} {x : Str} {C : Addr} (X : K.In h) (G : h.Ns mainGlobals mg) (a : PySem.W.nsIn K mainGlobals x = some (some (.ref C)))
    (e : PySem.W.excIn K C [.type "ValueError", .type "Exception", .type "BaseException", .type "object"] "ValueError.__new__" = true) (k : PySem.W.keepIn K (.ref C) = true) (b : PySem.W.subIn K (.ref C) (.type "BaseException") = some true) (t : PySem.W.typeIn K (.ref C) = some (.type "type")) : ErrC K mg x C :=
  ⟨PySem.W.mg_of X G a, e, k, b, t⟩
def Er.plain : Er → Bool
  | .NoWire _ => false
  | .NoRow _ => false
  | _ => true
theorem XFl.of {e : Er} {H : Hp} (h : e.plain = true) : XFl e none H := by
  cases e <;> first
    | rfl
    | cases h
theorem RetE.byP {d : Eds} {e : Er} {H : Hp} {E : XK} (hp : e.plain = true) (h : ∀ H', Ex H H' → E (.ref (d.at e.k)) none H') : RetE d e H E := by
  cases e <;> first
    | exact fun H' x => h H' x
    | cases hp
theorem Ek.all (k : Ek) : k ∈ [Ek.NoBits, .NoName, .NoKey, .NoFrame, .NoPost, .NoThing, .NoStrip, .NoRail, .NoWire, .NoRow] := by
  cases k <;> decide
/-! the suite, its exception known -/
theorem pss_exc {X : Cx} {ss : List Stmt} {es : Eds} {ks : List Ek} {cls : Value} {t : Er → TS} (h : ∀ e, e.k ∈ ks → cls = .ref (es.at e.k) → PSs X ss (t e)) :
    PSs X ss (fun D σ H => ∃ e : Er, e.k ∈ ks ∧ cls = .ref (es.at e.k) ∧ t e D σ H) :=
  ⟨fun pins s σ H D I ⟨e, h1, h2, q⟩ => (h e h1 h2).run pins s σ H D I q⟩
theorem hot_suite {X : Cx} {a : Addr} {oe : Obj} {pn : List (Addr × Obj)} {cls : Value} {d : Option Addr} (hz : L2N.Zn cls d oe) (hf : ∃ vs, oe.data = .fields vs) : L2H.Hot1 (X.suite a ((a, oe) :: pn)).A (a, oe) := by
  obtain ⟨vs, hv⟩ := hf
  exact ⟨rfl, vs, hv, hz.2.2 vs hv⟩
theorem roomE {X : Cx} {k : Nat} {v : Option Value} (hr : Room k X.A) : L2H.RoomH k (X.A.mark v) := ⟨hr.dp, hr.un⟩
def Er.num : Er → Int
  | .NoWire i => i
  | .NoRow i => i
  | _ => 0
end Bt
namespace Bt
open PySem L2 PyProof.Rows
def okE (ks : List Ek) (e : Er) : Bool := e.plain && decide (e.k ∈ ks)
theorem okE_iff {ks : List Ek} {e : Er} (h : okE ks e = true) : e.plain = true ∧ e.k ∈ ks := by
  unfold okE at h
  rw [Bool.and_eq_true, decide_eq_true_eq] at h
  exact h
theorem ifN {α : Type} {c : Bool} {a : Option α} {r : α} (h : ifB c a none = some r) : c = true ∧ a = some r := by
  cases c with
  | true => exact ⟨rfl, h⟩
  | false => cases h
theorem o_cE {a : Addr} {ex : Er} {d : Option Addr} {R : Bool} {t : TA} {σ : L2.St} {H : Hp} {Q : VK} (h : t σ H fun vs H1 => vs = [.ref a] ∧ XFl ex d H1 ∧ RetV (.bl R) H1 Q) : tCallE a ex d R t σ H Q := h
end Bt
namespace Bt
open PySem L2 PyProof.Rows
theorem pe_gr {X : Cx} {x : Str} {C : Addr} {pos : Pos} (hg : Gl X x) (h : X.mg x = some (.ref C)) (hd : (x == ("__debug__" : Str)) = false := by decide) : PE X (.Name x pos) (tC (.ref C)) := pe_gv hg ⟨_, h, rfl⟩ hd
end Bt
namespace Bt
open PySem L2 PyProof.Rows
theorem pe_callEs {X : Cx} {a : Addr} {oe : Obj} {pn : List (Addr × Obj)} {cls : Value} {k : Nat} {f : Addr} {fd : FuncData} {x y : Str} {q pos : Pos} {e : Expr} {t : TA} {D : Addr} {ex : Er} {R : Bool} {d : Option Addr} (F : FnE X.prog X.w X.K X.mg X.base k f fd y D ex R) (hz : L2N.Zn cls d oe) (hf : ∃ vs, oe.data = .fields vs) (hc : cls = .ref D)
    (hr : Room k X.A) (hg : Gl X x) (hm : X.mg x = some (.ref f)) (hk : PySem.W.keepIn X.K (.ref f) = true) (hb : Binds X.K fd [y] []) (ha : PA (X.suite a ((a, oe) :: pn)) [e] t) (hdb : (x == ("__debug__" : Str)) = false := by decide)
    (he : starEach [e] X.env = (false, eval e X.env) :: starEach [] X.env := by rfl) (hpl : (backTo pos (starEach [] X.env)).any (·.1) = false := by rfl) : PE (X.suite a ((a, oe) :: pn)) (.Call (.Name x q) [e] [] pos) (tCallE a ex d R t) :=
  pe_callE (X := X.suite a ((a, oe) :: pn)) (p := (a, oe)) F (List.Mem.head _) (hot_suite hz hf) (hz.1.trans hc) hz.2.1 (roomE hr) hg hm hk hb ha hdb he hpl
end Bt
namespace Bt
open PySem L2
theorem o_dn {n b k : L2.St → Hp → Prop} {w : VK} {σ : L2.St} {H : Hp} (h : n σ H) : (Ends.mk n w b k).nx σ H := h
end Bt
namespace Bt
open PySem L2
theorem RetE.up {d : Eds} {e : Er} {H H' : Hp} {E : XK} (k : RetE d e H E) (x : Ex H H') : RetE d e H' E := by
  cases e <;> first
    | exact fun H2 h => k H2 (x.trans h)
    | exact fun H2 a ha h => k H2 a (x.back ha) (x.trans h)
end Bt
namespace Bt
open PySem L2
/-! a refusal with its own dict, caught: the dict is laid in the frame -/
theorem RetE.byX {d : Eds} {e : Er} {H : Hp} {E : XK} (h : ∀ H' dd, Ex H H' → XFl e dd H' → (∀ x, dd = some x → H x = none) → E (.ref (d.at e.k)) dd H') : RetE d e H E := by
  cases e <;> first
    | exact fun H' x => h H' none x rfl (fun _ z => nomatch z)
    | exact fun H' a ha x q => h H' (some a) x ⟨a, rfl, q⟩ (fun y z => by cases z; exact ha)
theorem Own.growX {R H H' : Hp} {L : List Cell} {e : Er} {dd : Option Addr} (O : Own R H L) (x : Ex H H') (hX : XFl e dd H') (hn : ∀ y, dd = some y → H y = none) : ∃ R', Own R' H' L ∧ Ex R R' ∧ XFl e dd R' := by
  obtain ⟨R', O', e1, e2⟩ := O.grow x
  refine ⟨R', O', e1, ?_⟩
  cases e <;> first
    | exact hX
    | (obtain ⟨a, h1, h2⟩ := hX
       exact ⟨a, h1, e2 R (Ex.refl R) _ _ (ovr_mk (.inr (hn a h1)) h2)⟩)
end Bt

set_option Elab.async false
set_option linter.all false
set_option maxRecDepth 100000
set_option maxHeartbeats 4000000
/-! Refusals that are made of a whole number: their own __init__, raised where nothing is handled. -/
namespace Bt
open PySem L2 PyProof.Rows
/-- R.__init__(self, ..), R an own class that takes it from ValueError -/
theorem pe_rinit {X : Cx} {x : Str} {R : Addr} {e : Expr} {es : List Expr} {ta : TA} {p1 p2 pos : Pos} {pl : Sem Bool} (hg : Gl X x) (hm : X.mg x = some (.ref R))
    (ga : PySem.W.specialIn X.K (.ref R) "__getattribute__" = some (some (.builtin "type.__getattribute__"))) (rd : PySem.W.readsIn X.K R (.type "type") = true)
    (vV : PySem.W.findCls X.K (.ref R) (.type "type") "__init__" = some (.val (.builtin "ValueError.__init__"))) (ha : PA X (e :: es) ta)
    (hc : eval (.Call (.Attribute (.Name x p1) "__init__" p2) (e :: es) [] pos) X.env = (do
      let ov ← eval (.Name x p1) X.env
      standAt p2.atName
      let (f, first) ← holding [ov] (getMethod ov "__init__" pl)
      callWith pos f first (backTo pos (starEach (e :: es) X.env)) (backToKw pos (keywordEach [] X.env))) := by rfl)
    (hdb : (x == ("__debug__" : Str)) = false := by decide)
    (he : starEach (e :: es) X.env = (false, eval e X.env) :: starEach es X.env := by rfl) (hpl : (backTo pos (starEach es X.env)).any (·.1) = false := by rfl) :
    PE X (.Call (.Attribute (.Name x p1) "__init__" p2) (e :: es) [] pos) (tVeI X.K ta) := by
  refine ⟨fun pins s σ H Q I h => ?_⟩
  refine PySem.W.methodCall_KW (ld_glob I hg hm ?_ hdb) hc
  refine PySem.W.method_cls I.kIn ga (PySem.W.cls_value I.kIn rd vV (by decide +kernel) ?_)
  refine PyProof.Rows.callWith_method1 (thn (ha.run pos pins _ σ H _ (I.tok _) h) fun us s1 ⟨vs, H1, I1, r1, a, C, ws, ev, hl, T, ea, q⟩ => ?_) he hpl
  subst ev
  cases r1 with
  | @cons _ u0 _ ur ra rw' =>
    obtain rfl : u0 = Value.ref a := ra
    have hlen : ur.length ≤ sizeLine := by
      rw [← Paired.length rw', sizeLine_eq]
      omega
    exact oinit_ok T I1 ea hlen fun s' J => ⟨.non, H1, J, rfl, q⟩
/-- C(e, ..) where nothing is handled, its context None -/
theorem pmk_initN {X : Cx} {CX : CXT} {x : Str} {e : Expr} {es : List Expr} {ta : TA} {p pos : Pos} {C fI : Addr} {k : Nat} {fd : FuncData} {ps : List Str} {sp : Sp} (T : OexC X.K C) (iC : PySem.W.findIn X.K (.ref C) "__init__" = some (some (.ref fI))) (tI : PySem.W.typeIn X.K (.ref fI) = some (.type "function"))
    (F1 : FnOk X.prog X.w X.K X.mg X.base CX k fI fd ps sp) (hr : Room (k + 1) X.A) (hb : Binds X.K fd ps []) (hx : Passes CX X (fun _ _ _ => False)) (hg : Gl X x) (hm : X.mg x = some (.ref C)) (ha : PA X (e :: es) ta)
    (hdb : (x == ("__debug__" : Str)) = false := by decide) (he : starEach (e :: es) X.env = (false, eval e X.env) :: starEach es X.env := by rfl) (hpl : (backTo pos (starEach es X.env)).any (·.1) = false := by rfl) :
    L2N.PMk X (.Call (.Name x p) (e :: es) [] pos) (tMkO C sp [] ta) := by
  intro pins s σ H Q I h
  obtain ⟨nm, q, N, bs, bm, sn, sub, ab, col, dd, k0, k1, k2, k3, k5, hC, hbm⟩ := T.cls
  refine wpAny_Call_Name_kw (ld_glob I hg hm ?_ hdb)
  refine PySem.W.callWith_K (h₀ := X.base) I.ok.mod.kin T.kC (thn (ha.run pos pins s σ H _ I h) fun us s1 ⟨vs, H1, I1, r1, hz, q1⟩ => ⟨I1.kIn, ?_⟩) he hpl
  obtain ⟨hp, g, dr, tk, os⟩ := s1
  have hsz : hp.objs.size ≤ hp.objs.size + 1 := Nat.le_succ _
  have hq := q1 (hp.objs.size + 1) (I1.hok.fresh hsz)
  rw [List.append_nil] at hq
  have kk : ∀ b o, hp.get? b = some o → ((hp.push (PySem.W.kdv_tup us)).push (PySem.HandSPX.excO C hp.objs.size)).get? b = some o := fun b o z => Heap.get?_push_of_some _ (Heap.get?_push_of_some _ z)
  have I2 : Inv X pins σ (upd H1 (hp.objs.size + 1) (exo (hp.objs.size + 1) C none)) ⟨(hp.push (PySem.W.kdv_tup us)).push (PySem.HandSPX.excO C hp.objs.size), g, dr, tk, os⟩ :=
    I1.laid (t' := tk) (a := hp.objs.size + 1) (o := exo (hp.objs.size + 1) C none) (h' := (hp.push (PySem.W.kdv_tup us)).push (PySem.HandSPX.excO C hp.objs.size)) kk hsz (exo_ok (by heap_get))
  have r2 : Vals (V.ref (hp.objs.size + 1) :: vs) (Value.ref (hp.objs.size + 1) :: us) := .cons rfl r1
  have hl : (Value.ref (hp.objs.size + 1) :: us ++ []).length = ps.length := by
    have z := r2.length
    rw [F1.len _ _ _ _ hq] at z
    rw [List.append_nil]
    exact z.symm
  have hus : us.length ≤ sizeLine := by
    rw [← Paired.length r1, sizeLine_eq]
    omega
  have b2 := hb _ (Value.ref (hp.objs.size + 1) :: us) I2.kIn hl
  rw [List.append_nil] at b2
  refine wpAny_call (PySem.HandSPX.call_own PySem.F.excBase_ValueError (fun Y => PySem.HandSPX.refsVE_contains Y bm hbm) (I1.kIn _ _ hC) (PySem.W.looks_findIn I1.kIn iC) (fun self => PySem.W.bind_fn I1.kIn self tI) hus
    (codeAny_mono (F1.run _ X.stack _ _ ⟨Value.ref (hp.objs.size + 1) :: us, []⟩ (Value.ref (hp.objs.size + 1) :: us) _ _ (fun _ _ _ => False) (hr.make C us []) (I2.env0.make C us []) b2 r2 hq) fun r s' hq' => ?_))
  cases r with
  | error er => exact hx pins σ _ _ er s' I2 hq'
  | ok fl =>
    cases fl with
    | ret u =>
      obtain ⟨v, H2, os2, bare2, un2, hok2, rv, ev, d, fs, ea, ed, hd1, q2⟩ := hq'
      subst ev
      obtain ⟨h2, g2, d2, t2, os'⟩ := s'
      obtain ⟨t0, G, J, kG, ge, hoe, na⟩ := mk_end0 (d2 := d2) (t2 := t2) I1 hsz kk un2 hok2 os2 bare2 ea ed hd1
      exact ⟨rv, _, _, _, ⟨G, g2, d2, t2, os'⟩, _, .ref C, some d, rfl, J, kG, ge, hoe, ⟨rfl, rfl, fun vs z => by cases z; rfl⟩, rfl, rfl, na, rfl, bare2, raises_own T.exC T.tyC, q2⟩
    | next => exact False.elim hq'
    | brk => exact False.elim hq'
    | cont => exact False.elim hq'
/-- what such an __init__ promises: the field laid -/
def spI (C : Addr) (fld : Str) : Sp := fun vs H Q _ => ∃ (a : Addr) (i : Int), vs = [.ref a, .int i] ∧ H a = some (exo a C none) ∧ ∀ dx, H dx = none → dx ≠ a → Q .non (upd (upd H dx (exd dx [(fld, .int i)])) a (exo a C (some dx)))
def rMkI (C : Addr) (fld : Str) (vs : List V) (H1 : Hp) (Q : XK) : Prop := vs.length ≤ 1000 ∧ ∀ a, H1 a = none → spI C fld (.ref a :: (vs ++ [])) (upd H1 a (exo a C none))
  (fun v H2 => v = .non ∧ ∃ (d : Addr) (fs : List (Str × V)), H2 a = some (exo a C (some d)) ∧ H2 d = some (exd d fs) ∧ H1 d = none ∧ Q (.ref C) (some d) (upd (del H2 a) d (.xd fs))) (fun _ _ _ => False)
theorem o_mkI {C : Addr} {fld : Str} {t : TA} {σ : L2.St} {H : Hp} {Q : XK} (h : t σ H fun vs H1 => rMkI C fld vs H1 Q) : tMkO C (spI C fld) [] t σ H Q := h
theorem k_mkI {C : Addr} {fld : Str} {H1 : Hp} {Q : XK} {i : Int} (k : ∀ H' dx, H1 dx = none → Ex H1 H' → H' dx = some (.xd [(fld, .int i)]) → Q (.ref C) (some dx) H') : rMkI C fld [.int i] H1 Q := by
  refine ⟨by show 1 ≤ 1000; decide, fun a ha => ⟨a, i, rfl, upd_same, fun dx h1 h2 => ?_⟩⟩
  rw [upd_ne h2] at h1
  refine ⟨rfl, dx, _, upd_same, ?_, h1, k _ dx h1 (fun b o hb => ?_) upd_same⟩
  · rw [upd_ne h2, upd_same]
  · have hba : b ≠ a := fun z => by rw [z, ha] at hb; cases hb
    have hbd : b ≠ dx := fun z => by rw [z, h1] at hb; cases hb
    rw [upd_ne hbd, del_ne hba, upd_ne hba, upd_ne hbd, upd_ne hba]
    exact hb
/-- the facts of such a class -/
structure InF (K : PySem.W.Frag) (mg : Str → Option Value) (C R f : Addr) (fld : Str) : Prop where
  o : OexC K C
  i : PySem.W.findIn K (.ref C) "__init__" = some (some (.ref f))
  t : PySem.W.typeIn K (.ref f) = some (.type "function")
  n : PySem.W.findIn K (.ref C) fld = some none
  ga : PySem.W.specialIn K (.ref R) "__getattribute__" = some (some (.builtin "type.__getattribute__"))
  rd : PySem.W.readsIn K R (.type "type") = true
  v : PySem.W.findCls K (.ref R) (.type "type") "__init__" = some (.val (.builtin "ValueError.__init__"))
  mr : mg "RailError" = some (.ref R)
end Bt
namespace Bt
open PySem
/-- the statements of a class -/
def clsB (s : Stmt) : List Stmt := match s with
  | .ClassDef _ _ _ b _ _ _ _ _ _ _ => b
  | _ => []
end Bt

set_option linter.all false
set_option maxRecDepth 100000
set_option maxHeartbeats 1000000
/-! Plain facts about the mirror's words. -/
namespace Bt
open PySem L2
section
variable {α β S R : Type}
theorem bnd_some {a : α} {f : α → Option β} : bnd (some a) f = f a := rfl
theorem bnd_of {a : Option α} {x : α} {f : α → Option β} (h : a = some x) : bnd a f = f x := by rw [h]; rfl
theorem ltv_eq {a : α} {f : α → Option β} : ltv a f = f a := rfl
theorem ifB_t {a b : α} : ifB true a b = a := rfl
theorem ifB_f {a b : α} : ifB false a b = b := rfl
theorem ifB_dec {c : Prop} [Decidable c] {a b : α} : ifB (decide c) a b = if c then a else b := by
  by_cases h : c
  · rw [if_pos h, decide_eq_true h]; rfl
  · rw [if_neg h, decide_eq_false h]; rfl
theorem ifB_ite {c : Bool} {a b : α} : ifB c a b = if c = true then a else b := by cases c <;> rfl
theorem fin_nx {s : S} {rest : S → Option R} : fin (some (.nx s)) rest = rest s := rfl
theorem fin_rt {r : R} {rest : S → Option R} : fin (some (.rt r)) rest = some r := rfl
theorem loopM_ok {f : α → S → Option S} (I : List α → S → Prop) (hs : ∀ x r s, I (x :: r) s → ∃ s', f x s = some s' ∧ I r s') : ∀ (xs : List α) (s : S), I xs s → ∃ out, loopM f xs s = some out ∧ I [] out
  | [], s, h => ⟨s, rfl, h⟩
  | x :: r, s, h => by
    obtain ⟨s', h1, h2⟩ := hs x r s h
    obtain ⟨out, h3, h4⟩ := loopM_ok I hs r s' h2
    exact ⟨out, by show bnd (f x s) (loopM f r) = some out; rw [h1]; exact h3, h4⟩
theorem loopF_ok {f : α → S → Option (Fl S R)} (I : List α → S → Prop) (hs : ∀ x r s, I (x :: r) s → ∃ s', f x s = some (.nx s') ∧ I r s') : ∀ (xs : List α) (s : S), I xs s → ∃ out, loopF f xs s = some (.nx out) ∧ I [] out
  | [], s, h => ⟨s, rfl, h⟩
  | x :: r, s, h => by
    obtain ⟨s', h1, h2⟩ := hs x r s h
    obtain ⟨out, h3, h4⟩ := loopF_ok I hs r s' h2
    exact ⟨out, by show bnd (f x s) (contF (loopF f r)) = some (.nx out); rw [h1]; exact h3, h4⟩
/-- a search that finds nothing -/
theorem loopF_unit {f : α → Unit → Option (Fl Unit R)} {xs : List α} (h : ∀ x ∈ xs, f x () = some (.nx ())) : loopF f xs () = some (.nx ()) := by
  induction xs with
  | nil => rfl
  | cons x r ih =>
    show bnd (f x ()) (contF (loopF f r)) = some (.nx ())
    rw [h x (List.Mem.head _)]
    exact ih fun y hy => h y (List.Mem.tail _ hy)
theorem compM_ok {f : α → Option β} {g : α → β} : ∀ (xs : List α) (acc : List β), (∀ x ∈ xs, f x = some (g x)) → acc.length + xs.length ≤ 16777216 → compM f xs acc = some (acc ++ xs.map g)
  | [], acc, _, _ => by simp [compM]
  | x :: r, acc, h, hz => by
    have hl : acc.length < 16777216 := by simp only [List.length_cons] at hz; omega
    have ih := compM_ok r (acc ++ [g x]) (fun y hy => h y (List.Mem.tail _ hy)) (by simp only [List.length_append, List.length_cons, List.length_nil] at hz ⊢; omega)
    show bnd (f x) (fun y => if acc.length < 16777216 then compM f r (acc ++ [y]) else none) = _
    rw [h x (List.Mem.head _), bnd_some, if_pos hl, ih]
    simp
/-- the elements' property alone -/
theorem compM_all {f : α → Option β} {P : β → Prop} : ∀ (xs : List α) (acc : List β), (∀ x ∈ xs, ∃ y, f x = some y ∧ P y) → acc.length + xs.length ≤ 16777216 → (∀ y ∈ acc, P y) → ∃ out, compM f xs acc = some out ∧ out.length = acc.length + xs.length ∧ ∀ y ∈ out, P y
  | [], acc, _, _, ha => ⟨acc, rfl, by simp, ha⟩
  | x :: r, acc, h, hz, ha => by
    obtain ⟨y, h1, h2⟩ := h x (List.Mem.head _)
    have hl : acc.length < 16777216 := by simp only [List.length_cons] at hz; omega
    obtain ⟨out, h3, h4, h5⟩ := compM_all r (acc ++ [y]) (fun y hy => h y (List.Mem.tail _ hy)) (by simp only [List.length_append, List.length_cons, List.length_nil] at hz ⊢; omega) (fun z hz => by
      rcases List.mem_append.mp hz with q | q
      · exact ha z q
      · rw [List.mem_singleton.mp q]; exact h2)
    refine ⟨out, ?_, by rw [h4]; simp only [List.length_append, List.length_cons, List.length_nil]; omega, h5⟩
    show bnd (f x) (fun y => if acc.length < 16777216 then compM f r (acc ++ [y]) else none) = _
    rw [h1, bnd_some, if_pos hl, h3]
theorem appG_ok {xs : List α} {y : α} (h : xs.length < 16777216) : appG xs y = some (xs ++ [y]) := grd_of h
theorem catG_ok {xs ys : List α} (h : xs.length + ys.length ≤ 16777216) : catG xs ys = some (xs ++ ys) := grd_of h
theorem ixN_nat' {n : Nat} {i : Int} (h0 : 0 ≤ i) (h1 : i < n) : ixN n i = some i.toNat := by
  unfold ixN
  rw [if_pos h0, if_pos h1]
theorem atI_ok {xs : List α} {i : Int} (h0 : 0 ≤ i) (h1 : i < xs.length) : atI xs i = xs[i.toNat]? := by
  unfold atI
  rw [ixN_nat' h0 h1]
  rfl
theorem atI_mem {xs : List α} {i : Int} (h0 : 0 ≤ i) (h1 : i < xs.length) : ∃ x, atI xs i = some x ∧ x ∈ xs := by
  have hn : i.toNat < xs.length := by omega
  exact ⟨xs[i.toNat], by rw [atI_ok h0 h1]; exact List.getElem?_eq_getElem hn, List.getElem_mem hn⟩
theorem setG_ok {xs : List α} {i : Int} {y : α} (h0 : 0 ≤ i) (h1 : i < xs.length) : setG xs i y = some (xs.set i.toNat y) := by
  unfold setG
  rw [ixN_nat' h0 h1]
theorem repG_ok {xs : List α} {k : Int} (h0 : 0 ≤ k) (h1 : k ≤ 1000000) (h2 : xs.length * k.toNat ≤ 16777216) : repG xs k = some (List.replicate k.toNat xs).flatten := grd_of ⟨by omega, by omega, h2⟩
end
theorem modG_ok {i j : Int} (h : 0 < j) : modG i j = some (i % j) := grd_of h
theorem log2_small {n k : Nat} (h : n < 2 ^ k) : n.log2 ≤ k := by
  by_cases h0 : n = 0
  · subst h0; rw [show Nat.log2 0 = 0 from by decide]; exact Nat.zero_le _
  · exact Nat.le_of_lt ((Nat.log2_lt h0).mpr h)
theorem mulG_ok {i j : Int} {a b : Nat} (h1 : i.natAbs < 2 ^ a) (h2 : j.natAbs < 2 ^ b) (h : a + b < 1000000) : mulG i j = some (i * j) := by
  refine grd_of ?_
  have := log2_small h1
  have := log2_small h2
  omega
theorem fdivG_ok {i j : Int} {b : Nat} (h : 0 < j) (h2 : j.natAbs < 2 ^ b) (hb : b < 9000) : fdivG i j = some (i / j) := by
  refine grd_of ⟨h, ?_⟩
  have := log2_small h2
  omega
theorem shrG_ok {i j : Int} (h : 0 ≤ j) : shrG i j = some (i / 2 ^ j.toNat) := grd_of h
theorem rng1_ok {j : Int} (h : j ≤ 1000000) (h0 : -1000000 ≤ j) : rng1 j = some (rangeI 0 j) := grd_of ⟨by omega, by omega⟩
theorem rng2_ok {i j : Int} (h : j ≤ 1000000) (h0 : -1000000 ≤ j) (h1 : -1000000 ≤ i) (h2 : i ≤ 1000000) : rng2 i j = some (rangeI i j) := grd_of ⟨by omega, by omega, by omega, by omega⟩
theorem mem_rangeI {i j x : Int} (h : x ∈ rangeI i j) : i ≤ x ∧ x < j := by
  unfold rangeI at h
  obtain ⟨n, hn, rfl⟩ := List.mem_map.mp h
  have := List.mem_range.mp hn
  omega
theorem rangeI_length (i j : Int) : (rangeI i j).length = (j - i).toNat := by simp [rangeI]
theorem rangeI_cons {i j : Int} (h : i < j) : rangeI i j = i :: rangeI (i + 1) j := by
  unfold rangeI
  have e : (j - i).toNat = (j - (i + 1)).toNat + 1 := by omega
  rw [e, List.range_succ_eq_map]
  simp only [List.map_cons, List.map_map]
  congr 1
  · simp
  · refine List.map_congr_left fun n _ => ?_
    simp only [Function.comp]
    omega
theorem rangeI_nil {i j : Int} (h : j ≤ i) : rangeI i j = [] := by
  unfold rangeI
  rw [show (j - i).toNat = 0 from by omega]
  rfl
/-- a loop over a range: the invariant by the number ahead -/
theorem loopM_rng {S : Type} {f : Int → S → Option S} (I : Int → S → Prop) {hi : Int} (hs : ∀ i s, i < hi → I i s → ∃ s', f i s = some s' ∧ I (i + 1) s') : ∀ (n : Nat) (lo : Int) (s : S), (hi - lo).toNat = n → lo ≤ hi → I lo s → ∃ out, loopM f (rangeI lo hi) s = some out ∧ I hi out
  | 0, lo, s, e, h, h0 => by
    have : lo = hi := by omega
    subst this
    rw [rangeI_nil (Int.le_refl _)]
    exact ⟨s, rfl, h0⟩
  | n + 1, lo, s, e, h, h0 => by
    rw [rangeI_cons (by omega)]
    obtain ⟨s', h1, h2⟩ := hs lo s (by omega) h0
    obtain ⟨out, h3, h4⟩ := loopM_rng I hs n (lo + 1) s' (by omega) (by omega) h2
    exact ⟨out, by show bnd (f lo s) _ = _; rw [h1]; exact h3, h4⟩
theorem loopF_rng {S R : Type} {f : Int → S → Option (Fl S R)} (I : Int → S → Prop) {hi : Int} (hs : ∀ i s, i < hi → I i s → ∃ s', f i s = some (.nx s') ∧ I (i + 1) s') : ∀ (n : Nat) (lo : Int) (s : S), (hi - lo).toNat = n → lo ≤ hi → I lo s → ∃ out, loopF f (rangeI lo hi) s = some (.nx out) ∧ I hi out
  | 0, lo, s, e, h, h0 => by
    have : lo = hi := by omega
    subst this
    rw [rangeI_nil (Int.le_refl _)]
    exact ⟨s, rfl, h0⟩
  | n + 1, lo, s, e, h, h0 => by
    rw [rangeI_cons (by omega)]
    obtain ⟨s', h1, h2⟩ := hs lo s (by omega) h0
    obtain ⟨out, h3, h4⟩ := loopF_rng I hs n (lo + 1) s' (by omega) (by omega) h2
    exact ⟨out, by show bnd (f lo s) _ = _; rw [h1]; exact h3, h4⟩
end Bt
namespace Bt
open PySem L2
theorem bits_le {i : Int} {n : Nat} (h : i.natAbs < 2 ^ n) : Builtin.Int.intBits i ≤ n := by
  unfold Builtin.Int.intBits
  split
  · exact Nat.zero_le _
  · rename_i h0
    have h1 : i.natAbs ≠ 0 := by simpa using h0
    have := (Nat.log2_lt h1).mpr h
    omega
theorem shlG_ok {i j : Int} {n : Nat} (h : i.natAbs < 2 ^ n) (h0 : 0 ≤ j) (h1 : (n : Int) + j ≤ 100000000) : shlG i j = some (i * 2 ^ j.toNat) := by
  refine grd_of ⟨h0, ?_⟩
  have := bits_le h
  omega
end Bt
namespace Bt
open PySem L2
theorem whileM_go {S : Type} {c : S → Option Bool} {f : S → Option S} {n : Nat} {s s' : S} (h1 : c s = some true) (h2 : f s = some s') : whileM c f (n + 1) s = whileM c f n s' := by
  show bnd (c s) (fun b => ifB b (bnd (f s) (whileM c f n)) (some s)) = _
  rw [h1, bnd_some, ifB_t, h2, bnd_some]
theorem whileM_stop {S : Type} {c : S → Option Bool} {f : S → Option S} {n : Nat} {s : S} (h1 : c s = some false) : whileM c f (n + 1) s = some s := by
  show bnd (c s) (fun b => ifB b (bnd (f s) (whileM c f n)) (some s)) = _
  rw [h1, bnd_some, ifB_f]
theorem loopM_go {α S : Type} {f : α → S → Option S} {x : α} {r : List α} {s s' : S} (h : f x s = some s') : loopM f (x :: r) s = loopM f r s' := by
  show bnd (f x s) (loopM f r) = _
  rw [h, bnd_some]
theorem loopF_go {α S R : Type} {f : α → S → Option (Fl S R)} {x : α} {r : List α} {s s' : S} (h : f x s = some (.nx s')) : loopF f (x :: r) s = loopF f r s' := by
  show bnd (f x s) (contF (loopF f r)) = _
  rw [h, bnd_some]
  rfl
end Bt
namespace Bt
open PySem L2
theorem compT_ok {α β : Type} {c : α → Option Bool} {f : α → Option β} {p : α → Bool} {g : α → β} : ∀ (xs : List α) (acc : List β), (∀ x ∈ xs, c x = some (p x)) → (∀ x ∈ xs, f x = some (g x)) → acc.length + xs.length ≤ 16777216 → compT c f xs acc = some (acc ++ (xs.filter p).map g)
  | [], acc, _, _, _ => by simp [compT]
  | x :: r, acc, h, k, hz => by
    simp only [List.length_cons] at hz
    show bnd (c x) (fun b => ifB b (bnd (f x) fun y => if acc.length < 16777216 then compT c f r (acc ++ [y]) else none) (compT c f r acc)) = _
    rw [h x (List.Mem.head _), bnd_some]
    cases e : p x with
    | true =>
      rw [ifB_t, k x (List.Mem.head _), bnd_some, if_pos (by omega), compT_ok r (acc ++ [g x]) (fun y hy => h y (List.Mem.tail _ hy)) (fun y hy => k y (List.Mem.tail _ hy)) (by simp; omega)]
      simp [e]
    | false =>
      rw [ifB_f, compT_ok r acc (fun y hy => h y (List.Mem.tail _ hy)) (fun y hy => k y (List.Mem.tail _ hy)) (by omega)]
      simp [e]
end Bt
namespace Bt
theorem bndO_ok {α β : Type} {y : α} {f : α → Option β} : bndO (some (.ok y)) f = f y := rfl
theorem bndR_ok {α β : Type} {y : α} {f : α → Option (Rs β)} : bndR (some (.ok y)) f = f y := rfl
theorem bndR_er {α β : Type} {e : Er} {f : α → Option (Rs β)} : bndR (some (.er e)) f = some (.er e) := rfl
theorem tryR_ok {α β : Type} {y : α} {f : α → β} {g : Er → β} : tryR (.ok y) f g = f y := rfl
theorem tryR_er {α β : Type} {e : Er} {f : α → β} {g : Er → β} : tryR (.er e) f g = g e := rfl
end Bt

set_option Elab.async false
set_option linter.all false
set_option maxRecDepth 100000
set_option maxHeartbeats 4000000
/-! Objects: what a def is handed to change, and gives back. -/
namespace Bt
open PySem L2
section
variable {R R' H H' H0 R0 Hb F : Hp} {L L' A B C : List Cell} {Bs Bs' Cs : List (List Cell)} {a p q : Addr} {o o' : HO} {Q : VK} {v : V} {D : Hp → V → List Cell → Prop} {α : Type}
/-- some of the blocks, by their places -/
theorem flat_mem {i : Nat} {b : List Cell} (h : Bs[i]? = some b) {c : Cell} (hc : c ∈ b) : c ∈ Bs.flatten := List.mem_flatten.mpr ⟨b, List.mem_of_getElem? h, hc⟩
theorem flat_nd : ∀ {Bs : List (List Cell)}, (Bs.flatten.map (·.1)).Nodup → ∀ {i j : Nat} {b b' : List Cell}, Bs[i]? = some b → Bs[j]? = some b' → i ≠ j → ∀ c ∈ b, ∀ d ∈ b', c.1 ≠ d.1
  | [], _, i, j, b, b', h, _, _ => by simp at h
  | x :: r, nd, i, j, b, b', h, h', n => by
    rw [List.flatten_cons, List.map_append] at nd
    obtain ⟨_, n2, n3⟩ := List.nodup_append.mp nd
    intro c hc d hd e
    cases i with
    | zero =>
      cases j with
      | zero => exact n rfl
      | succ j =>
        cases Option.some.inj h
        exact n3 _ (List.mem_map_of_mem (f := (·.1)) hc) _ (List.mem_map_of_mem (f := (·.1)) (flat_mem (by simpa using h') hd)) e
    | succ i =>
      cases j with
      | zero =>
        cases Option.some.inj h'
        exact n3 _ (List.mem_map_of_mem (f := (·.1)) hd) _ (List.mem_map_of_mem (f := (·.1)) (flat_mem (by simpa using h) hc)) e.symm
      | succ j => exact flat_nd n2 (by simpa using h) (by simpa using h') (fun z => n (by rw [z])) c hc d hd e
theorem flat_nd1 : ∀ {Bs : List (List Cell)}, (Bs.flatten.map (·.1)).Nodup → ∀ {i : Nat} {b : List Cell}, Bs[i]? = some b → (b.map (·.1)).Nodup
  | [], _, i, b, h => by simp at h
  | x :: r, nd, i, b, h => by
    rw [List.flatten_cons, List.map_append] at nd
    obtain ⟨n1, n2, _⟩ := List.nodup_append.mp nd
    cases i with
    | zero => cases Option.some.inj h; exact n1
    | succ i => exact flat_nd1 n2 (by simpa using h)
theorem Own.selB (O : Own R H Bs.flatten) (is : List Nat) (hd : is.Nodup) (e : is.map (fun i => Bs[i]?) = Bs'.map some) : Own R H Bs'.flatten := by
  have hm : ∀ c ∈ Bs'.flatten, c ∈ Bs.flatten := fun c hc => by
    obtain ⟨b, hb, hc⟩ := List.mem_flatten.mp hc
    have h1 : some b ∈ is.map (fun i => Bs[i]?) := by rw [e]; exact List.mem_map_of_mem hb
    obtain ⟨i, _, h2⟩ := List.mem_map.mp h1
    exact flat_mem h2 hc
  refine ⟨O.ex, fun c h => O.at_ c (hm c h), fun c h => O.fr c (hm c h), ?_⟩
  clear hm
  induction is generalizing Bs' with
  | nil =>
    cases Bs' with
    | nil => exact List.Pairwise.nil
    | cons c r => simp at e
  | cons i is ih =>
    cases Bs' with
    | nil => simp at e
    | cons b r =>
      simp only [List.map_cons, List.cons.injEq] at e
      obtain ⟨e1, e2⟩ := e
      obtain ⟨n1, n2⟩ := List.nodup_cons.mp hd
      rw [List.flatten_cons, List.map_append]
      refine List.nodup_append.mpr ⟨flat_nd1 O.nd e1, ih n2 e2, fun x hx y hy exy => ?_⟩
      obtain ⟨c, hc, rfl⟩ := List.mem_map.mp hx
      obtain ⟨d, hd', rfl⟩ := List.mem_map.mp hy
      obtain ⟨b', hb', hd'⟩ := List.mem_flatten.mp hd'
      have h1 : some b' ∈ is.map (fun i => Bs[i]?) := by rw [e2]; exact List.mem_map_of_mem hb'
      obtain ⟨j, hj, h2⟩ := List.mem_map.mp h1
      exact flat_nd O.nd e1 h2 (fun z => n1 (by rw [z]; exact hj)) c hc d hd' exy
/-- the same, told by what is left -/
def nthB : List (List Cell) → Nat → List Cell
  | [], _ => []
  | b :: _, 0 => b
  | _ :: r, n + 1 => nthB r n
def pickG (Bs : List (List Cell)) : List Nat → List (List Cell)
  | [] => []
  | i :: r => nthB Bs i :: pickG Bs r
theorem g1 {Bs : List (List Cell)} : pickG Bs [] = [] := rfl
theorem g2 {Bs : List (List Cell)} {i : Nat} {r : List Nat} : pickG Bs (i :: r) = nthB Bs i :: pickG Bs r := rfl
theorem g3 {b : List Cell} {r : List (List Cell)} : nthB (b :: r) 0 = b := rfl
theorem g4 {b : List Cell} {r : List (List Cell)} {n : Nat} : nthB (b :: r) (n + 1) = nthB r n := rfl
theorem nth_some : ∀ {Bs : List (List Cell)} {i : Nat}, i < Bs.length → Bs[i]? = some (nthB Bs i)
  | [], i, h => by simp at h
  | b :: r, 0, _ => rfl
  | b :: r, i + 1, h => by
    rw [List.getElem?_cons_succ]
    exact nth_some (by simpa using h)
theorem nth_none : ∀ {Bs : List (List Cell)} {i : Nat}, ¬ i < Bs.length → nthB Bs i = []
  | [], i, h => rfl
  | b :: r, 0, h => by simp at h
  | b :: r, i + 1, h => nth_none (Bs := r) (by simpa using h)
theorem pick_flat (Bs : List (List Cell)) : ∀ is : List Nat, (pickG Bs is).flatten = (pickG Bs (is.filter fun i => decide (i < Bs.length))).flatten
  | [] => rfl
  | i :: r => by
    rw [g2, List.flatten_cons, pick_flat Bs r, List.filter_cons]
    by_cases h : i < Bs.length
    · rw [decide_eq_true h, if_pos rfl, g2, List.flatten_cons]
    · rw [decide_eq_false h, if_neg (by simp), nth_none h, List.nil_append]
theorem pick_ok (Bs : List (List Cell)) : ∀ is : List Nat, (∀ i ∈ is, i < Bs.length) → is.map (fun i => Bs[i]?) = (pickG Bs is).map some
  | [], _ => rfl
  | i :: r, h => by
    rw [g2, List.map_cons, List.map_cons, nth_some (h i (List.Mem.head _)), pick_ok Bs r fun j hj => h j (List.Mem.tail _ hj)]
theorem Own.pkB (O : Own R H L) (Bs : List (List Cell)) (hB : L = Bs.flatten) (is : List Nat) (hd : is.Nodup) (e : (pickG Bs is).flatten = L') : Own R H L' := by
  subst hB
  subst e
  rw [pick_flat]
  exact O.selB _ (hd.filter _) (pick_ok Bs _ fun i hi => by
    obtain ⟨_, h⟩ := List.mem_filter.mp hi
    exact of_decide_eq_true h)
theorem Own.split (O : Own R H (Bs ++ Cs).flatten) : Own R H (Bs.flatten ++ Cs.flatten) := by
  rw [List.flatten_append] at O
  exact O
/-- blocks to the front, apart -/
theorem Own.cutB (O : Own R H Bs.flatten) (is : List Nat) (hd : is.Nodup) (e : is.map (fun i => Bs[i]?) = (Bs' ++ Cs).map some) : Own R H (Bs'.flatten ++ Cs.flatten) := (O.selB is hd e).split
theorem Own.asc (O : Own R H ((A ++ B) ++ C)) : Own R H (A ++ (B ++ C)) := by
  rw [List.append_assoc] at O
  exact O
/-- H without the cells -/
def hsub (H : Hp) (L : List Cell) : Hp := fun a => if a ∈ L.map (·.1) then none else H a
theorem hsub_nil : hsub H [] = H := rfl
theorem hsub_in {c : Cell} (h : c ∈ L) : hsub H L c.1 = none := by
  unfold hsub
  exact if_pos (List.mem_map_of_mem (f := (·.1)) h)
theorem hsub_ex : Ex (hsub H L) H := fun a u e => by
  unfold hsub at e
  split at e
  · cases e
  · exact e
theorem Own.subR (O : Own R H L) : Ex R (hsub H L) := fun a u e => by
  unfold hsub
  rw [if_neg (fun m => by
    obtain ⟨c, hc, e1⟩ := List.mem_map.mp m
    have := O.fr c hc
    rw [e1, e] at this
    cases this)]
  exact O.ex _ _ e
theorem Own.startX (O : Own R H L) : Own (hsub H L) H L := ⟨hsub_ex, O.at_, fun c h => hsub_in h, O.nd⟩
theorem Own.shrink (O : Own R H L) (e : Ex R' R) : Own R' H L := ⟨e.trans O.ex, O.at_, fun c h => e.back (O.fr c h), O.nd⟩
theorem Own.left (O : Own R H (A ++ B)) : Own R H A := O.sub (List.sublist_append_left A B)
theorem Own.right (O : Own R H (A ++ B)) : Own R H B := O.sub (List.sublist_append_right A B)
/-- what a def that changes things hands back: in what R0 knows or what is new; the cells L are its own to give back -/
def RetX (R0 Hb : Hp) (D : Hp → V → List Cell → Prop) (Q : VK) : Prop := ∀ v H' R' L', Ex Hb R' → Own R' H' L' → D (ovr R0 Hb R') v L' → Q v H'
abbrev DT := Hp → V → List Cell → Prop
def MonoD (D : DT) : Prop := ∀ F F' v L, Ex F F' → D F v L → D F' v L
/-- back from the call: the other cells are still there -/
theorem Own.back (O : Own R H (B ++ C)) (e : Ex (hsub H B) R') (O' : Own R' H' L') : ∃ R'', Own R'' H' (L' ++ C) ∧ Ex R R'' ∧ ∀ F, Ex F R → Ex (ovr F (hsub H B) R') R'' := by
  have nd := O.nd
  rw [List.map_append] at nd
  obtain ⟨ndB, ndC, dis⟩ := List.nodup_append.mp nd
  have hC : ∀ c ∈ C, R' c.1 = some c.2 := fun c hc => e _ _ (by
    unfold hsub
    rw [if_neg (fun m => dis _ m _ (List.mem_map_of_mem (f := (·.1)) hc) rfl)]
    exact O.at_ c (List.mem_append.mpr (.inr hc)))
  have hR : ∀ b u, R b = some u → R' b = some u := fun b u h => e _ _ (O.left.subR b u h)
  refine ⟨hsub R' C, ⟨hsub_ex.trans O'.ex, fun c hc => ?_, fun c hc => ?_, ?_⟩, fun b u h => ?_, fun F hF b u h => ?_⟩
  · rcases List.mem_append.mp hc with hc | hc
    · exact O'.at_ c hc
    · exact O'.ex _ _ (hC c hc)
  · rcases List.mem_append.mp hc with hc | hc
    · exact hsub_ex.back (O'.fr c hc)
    · exact hsub_in hc
  · rw [List.map_append]
    refine List.nodup_append.mpr ⟨O'.nd, ndC, fun x hx y hy exy => ?_⟩
    subst exy
    obtain ⟨c, hc, e1⟩ := List.mem_map.mp hx
    obtain ⟨d, hd, e2⟩ := List.mem_map.mp hy
    have h1 := O'.fr c hc
    have h2 := hC d hd
    rw [e2, ← e1, h1] at h2
    cases h2
  · unfold hsub
    rw [if_neg (fun m => by
      obtain ⟨c, hc, e1⟩ := List.mem_map.mp m
      have := O.fr c (List.mem_append.mpr (.inr hc))
      rw [e1, h] at this
      cases this)]
    exact hR b u h
  · obtain ⟨hq, h1⟩ := ovr_some h
    unfold hsub
    rw [if_neg (fun m => ?_)]
    · exact h1
    · obtain ⟨c, hc, e1⟩ := List.mem_map.mp m
      rcases hq with hq | hq
      · cases hf : F b with
        | none => exact hq hf
        | some w =>
          have := O.fr c (List.mem_append.mpr (.inr hc))
          rw [e1, hF _ _ hf] at this
          cases this
      · have : hsub H B c.1 = some c.2 := by
          unfold hsub
          rw [if_neg (fun m => dis _ m _ (List.mem_map_of_mem (f := (·.1)) hc) rfl)]
          exact O.at_ c (List.mem_append.mpr (.inr hc))
        rw [e1, hq] at this
        cases this
theorem Own.retX (O : Own R H (B ++ C)) (m : MonoD D) (k : ∀ v H' R' L', Own R' H' (L' ++ C) → Ex R R' → D R' v L' → Q v H') : RetX R (hsub H B) D Q := fun v H' R' L' e O' d => by
  obtain ⟨R'', O'', e1, e2⟩ := O.back e O'
  exact k v H' R'' L' O'' e1 (m _ _ _ _ (e2 R (Ex.refl R)) d)
theorem Own.retXO (O : Own R H (B ++ C)) (m : MonoD D) (e0 : Ex H0 R) (k : ∀ v H' R' L', Own R' H' (L' ++ C) → Ex R R' → D (ovr R0 H0 R') v L' → Q v H') : RetX (ovr R0 H0 R) (hsub H B) D Q := fun v H' R' L' e O' d => by
  obtain ⟨R'', O'', e1, e2⟩ := O.back e O'
  refine k v H' R'' L' O'' e1 (m _ _ _ _ (fun b u h => ?_) d)
  have h1 := e2 (ovr R0 H0 R) ovr_ex _ _ h
  obtain ⟨hq, _⟩ := ovr_some h
  refine ovr_mk ?_ h1
  rcases hq with hq | hq
  · cases hz : ovr R0 H0 R b with
    | none => exact absurd hz hq
    | some w => exact (ovr_some hz).1
  · refine .inr ?_
    cases hz : H0 b with
    | none => rfl
    | some w =>
      have h3 := O.left.subR _ _ (e0 _ _ hz)
      rw [hq] at h3
      cases h3
theorem Own.inC {B C : List Cell} {c : Cell} (O : Own R H (B ++ C)) (h : c ∈ C) : hsub H B c.1 = some c.2 := by
  have nd := O.nd
  rw [List.map_append] at nd
  unfold hsub
  rw [if_neg (fun m => (List.nodup_append.mp nd).2.2 _ m _ (List.mem_map_of_mem (f := (·.1)) h) rfl)]
  exact O.at_ c (List.mem_append_right _ h)
/-! what is handed back -/
abbrev Ob (α : Type) := Hp → Addr → List Cell → α → Prop
def MonoO {α : Type} (B : Ob α) : Prop := ∀ F F' a L x, Ex F F' → B F a L x → B F' a L x
def dV (w : V) : DT := fun _ v L => L = [] ∧ v = w
def dLs (xs : List V) : DT := fun _ v L => ∃ p, v = .ref p ∧ L = [(p, .lst xs)]
def dTp (xs : List V) : DT := fun _ v L => ∃ p, v = .ref p ∧ L = [(p, .tup xs)]
def dP {α : Type} (P : Rp α) (x : α) : DT := fun F v L => L = [] ∧ P F v x
def dOb {α : Type} (B : Ob α) (x : α) : DT := fun F v L => ∃ a, v = .ref a ∧ B F a L x
def dX {α : Type} (B : Ob α) (a : Addr) (x : α) (D : DT) : DT := fun F v L => ∃ L1 L2, L = L1 ++ L2 ∧ B F a L1 x ∧ D F v L2
def dI {α : Type} (B : Ob α) (a : Addr) (x : α) : DT := fun F v L => v = .non ∧ B F a L x
theorem mdI {α : Type} {B : Ob α} {a : Addr} {x : α} (m : MonoO B) : MonoD (dI B a x) := fun _ _ _ _ e h => ⟨h.1, m _ _ _ _ _ e h.2⟩
def dK (L : List Cell) (D : DT) : DT := fun F v L' => ∃ L2, L' = L ++ L2 ∧ D F v L2
theorem mdK {L : List Cell} {D : DT} (n : MonoD D) : MonoD (dK L D) := fun _ _ _ _ e ⟨L2, h1, h3⟩ => ⟨L2, h1, n _ _ _ _ e h3⟩
theorem Own.whole {R0 Hs Hb H0 H : Hp} {L X : List Cell} (O0 : Own R0 Hs L) (hb : Hb = hsub Hs L) (eB : Ex Hb H0) (O : Own H0 H (L ++ X)) : Ex Hs H := fun a u h => by
  by_cases c : a ∈ L.map (·.1)
  · obtain ⟨d, hd, e⟩ := List.mem_map.mp c
    have h1 := O0.at_ d hd
    have h2 := O.at_ d (List.mem_append_left _ hd)
    subst e
    rw [h1] at h
    rw [h2, ← h]
  · refine O.ex _ _ (eB _ _ ?_)
    rw [hb]
    unfold hsub
    rw [if_neg c]
    exact h
theorem mdV {w : V} : MonoD (dV w) := fun _ _ _ _ _ h => h
theorem mdLs {xs : List V} : MonoD (dLs xs) := fun _ _ _ _ _ h => h
theorem mdTp {xs : List V} : MonoD (dTp xs) := fun _ _ _ _ _ h => h
theorem mdP {α : Type} {P : Rp α} {x : α} (m : Mono P) : MonoD (dP P x) := fun _ _ _ _ e h => ⟨h.1, m _ _ _ _ e h.2⟩
theorem mdOb {α : Type} {B : Ob α} {x : α} (m : MonoO B) : MonoD (dOb B x) := fun _ _ _ _ e ⟨a, h1, h2⟩ => ⟨a, h1, m _ _ _ _ _ e h2⟩
theorem mdX {α : Type} {B : Ob α} {a : Addr} {x : α} {D : DT} (m : MonoO B) (n : MonoD D) : MonoD (dX B a x D) := fun _ _ _ _ e ⟨L1, L2, h1, h2, h3⟩ => ⟨L1, L2, h1, m _ _ _ _ _ e h2, n _ _ _ _ e h3⟩
/-! a list of such -/
inductive All3 {α β γ : Type} (P : α → β → γ → Prop) : List α → List β → List γ → Prop
  | nil : All3 P [] [] []
  | cons {a : α} {b : β} {c : γ} {as : List α} {bs : List β} {cs : List γ} : P a b c → All3 P as bs cs → All3 P (a :: as) (b :: bs) (c :: cs)
theorem All3.mp {α β γ : Type} {P P' : α → β → γ → Prop} {as : List α} {bs : List β} {cs : List γ} (f : ∀ a b c, P a b c → P' a b c) (h : All3 P as bs cs) : All3 P' as bs cs := by
  induction h with
  | nil => exact .nil
  | cons h _ ih => exact .cons (f _ _ _ h) ih
theorem All3.len {α β γ : Type} {P : α → β → γ → Prop} {as : List α} {bs : List β} {cs : List γ} (h : All3 P as bs cs) : as.length = cs.length := by
  induction h with
  | nil => rfl
  | cons _ _ ih => simp [ih]
/-- the j-th of them, apart -/
theorem All3.at {α γ : Type} {P : α → List Cell → γ → Prop} {as : List α} {bs : List (List Cell)} {cs : List γ} (h : All3 P as bs cs) : ∀ {j : Nat} {c : γ}, cs[j]? = some c → ∃ a b bs1 bs2, as[j]? = some a ∧ P a b c ∧ bs = bs1 ++ b :: bs2 ∧ ∀ (P' : α → List Cell → γ → Prop) (b' : List Cell) (c' : γ), (∀ a b c, P a b c → P' a b c) → P' a b' c' → All3 P' as (bs1 ++ b' :: bs2) (cs.set j c') := by
  induction h with
  | nil => intro j c e; simp at e
  | @cons a b c as bs cs h t ih =>
    intro j d e
    cases j with
    | zero =>
      cases Option.some.inj e
      exact ⟨a, b, [], bs, rfl, h, rfl, fun P' b' c' m k => .cons k (t.mp m)⟩
    | succ j =>
      obtain ⟨a1, b1, bs1, bs2, h1, h2, h3, h4⟩ := ih (by simpa using e)
      exact ⟨a1, b1, b :: bs1, bs2, by simpa using h1, h2, by rw [h3]; rfl, fun P' b' c' m k => .cons (m _ _ _ h) (h4 P' b' c' m k)⟩
def oLs {α : Type} (B : Ob α) : Ob (List α) := fun F a L xs => ∃ as Ls, L.Perm ((a, HO.lst (as.map V.ref)) :: Ls.flatten) ∧ All3 (B F) as Ls xs
theorem moLs {α : Type} {B : Ob α} (m : MonoO B) : MonoO (oLs B) := fun _ _ _ _ _ e ⟨as, Ls, h1, h2⟩ => ⟨as, Ls, h1, h2.mp fun _ _ _ h => m _ _ _ _ _ e h⟩
theorem Own.lsAt {α : Type} {B : Ob α} {F : Hp} {a : Addr} {A L C : List Cell} {xs : List α} {i : Int} {x : α} (m : MonoO B) (O : Own R H (A ++ (L ++ C))) (h : oLs B F a L xs) (e : atI xs i = some x) :
    ∃ (vs : List V) (b : Addr) (L1 L2 : List Cell), H a = some (.lst vs) ∧ atI vs i = some (.ref b) ∧ vs.length = xs.length ∧ B F b L1 x ∧ (L1 ++ L2).Perm L ∧ Own R H (A ++ (L1 ++ (L2 ++ C))) ∧ (∀ F' L1' x', Ex F F' → B F' b L1' x' → ∀ ys, setG xs i x' = some ys → oLs B F' a (L1' ++ L2) ys) ∧ ∀ F' L1', Ex F F' → B F' b L1' x → oLs B F' a (L1' ++ L2) xs := by
  obtain ⟨as, Ls, hp, h3⟩ := h
  unfold atI at e
  cases ej : ixN xs.length i with
  | none => rw [ej] at e; cases e
  | some j =>
    rw [ej] at e
    obtain ⟨b, L1, bs1, bs2, h4, h5, h6, h7⟩ := h3.at e
    subst h6
    have hp2 : L.Perm (L1 ++ ((a, HO.lst (as.map V.ref)) :: (bs1.flatten ++ bs2.flatten))) := by
      refine hp.trans ?_
      rw [List.flatten_append, List.flatten_cons]
      refine List.Perm.trans ?_ (List.perm_middle.symm)
      refine List.Perm.cons _ ?_
      rw [← List.append_assoc, ← List.append_assoc]
      exact List.Perm.append_right _ List.perm_append_comm
    have cl : ∀ F' L1' x', Ex F F' → B F' b L1' x' → oLs B F' a (L1' ++ ((a, HO.lst (as.map V.ref)) :: (bs1.flatten ++ bs2.flatten))) (xs.set j x') := fun F' L1' x' ex hb => by
      refine ⟨as, bs1 ++ L1' :: bs2, ?_, h7 _ L1' x' (fun _ _ _ h => m _ _ _ _ _ ex h) hb⟩
      rw [List.flatten_append, List.flatten_cons]
      refine List.perm_middle.trans ?_
      refine List.Perm.cons _ ?_
      rw [← List.append_assoc, ← List.append_assoc]
      exact List.Perm.append_right _ List.perm_append_comm
    refine ⟨as.map V.ref, b, L1, (a, HO.lst (as.map V.ref)) :: (bs1.flatten ++ bs2.flatten), O.mem (List.mem_append_right _ (List.mem_append_left _ (hp.mem_iff.mpr (List.Mem.head _)))), ?_, by rw [List.length_map, h3.len], h5, hp2.symm, O.perm ?_, fun F' L1' x' ex hb ys hy => ?_, fun F' L1' ex hb => ?_⟩
    · unfold atI
      rw [List.length_map, h3.len, ej]
      show (as.map V.ref)[j]? = _
      rw [List.getElem?_map, h4]
      rfl
    · refine List.Perm.append_left _ ?_
      rw [← List.append_assoc]
      exact List.Perm.append_right _ hp2
    · unfold setG at hy
      rw [ej] at hy
      cases hy
      exact cl F' L1' x' ex hb
    · have := cl F' L1' x ex hb
      have e2 : xs.set j x = xs := by
        obtain ⟨h8, h9⟩ := List.getElem?_eq_some_iff.mp (show xs[j]? = some x from e)
        rw [← h9]
        exact List.set_getElem_self h8
      rw [e2] at this
      exact this
end
/-! tests with two sides, over any state -/
section
variable {J : Hp → Prop} {Q : VK} {σ : St} {H : Hp} {v x y : V}
theorem x_andJ {c d e : Bool} {tt uu : TT} {QB : Bool → Hp → Prop} (J : Hp → Prop) (h1 : ∀ Q1 : Bool → Hp → Prop, (∀ H', J H' → Q1 c H') → tt σ H Q1) (h2 : c = true → e = d ∧ ∀ H', J H' → ∀ Q2 : Bool → Hp → Prop, (∀ H'', J H'' → Q2 e H'') → uu σ H' Q2)
    (h3 : c = false → false = d) (k : ∀ H', J H' → QB d H') : tAnd tt uu σ H QB := by
  refine h1 _ fun H' O' => ?_
  cases c with
  | true =>
    obtain ⟨e1, g2⟩ := h2 rfl
    subst e1
    exact g2 H' O' QB k
  | false =>
    rw [← h3 rfl] at k
    exact k H' O'
theorem x_orJ {c d e : Bool} {tt uu : TT} {QB : Bool → Hp → Prop} (J : Hp → Prop) (h1 : ∀ Q1 : Bool → Hp → Prop, (∀ H', J H' → Q1 c H') → tt σ H Q1) (h2 : c = false → e = d ∧ ∀ H', J H' → ∀ Q2 : Bool → Hp → Prop, (∀ H'', J H'' → Q2 e H'') → uu σ H' Q2)
    (h3 : c = true → true = d) (k : ∀ H', J H' → QB d H') : tOr tt uu σ H QB := by
  refine h1 _ fun H' O' => ?_
  cases c with
  | false =>
    obtain ⟨e1, g2⟩ := h2 rfl
    subst e1
    exact g2 H' O' QB k
  | true =>
    rw [← h3 rfl] at k
    exact k H' O'
theorem x_andVJ {c d e : Bool} {tt uu : TE} (J : Hp → Prop) (h1 : ∀ Q1 : VK, (∀ H', J H' → Q1 (.bl c) H') → tt σ H Q1) (h2 : c = true → e = d ∧ ∀ H', J H' → ∀ Q2 : VK, (∀ H'', J H'' → Q2 (.bl e) H'') → uu σ H' Q2)
    (h3 : c = false → false = d) (k : ∀ H', J H' → Q (.bl d) H') : tAndV tt uu σ H Q := by
  refine h1 _ fun H' O' => ⟨_, rfl, ?_⟩
  cases c with
  | true =>
    obtain ⟨e1, g2⟩ := h2 rfl
    subst e1
    exact g2 H' O' Q k
  | false =>
    rw [← h3 rfl] at k
    exact k H' O'
theorem x_orVJ {c d e : Bool} {tt uu : TE} (J : Hp → Prop) (h1 : ∀ Q1 : VK, (∀ H', J H' → Q1 (.bl c) H') → tt σ H Q1) (h2 : c = false → e = d ∧ ∀ H', J H' → ∀ Q2 : VK, (∀ H'', J H'' → Q2 (.bl e) H'') → uu σ H' Q2)
    (h3 : c = true → true = d) (k : ∀ H', J H' → Q (.bl d) H') : tOrV tt uu σ H Q := by
  refine h1 _ fun H' O' => ⟨_, rfl, ?_⟩
  cases c with
  | false =>
    obtain ⟨e1, g2⟩ := h2 rfl
    subst e1
    exact g2 H' O' Q k
  | true =>
    rw [← h3 rfl] at k
    exact k H' O'
theorem x_ifJ {c : Bool} {tt : TT} {ta tb : TE} (J : Hp → Prop) (h1 : ∀ Q1 : Bool → Hp → Prop, (∀ H', J H' → Q1 c H') → tt σ H Q1) (h2 : c = true → x = v ∧ ∀ H', J H' → ∀ Q2 : VK, (∀ H'', J H'' → Q2 x H'') → ta σ H' Q2)
    (h3 : c = false → y = v ∧ ∀ H', J H' → ∀ Q2 : VK, (∀ H'', J H'' → Q2 y H'') → tb σ H' Q2) (k : ∀ H', J H' → Q v H') : tIf tt ta tb σ H Q := by
  refine h1 _ fun H' O' => ?_
  cases c with
  | true =>
    obtain ⟨e1, g2⟩ := h2 rfl
    subst e1
    exact g2 H' O' Q k
  | false =>
    obtain ⟨e1, g3⟩ := h3 rfl
    subst e1
    exact g3 H' O' Q k
end
theorem Own.unls {R H : Hp} {A L1 L2 L C : List Cell} (O : Own R H (A ++ (L1 ++ (L2 ++ C)))) (h : (L1 ++ L2).Perm L) : Own R H (A ++ (L ++ C)) := by
  refine O.perm (List.Perm.append_left _ ?_)
  rw [← List.append_assoc]
  exact List.Perm.append_right _ h
/-! fields -/
section
variable {K : PySem.W.Frag} {σ : St} {H R : Hp} {L : List Cell} {Q : VK} {a dx C : Addr} {fs : List (Str × V)} {v : V} {f : Str} {te tv : TE}
theorem o_fld (h : te σ H fun x H1 => ∃ a C dx fs v, x = .ref a ∧ H1 a = some (.ins C dx fs) ∧ Cls K C ∧ NoAttr K C f ∧ fs.lookup f = some v ∧ Q v H1) : tFld K te f σ H Q := h
def rSFld (K : PySem.W.Frag) (f : Str) (y x : V) (H : Hp) (QH : Hp → Prop) : Prop := ∃ a C dx fs, x = .ref a ∧ H a = some (.ins C dx fs) ∧ Cls K C ∧ NoAttr K C f ∧ fs.length < 1000 ∧ QH (upd H a (.ins C dx (putF f y fs)))
theorem o_sfld {n b k : St → Hp → Prop} {w : VK} (h : tv σ H fun y H1 => te σ H1 fun x H2 => rSFld K f y x H2 (n σ)) : sFld K te tv f (Ends.mk n w b k) σ H := h
theorem o_meth {m : Str} {sp : Sp} {dvs : List V} {E : XK} {t : TA} (h : te σ H fun x H1 => ∃ a dx fs, x = .ref a ∧ H1 a = some (.ins C dx fs) ∧ fs.lookup m = none ∧ t σ H1 fun vs H2 => sp (x :: (vs ++ dvs)) H2 Q E) : tMeth C m sp dvs E te t σ H Q := h
theorem o_make {sp : Sp} {dvs : List V} {E : XK} {t : TA} (h : t σ H fun vs H1 => ∀ x dx, H1 x = none → H1 dx = none → dx ≠ x → sp (.ref x :: (vs ++ dvs)) (upd (upd H1 dx (.own x)) x (.ins C dx [])) (fun v H2 => v = .non ∧ Q (.ref x) H2) E) : tMake C sp dvs E t σ H Q := h
theorem Own.mk2 (O : Own R H L) {x : Addr} (h1 : H x = none) (h2 : H dx = none) (h3 : dx ≠ x) : Own R (upd (upd H dx (.own x)) x (.ins C dx fs)) ((x, .ins C dx fs) :: (dx, .own x) :: L) :=
  Own.new (O.new h2) (by rw [upd_ne (Ne.symm h3)]; exact h1)
theorem k_make {sp : Sp} {vs : List V} {E : XK} {Q2 : Addr → Hp → Prop} (O : Own R H L) (k : ∀ x dx H', Own R H' ((x, .ins C dx []) :: (dx, .own x) :: L) → sp (.ref x :: vs) H' (fun v H2 => v = .non ∧ Q2 x H2) E) : ∀ x dx, H x = none → H dx = none → dx ≠ x → sp (.ref x :: vs) (upd (upd H dx (.own x)) x (.ins C dx [])) (fun v H2 => v = .non ∧ Q2 x H2) E := fun x dx h1 h2 h3 => k x dx _ (O.mk2 h1 h2 h3)
theorem putF_nil : putF f v [] = [(f, v)] := rfl
theorem putF_hit {x : V} {r : List (Str × V)} : putF f v ((f, x) :: r) = (f, v) :: r := by simp [putF]
theorem putF_skip {g : Str} {x : V} {r r' : List (Str × V)} (h : (g == f) = false) (e : putF f v r = r') : putF f v ((g, x) :: r) = (g, x) :: r' := by
  have : g ≠ f := by simpa using h
  simp [putF, this, e]
theorem lk_hit {r : List (Str × V)} : List.lookup f ((f, v) :: r) = some v := by simp [List.lookup]
theorem lk_skip {g : Str} {x : V} {r : List (Str × V)} {o : Option V} (h : (f == g) = false) (e : List.lookup f r = o) : List.lookup f ((g, x) :: r) = o := by simp [List.lookup, h, e]
theorem lk_nil : List.lookup f ([] : List (Str × V)) = none := rfl
theorem k_sfld {v' : V} {fs' : List (Str × V)} {QH : Hp → Prop} {g : HO → List Cell} (hl : H a = some (.ins C dx fs)) (c : Cls K C) (n : NoAttr K C f) (hz : fs.length < 1000) (ev : v = v') (e : putF f v' fs = fs') (hp : ∀ o', Own R (upd H a o') (g o')) (k : ∀ H', Own R H' (g (.ins C dx fs')) → QH H') :
    rSFld K f v (.ref a) H QH := by
  subst ev
  refine ⟨a, C, dx, fs, rfl, hl, c, n, hz, ?_⟩
  rw [e]
  exact k _ (hp _)
theorem Own.cv {L' : List Cell} (O : Own R H L) (e : L = L') : Own R H L' := e ▸ O
theorem Own.putB {A B : List Cell} {o o' : HO} (O : Own R H L) (e : L = A ++ (a, o) :: B) : Own R (upd H a o') (A ++ (a, o') :: B) := by
  subst e
  exact Own.put O
theorem cls_at {K : PySem.W.Frag} {C : Addr} (h1 : PySem.W.plainGet K C Str.empty = true) (h2 : PySem.W.hasDictIn K C = true) (h3 : PySem.W.plainOver K C = true) (h4 : PySem.W.findIn K (.ref C) "__setattr__" = some (some (.builtin "object.__setattr__"))) : Cls K C := ⟨h1, h2, h3, h4⟩
end
end Bt

set_option Elab.async false
set_option linter.all false
set_option maxRecDepth 100000
set_option maxHeartbeats 4000000
/-! Data of any form: lists and tuples of such, None, one of two kinds. -/
namespace Bt
open PySem L2
section
variable {α β γ δ : Type} {P : Rp α} {P' : Rp β} {P3 : Rp γ} {P4 : Rp δ} {F H R : Hp} {L : List Cell} {v w : V} {a p : Addr} {K : PySem.W.Frag} {Q : VK} {i : Int}
def rN : Rp Unit := fun _ v _ => v = .non
def rU (P : Rp α) (P' : Rp β) : Rp (α ⊕ β) := fun F v x => match x with
  | .inl a => P F v a
  | .inr b => P' F v b
theorem mN : Mono rN := fun _ _ _ _ _ h => h
theorem mU (m : Mono P) (n : Mono P') : Mono (rU P P') := fun F F' v x e h => by
  cases x with
  | inl a => exact m _ _ _ _ e h
  | inr b => exact n _ _ _ _ e h
theorem rO_some {x : Option α} {y : α} (h : rO P F v x) (e : x = some y) : P F v y := by subst e; exact h
theorem rO_mk {y : α} (h : P F v y) : rO P F v (some y) := h
def prL : α ⊕ β → Option α
  | .inl a => some a
  | .inr _ => none
def prR : α ⊕ β → Option β
  | .inl _ => none
  | .inr b => some b
theorem rU_l {x : α ⊕ β} {y : α} (h : rU P P' F v x) (e : prL x = some y) : P F v y := by
  cases x with
  | inl a => cases e; exact h
  | inr b => cases e
theorem rU_r {x : α ⊕ β} {y : β} (h : rU P P' F v x) (e : prR x = some y) : P' F v y := by
  cases x with
  | inl a => cases e
  | inr b => cases e; exact h
theorem rL_ref {x : List α} (h : rL P F v x) : ∃ p, v = .ref p := by obtain ⟨p, _, e, _⟩ := h; exact ⟨p, e⟩
theorem rT2_ref {x : α × β} (h : rT2 P P' F v x) : ∃ p, v = .ref p := by obtain ⟨p, _, _, e, _⟩ := h; exact ⟨p, e⟩
theorem rT3_ref {x : α × β × γ} (h : rT3 P P' P3 F v x) : ∃ p, v = .ref p := by obtain ⟨p, _, _, _, e, _⟩ := h; exact ⟨p, e⟩
theorem rT4_ref {x : α × β × γ × δ} (h : rT4 P P' P3 P4 F v x) : ∃ p, v = .ref p := by obtain ⟨p, _, _, _, _, e, _⟩ := h; exact ⟨p, e⟩
theorem rL_at {x : List α} (h : rL P F (.ref p) x) : ∃ vs, F p = some (.lst vs) ∧ All2 (P F) vs x := by
  obtain ⟨q, vs, e, h1, h2⟩ := h
  cases e
  exact ⟨vs, h1, h2⟩
theorem rT2_at {x : α × β} (h : rT2 P P' F (.ref p) x) : ∃ a b, F p = some (.tup [a, b]) ∧ P F a x.1 ∧ P' F b x.2 := by
  obtain ⟨q, a, b, e, h1, h2⟩ := h
  cases e
  exact ⟨a, b, h1, h2⟩
theorem rT3_at {x : α × β × γ} (h : rT3 P P' P3 F (.ref p) x) : ∃ a b c, F p = some (.tup [a, b, c]) ∧ P F a x.1 ∧ P' F b x.2.1 ∧ P3 F c x.2.2 := by
  obtain ⟨q, a, b, c, e, h1, h2⟩ := h
  cases e
  exact ⟨a, b, c, h1, h2⟩
theorem rT4_at {x : α × β × γ × δ} (h : rT4 P P' P3 P4 F (.ref p) x) : ∃ a b c d, F p = some (.tup [a, b, c, d]) ∧ P F a x.1 ∧ P' F b x.2.1 ∧ P3 F c x.2.2.1 ∧ P4 F d x.2.2.2 := by
  obtain ⟨q, a, b, c, d, e, h1, h2⟩ := h
  cases e
  exact ⟨a, b, c, d, h1, h2⟩
theorem fIr {F : Hp} {p : Addr} {xs : List Int} (h : rL rI F (.ref p) xs) : F p = some (.lst (xs.map V.int)) := by
  obtain ⟨q, e, h⟩ := fI h
  cases e
  exact h
theorem fBr {F : Hp} {p : Addr} {xs : List Bool} (h : rL rB F (.ref p) xs) : F p = some (.lst (xs.map V.bl)) := by
  obtain ⟨q, e, h⟩ := fB h
  cases e
  exact h
theorem fSr {F : Hp} {p : Addr} {xs : List Str} (h : rL rS F (.ref p) xs) : F p = some (.lst (xs.map V.str)) := by
  obtain ⟨q, e, h⟩ := fS h
  cases e
  exact h
/-! never None -/
def NN (P : Rp α) : Prop := ∀ F v x, P F v x → v ≠ .non
theorem nnI : NN rI := fun _ _ _ h => by rw [show _ = _ from h]; simp
theorem nnB : NN rB := fun _ _ _ h => by rw [show _ = _ from h]; simp
theorem nnS : NN rS := fun _ _ _ h => by rw [show _ = _ from h]; simp
theorem nnL : NN (rL P) := fun _ _ _ h => by obtain ⟨p, rfl⟩ := rL_ref h; simp
theorem nnT2 : NN (rT2 P P') := fun _ _ _ h => by obtain ⟨p, rfl⟩ := rT2_ref h; simp
theorem nnT3 : NN (rT3 P P' P3) := fun _ _ _ h => by obtain ⟨p, rfl⟩ := rT3_ref h; simp
theorem nnT4 : NN (rT4 P P' P3 P4) := fun _ _ _ h => by obtain ⟨p, rfl⟩ := rT4_ref h; simp
theorem nnU (m : NN P) (n : NN P') : NN (rU P P') := fun _ _ x h => by
  cases x with
  | inl a => exact m _ _ _ h
  | inr b => exact n _ _ _ h
theorem dec_non {x : Option α} (n : NN P) (h : rO P F v x) : decide (v = V.non) = x.isNone := by
  cases x with
  | none => rw [show v = _ from h]; rfl
  | some y => rw [decide_eq_false (n _ _ _ h)]; rfl
def rIsN : R2 := fun x y H Q => y = .non ∧ Q (.bl (decide (x = .non))) H
def rNotN : R2 := fun x y H Q => y = .non ∧ Q (.bl (!decide (x = .non))) H
theorem op_isNq {X : Cx} : OpR X (compareOp .Is) rIsN := op_isN
theorem op_notNq {X : Cx} : OpR X (compareOp .IsNot) rNotN := op_notN
theorem k_isN {x : Option α} (n : NN P) (h : rO P F v x) (q : Q (.bl x.isNone) H) : rIsN v .non H Q := ⟨rfl, by rw [dec_non n h]; exact q⟩
theorem k_notN {x : Option α} (n : NN P) (h : rO P F v x) (q : Q (.bl (!x.isNone)) H) : rNotN v .non H Q := ⟨rfl, by rw [dec_non n h]; exact q⟩
end
theorem k_isT {H : Hp} {Q : VK} (q : Q (.bl true) H) : rIsN .non .non H Q := ⟨rfl, by rw [decide_eq_true rfl]; exact q⟩
theorem k_isTn {H : Hp} {Q : VK} (q : Q (.bl (!true)) H) : rNotN .non .non H Q := ⟨rfl, by rw [decide_eq_true rfl]; exact q⟩
theorem k_isF {v : V} {H : Hp} {Q : VK} (q : Q (.bl false) H) (h : v ≠ .non := by simp) : rIsN v .non H Q := ⟨rfl, by rw [decide_eq_false h]; exact q⟩
theorem k_isFn {v : V} {H : Hp} {Q : VK} (q : Q (.bl (!false)) H) (h : v ≠ .non := by simp) : rNotN v .non H Q := ⟨rfl, by rw [decide_eq_false h]; exact q⟩
theorem room65 {k : Nat} {A : Around} (r : Room k A) : A.units + 65 < cLine := by have := r.un; omega
/-! lists of such, one's own or not -/
section
variable {α : Type} {P : V → α → Prop} {F H R : Hp} {L : List Cell} {v w : V} {a b p : Addr} {K : PySem.W.Frag} {Q : VK} {i : Int} {vs ws : List V} {xs ys zs : List α} {y : α} {σ : St}
theorem n_lenA (hs : SqL K H a vs) (ha : All2 P vs xs) (k : Q (.int (xs.length : Int)) H) : rLenQ K [.ref a] H Q := by
  unfold rLenQ
  exact ⟨a, vs, rfl, .inl hs, by rw [ha.len]; exact k⟩
theorem k_ixA (hs : SqL K H a vs) (ha : All2 P vs xs) (h : atI xs i = some y) (k : ∀ v, P v y → Q v H) : rIxL K (.ref a) (.int i) H Q := by
  obtain ⟨v, e1, hv⟩ := ha.at h
  exact ⟨a, vs, i, v, rfl, rfl, hs, e1, k v hv⟩
theorem k_appA {g : HO → List Cell} (hl : H a = some (.lst vs)) (ha : All2 P vs xs) (hp : ∀ o', Own R (upd H a o') (g o')) (h : appG xs y = some ys) (hv : P v y) (k : ∀ H', Own R H' (g (.lst (vs ++ [v]))) → All2 P (vs ++ [v]) ys → Q .non H') : rAppend (.ref a) [v] H Q := by
  obtain ⟨c, rfl⟩ := grdE h
  exact ⟨a, _, _, rfl, rfl, hl, by rw [ha.len]; exact c, k _ (hp _) (ha.snoc hv)⟩
theorem k_setA {g : HO → List Cell} {QH : Hp → Prop} (hl : H a = some (.lst vs)) (ha : All2 P vs xs) (hp : ∀ o', Own R (upd H a o') (g o')) (h : setG xs i y = some ys) (hv : P v y) (k : ∀ H' ws, Own R H' (g (.lst ws)) → All2 P ws ys → QH H') : rSetL (.ref a) (.int i) v H QH := by
  unfold setG at h
  cases e : ixN xs.length i with
  | none => rw [e] at h; cases h
  | some j =>
    rw [e] at h
    cases h
    exact ⟨a, _, i, j, rfl, rfl, hl, by rw [ha.len]; exact e, k _ _ (hp _) (ha.set hv j)⟩
theorem All2.cut (ha : All2 P vs xs) (lo hi : Option Int) : All2 P (cutV vs lo hi) (cutL xs lo hi) := by
  unfold cutV cutL
  rw [ha.len]
  exact (ha.drop _).take _
theorem k_cutA {lo hi : Option Int} (O : Own R H L) (hs : SqL K H a vs) (ha : All2 P vs xs) (k : ∀ p H' ws, Own R H' ((p, .lst ws) :: L) → All2 P ws (cutL xs lo hi) → Q (.ref p) H') : rSlL K (.ref a) lo hi H Q :=
  ⟨a, vs, rfl, hs, fun p hp => k p _ _ (O.new hp) (ha.cut lo hi)⟩
theorem k_catA (O : Own R H L) (h1 : H a = some (.lst vs)) (ha : All2 P vs xs) (h2 : H b = some (.lst ws)) (hb : All2 P ws ys) (h : catG xs ys = some zs) (k : ∀ p H' us, Own R H' ((p, .lst us) :: L) → All2 P us zs → Q (.ref p) H') : rCat (.ref a) (.ref b) H Q := by
  obtain ⟨c, rfl⟩ := grdE h
  exact ⟨a, b, _, _, rfl, rfl, h1, h2, by rw [ha.len, hb.len]; exact c, fun p hp => k p _ _ (O.new hp) (ha.app hb)⟩
theorem n_listA (O : Own R H L) (h : SqL K H a vs) (k : ∀ p H', Own R H' ((p, .lst vs) :: L) → Q (.ref p) H') : rListQ K [.ref a] H Q := n_list O h k
theorem k_forA {g : TG} {tb : TS} {D : Ends} (ha : All2 P vs xs) (J : List α → St → Hp → Prop) (h0 : J xs σ H) (hl : ∀ r σ H, J r σ H → SqL K H a vs)
    (hs : ∀ x v r σ H, P v x → J (x :: r) σ H → g v σ H fun σ2 H2 => tb { D with nx := J r, ct := J r, bk := D.nx } σ2 H2) (hd : ∀ σ H, J [] σ H → D.nx σ H) :
    ∃ W : Nat → Nat → St → Hp → Prop, (∃ m, W 0 m σ H) ∧ ∀ i m σ H, W i m σ H →
      ((Itl K a).stop i H ∧ D.nx σ H) ∨ ((Itl K a).go i H ∧ ∃ N : St → Hp → Prop, (∀ σ' H', N σ' H' → ∃ m', m' < m ∧ W (i + 1) m' σ' H') ∧ ∀ x H', (Itl K a).yld i H x H' → g x σ H' fun σ2 H2 => tb { D with nx := N, ct := N, bk := D.nx } σ2 H2) := by
  refine for_list (xs := vs) (fun i σ H => J (xs.drop i) σ H) h0 (fun i σ H _ => hl _ σ H) (fun i v σ H hi hJ => ?_) fun σ H hJ => ?_
  · have hlt : i < xs.length := by
      rw [← ha.len]
      exact (List.getElem?_eq_some_iff.mp hi).1
    obtain ⟨v', e1, e2⟩ := ha.get (List.getElem?_eq_getElem hlt)
    rw [hi] at e1
    cases e1
    rw [List.drop_eq_getElem_cons hlt] at hJ
    exact hs _ v _ σ H e2 hJ
  · rw [ha.len, List.drop_length] at hJ
    exact hd σ H hJ
theorem q_forA {j : Nat} {ts : TS} {n b k : St → Hp → Prop} {w : VK} (ha : All2 P vs xs) (J : List α → St → Hp → Prop) (h0 : J xs σ H) (hl : ∀ r σ H, J r σ H → SqL K H a vs)
    (hs : ∀ x v r σ H, P v x → J (x :: r) σ H → ts (Ends.mk (J r) w n (J r)) (σ.set j (some v)) H) (hd : ∀ σ H, J [] σ H → n σ H) :
    ∃ W : Nat → Nat → St → Hp → Prop, (∃ m, W 0 m σ H) ∧ ∀ i m σ H, W i m σ H →
      ((Itl K a).stop i H ∧ n σ H) ∨ ((Itl K a).go i H ∧ ∃ N : St → Hp → Prop, (∀ σ' H', N σ' H' → ∃ m', m' < m ∧ W (i + 1) m' σ' H') ∧ ∀ x H', (Itl K a).yld i H x H' → gName j x σ H' fun σ2 H2 => ts (Ends.mk N w n N) σ2 H2) :=
  k_forA (D := Ends.mk n w (fun _ _ => False) fun _ _ => False) (g := gName j) (tb := ts) ha J h0 hl hs hd
/-- for a, b in xs, its items pairs -/
theorem q_forA2 {α β : Type} {P : Rp α} {P' : Rp β} {F : Hp} {xs : List (α × β)} {i1 i2 : Nat} {ts : TS} {n b k : St → Hp → Prop} {w : VK} {KK : PySem.W.Frag} (ha : All2 (rT2 P P' F) vs xs) (J : List (α × β) → St → Hp → Prop) (h0 : J xs σ H) (hl : ∀ r σ H, J r σ H → SqL K H a vs) (hx : ∀ r σ H, J r σ H → Ex F H)
    (hs : ∀ x y u v r σ H, P F u x → P' F v y → J ((x, y) :: r) σ H → ts (Ends.mk (J r) w n (J r)) ((σ.set i1 (some u)).set i2 (some v)) H) (hd : ∀ σ H, J [] σ H → n σ H) :
    ∃ W : Nat → Nat → St → Hp → Prop, (∃ m, W 0 m σ H) ∧ ∀ i m σ H, W i m σ H →
      ((Itl K a).stop i H ∧ n σ H) ∨ ((Itl K a).go i H ∧ ∃ N : St → Hp → Prop, (∀ σ' H', N σ' H' → ∃ m', m' < m ∧ W (i + 1) m' σ' H') ∧ ∀ x H', (Itl K a).yld i H x H' → gTup KK 2 (gCons (gName i1) (gCons (gName i2) gNil)) x σ H' fun σ2 H2 => ts (Ends.mk N w n N) σ2 H2) :=
  k_forA (D := Ends.mk n w (fun _ _ => False) fun _ _ => False) (g := gTup KK 2 (gCons (gName i1) (gCons (gName i2) gNil))) (tb := ts) ha J h0 hl (fun x v r σ H hv hJ => by
    obtain ⟨q, u1, u2, rfl, h1, h2, h3⟩ := hv
    exact ⟨q, _, rfl, SqT.of (hx _ _ _ hJ _ _ h1), rfl, u1, _, rfl, u2, _, rfl, rfl, hs x.1 x.2 u1 u2 r σ H h2 h3 hJ⟩) hd
theorem q_forEA {i1 i2 : Nat} {ts : TS} {n b k : St → Hp → Prop} {w : VK} {KK : PySem.W.Frag} (ha : All2 P vs xs) (J : List (Int × α) → St → Hp → Prop) (h0 : J (enumI 0 xs) σ H) (hl : ∀ r σ H, J r σ H → SqL K H a vs) (hx : ∀ r σ H H', J r σ H → Ex H H' → J r σ H')
    (hs : ∀ j x v r σ H, P v x → J ((j, x) :: r) σ H → ts (Ends.mk (J r) w n (J r)) ((σ.set i1 (some (.int j))).set i2 (some v)) H) (hd : ∀ σ H, J [] σ H → n σ H) :
    ∃ W : Nat → Nat → St → Hp → Prop, (∃ m, W 0 m σ H) ∧ ∀ i m σ H, W i m σ H →
      ((Ite K a).stop i H ∧ n σ H) ∨ ((Ite K a).go i H ∧ ∃ N : St → Hp → Prop, (∀ σ' H', N σ' H' → ∃ m', m' < m ∧ W (i + 1) m' σ' H') ∧ ∀ x H', (Ite K a).yld i H x H' → gTup KK 2 (gCons (gName i1) (gCons (gName i2) gNil)) x σ H' fun σ2 H2 => ts (Ends.mk N w n N) σ2 H2) := by
  refine ⟨fun i m σ H => m = xs.length - i ∧ i ≤ xs.length ∧ J ((enumI 0 xs).drop i) σ H, ⟨xs.length, by simp, Nat.zero_le _, h0⟩, ?_⟩
  rintro i m σ H ⟨rfl, hi, hJ⟩
  have hS := hl _ σ H hJ
  by_cases hlt : i < xs.length
  · have e : xs[i]? = some xs[i] := List.getElem?_eq_getElem hlt
    obtain ⟨v', e1, hv⟩ := ha.get e
    have e2 := enumI_drop xs 0 i xs[i] e
    rw [e2] at hJ
    refine .inr ⟨⟨_, _, hS, e1⟩, J ((enumI 0 xs).drop (i + 1)), fun σ' H' hJ' => ⟨_, by omega, rfl, hlt, hJ'⟩, fun y H' hy => ?_⟩
    obtain ⟨T, x, rfl, hT, rfl, hq⟩ := hy
    have hxx := hq _ hS
    rw [e1] at hxx
    cases hxx
    refine ⟨T, _, rfl, SqT.of upd_same, rfl, _, _, rfl, _, _, rfl, rfl, ?_⟩
    have hJ2 := hx _ _ _ (upd H T (.tup [.int ((i : Nat) : Int), v'])) hJ (Ex.new hT)
    have e3 : ((0 + i : Nat) : Int) = (i : Int) := by omega
    rw [e3] at hJ2
    exact hs _ _ _ _ _ _ hv hJ2
  · have e : (enumI 0 xs).drop i = [] := List.drop_eq_nil_of_le (by rw [enumI_len]; omega)
    rw [e] at hJ
    exact .inl ⟨⟨_, hS, by rw [ha.len]; omega⟩, hd σ H hJ⟩
/-! comprehensions over such -/
theorem k_lcA {g : TG} {tt : TT} {te : TE} {us : List Nat} {D : Addr} {Qd : Hp → Prop} (ha : All2 P vs xs) (J : List α → Hp → Prop) (h0 : J xs (upd H D (.lst []))) (hl : ∀ r H, J r H → SqL K H a vs)
    (hs : ∀ x v r H, P v x → J (x :: r) H → g v (wipe σ us) H fun σ2 H2 => wipe σ2 us = wipe σ us ∧ tt σ2 H2 fun b H3 => if b = true then te σ2 H3 fun y H4 => ∃ acc, H4 D = some (.lst acc) ∧ acc.length < sizeLine ∧ J r (upd H4 D (.lst (acc ++ [y]))) else J r H3) (hd : ∀ H, J [] H → Qd H) :
    ∃ W : Nat → Nat → Hp → Prop, (∃ m, W 0 m (upd H D (.lst []))) ∧ ∀ i m H, W i m H →
      ((Itl K a).stop i H ∧ Qd H) ∨ ((Itl K a).go i H ∧ ∃ Nx : Hp → Prop, (∀ H', Nx H' → ∃ m', m' < m ∧ W (i + 1) m' H') ∧ ∀ x H', (Itl K a).yld i H x H' → g x (wipe σ us) H' fun σ2 H2 => wipe σ2 us = wipe σ us ∧ tt σ2 H2 fun b H3 =>
        if b = true then te σ2 H3 fun y H4 => ∃ acc, H4 D = some (.lst acc) ∧ acc.length < sizeLine ∧ Nx (upd H4 D (.lst (acc ++ [y]))) else Nx H3) := by
  refine lc_list (xs := vs) (fun i H => J (xs.drop i) H) h0 (fun i H _ => hl _ H) (fun i v H hi hJ => ?_) fun H hJ => ?_
  · have hlt : i < xs.length := by
      rw [← ha.len]
      exact (List.getElem?_eq_some_iff.mp hi).1
    obtain ⟨v', e1, e2⟩ := ha.get (List.getElem?_eq_getElem hlt)
    rw [hi] at e1
    cases e1
    rw [List.drop_eq_getElem_cons hlt] at hJ
    exact hs _ v _ H e2 hJ
  · rw [ha.len, List.drop_length] at hJ
    exact hd H hJ
end
section
variable {α β : Type} [DecidableEq α] [DecidableEq β]
def optD (d : α → PyData) : Option α → PyData
  | none => .none
  | some x => d x
def deO {P : Rp α} (e : De P) (hn : ∀ a, PyData.eqv .none (e.d a) = false ∧ PyData.eqv (e.d a) .none = false) : De (rO P) where
  d := optD e.d
  dp := fun K F v x h => by
    cases x with
    | none => rw [show v = V.non from h]; exact .non
    | some y => exact e.dp K F v y h
  ok := fun x => by
    cases x with
    | none => rfl
    | some y => exact e.ok y
  n := e.n
  dep := fun x => by
    cases x with
    | none => exact Nat.zero_le _
    | some y => exact e.dep y
  eq := fun x y => by
    cases x with
    | none =>
      cases y with
      | none => simp [optD, PyData.eqv]
      | some b => simp only [optD]; rw [(hn b).1]; simp
    | some a =>
      cases y with
      | none => simp only [optD]; rw [(hn a).2]; simp
      | some b => simp only [optD]; rw [e.eq a b]; simp
def sumD (d : α → PyData) (f : β → PyData) : α ⊕ β → PyData
  | .inl x => d x
  | .inr x => f x
def deU {P : Rp α} {Q : Rp β} (e : De P) (f : De Q) (hn : ∀ a b, PyData.eqv (e.d a) (f.d b) = false ∧ PyData.eqv (f.d b) (e.d a) = false) : De (rU P Q) where
  d := sumD e.d f.d
  dp := fun K F v x h => by
    cases x with
    | inl y => exact e.dp K F v y h
    | inr y => exact f.dp K F v y h
  ok := fun x => by
    cases x with
    | inl y => exact e.ok y
    | inr y => exact f.ok y
  n := max e.n f.n
  dep := fun x => by
    cases x with
    | inl y => have := e.dep y; simp only [sumD]; omega
    | inr y => have := f.dep y; simp only [sumD]; omega
  eq := fun x y => by
    cases x with
    | inl a =>
      cases y with
      | inl b => simp only [sumD]; rw [e.eq a b]; simp
      | inr b => simp only [sumD]; rw [(hn a b).1]; simp
    | inr a =>
      cases y with
      | inl b => simp only [sumD]; rw [(hn b a).2]; simp
      | inr b => simp only [sumD]; rw [f.eq a b]; simp
end
section
variable {α : Type} [DecidableEq α] {P : Rp α} {K : PySem.W.Frag} {F F' H : Hp} {v : V} {x : α} {a : Addr} {vs : List V} {xs : List α} {Q : VK}
theorem any_mem (e : De P) (x : α) : ∀ xs : List α, ((xs.map e.d).any fun z => PyData.eqv z (e.d x)) = decide (x ∈ xs)
  | [] => rfl
  | y :: r => by
    rw [List.map_cons, List.any_cons, any_mem e x r, e.eq y x]
    by_cases h : y = x
    · subst h; simp
    · have h2 : ¬ x = y := fun q => h q.symm
      simp [h, h2]
theorem k_inN (e : De P) (m : Mono P) (h : e.n ≤ 60) (h1 : P F v x) (e1 : Ex F H) (hs : SqL K H a vs) (ha : All2 (P F') vs xs) (e2 : Ex F' H) (k : Q (.bl (decide (x ∈ xs))) H) : rInD K v (.ref a) H Q :=
  ⟨_, xs.map e.d, e.dp K H _ _ (m _ _ _ _ e1 h1), .lst hs (de_all e (mA m e2 ha)), sh_de e (by omega) x, sh_de (deL e) (by show e.n + 1 ≤ 64; omega) xs, by rw [any_mem]; exact k⟩
theorem k_niN (e : De P) (m : Mono P) (h : e.n ≤ 60) (h1 : P F v x) (e1 : Ex F H) (hs : SqL K H a vs) (ha : All2 (P F') vs xs) (e2 : Ex F' H) (k : Q (.bl (!decide (x ∈ xs))) H) : rNotInD K v (.ref a) H Q :=
  ⟨_, xs.map e.d, e.dp K H _ _ (m _ _ _ _ e1 h1), .lst hs (de_all e (mA m e2 ha)), sh_de e (by omega) x, sh_de (deL e) (by show e.n + 1 ≤ 64; omega) xs, by rw [any_mem]; exact k⟩
end
/-! the same where there are texts: whether they may be laid is asked -/
structure Dq {α : Type} [DecidableEq α] (P : Rp α) where
  d : α → PyData
  dp : ∀ (K : PySem.W.Frag) F v a, P F v a → Dp K F v (d a)
  n : Nat
  dep : ∀ a, PyData.depth (d a) ≤ n
  eq : ∀ a b, PyData.eqv (d a) (d b) = decide (a = b)
def okD {α : Type} (d : α → PyData) (x : α) : Option Unit := grd (PyData.canLay0 (d x) = true) ()
theorem okDE {α : Type} {d : α → PyData} {x : α} {u : Unit} (h : okD d x = some u) : PyData.canLay0 (d x) = true := (grdE h).1
section
variable {α β γ δ : Type} [DecidableEq α] [DecidableEq β] [DecidableEq γ] [DecidableEq δ]
def De.q {P : Rp α} (e : De P) : Dq P := ⟨e.d, e.dp, e.n, e.dep, e.eq⟩
def dqS : Dq rS where
  d := PyData.str
  dp := fun K F v a h => by rw [show v = V.str a from h]; exact .str a
  n := 0
  dep := fun _ => Nat.le_refl _
  eq := fun a b => by
    simp only [PyData.eqv]
    by_cases h : a = b
    · subst h; simp
    · rw [decide_eq_false h]; simpa using h
theorem dq_all {P : Rp α} (e : Dq P) {K : PySem.W.Frag} {F : Hp} : ∀ {vs : List V} {xs : List α}, All2 (P F) vs xs → DpAll K F vs (xs.map e.d)
  | _, _, .nil => .nil
  | _, _, .cons h t => .cons (e.dp K F _ _ h) (dq_all e t)
theorem dqdep_all {P : Rp α} (e : Dq P) : ∀ xs : List α, PyData.depthAll (xs.map e.d) ≤ e.n
  | [] => by simp [PyData.depthAll]
  | x :: r => by
    have h1 := e.dep x
    have h2 := dqdep_all e r
    simp only [List.map_cons, PyData.depthAll]
    omega
theorem dqeq_all {P : Rp α} (e : Dq P) : ∀ xs ys : List α, PyData.eqvAll (xs.map e.d) (ys.map e.d) = decide (xs = ys)
  | [], [] => by simp [PyData.eqvAll]
  | [], y :: s => by simp [PyData.eqvAll]
  | x :: r, [] => by simp [PyData.eqvAll]
  | x :: r, y :: s => by simp only [List.map_cons, PyData.eqvAll, e.eq x y, dqeq_all e r s, List.cons.injEq, Bool.decide_and]
def dqL {P : Rp α} (e : Dq P) : Dq (rL P) where
  d := fun xs => .list (xs.map e.d)
  dp := fun K F v xs ⟨p, vs, h1, h2, h3⟩ => by
    subst h1
    exact .lst (SqL.of h2) (dq_all e h3)
  n := e.n + 1
  dep := fun xs => by
    have := dqdep_all e xs
    simp only [PyData.depth]
    omega
  eq := fun xs ys => by simp only [PyData.eqv]; exact dqeq_all e xs ys
def dqT2 {P : Rp α} {Q : Rp β} (e : Dq P) (f : Dq Q) : Dq (rT2 P Q) where
  d := fun x => .tuple [e.d x.1, f.d x.2]
  dp := fun K F v x ⟨p, a, b, h1, h2, h3, h4⟩ => by
    subst h1
    exact .tup (SqT.of h2) (.cons (e.dp K F _ _ h3) (.cons (f.dp K F _ _ h4) .nil))
  n := max e.n f.n + 1
  dep := fun x => by
    have h1 := e.dep x.1
    have h2 := f.dep x.2
    simp only [PyData.depth, PyData.depthAll]
    omega
  eq := fun x y => by
    obtain ⟨x1, x2⟩ := x
    obtain ⟨y1, y2⟩ := y
    simp only [PyData.eqv, PyData.eqvAll, e.eq, f.eq, Prod.mk.injEq, Bool.decide_and, Bool.and_true]
def dqT3 {P : Rp α} {Q : Rp β} {R : Rp γ} (e : Dq P) (f : Dq Q) (g : Dq R) : Dq (rT3 P Q R) where
  d := fun x => .tuple [e.d x.1, f.d x.2.1, g.d x.2.2]
  dp := fun K F v x ⟨p, a, b, c, h1, h2, h3, h4, h5⟩ => by
    subst h1
    exact .tup (SqT.of h2) (.cons (e.dp K F _ _ h3) (.cons (f.dp K F _ _ h4) (.cons (g.dp K F _ _ h5) .nil)))
  n := max e.n (max f.n g.n) + 1
  dep := fun x => by
    have h1 := e.dep x.1
    have h2 := f.dep x.2.1
    have h3 := g.dep x.2.2
    simp only [PyData.depth, PyData.depthAll]
    omega
  eq := fun x y => by
    obtain ⟨x1, x2, x3⟩ := x
    obtain ⟨y1, y2, y3⟩ := y
    simp only [PyData.eqv, PyData.eqvAll, e.eq, f.eq, g.eq, Prod.mk.injEq, Bool.decide_and, Bool.and_true, Bool.and_assoc]
def dqO {P : Rp α} (e : Dq P) (hn : ∀ a, PyData.eqv .none (e.d a) = false ∧ PyData.eqv (e.d a) .none = false) : Dq (rO P) where
  d := optD e.d
  dp := fun K F v x h => by
    cases x with
    | none => rw [show v = V.non from h]; exact .non
    | some y => exact e.dp K F v y h
  n := e.n
  dep := fun x => by
    cases x with
    | none => exact Nat.zero_le _
    | some y => exact e.dep y
  eq := fun x y => by
    cases x with
    | none =>
      cases y with
      | none => simp [optD, PyData.eqv]
      | some b => simp only [optD]; rw [(hn b).1]; simp
    | some a =>
      cases y with
      | none => simp only [optD]; rw [(hn a).2]; simp
      | some b => simp only [optD]; rw [e.eq a b]; simp
def dqU {P : Rp α} {Q : Rp β} (e : Dq P) (f : Dq Q) (hn : ∀ a b, PyData.eqv (e.d a) (f.d b) = false ∧ PyData.eqv (f.d b) (e.d a) = false) : Dq (rU P Q) where
  d := sumD e.d f.d
  dp := fun K F v x h => by
    cases x with
    | inl y => exact e.dp K F v y h
    | inr y => exact f.dp K F v y h
  n := max e.n f.n
  dep := fun x => by
    cases x with
    | inl y => have := e.dep y; simp only [sumD]; omega
    | inr y => have := f.dep y; simp only [sumD]; omega
  eq := fun x y => by
    cases x with
    | inl a =>
      cases y with
      | inl b => simp only [sumD]; rw [e.eq a b]; simp
      | inr b => simp only [sumD]; rw [(hn a b).1]; simp
    | inr a =>
      cases y with
      | inl b => simp only [sumD]; rw [(hn b a).2]; simp
      | inr b => simp only [sumD]; rw [f.eq a b]; simp
end
section
variable {α : Type} [DecidableEq α] {P : Rp α} {K : PySem.W.Frag} {F F' H : Hp} {v w : V} {x y : α} {a : Addr} {vs : List V} {xs : List α} {Q : VK}
theorem sh_dq (e : Dq P) (h : e.n ≤ 64) {x : α} (hx : PyData.canLay0 (e.d x) = true) : SeqAt.shaped (e.d x) = true := by
  have h1 := e.dep x
  simp only [SeqAt.shaped, hx, Bool.true_and]
  exact decide_eq_true (by omega)
theorem k_eqQ (e : Dq P) (m : Mono P) (h : e.n ≤ 64) (hx : PyData.canLay0 (e.d x) = true) (hy : PyData.canLay0 (e.d y) = true) (h1 : P F v x) (e1 : Ex F H) (h2 : P F' w y) (e2 : Ex F' H) (k : Q (.bl (decide (x = y))) H) : rEqD K v w H Q :=
  ⟨_, _, e.dp K H _ _ (m _ _ _ _ e1 h1), e.dp K H _ _ (m _ _ _ _ e2 h2), sh_dq e h hx, sh_dq e h hy, by rw [e.eq]; exact k⟩
theorem k_neQ (e : Dq P) (m : Mono P) (h : e.n ≤ 64) (hx : PyData.canLay0 (e.d x) = true) (hy : PyData.canLay0 (e.d y) = true) (h1 : P F v x) (e1 : Ex F H) (h2 : P F' w y) (e2 : Ex F' H) (k : Q (.bl (!decide (x = y))) H) : rNeD K v w H Q :=
  ⟨_, _, e.dp K H _ _ (m _ _ _ _ e1 h1), e.dp K H _ _ (m _ _ _ _ e2 h2), sh_dq e h hx, sh_dq e h hy, by rw [e.eq]; exact k⟩
end
/-! what was told, changed by its asker -/
theorem exE {R : Hp} : Ex (fun _ => none) R := fun _ _ h => nomatch h
theorem ovr_fr {R0 Hb Hc R : Hp} (e : Ex Hb Hc) : Ex (ovr (fun _ => none) Hc R) (ovr R0 Hb R) := fun a o h => by
  obtain ⟨q, h1⟩ := ovr_some h
  refine ovr_mk (.inr ?_) h1
  rcases q with q | q
  · exact absurd rfl q
  · exact e.back q
theorem Own.poke {Rs R Hc H : Hp} {L : List Cell} {q : Addr} {o o' : HO} (O : Own R H L) (e : Ex Rs R) (hc : Ex Rs Hc) (hq : ovr (fun _ => none) Hc R q = some o) : Own Rs (upd H q o') L := by
  obtain ⟨c, h1⟩ := ovr_some hq
  have hcq : Hc q = none := by
    rcases c with c | c
    · exact absurd rfl c
    · exact c
  have hs : Rs q = none := hc.back hcq
  refine ⟨fun a u h => ?_, fun c hc' => ?_, fun c hc' => e.back (O.fr c hc'), O.nd⟩
  · rw [upd_ne (ne_of_none h hs)]
    exact O.ex _ _ (e _ _ h)
  · have : c.1 ≠ q := fun z => by
      have := O.fr c hc'
      rw [z, h1] at this
      cases this
    rw [upd_ne this]
    exact O.at_ c hc'
theorem Own.drop1 {R H : Hp} {c : Cell} {L : List Cell} (O : Own R H (c :: L)) : Own R H L := ⟨O.ex, fun d h => O.at_ d (List.Mem.tail _ h), fun d h => O.fr d (List.Mem.tail _ h), (List.nodup_cons.mp O.nd).2⟩
/-- the same, a second told cell kept in hand -/
theorem Own.pokeX {Rs R Hc H : Hp} {L : List Cell} {q a : Addr} {o o' : HO} {vs : List V} (O : Own R H L) (e : Ex Rs R) (hc : Ex Rs Hc) (hq : ovr (fun _ => none) Hc R q = some o) (ha : ovr (fun _ => none) Hc R a = some (.lst vs)) (hne : q ≠ a) : Own Rs (upd H q o') ((a, .lst vs) :: L) := by
  have O2 := O.poke (o' := o') e hc hq
  obtain ⟨c, h1⟩ := ovr_some ha
  have hca : Hc a = none := by
    rcases c with c | c
    · exact absurd rfl c
    · exact c
  have hz : Rs a = none := hc.back hca
  refine ⟨O2.ex, fun d h => ?_, fun d h => ?_, List.nodup_cons.mpr ⟨fun h => ?_, O2.nd⟩⟩
  · rcases List.mem_cons.mp h with rfl | h
    · show upd H q o' a = some (.lst vs)
      rw [upd_ne (fun z => hne z.symm)]
      exact O.ex _ _ h1
    · exact O2.at_ d h
  · rcases List.mem_cons.mp h with rfl | h
    · exact hz
    · exact O2.fr d h
  · obtain ⟨d, hd, e1⟩ := List.mem_map.mp h
    have := O.fr d hd
    rw [show d.1 = a from e1, h1] at this
    cases this
theorem rL_atP {α : Type} {P : Rp α} {F : Hp} {a q : Addr} {xs : List (Int × α)} {ys : List Int} {i : Int} {y : Int × α} (h : rL (rT2 rI P) F (.ref a) xs) (hq : F q = some (.lst (ys.map V.int))) (hi : atI xs i = some y) : ∃ vs, F a = some (.lst vs) ∧ All2 ((rT2 rI P) F) vs xs ∧ q ≠ a := by
  obtain ⟨p, vs, e1, h2, h3⟩ := h
  cases e1
  refine ⟨vs, h2, h3, fun z => ?_⟩
  subst z
  rw [hq] at h2
  have e := HO.lst.inj (Option.some.inj h2)
  cases xs with
  | nil =>
    unfold atI at hi
    cases hx : ixN ([] : List (Int × α)).length i with
    | none => rw [hx] at hi; cases hi
    | some j => rw [hx] at hi; cases hi
  | cons x r =>
    cases vs with
    | nil => cases h3
    | cons v vs =>
      cases h3 with
      | cons hv _ =>
        obtain ⟨p, _, _, rfl, _⟩ := hv
        cases ys with
        | nil => cases e
        | cons z ys => cases e
theorem Own.retX0 {R H Hc : Hp} {B C : List Cell} {D : DT} {Q : VK} (O : Own R H (B ++ C)) (m : MonoD D) (hc : Hc = hsub H B) (k : ∀ v H' R' L', Own R' H' (L' ++ C) → Ex R R' → D (ovr (fun _ => none) Hc R') v L' → Q v H') : RetX (fun _ => none) (hsub H B) D Q := fun v H' R' L' e O' d => by
  obtain ⟨R'', O'', e1, e2⟩ := O.back e O'
  subst hc
  refine k v H' R'' L' O'' e1 (m _ _ _ _ (fun a u h => ?_) d)
  obtain ⟨q, _⟩ := ovr_some h
  exact ovr_mk q (e2 _ exE _ _ h)
/-! isinstance of what is of one of several kinds -/
section
variable {α β γ δ : Type} {P : Rp α} {P' : Rp β} {P3 : Rp γ} {P4 : Rp δ} {K : PySem.W.Frag} {H : Hp} {v : V} {Q : VK} {u : Value}
def TyP (P : Rp α) (K : PySem.W.Frag) (u : Value) (f : α → Bool) : Prop := ∀ H v x, P H v x → ∃ t, TyX K H v t ∧ PySem.W.kitOne K t u = some (f x)
def sumB (f : α → Bool) (g : β → Bool) : α ⊕ β → Bool
  | .inl a => f a
  | .inr b => g b
theorem tyI {b : String} {r : Bool} (h : kitB "int" b = some r) : TyP rI K (.type b) (fun _ => r) := fun H v x hx => ⟨_, .base (by rw [show v = _ from hx]; exact .int _), kit_ty h⟩
theorem tyB {b : String} {r : Bool} (h : kitB "bool" b = some r) : TyP rB K (.type b) (fun _ => r) := fun H v x hx => ⟨_, .base (by rw [show v = _ from hx]; exact .bl _), kit_ty h⟩
theorem tyS {b : String} {r : Bool} (h : kitB "str" b = some r) : TyP rS K (.type b) (fun _ => r) := fun H v x hx => ⟨_, .base (by rw [show v = _ from hx]; exact .str _), kit_ty h⟩
theorem tyL {b : String} {r : Bool} (h : kitB "list" b = some r) : TyP (rL P) K (.type b) (fun _ => r) := fun H v x hx => by
  obtain ⟨p, vs, rfl, h1, _⟩ := hx
  exact ⟨_, .base (.lst h1), kit_ty h⟩
theorem tyT2 {b : String} {r : Bool} (h : kitB "tuple" b = some r) : TyP (rT2 P P') K (.type b) (fun _ => r) := fun H v x hx => by
  obtain ⟨p, _, _, rfl, h1, _⟩ := hx
  exact ⟨_, .base (.tup h1), kit_ty h⟩
theorem tyT3 {b : String} {r : Bool} (h : kitB "tuple" b = some r) : TyP (rT3 P P' P3) K (.type b) (fun _ => r) := fun H v x hx => by
  obtain ⟨p, _, _, _, rfl, h1, _⟩ := hx
  exact ⟨_, .base (.tup h1), kit_ty h⟩
theorem tyU {f : α → Bool} {g : β → Bool} (h1 : TyP P K u f) (h2 : TyP P' K u g) : TyP (rU P P') K u (sumB f g) := fun H v x hx => by
  cases x with
  | inl a => exact h1 H v a hx
  | inr b => exact h2 H v b hx
theorem k_isU {b : String} {f : α → Bool} (h : TyP P K u f) {x : α} (hx : P H v x) (q : Q (.bl (f x)) H) (hu : u = .type b := by rfl) : rIsi K [v, .ty b] H Q := by
  obtain ⟨t, h1, h2⟩ := h H v x hx
  subst hu
  exact ⟨v, _, t, _, _, rfl, .ty _, h1, h2, q⟩
end
/-! the number of a refusal in hand -/
def atE (k : Ek) (e : Er) : Option Int := match k, e with
  | .NoWire, .NoWire i => some i
  | .NoRow, .NoRow i => some i
  | _, _ => none
theorem o_xf {a : Addr} {cls : Value} {d : Option Addr} {C : Addr} {f : Str} {te : TE} {σ : St} {H : Hp} {Q : VK} (h : te σ H fun x H1 => x = .ref a ∧ cls = .ref C ∧ ∃ (dd : Addr) (fs : List (Str × V)) (v : V), d = some dd ∧ H1 dd = some (.xd fs) ∧ fs.lookup f = some v ∧ Q v H1) : tXf a cls d C f te σ H Q := h
theorem k_xfNoWire {es : Eds} {e : Er} {n : Int} {a : Addr} {cls : Value} {d : Option Addr} {H : Hp} {Q : VK} (h : atE .NoWire e = some n) (hx : XFl e d H) (hc : cls = .ref (es.at e.k)) (q : Q (.int n) H) :
    V.ref a = .ref a ∧ cls = .ref es.NoWire ∧ ∃ (dd : Addr) (fs : List (Str × V)) (v : V), d = some dd ∧ H dd = some (.xd fs) ∧ fs.lookup ("at" : Str) = some v ∧ Q v H := by
  cases e with
  | NoWire i =>
    cases h
    obtain ⟨x, h1, h2⟩ := hx
    exact ⟨rfl, hc, x, _, _, h1, h2, lk_hit, q⟩
  | _ => cases h
theorem k_xfNoRow {es : Eds} {e : Er} {n : Int} {a : Addr} {cls : Value} {d : Option Addr} {H : Hp} {Q : VK} (h : atE .NoRow e = some n) (hx : XFl e d H) (hc : cls = .ref (es.at e.k)) (q : Q (.int n) H) :
    V.ref a = .ref a ∧ cls = .ref es.NoRow ∧ ∃ (dd : Addr) (fs : List (Str × V)) (v : V), d = some dd ∧ H dd = some (.xd fs) ∧ fs.lookup ("word" : Str) = some v ∧ Q v H := by
  cases e with
  | NoRow i =>
    cases h
    obtain ⟨x, h1, h2⟩ := hx
    exact ⟨rfl, hc, x, _, _, h1, h2, lk_hit, q⟩
  | _ => cases h
theorem o_yes {A B : Hp → Prop} {σ : St} {H : Hp} (h : A H) : tYes σ H (fun b H3 => if b = true then A H3 else B H3) := by
  show if true = true then A H else B H
  rw [if_pos rfl]
  exact h
/-! a if c else b, any value -/
theorem x_ifP {c : Bool} {tt : TT} {ta tb : TE} {σ : St} {H : Hp} {Q : VK} (J0 : Hp → Prop) (J : V → Hp → Prop) (h1 : ∀ Q1 : Bool → Hp → Prop, (∀ H', J0 H' → Q1 c H') → tt σ H Q1) (h2 : c = true → ∀ H', J0 H' → ∀ Q2 : VK, (∀ v H'', J v H'' → Q2 v H'') → ta σ H' Q2)
    (h3 : c = false → ∀ H', J0 H' → ∀ Q2 : VK, (∀ v H'', J v H'' → Q2 v H'') → tb σ H' Q2) (k : ∀ v H', J v H' → Q v H') : tIf tt ta tb σ H Q := by
  refine h1 _ fun H' O' => ?_
  cases c with
  | true => exact h2 rfl H' O' Q k
  | false => exact h3 rfl H' O' Q k
end Bt

namespace Bt
open PySem L2
/-! a list of objects whose items stay these -/
section
variable {α : Type} {B : Ob α} {F R H : Hp} {vs : List V} {a b : Addr} {A L L1 C : List Cell} {xs ys : List α} {x : α} {i : Int} {w : V} {K : PySem.W.Frag} {Q : VK}
def oLv {α : Type} (vs : List V) (B : Ob α) : Ob (List α) := fun F a L xs => ∃ as Ls, vs = as.map V.ref ∧ L.Perm ((a, HO.lst vs) :: Ls.flatten) ∧ All3 (B F) as Ls xs
theorem moLv (m : MonoO B) : MonoO (oLv vs B) := fun _ _ _ _ _ e ⟨as, Ls, h0, h1, h2⟩ => ⟨as, Ls, h0, h1, h2.mp fun _ _ _ h => m _ _ _ _ _ e h⟩
theorem oLs.fix (h : oLs B F a L xs) : ∃ vs, oLv vs B F a L xs := by
  obtain ⟨as, Ls, h1, h2⟩ := h
  exact ⟨_, as, Ls, rfl, h1, h2⟩
theorem oLv.un (h : oLv vs B F a L xs) : oLs B F a L xs := by
  obtain ⟨as, Ls, rfl, h1, h2⟩ := h
  exact ⟨as, Ls, h1, h2⟩
theorem oLv.len (h : oLv vs B F a L xs) : vs.length = xs.length := by
  obtain ⟨as, Ls, rfl, h1, h2⟩ := h
  rw [List.length_map, h2.len]
theorem oLv.at (O : Own R H C) (h : oLv vs B F a L xs) (hs : ∀ c ∈ L, c ∈ C) : H a = some (.lst vs) := by
  obtain ⟨as, Ls, _, h1, _⟩ := h
  exact O.mem (hs _ (h1.mem_iff.mpr (List.Mem.head _)))
theorem oLv.isref (h : oLv vs B F a L xs) (hw : atI vs i = some w) : ∃ b, w = .ref b := by
  obtain ⟨as, Ls, rfl, _, _⟩ := h
  unfold atI at hw
  cases e : ixN (as.map V.ref).length i with
  | none => rw [e] at hw; cases hw
  | some j =>
    rw [e] at hw
    have hw : (as.map V.ref)[j]? = some w := hw
    rw [List.getElem?_map] at hw
    cases e2 : as[j]? with
    | none => rw [e2] at hw; cases hw
    | some b => rw [e2] at hw; exact ⟨b, (Option.some.inj hw).symm⟩
theorem All2.of_get {α β : Type} {P : α → β → Prop} : ∀ {as : List α} {bs : List β}, as.length = bs.length → (∀ (i : Nat) (a : α) (b : β), as[i]? = some a → bs[i]? = some b → P a b) → All2 P as bs
  | [], [], _, _ => .nil
  | a :: as, b :: bs, h, k => .cons (k 0 a b rfl rfl) (All2.of_get (by simpa using h) fun i x y hx hy => k (i + 1) x y (by simpa using hx) (by simpa using hy))
theorem ixs_of (vs : List V) {n : Nat} (h : vs.length = n) : All2 (fun v (i : Int) => atI vs i = some v) vs (rangeI 0 (n : Int)) := by
  subst h
  refine All2.of_get (by simp [rangeI]) fun j v i hv hi => ?_
  have hj : j < vs.length := (List.getElem?_eq_some_iff.mp hv).1
  have : (rangeI 0 (vs.length : Int))[j]? = some (j : Int) := by
    unfold rangeI
    rw [List.getElem?_map, show ((vs.length : Int) - 0).toNat = vs.length by omega, List.getElem?_range hj]
    simp
  rw [this] at hi
  cases hi
  unfold atI ixN
  rw [if_pos (by omega), if_pos (by omega)]
  simpa using hv
theorem Own.lsAtV (m : MonoO B) (O : Own R H (A ++ (L ++ C))) (h : oLv vs B F a L xs) (e : atI xs i = some x) (hw : atI vs i = some (.ref b)) :
    ∃ (L1 L2 : List Cell), B F b L1 x ∧ (L1 ++ L2).Perm L ∧ Own R H (A ++ (L1 ++ (L2 ++ C))) ∧ (∀ F' L1' x', Ex F F' → B F' b L1' x' → ∀ ys, setG xs i x' = some ys → oLv vs B F' a (L1' ++ L2) ys) ∧ ∀ F' L1', Ex F F' → B F' b L1' x → oLv vs B F' a (L1' ++ L2) xs := by
  obtain ⟨as, Ls, rfl, hp, h3⟩ := h
  unfold atI at e
  cases ej : ixN xs.length i with
  | none => rw [ej] at e; cases e
  | some j =>
    rw [ej] at e
    obtain ⟨b', L1, bs1, bs2, h4, h5, h6, h7⟩ := h3.at e
    subst h6
    have hbb : b' = b := by
      unfold atI at hw
      rw [List.length_map, h3.len, ej] at hw
      have hw : (as.map V.ref)[j]? = some (.ref b) := hw
      rw [List.getElem?_map, h4] at hw
      exact V.ref.inj (Option.some.inj hw)
    subst hbb
    have hp2 : L.Perm (L1 ++ ((a, HO.lst (as.map V.ref)) :: (bs1.flatten ++ bs2.flatten))) := by
      refine hp.trans ?_
      rw [List.flatten_append, List.flatten_cons]
      refine List.Perm.trans ?_ (List.perm_middle.symm)
      refine List.Perm.cons _ ?_
      rw [← List.append_assoc, ← List.append_assoc]
      exact List.Perm.append_right _ List.perm_append_comm
    have cl : ∀ F' L1' x', Ex F F' → B F' b' L1' x' → oLv (as.map V.ref) B F' a (L1' ++ ((a, HO.lst (as.map V.ref)) :: (bs1.flatten ++ bs2.flatten))) (xs.set j x') := fun F' L1' x' ex hb => by
      refine ⟨as, bs1 ++ L1' :: bs2, rfl, ?_, h7 _ L1' x' (fun _ _ _ h => m _ _ _ _ _ ex h) hb⟩
      rw [List.flatten_append, List.flatten_cons]
      refine List.perm_middle.trans ?_
      refine List.Perm.cons _ ?_
      rw [← List.append_assoc, ← List.append_assoc]
      exact List.Perm.append_right _ List.perm_append_comm
    refine ⟨L1, (a, HO.lst (as.map V.ref)) :: (bs1.flatten ++ bs2.flatten), h5, hp2.symm, O.perm ?_, fun F' L1' x' ex hb ys hy => ?_, fun F' L1' ex hb => ?_⟩
    · refine List.Perm.append_left _ ?_
      rw [← List.append_assoc]
      exact List.Perm.append_right _ hp2
    · unfold setG at hy
      rw [ej] at hy
      cases hy
      exact cl F' L1' x' ex hb
    · have := cl F' L1' x ex hb
      have e2 : xs.set j x = xs := by
        obtain ⟨h8, h9⟩ := List.getElem?_eq_some_iff.mp (show xs[j]? = some x from e)
        rw [← h9]
        exact List.set_getElem_self h8
      rw [e2] at this
      exact this
def inL {α : Type} [DecidableEq α] (x : α) (xs : List α) : Bool := decide (x ∈ xs)
section
variable {α : Type} [DecidableEq α] {P : Rp α} {F F' H : Hp} {K : PySem.W.Frag} {v : V} {x : α} {xs : List α} {vs : List V} {a : Addr} {Q : VK}
theorem k_inJ (e : De P) (m : Mono P) (h : e.n ≤ 60) (h1 : P F v x) (e1 : Ex F H) (hs : SqL K H a vs) (ha : All2 (P F') vs xs) (e2 : Ex F' H) (k : Q (.bl (inL x xs)) H) : rInD K v (.ref a) H Q := k_inN e m h h1 e1 hs ha e2 k
theorem k_niJ (e : De P) (m : Mono P) (h : e.n ≤ 60) (h1 : P F v x) (e1 : Ex F H) (hs : SqL K H a vs) (ha : All2 (P F') vs xs) (e2 : Ex F' H) (k : Q (.bl (!inL x xs)) H) : rNotInD K v (.ref a) H Q := k_niN e m h h1 e1 hs ha e2 k
end
theorem pe_fld2 {X : Cx} {K : PySem.W.Frag} {e : PySem.Expr} {f : Str} {pos : PySem.Pos} {ta : TE} (hK : X.K = K) (he : PE X e ta) (hb : attributeBase e f X.env (eval e X.env) = eval e X.env) : PE X (.Attribute e f pos) (tFld K ta f) := by
  subst hK
  exact pe_fld he hb
theorem pe_bm2 {X : Cx} {K : PySem.W.Frag} {o e : PySem.Expr} {es : List PySem.Expr} {to : TE} {t : TA} {name : Str} {apos cpos : PySem.Pos} {T id : String} {r : V → List V → Hp → VK → Prop} (hK : X.K = K) (pa : PlainAttrs T) (slot : Slot T name id) (hty : typeOf (.builtin id) = pure (.type "method_descriptor")) (hm : MtR X id r) (ho : PE X o to) (ha : PA X (e :: es) t)
    (hbase : attributeBase o name X.env (eval o X.env) = eval o X.env := by rfl)
    (hfew : ((backTo cpos (starEach (e :: es) X.env)).all (fun x => !x.1) && (backToKw cpos (keywordEach [] X.env)).all (fun x => x.1.isSome)
      && decide ((e :: es).length + ([] : List PySem.Keyword).length + (if ([] : List PySem.Keyword).isEmpty then 0 else 1) < 30)) = true := by rfl)
    (hline : (apos.endLine == cpos.line) = true := by rfl) (hs : starEach (e :: es) X.env = (false, eval e X.env) :: starEach es X.env := by rfl) (hplain : (backTo cpos (starEach es X.env)).any (·.1) = false := by rfl) :
    PE X (.Call (.Attribute o name apos) (e :: es) [] cpos) (tBM K T r to t) := by
  subst hK
  exact pe_bm pa slot hty hm ho ha hbase hfew hline hs hplain
theorem k_clrA {g : HO → List Cell} (hl : H a = some (.lst vs)) (hp : ∀ o', Own R (upd H a o') (g o')) (k : ∀ H', Own R H' (g (.lst [])) → Q .non H') : rClear (.ref a) [] H Q :=
  ⟨a, _, rfl, rfl, hl, k _ (hp _)⟩
abbrev tLs (t : TA) : TE := fun σ H Q => t σ H fun xs H1 => rNewL xs H1 Q
theorem pe_lst2 {X : Cx} {es : List PySem.Expr} {t : TA} {pos : PySem.Pos} (h : PE X (.List es pos) (tLst t)) : PE X (.List es pos) (tLs t) := pe_lstQ h
abbrev tTs (t : TA) : TE := fun σ H Q => t σ H fun xs H1 => rNewT xs H1 Q
theorem pe_tup2 {X : Cx} {es : List PySem.Expr} {k : Nat} {t : TA} {pos : PySem.Pos} (h : PE X (.Tuple es k pos) (tTup t)) : PE X (.Tuple es k pos) (tTs t) := pe_tupQ h
/-! len and append -/
theorem oLs.sq (O : Own R H C) (h : oLs B F a L xs) (hs : ∀ c ∈ L, c ∈ C) : ∃ vs, SqL K H a vs ∧ vs.length = xs.length := by
  obtain ⟨vs, hv⟩ := h.fix
  exact ⟨vs, SqL.of (hv.at O hs), hv.len⟩
theorem n_lenO (h : ∃ vs, SqL K H a vs ∧ vs.length = xs.length) (k : Q (.int (xs.length : Int)) H) : rLenQ K [.ref a] H Q := by
  obtain ⟨vs, hs, hl⟩ := h
  unfold rLenQ
  exact ⟨a, vs, rfl, .inl hs, by rw [hl]; exact k⟩
theorem All3.snoc {α β γ : Type} {P : α → β → γ → Prop} {as : List α} {bs : List β} {cs : List γ} {a : α} {b : β} {c : γ} (h : All3 P as bs cs) (k : P a b c) : All3 P (as ++ [a]) (bs ++ [b]) (cs ++ [c]) := by
  induction h with
  | nil => exact .cons k .nil
  | cons h _ ih => exact .cons h ih
theorem k_appO (O : Own R H (L ++ (L1 ++ C))) (h : oLs B F a L xs) (hb : B F b L1 x) (e : appG xs x = some ys) (k : ∀ H' L', Own R H' (L' ++ C) → oLs B F a L' ys → Q .non H') : rAppend (.ref a) [.ref b] H Q := by
  obtain ⟨c, rfl⟩ := grdE e
  obtain ⟨as, Ls, hp, h3⟩ := h
  have O1 : Own R H ((a, HO.lst (as.map V.ref)) :: (Ls.flatten ++ (L1 ++ C))) := O.perm (List.Perm.append_right _ hp)
  refine ⟨a, _, _, rfl, rfl, O1.mem (List.Mem.head _), by rw [List.length_map, h3.len]; exact c, k _ ((a, HO.lst (as.map V.ref ++ [.ref b])) :: (Ls.flatten ++ L1)) ?_ ?_⟩
  · have O2 := O1.put0 (o' := HO.lst (as.map V.ref ++ [.ref b]))
    refine O2.perm ?_
    rw [List.cons_append, List.append_assoc]
  · refine ⟨as ++ [b], Ls ++ [L1], ?_, h3.snoc hb⟩
    rw [List.map_append, List.flatten_append, List.flatten_singleton]
    exact List.Perm.refl _
end
end Bt

set_option Elab.async false
set_option linter.all false
set_option maxRecDepth 100000
set_option maxHeartbeats 4000000
/-! What is refused, kept beyond its suite. -/
namespace Bt
open PySem L2 PyProof.Rows
/-- an exception that stays: its class and its dict are known -/
def ExH (a : Addr) (cls : Value) (d : Option Addr) : HO := .ext fun h => ∃ (oe : Obj) (vs : Array Value), h.get? a = some oe ∧ L2N.Zn cls d oe ∧ oe.data = .fields vs
section
variable {X : Cx} {pins : List (Addr × Obj)} {σ : L2.St} {H : Hp} {s : Shared} {a : Addr} {oe : Obj} {cls : Value} {d : Option Addr}
theorem inv_layX (I : Inv X pins σ H s) (he : s.heap.get? a = some oe) (hz : L2N.Zn cls d oe) (hd : ∃ vs, oe.data = .fields vs) (na : H a = none) (n0 : X.s_0.heap.get? a = none) (np : ∀ p ∈ X.pn ++ pins, p.1 ≠ a) (nL : a ≠ X.env.locals) : Inv X pins σ (upd H a (ExH a cls d)) s := by
  obtain ⟨vs, hv⟩ := hd
  have nb : ∀ b o, X.s_0.heap.get? b = some o → b ≠ a := fun b o e z => by
    rw [z, n0] at e
    cases e
  have nh : ∀ b o, H b = some o → b ≠ a := fun b o e z => by
    rw [z, na] at e
    cases e
  refine ⟨I.ok, I.os, I.bare, ⟨I.base.keep, I.base.slot, fun b o e n hx => ?_, I.base.there, fun b xs e => ?_, fun b o u e => ?_, fun b ps e => ?_⟩, I.loc, I.cell, ?_, fun x c e => ?_, fun p hp => ?_, fun b o e => ?_, I.len⟩
  · rw [upd_ne (nb b o e)]
    exact I.base.free b o e n hx
  · have q := I.base.tups b xs e
    rw [upd_ne (nh _ _ q)]
    exact q
  · have q := I.base.frzs b o u e
    rw [upd_ne (nh _ _ q)]
    exact q
  · obtain ⟨more, q⟩ := I.base.tbls b ps e
    refine ⟨more, ?_⟩
    rw [upd_ne (nh _ _ q)]
    exact q
  · rw [upd_ne (Ne.symm nL)]
    exact I.free
  · have : c ≠ a := fun z => by
      obtain ⟨v, o, ho, hdd⟩ := I.cell x c e
      rw [z, he] at ho
      cases ho
      rw [hv] at hdd
      cases hdd
    rw [upd_ne this]
    exact I.freeC x c e
  · obtain ⟨p1, p2, p3⟩ := I.pin p hp
    refine ⟨p1, ?_, p3⟩
    rw [upd_ne (np p hp)]
    exact p2
  · by_cases z : b = a
    · subst z
      rw [upd_same] at e
      cases e
      refine ⟨⟨oe, vs, he, hz, hv⟩, ⟨oe, he⟩, fun h1 h2 ⟨o', vs', e1, e2, e3⟩ hk => ⟨o', vs', hk _ e1, e2, e3⟩⟩
    · rw [upd_ne z] at e
      refine (I.hok b o e).stay (fun _ _ _ h => h) (fun c h => ?_) fun c xs h => ?_
      · rw [upd_ne (nh _ _ h)]
        exact h
      · rw [upd_ne (nh _ _ h)]
        exact h
end
/-! ### try with clauses of all three sorts: without a name, with one, with one whose exception stays -/
/-- an exception in hand, the clauses ahead of it -/
structure Grip (X : Cx) (pins : List (Addr × Obj)) (σ : L2.St) (H : Hp) (a : Addr) (cls : Value) (d : Option Addr) (B : Heap) (t s : Shared) : Prop where
  src : Inv X pins σ H t
  nb : ∀ b o, t.heap.get? b = some o → b ∉ frs X.stack → B.get? b = some o
  up : t.heap.UpToSlots s.heap
  os : s.os = t.os
  ag : AllBare s.gens
  fl : HandSPX.FlyingZ B X.stack a (L2N.Zn cls d) s.heap
  na : H a = none
section
variable {X : Cx} {pins : List (Addr × Obj)} {σ : L2.St} {H : Hp} {a : Addr} {cls : Value} {d : Option Addr} {B : Heap} {t s : Shared}
theorem Grip.on (g : Grip X pins σ H a cls d B t s) {h : Heap} (f : HandSPX.FlyingZ B X.stack a (L2N.Zn cls d) h) (u : s.heap.UpToSlots h) : Grip X pins σ H a cls d B t { s with heap := h } :=
  ⟨g.src, g.nb, g.up.trans u, g.os, g.ag, f, g.na⟩
theorem Grip.inv (g : Grip X pins σ H a cls d B t s) : Inv X pins σ H s := g.src.landed g.nb g.fl.1 g.up g.os g.ag
theorem Grip.off (g : Grip X pins σ H a cls d B t s) : a ∉ frs X.stack := fun m => by
  obtain ⟨oe, vs, e1, _, e2⟩ := g.fl.there
  obtain ⟨_, o, e3, nf⟩ := g.fl.2.2.1.mem m
  rw [e1] at e3
  exact nf vs (by cases e3; exact e2)
theorem Grip.new (g : Grip X pins σ H a cls d B t s) : t.heap.get? a = none := by
  have z := g.fl.2.1
  cases q : t.heap.get? a with
  | none => rfl
  | some o =>
    rw [g.nb a o q g.off] at z
    cases z
theorem Grip.new0 (g : Grip X pins σ H a cls d B t s) (hex : X.ex = []) : X.s_0.heap.get? a = none := by
  cases q : X.s_0.heap.get? a with
  | none => rfl
  | some o =>
    have hx : a ∉ X.ex := by
      rw [hex]
      exact List.not_mem_nil
    obtain ⟨o2, q2⟩ := g.src.base.there a o q hx
    rw [g.new] at q2
    cases q2
theorem Grip.nopin (g : Grip X pins σ H a cls d B t s) : ∀ p ∈ X.pn ++ pins, p.1 ≠ a := fun p m z => by
  have q := (g.src.pin p m).1
  rw [z, g.new] at q
  cases q
theorem Grip.nL (g : Grip X pins σ H a cls d B t s) (hs : X.stack = X.env :: X.outer) (hf : X.env.frame = some X.env.locals) : a ≠ X.env.locals := fun z =>
  g.off (by rw [hs]; exact List.mem_filterMap.mpr ⟨_, List.Mem.head _, by rw [hf, z]⟩)
theorem Grip.nF (g : Grip X pins σ H a cls d B t s) (hs : X.stack = X.env :: X.outer) : a ∉ X.fs := fun m => by
  obtain ⟨e, m1, m2⟩ := List.mem_filterMap.mp m
  exact g.off (by rw [hs]; exact List.mem_filterMap.mpr ⟨e, List.Mem.tail _ m1, m2⟩)
/-- the suite's own state -/
theorem Grip.within (g : Grip X pins σ H a cls d B t s) (hs : X.stack = X.env :: X.outer) (hf : X.env.frame = some X.env.locals) : ∃ oe, L2N.Zn cls d oe ∧ (∃ vs, oe.data = .fields vs) ∧ s.heap.get? a = some oe ∧ Inv (X.suite a ((a, oe) :: (X.pn ++ pins))) [] σ H s := by
  obtain ⟨oe, vs, e1, e2, e3⟩ := g.fl.there
  exact ⟨oe, e2, ⟨vs, e3⟩, e1, g.inv.suite e1 e3 g.na (g.nL hs hf) (g.nF hs)⟩
/-- no clause takes it -/
theorem Grip.out (g : Grip X pins σ H a cls d B t s) (hf : X.env.frame = some X.env.locals) {W : WX} (tk : L2N.Takes X W) (w : W cls d σ H) {Q : Flow → Shared → Prop} : wpAny (model X.prog X.w) X.A (handleBy (.ref a) X.env []) Q X.xe s := by
  obtain ⟨_, _, _, oe, vs, T, oT, ts, e1, _, e3, e4, _⟩ := id g.fl
  refine wpAny_handleBy_nil ?_
  unfold PySem.passOn
  refine wpAny_bind (wpAny_field e1 e3 e4 ?_)
  rw [if_neg (by simp)]
  have last : wpAny (model X.prog X.w) X.A (setFlight (.ref a) X.env.frame) (fun _ s2 => wpAny (model X.prog X.w) X.A (throw (.ref a) : Sem Flow) Q X.xe s2) X.xe s := by
    rw [hf]
    exact HandSPX.setFlight_upZ g.fl fun h1 k1 k2 => wpAny_throw (tk _ _ ⟨a, B, t, pins, σ, H, cls, d, rfl, g.src, g.nb, g.up.trans k2, .inr (.inr k1), g.na, g.os, g.ag, w⟩)
  first
    | exact wpAny_bind (wpAny_pure (wpAny_bind last))
    | exact wpAny_bind last
/-- is it of a clause's class? -/
theorem Grip.ask (g : Grip X pins σ H a cls d B t s) (hs : X.stack = X.env :: X.outer) (hf : X.env.frame = some X.env.locals) {x : Str} {c : Value} {np pos : Pos} {b : Bool} (hc : Names X x c) (hb : PySem.W.exmOne X.K cls c = some b) {R : Except Value Flow → Shared → Prop} (q : R (.ok (if b then .brk else .next)) s) :
    codeAny (model X.prog X.w) (X.A.mark (some (.ref a))) (.handlers (.ref a) [.ExceptHandler (some (.Name x np)) none [] pos] X.env) R s := by
  obtain ⟨oe, z, _, e1, S⟩ := g.within hs hf
  have what : PySem.W.Looks (model X.prog X.w) s.heap (typeOf (.ref a)) cls := fun A Q E s' k q' => wpAny_typeOf_ref (k _ _ e1) (by rw [z.1]; exact q')
  have hit := PySem.W.exm_one (M := model X.prog X.w) g.inv.kIn what hb
  refine codeAny_handlers_test ?_
  obtain ⟨h1, h2, h3⟩ := hc
  rcases h3 with h3 | ⟨h3, h4, h5⟩
  · exact ld_glob (X := X.suite a ((a, oe) :: (X.pn ++ pins))) S h1 h3 (hit.here q) h2
  · exact ld_blt (X := X.suite a ((a, oe) :: (X.pn ++ pins))) S h1 h3 h4 (hit.here q) h5 h2
end
/-- what stands behind a clause's suite; m: its name's slot, and whether the exception stays -/
abbrev behindC (D : Ends) : Option (Nat × Bool) → Addr → Value → Option Addr → Ends
  | none, _, _, _ => D
  | some (i, false), _, _, _ => { nx := fun σ H => D.nx (σ.set i none) H, rt := D.rt, bk := fun σ H => D.bk (σ.set i none) H, ct := fun σ H => D.ct (σ.set i none) H }
  | some (i, true), a, cls, d => { nx := fun σ H => H a = none → D.nx (σ.set i none) (upd H a (ExH a cls d)), rt := D.rt, bk := fun σ H => D.bk (σ.set i none) H, ct := fun σ H => D.ct (σ.set i none) H }
abbrev slotC (σ : L2.St) : Option (Nat × Bool) → Addr → L2.St
  | none, _ => σ
  | some (i, _), a => σ.set i (some (.ref a))
abbrev Clauses := List (Value × Option (Nat × Bool) × (Addr → Value → Option Addr → TS))
def wCl (K : PySem.W.Frag) (Wout : WX) (D : Ends) : Clauses → WX
  | [] => Wout
  | (c, m, ts) :: r => fun cls d σ H => ∃ b, PySem.W.exmOne K cls c = some b ∧ (b = true → ∀ a, H a = none → ts a cls d (behindC D m a cls d) (slotC σ m a) H) ∧ (b = false → wCl K Wout D r cls d σ H)
abbrev SuiteOk (X : Cx) (ss : List Stmt) (ts : Addr → Value → Option Addr → TS) : Prop :=
  ∀ (a : Addr) (oe : Obj) (cls : Value) (d : Option Addr) (pn : List (Addr × Obj)), L2N.Zn cls d oe → (∃ vs, oe.data = .fields vs) → PSs (X.suite a ((a, oe) :: pn)) ss (ts a cls d)
inductive ClOk (X : Cx) : List ExceptHandler → Clauses → Prop
  | nil : ClOk X [] []
  | bare {x : Str} {c : Value} {ts : Addr → Value → Option Addr → TS} {b₀ : Stmt} {ss : List Stmt} {np pos : Pos} {hs : List ExceptHandler} {l : Clauses} (hc : Names X x c) (su : SuiteOk X (b₀ :: ss) ts) (r : ClOk X hs l) : ClOk X (.ExceptHandler (some (.Name x np)) none (b₀ :: ss) pos :: hs) ((c, none, ts) :: l)
  | named {x n : Str} {c : Value} {i : Nat} (k : Bool) {ts : Addr → Value → Option Addr → TS} {b₀ : Stmt} {ss : List Stmt} {np pos : Pos} {hs : List ExceptHandler} {l : Clauses} (hc : Names X x c) (hi : X.N[i]? = some n) (hl : X.env.kindOf n = some .local) (su : SuiteOk X (b₀ :: ss) ts) (r : ClOk X hs l) :
      ClOk X (.ExceptHandler (some (.Name x np)) (some n) (b₀ :: ss) pos :: hs) ((c, some (i, k), ts) :: l)
section
variable {X : Cx} {pins : List (Addr × Obj)} {σ : L2.St} {H : Hp} {a : Addr} {cls : Value} {d : Option Addr} {B : Heap} {t s : Shared} {D : Ends} {W : WX}
theorem clauses_run (hs : X.stack = X.env :: X.outer) (hf : X.env.frame = some X.env.locals) (hN : X.N.Nodup) (hex : X.ex = []) (tk : L2N.Takes X W) {hds : List ExceptHandler} {l : Clauses} (h : ClOk X hds l) :
    ∀ s, Grip X pins σ H a cls d B t s → wCl X.K W D l cls d σ H → wpAny (model X.prog X.w) X.A (handleBy (.ref a) X.env hds) (SP X pins D) X.xe s := by
  induction h with
  | nil => exact fun s g w => g.out hf tk w
  | bare hc su r ih =>
    rintro s g ⟨b, h1, h2, h3⟩
    refine wpAny_handleBy_cons (g.ask hs hf hc h1 ?_) (by intro z; cases z)
    cases b with
    | false => exact ih s g (h3 rfl)
    | true =>
      refine codeAny_handlers_suite (HandSPX.lands_againZ g.fl fun h4 f4 u4 => ?_)
      have g := g.on f4 u4
      obtain ⟨oe, z1, z2, _, S⟩ := g.within hs hf
      refine wpAny_mono ((su a oe cls d (X.pn ++ pins) z1 z2).run [] _ _ H _ S (h2 rfl a g.na)) (fun f s6 e => ?_) (fun _ _ z => False.elim z)
      cases f with
      | ret u => exact (fun ⟨v, σ6, H6, S6, r6, q6⟩ => ⟨v, σ6, H6, S6.unsuite g.src.ok, r6, q6⟩) e
      | _ => exact (fun ⟨σ6, H6, S6, q6⟩ => ⟨σ6, H6, S6.unsuite g.src.ok, q6⟩) e
  | named k hc hi hl su r ih =>
    rintro s g ⟨b, h1, h2, h3⟩
    refine wpAny_handleBy_cons (g.ask hs hf hc h1 ?_) (by intro z; cases z)
    cases b with
    | false => exact ih s g (h3 rfl)
    | true =>
      refine codeAny_handlers_suite_as (HandSPX.lands_againZ g.fl fun h4 f4 u4 => ?_)
      have g := g.on f4 u4
      obtain ⟨oe, z1, z2, _, S⟩ := g.within hs hf
      refine store_ok (X := X.suite a ((a, oe) :: (X.pn ++ pins))) (v := .ref a) S hN hi (.inl hl) rfl (fun s5 S5 => ?_) (.inr hl)
      have q0 := h2 rfl a g.na
      have ok := g.src.ok
      cases k with
      | false =>
        refine wpAny_mono ((su a oe cls d (X.pn ++ pins) z1 z2).run [] s5 _ H _ S5 q0) (fun f s6 e => ?_) (fun _ _ z => False.elim z)
        cases f with
        | ret u => exact (fun ⟨v, σ6, H6, S6, r6, q6⟩ => gone_ok (S6.unsuite ok) hN hi hl fun s7 J => ⟨v, _, H6, J, r6, q6⟩) e
        | _ => exact (fun ⟨σ6, H6, S6, q6⟩ => gone_ok (S6.unsuite ok) hN hi hl fun s7 J => ⟨_, H6, J, q6⟩) e
      | true =>
        refine wpAny_mono ((su a oe cls d (X.pn ++ pins) z1 z2).run [] s5 _ H _ S5 q0) (fun f s6 e => ?_) (fun _ _ z => False.elim z)
        cases f with
        | next =>
          obtain ⟨σ6, H6, S6, q6⟩ := e
          obtain ⟨p1, p2, _⟩ := S6.pin (a, oe) (List.mem_append_left _ (List.Mem.head _))
          exact gone_ok (inv_layX (S6.unsuite ok) p1 z1 z2 p2 (g.new0 hex) g.nopin (g.nL hs hf)) hN hi hl fun s7 J => ⟨_, _, J, q6 p2⟩
        | ret u => exact (fun ⟨v, σ6, H6, S6, r6, q6⟩ => gone_ok (S6.unsuite ok) hN hi hl fun s7 J => ⟨v, _, H6, J, r6, q6⟩) e
        | brk => exact (fun ⟨σ6, H6, S6, q6⟩ => gone_ok (S6.unsuite ok) hN hi hl fun s7 J => ⟨_, H6, J, q6⟩) e
        | cont => exact (fun ⟨σ6, H6, S6, q6⟩ => gone_ok (S6.unsuite ok) hN hi hl fun s7 J => ⟨_, H6, J, q6⟩) e
/-- try: .. except ..: .. -/
theorem ps_tryC {body : List Stmt} {h₀ : ExceptHandler} {hds : List ExceptHandler} {l : Clauses} {pos : Pos} {tb : WX → TS} (hs : X.stack = X.env :: X.outer) (hf : X.env.frame = some X.env.locals) (hN : X.N.Nodup) (hex : X.ex = []) (tk : L2N.Takes X W)
    (hb : ∀ (W : WX) (pn : List (Addr × Obj)) (xe : Value → Shared → Prop), L2N.Takes (X.tr pn xe) W → PassesOwn (model X.prog X.w) X.A X.env xe → PSs (X.tr pn xe) body (tb W))
    (hh : ClOk X (h₀ :: hds) l) : PS X (.Try body (h₀ :: hds) [] [] pos) (fun D σ H => tb (wCl X.K W D l) D σ H) := by
  refine ⟨fun pins s σ H D I h => wpAny_Try_except (wpAny_mono ((hb (wCl X.K W D l) (X.pn ++ pins) _ (fun u s2 x => ?_) PassesOwn.looking).run [] s σ H D (I.toTry _) h) (fun f s2 e => ?_) fun _ _ z => z)⟩
  · obtain ⟨a, B, t, pins', σ', H', cls, d, rfl, J, nb, up, sky, na, os, ag, w⟩ := x
    have fr : X.A.frames = some (X.env :: X.outer) := by rw [I.ok.frames, hs]
    have sky2 : Sky B (X.env :: X.outer) a (L2N.Zn cls d) X.env.locals s2.heap := by rw [← hs]; exact sky
    exact L2N.Sky.land L2N.Zn.steady fr hf sky2 fun h3 f3 u3 => clauses_run hs hf hN hex tk hh _ ⟨J.ofTry I.ok, nb, up.trans u3, os, ag, by rw [hs]; exact f3, na⟩ w
  · cases f with
    | ret u => exact (fun ⟨v, σ1, H1, J, r, q⟩ => ⟨v, σ1, H1, J.ofTry I.ok, r, q⟩) e
    | next => exact (fun ⟨σ1, H1, J, q⟩ => wpAny_execs_nil ⟨σ1, H1, J.ofTry I.ok, q⟩) e
    | _ => exact (fun ⟨σ1, H1, J, q⟩ => ⟨σ1, H1, J.ofTry I.ok, q⟩) e
end
/-! the exception as data -/
def rX (es : Eds) (ks : List Ek) : Rp Er := fun F v e => ∃ a : Addr, v = .ref a ∧ F a = some (ExH a (.ref (es.at e.k)) none) ∧ e.plain = true ∧ e.k ∈ ks
theorem mX (es : Eds) (ks : List Ek) : Mono (rX es ks) := fun F F' v e x h => by
  obtain ⟨a, h1, h2, h3⟩ := h
  exact ⟨a, h1, x _ _ h2, h3⟩
theorem nnX {es : Eds} {ks : List Ek} : NN (rX es ks) := fun F v e h => by
  obtain ⟨a, rfl, _⟩ := h
  simp
theorem rX_ref {es : Eds} {ks : List Ek} {F : Hp} {v : V} {e : Er} (h : rX es ks F v e) : ∃ p, v = .ref p := by
  obtain ⟨a, h1, _⟩ := h
  exact ⟨a, h1⟩
theorem rX_k {es : Eds} {ks : List Ek} {F : Hp} {v : V} {e : Er} (h : rX es ks F v e) : e.k ∈ ks := by
  obtain ⟨_, _, _, _, h1⟩ := h
  exact h1
theorem Own.layE {es : Eds} {ks : List Ek} {R H : Hp} {L : List Cell} {a : Addr} {e : Er} (O : Own R H L) (hn : H a = none) (hp : e.plain = true) (hk : e.k ∈ ks) : ∃ R', Own R' (upd H a (ExH a (.ref (es.at e.k)) none)) L ∧ Ex R R' ∧ ∀ R0 Hb, Ex Hb R → rX es ks (ovr R0 Hb R') (.ref a) e := by
  refine ⟨upd R a (ExH a (.ref (es.at e.k)) none), (O.new hn).freeze, Ex.new (O.ex.back hn), fun R0 Hb eB => ⟨a, rfl, ovr_mk (.inr (eB.back (O.ex.back hn))) upd_same, hp, hk⟩⟩
theorem rX_up {es : Eds} {ks : List Ek} {R0 Hb R : Hp} {v : V} {e : Er} (h : rX es ks (ovr R0 Hb R) v e) : rX es ks R v e := mX es ks _ _ _ _ ovr_ex h
/-! isinstance of it -/
def rIsH (K : PySem.W.Frag) (es : Eds) (ks : List Ek) : List V → Hp → VK → Prop := fun xs H Q => ∃ (x c : V) (e : Er) (cv : Value) (b : Bool), xs = [x, c] ∧ ClsV c cv ∧ rX es ks H x e ∧ PySem.W.kitOne K (.ref (es.at e.k)) cv = some b ∧ Q (.bl b) H
theorem inst_h {X : Cx} {pins : List (Addr × Obj)} {σ : L2.St} {H : Hp} {s : Shared} {a D : Addr} (I : Inv X pins σ H s) (h : H a = some (ExH a (.ref D) none)) : ∃ oe od, PySem.W.InstAt s.heap a oe D od := by
  obtain ⟨⟨oe, vs, he, hz, hd⟩, _⟩ := (show ObjOk X.prog X.w H s.heap a (ExH a (.ref D) none) from I.hok a _ h)
  obtain ⟨oc, od, oda, osl⟩ := oe
  obtain ⟨h1, h2, _⟩ := hz
  dsimp only at h1 h2 hd
  subst h1 h2 hd
  exact ⟨_, none, he, rfl, rfl, trivial⟩
theorem call_isH {X : Cx} {es : Eds} {ks : List Ek} (T : EcF X.K es ks) : CallR X (.builtin "isinstance") (rIsH X.K es ks) := by
  intro pins s σ H xs us Q I r h
  obtain ⟨x, c, ex, cv, b, rfl, hcv, ⟨a, rfl, hd, _, hk⟩, e, q⟩ := h
  obtain ⟨u1, u2, rfl, r1, r2⟩ := vals2 r
  cases (show u1 = Value.ref a from r1)
  have ec := hcv.eq r2
  subst ec
  have C := T.ec _ hk
  obtain ⟨oe, od, J⟩ := inst_h I hd
  exact PySem.W.kia_one (PySem.W.kitx_exc (exc_cls C) C.hg C.hk C.hs C.ha C.hn C.ht C.hm) I.kIn J e (fun z => nomatch z) fun tk => ⟨.bl b, H, I.kept (t' := tk) fun _ _ z => z, rfl, q⟩
def rIsHt (K : PySem.W.Frag) (es : Eds) (ks : List Ek) : List V → Hp → VK → Prop := fun xs H Q => ∃ (x : V) (tp : Addr) (ex : Er) (cs : List V) (us : List Value) (b : Bool), xs = [x, .ref tp] ∧ rX es ks H x ex ∧ H tp = some (.tup cs) ∧ Paired ClsV cs us ∧ PySem.W.kitAny K (.ref (es.at ex.k)) us = some b ∧ Q (.bl b) H
theorem call_isHt {X : Cx} {es : Eds} {ks : List Ek} (T : EcF X.K es ks) : CallR X (.builtin "isinstance") (rIsHt X.K es ks) := by
  intro pins s σ H xs us Q I r h
  obtain ⟨x, tp, ex, cs, ws, b, rfl, ⟨a, rfl, hd, _, hk⟩, hT, k, e, q⟩ := h
  obtain ⟨u1, u2, rfl, r1, r2⟩ := vals2 r
  cases (show u1 = Value.ref a from r1)
  cases (show u2 = Value.ref tp from r2)
  obtain ⟨_, its, rv, o, h1, h2, n, h3⟩ := (show ObjOk X.prog X.w H s.heap tp (.tup cs) from I.hok tp _ hT)
  have e3 := ClsV.all k rv
  subst e3
  obtain ⟨oc, od, dt, sl⟩ := o
  simp only at h2 h3
  subst h2 h3
  have C := T.ec _ hk
  obtain ⟨oe, od, J⟩ := inst_h I hd
  exact PySem.W.kia_tup (PySem.W.kitx_exc (exc_cls C) C.hg C.hk C.hs C.ha C.hn C.ht C.hm) I.kIn J h1 e (fun z => nomatch z) fun tk => ⟨.bl b, H, I.kept (t' := tk) fun _ _ z => z, rfl, q⟩
theorem exE2 {es : Eds} {ks : List Ek} {cls : Value} {dd : Option Addr} {H H' : Hp} {t : Er → TS} {D : Ends} {σ : L2.St} {e : Er} (hX : XFl e dd H') (hk : e.k ∈ ks) (hc : cls = .ref (es.at e.k)) (q : t e D σ H) : ∃ e : Er, e.k ∈ ks ∧ cls = .ref (es.at e.k) ∧ t e D σ H := ⟨e, hk, hc, q⟩
end Bt

set_option linter.all false
set_option maxRecDepth 100000
set_option maxHeartbeats 1000000
/-! What was told, its inner lists changed by its asker: a loop over them all. -/
namespace Bt
open PySem L2
def NoL {α : Type} (P : Rp α) : Prop := ∀ F v x, P F v x → ∀ p ws, v = .ref p → F p = some (.lst ws) → False
theorem noI : NoL rI := fun F v x h p ws e _ => by
  rw [show v = V.int x from h] at e
  cases e
theorem noB : NoL rB := fun F v x h p ws e _ => by
  rw [show v = V.bl x from h] at e
  cases e
theorem noS : NoL rS := fun F v x h p ws e _ => by
  rw [show v = V.str x from h] at e
  cases e
theorem noT2 {α β : Type} {P : Rp α} {P' : Rp β} : NoL (rT2 P P') := fun F v x h p ws e k => by
  obtain ⟨q, _, _, rfl, h1, _⟩ := h
  cases e
  rw [h1] at k
  cases k
theorem noT3 {α β γ : Type} {P : Rp α} {P' : Rp β} {P3 : Rp γ} : NoL (rT3 P P' P3) := fun F v x h p ws e k => by
  obtain ⟨q, _, _, _, rfl, h1, _⟩ := h
  cases e
  rw [h1] at k
  cases k
def pokeG {α : Type} (xs : List (List α)) : Option Unit := grd (∀ r ∈ xs, r.length + xs.length ≤ 16777216) ()
def PkR (Rs : Hp) (a : Addr) (vs : List V) (B : Nat) (R : Hp) : Prop :=
  Ex Rs R ∧ R a = some (.lst vs) ∧ ∀ v ∈ vs, ∃ p ws, v = .ref p ∧ p ≠ a ∧ Rs p = none ∧ R p = some (.lst ws) ∧ ws.length ≤ B
def PkJ (Rs : Hp) (L : List Cell) (a : Addr) (vs : List V) (n : Nat) (H : Hp) : Prop := ∃ B R, B + n ≤ 16777216 ∧ Own R H L ∧ PkR Rs a vs B R
theorem All2.memL {α β : Type} {P : α → β → Prop} {as : List α} {bs : List β} (h : All2 P as bs) : ∀ a ∈ as, ∃ b ∈ bs, P a b := by
  induction h with
  | nil => exact fun _ h => nomatch h
  | cons k _ ih =>
    intro a ha
    rcases List.mem_cons.mp ha with rfl | ha
    · exact ⟨_, List.Mem.head _, k⟩
    · obtain ⟨b, hb, hp⟩ := ih a ha
      exact ⟨b, List.Mem.tail _ hb, hp⟩
theorem pk_start1 {α : Type} {P : Rp α} {Rs X R H : Hp} {L : List Cell} {a : Addr} {vs : List V} {xs : List (List α)} {u : Unit} (O : Own R H L) (e : Ex Rs R) (hX : ∀ p ws, X p = some (.lst ws) → Rs p = none) (eX : Ex X R) (h1 : X a = some (.lst vs)) (h2 : All2 (rL P X) vs xs) (nl : NoL P) (hb : pokeG xs = some u) : PkJ Rs L a vs xs.length H := by
  obtain ⟨hb, _⟩ := grdE hb
  have hle : ∀ v ∈ vs, ∃ p ws, v = .ref p ∧ p ≠ a ∧ Rs p = none ∧ R p = some (.lst ws) ∧ ws.length + xs.length ≤ 16777216 := fun v hv => by
    obtain ⟨r, hr, p, ws, rfl, k1, k2⟩ := h2.memL v hv
    refine ⟨p, ws, rfl, fun z => ?_, hX _ _ k1, eX _ _ k1, by rw [k2.len]; exact hb r hr⟩
    subst z
    rw [h1] at k1
    cases k1
    obtain ⟨y, _, hy⟩ := k2.memL _ hv
    exact nl _ _ _ hy _ _ rfl h1
  by_cases hx : xs.length ≤ 16777216
  · refine ⟨16777216 - xs.length, R, by omega, O, e, eX _ _ h1, fun v hv => ?_⟩
    obtain ⟨p, ws, a1, a2, a3, a4, a5⟩ := hle v hv
    exact ⟨p, ws, a1, a2, a3, a4, by omega⟩
  · exfalso
    cases xs with
    | nil => simp at hx
    | cons r q =>
      have := hb r (List.Mem.head _)
      omega
theorem pk_start {α : Type} {P : Rp α} {Rs Hc R H : Hp} {L : List Cell} {a : Addr} {vs : List V} {xs : List (List α)} {u : Unit} (O : Own R H L) (e : Ex Rs R) (hc : Ex Rs Hc) (h1 : ovr (fun _ => none) Hc R a = some (.lst vs)) (h2 : All2 (rL P (ovr (fun _ => none) Hc R)) vs xs) (nl : NoL P) (hb : pokeG xs = some u) : PkJ Rs L a vs xs.length H :=
  pk_start1 O e (fun p ws h => by
    obtain ⟨c, _⟩ := ovr_some h
    rcases c with c | c
    · exact absurd rfl c
    · exact hc.back c) ovr_ex h1 h2 nl hb
theorem pk_as {Rs Fr Hc R : Hp} (eF : Ex Fr R) (hF : ∀ p o, Fr p = some o → Rs p = none ∨ ∃ t, o = .tup t) (hc : Ex Rs Hc) : ∀ p ws, ovr Fr Hc R p = some (.lst ws) → Rs p = none := fun p ws h => by
  obtain ⟨c, k⟩ := ovr_some h
  rcases c with c | c
  · cases e : Fr p with
    | none => exact absurd e c
    | some o =>
      rcases hF p o e with q | ⟨t, rfl⟩
      · exact q
      · rw [eF _ _ e] at k
        cases k
  · exact hc.back c
/-! the frame that a call needs to know: some cells, and all tuples -/
def lonR (as : List Addr) (F : Hp) : Hp := fun x => if x ∈ as then F x else match F x with
  | some (.tup t) => some (.tup t)
  | _ => none
theorem lonR_ex {as : List Addr} {F : Hp} : Ex (lonR as F) F := fun x o h => by
  unfold lonR at h
  split at h
  · exact h
  · split at h
    · rename_i t e
      rw [e, ← h]
    · cases h
theorem lonR_tup {as : List Addr} {F : Hp} {x : Addr} {t : List V} (h : F x = some (.tup t)) : lonR as F x = some (.tup t) := by
  unfold lonR
  split
  · exact h
  · rw [h]
theorem lonR_or {as : List Addr} {F Hs : Hp} (h : ∀ p, p ∈ as → Hs p = none) : ∀ p o, lonR as F p = some o → Hs p = none ∨ ∃ t, o = .tup t := fun p o e => by
  unfold lonR at e
  split at e
  · exact .inl (h p (by assumption))
  · split at e
    · exact .inr ⟨_, (Option.some.inj e).symm⟩
    · cases e
def TpO {α : Type} (P : Rp α) : Prop := ∀ as F v x, P F v x → P (lonR as F) v x
theorem tpI : TpO rI := fun _ _ _ _ h => h
theorem tpB : TpO rB := fun _ _ _ _ h => h
theorem tpS : TpO rS := fun _ _ _ _ h => h
theorem tpT2 {α β : Type} {P : Rp α} {P' : Rp β} (m : TpO P) (n : TpO P') : TpO (rT2 P P') := fun as F v x h => by
  obtain ⟨p, a, b, rfl, h1, h2, h3⟩ := h
  exact ⟨p, a, b, rfl, lonR_tup h1, m _ _ _ _ h2, n _ _ _ _ h3⟩
theorem tpT3 {α β γ : Type} {P : Rp α} {P' : Rp β} {P3 : Rp γ} (m : TpO P) (n : TpO P') (o : TpO P3) : TpO (rT3 P P' P3) := fun as F v x h => by
  obtain ⟨p, a, b, c, rfl, h1, h2, h3, h4⟩ := h
  exact ⟨p, a, b, c, rfl, lonR_tup h1, m _ _ _ _ h2, n _ _ _ _ h3, o _ _ _ _ h4⟩
theorem lonL {α : Type} {P : Rp α} {as : List Addr} {F : Hp} {a : Addr} {xs : List α} (h : rL P F (.ref a) xs) (hm : a ∈ as) (tp : TpO P) : rL P (lonR as F) (.ref a) xs := by
  obtain ⟨p, vs, e, h1, h2⟩ := h
  cases e
  refine ⟨_, vs, rfl, ?_, h2.mp fun v x h => tp _ _ _ _ h⟩
  unfold lonR
  rw [if_pos hm]
  exact h1
theorem ovr_lo {as : List Addr} {R0 Hb Hc H0 R Fr : Hp} (hF : Fr = lonR as (ovr R0 Hb H0)) (e : Ex Hb Hc) : Ex (ovr Fr Hc R) (ovr R0 Hb R) := fun a o h => by
  obtain ⟨q, h1⟩ := ovr_some h
  refine ovr_mk ?_ h1
  rcases q with q | q
  · cases z : Fr a with
    | none => exact absurd z q
    | some u =>
      rw [hF] at z
      exact (ovr_some (lonR_ex _ _ z)).1
  · exact .inr (e.back q)
theorem Own.retX1 {A R H Hc : Hp} {B C : List Cell} {D : DT} {Q : VK} (O : Own R H (B ++ C)) (m : MonoD D) (hc : Hc = hsub H B) (hA : Ex A R) (k : ∀ v H' R' L', Own R' H' (L' ++ C) → Ex R R' → D (ovr A Hc R') v L' → Q v H') : RetX A (hsub H B) D Q := fun v H' R' L' e O' d => by
  obtain ⟨R'', O'', e1, e2⟩ := O.back e O'
  subst hc
  refine k v H' R'' L' O'' e1 (m _ _ _ _ (fun a u h => ?_) d)
  obtain ⟨q, _⟩ := ovr_some h
  exact ovr_mk q (e2 _ hA _ _ h)
theorem k_pokeP {Rs R H : Hp} {L E : List Cell} {a q : Addr} {v : V} {vs : List V} {B n : Nat} {Q : VK} (O : Own R H (E ++ L)) (hP : PkR Rs a vs B R) (hm : V.ref q ∈ vs) (hB : B + (n + 1) ≤ 16777216) (k : ∀ H', PkJ Rs L a vs n H' → Q .non H') : rAppend (.ref q) [v] H Q := by
  obtain ⟨e, h1, h2⟩ := hP
  obtain ⟨p, ws, a1, a2, a3, b1, a4⟩ := h2 _ hm
  cases a1
  refine ⟨q, ws, v, rfl, rfl, O.ex _ _ b1, by show _ < 16777216; omega, k _ ⟨B + 1, upd R q (.lst (ws ++ [v])), by omega, ?_, ?_, ?_, ?_⟩⟩
  · have O := O.right
    have hne : ∀ c ∈ L, c.1 ≠ q := fun c hc z => by
      have := O.fr c hc
      rw [z, b1] at this
      cases this
    refine ⟨fun x u h => ?_, fun c hc => ?_, fun c hc => ?_, O.nd⟩
    · by_cases z : x = q
      · subst z
        rw [upd_same] at h ⊢
        exact h
      · rw [upd_ne z] at h ⊢
        exact O.ex _ _ h
    · rw [upd_ne (hne c hc)]
      exact O.at_ c hc
    · rw [upd_ne (hne c hc)]
      exact O.fr c hc
  · intro x u h
    rw [upd_ne (ne_of_none h a3)]
    exact e _ _ h
  · rw [upd_ne (Ne.symm a2)]
    exact h1
  · intro w hw
    obtain ⟨p, us, c1, c2, c3, c4, c5⟩ := h2 w hw
    by_cases z : p = q
    · subst z
      rw [b1] at c4
      cases c4
      exact ⟨p, _, c1, c2, c3, upd_same, by simp; omega⟩
    · exact ⟨p, us, c1, c2, c3, by rw [upd_ne z]; exact c4, by omega⟩
theorem q_forP {α : Type} {K : PySem.W.Frag} {Rs H : Hp} {L : List Cell} {a : Addr} {vs : List V} {xs : List α} {j : Nat} {ts : TS} {n : St → Hp → Prop} {w : VK} {σ : St} (σ1 : Option V → St) (hl : vs.length = xs.length) (hP : PkJ Rs L a vs xs.length H) (h0 : ∃ u, σ = σ1 u) (hj : ∀ u v, (σ1 u).set j (some v) = σ1 (some v))
    (hs : ∀ q m B R H, Own R H L → PkR Rs a vs B R → V.ref q ∈ vs → B + (m + 1) ≤ 16777216 → (∃ ws, H q = some (.lst ws)) → ts (Ends.mk (fun σ H => (∃ u, σ = σ1 u) ∧ PkJ Rs L a vs m H) w n (fun σ H => (∃ u, σ = σ1 u) ∧ PkJ Rs L a vs m H)) (σ1 (some (.ref q))) H)
    (hd : ∀ u H, Own Rs H L → n (σ1 u) H) :
    ∃ W : Nat → Nat → St → Hp → Prop, (∃ m, W 0 m σ H) ∧ ∀ i m σ H, W i m σ H →
      ((Itl K a).stop i H ∧ n σ H) ∨ ((Itl K a).go i H ∧ ∃ N : St → Hp → Prop, (∀ σ' H', N σ' H' → ∃ m', m' < m ∧ W (i + 1) m' σ' H') ∧ ∀ x H', (Itl K a).yld i H x H' → gName j x σ H' fun σ2 H2 => ts (Ends.mk N w n N) σ2 H2) := by
  refine q_forA (P := fun v (_ : α) => v ∈ vs) (b := fun _ _ => False) (k := fun _ _ => False) (xs := xs) (All2.of_get hl fun i x y e _ => List.mem_of_getElem? e) (fun r σ H => (∃ u, σ = σ1 u) ∧ PkJ Rs L a vs r.length H) ⟨h0, hP⟩ (fun r σ H h => ?_) (fun x v r σ H hv h => ?_) (fun σ H h => ?_)
  · obtain ⟨_, B, R, _, O, _, h1, _⟩ := h
    exact SqL.of (O.ex _ _ h1)
  · obtain ⟨⟨u, rfl⟩, B, R, h1, O, h2⟩ := h
    obtain ⟨p, ws, rfl, _, _, h3, _⟩ := h2.2.2 v hv
    rw [hj]
    exact hs p r.length B R H O h2 hv h1 ⟨ws, O.ex _ _ h3⟩
  · obtain ⟨⟨u, rfl⟩, B, R, h1, O, h2⟩ := h
    exact hd u H (O.shrink h2.1)
theorem pk_none {Rs Hc R : Hp} {a : Addr} {o : HO} (hc : Ex Rs Hc) (h1 : ovr (fun _ => none) Hc R a = some o) : Rs a = none := by
  obtain ⟨c, _⟩ := ovr_some h1
  rcases c with c | c
  · exact absurd rfl c
  · exact hc.back c
def pokeO {α : Type} (xs : List α) : Option Unit := grd (xs.length < 16777216) ()
theorem k_pokeO {α : Type} {P : Rp α} {F Rs R H : Hp} {L E : List Cell} {a : Addr} {v : V} {vs : List V} {xs : List α} {B : Nat} {u : Unit} {Q : VK} (O : Own R H (E ++ L)) (hP : PkR Rs a vs B R) (hz : Rs a = none) (h2 : All2 (P F) vs xs) (hb : pokeO xs = some u) (k : ∀ H', Own Rs H' L → Q .non H') : rAppend (.ref a) [v] H Q := by
  obtain ⟨hb, _⟩ := grdE hb
  obtain ⟨e, h1, _⟩ := hP
  refine ⟨a, vs, v, rfl, rfl, O.ex _ _ h1, by show _ < 16777216; rw [h2.len]; exact hb, k _ ?_⟩
  have O := O.right
  have hne : ∀ c ∈ L, c.1 ≠ a := fun c hc z => by
    have := O.fr c hc
    rw [z, h1] at this
    cases this
  refine ⟨fun x u h => ?_, fun c hc => ?_, fun c hc => ?_, O.nd⟩
  · by_cases z : x = a
    · subst z
      rw [hz] at h
      cases h
    · rw [upd_ne z]
      exact O.ex _ _ (e _ _ h)
  · rw [upd_ne (hne c hc)]
    exact O.at_ c hc
  · cases q : Rs c.1 with
    | none => rfl
    | some o =>
      have := e _ _ q
      rw [O.fr c hc] at this
      cases this
theorem q_forP2 {α : Type} {K : PySem.W.Frag} {Rs H : Hp} {L : List Cell} {a : Addr} {vs : List V} {xs : List α} {j : Nat} {ts : TS} {n : St → Hp → Prop} {w : VK} {σ : St} (σ1 : Option V → St) (hl : vs.length = xs.length) (hP : PkJ Rs L a vs xs.length H) (h0 : ∃ u, σ = σ1 u) (hj : ∀ u v, (σ1 u).set j (some v) = σ1 (some v))
    (hs : ∀ q m B R H, Own R H L → PkR Rs a vs B R → V.ref q ∈ vs → B + (m + 1) ≤ 16777216 → (∃ ws, H q = some (.lst ws)) → ts (Ends.mk (fun σ H => (∃ u, σ = σ1 u) ∧ PkJ Rs L a vs m H) w n (fun σ H => (∃ u, σ = σ1 u) ∧ PkJ Rs L a vs m H)) (σ1 (some (.ref q))) H)
    (hd : ∀ u H B R, Own R H L → PkR Rs a vs B R → n (σ1 u) H) :
    ∃ W : Nat → Nat → St → Hp → Prop, (∃ m, W 0 m σ H) ∧ ∀ i m σ H, W i m σ H →
      ((Itl K a).stop i H ∧ n σ H) ∨ ((Itl K a).go i H ∧ ∃ N : St → Hp → Prop, (∀ σ' H', N σ' H' → ∃ m', m' < m ∧ W (i + 1) m' σ' H') ∧ ∀ x H', (Itl K a).yld i H x H' → gName j x σ H' fun σ2 H2 => ts (Ends.mk N w n N) σ2 H2) := by
  refine q_forA (P := fun v (_ : α) => v ∈ vs) (b := fun _ _ => False) (k := fun _ _ => False) (xs := xs) (All2.of_get hl fun i x y e _ => List.mem_of_getElem? e) (fun r σ H => (∃ u, σ = σ1 u) ∧ PkJ Rs L a vs r.length H) ⟨h0, hP⟩ (fun r σ H h => ?_) (fun x v r σ H hv h => ?_) (fun σ H h => ?_)
  · obtain ⟨_, B, R, _, O, _, h1, _⟩ := h
    exact SqL.of (O.ex _ _ h1)
  · obtain ⟨⟨u, rfl⟩, B, R, h1, O, h2⟩ := h
    obtain ⟨p, ws, rfl, _, _, h3, _⟩ := h2.2.2 v hv
    rw [hj]
    exact hs p r.length B R H O h2 hv h1 ⟨ws, O.ex _ _ h3⟩
  · obtain ⟨⟨u, rfl⟩, B, R, h1, O, h2⟩ := h
    exact hd u H B R O h2
end Bt

set_option linter.all false
set_option maxRecDepth 100000
set_option maxHeartbeats 1000000
/-! Pairs of a number and a list, the lists all apart: one of them changed, the others stay. -/
namespace Bt
open PySem L2
def IQ (F : Hp) (v : V) (q : Addr) : Prop := ∃ p x ws, v = .ref p ∧ F p = some (.tup [x, .ref q]) ∧ F q = some (.lst ws)
theorem IQ.mono {F F' : Hp} {v : V} {q : Addr} (e : Ex F F') (h : IQ F v q) : IQ F' v q := by
  obtain ⟨p, x, ws, h1, h2, h3⟩ := h
  exact ⟨p, x, ws, h1, e _ _ h2, e _ _ h3⟩
theorem ex_some {F F' : Hp} {a : Addr} (e : Ex F F') (h : F a ≠ none) : F' a ≠ none := by
  cases z : F a with
  | none => exact absurd z h
  | some o => rw [e _ _ z]; simp
/-- the lists apart, from one another and from those told, and new to Z -/
def DN (F Z : Hp) (as : List Addr) (vs : List V) : Prop := ∃ qs : List Addr, All2 (IQ F) vs qs ∧ qs.Nodup ∧ (∀ a ∈ as, a ∉ qs ∧ F a ≠ none) ∧ ∀ q ∈ qs, Z q = none
/-- and a list to come -/
def DNx (F Z : Hp) (as : List Addr) (vs : List V) (q : Addr) : Prop := ∃ qs : List Addr, All2 (IQ F) vs qs ∧ (q :: qs).Nodup ∧ (∀ a ∈ as, a ∉ q :: qs ∧ F a ≠ none) ∧ ∀ p ∈ q :: qs, Z p = none
abbrev hp0 : Hp := fun _ => none
theorem DN.mono {F F' Z : Hp} {as : List Addr} {vs : List V} (e : Ex F F') (h : DN F Z as vs) : DN F' Z as vs := by
  obtain ⟨qs, h1, h2, h3, h4⟩ := h
  exact ⟨qs, h1.mp fun _ _ k => k.mono e, h2, fun a ha => ⟨(h3 a ha).1, ex_some e (h3 a ha).2⟩, h4⟩
theorem DNx.mono {F F' Z : Hp} {as : List Addr} {vs : List V} {q : Addr} (e : Ex F F') (h : DNx F Z as vs q) : DNx F' Z as vs q := by
  obtain ⟨qs, h1, h2, h3, h4⟩ := h
  exact ⟨qs, h1.mp fun _ _ k => k.mono e, h2, fun a ha => ⟨(h3 a ha).1, ex_some e (h3 a ha).2⟩, h4⟩
theorem DN.nil {F Z : Hp} : DN F Z [] [] := ⟨[], .nil, List.Pairwise.nil, (fun _ h => nomatch h), fun _ h => nomatch h⟩
theorem DN.app0 {F Z : Hp} {as : List Addr} {vs : List V} (h : DN F Z as vs) : DN F Z as (vs ++ []) := by rw [List.append_nil]; exact h
theorem all2_memR {α β : Type} {P : α → β → Prop} {as : List α} {bs : List β} (h : All2 P as bs) : ∀ b ∈ bs, ∃ a ∈ as, P a b := by
  induction h with
  | nil => exact fun _ h => nomatch h
  | cons k _ ih =>
    intro b hb
    rcases List.mem_cons.mp hb with rfl | hb
    · exact ⟨_, List.Mem.head _, k⟩
    · obtain ⟨a, ha, hp⟩ := ih b hb
      exact ⟨a, List.Mem.tail _ ha, hp⟩
theorem ovr_no {R H X : Hp} {a : Addr} (h : X a = none) : ovr R H X a = none := by
  cases z : ovr R H X a with
  | none => rfl
  | some o =>
    have := (ovr_some z).2
    rw [h] at this
    cases this
theorem DN.pre {F Z : Hp} {as : List Addr} {vs : List V} {q : Addr} (h : DN F Z as vs) (hq : F q = none) (hz : Z q = none) : DNx F Z as vs q := by
  obtain ⟨qs, h1, h2, h3, h4⟩ := h
  refine ⟨qs, h1, List.nodup_cons.mpr ⟨fun z => ?_, h2⟩, fun a ha => ⟨fun z => ?_, (h3 a ha).2⟩, fun p hp => ?_⟩
  · obtain ⟨_, _, p, x, ws, _, _, k⟩ := all2_memR h1 q z
    rw [hq] at k
    cases k
  · rcases List.mem_cons.mp z with rfl | z
    · exact (h3 _ ha).2 hq
    · exact (h3 a ha).1 z
  · rcases List.mem_cons.mp hp with rfl | hp
    · exact hz
    · exact h4 p hp
theorem DNx.snoc {F Z : Hp} {as : List Addr} {vs ws : List V} {p q : Addr} {x : V} (h : DNx F Z as vs q) (h1 : F p = some (.tup [x, .ref q])) (h2 : F q = some (.lst ws)) : DN F Z as (vs ++ [.ref p]) := by
  obtain ⟨qs, k1, k2, k3, k4⟩ := h
  obtain ⟨n1, n2⟩ := List.nodup_cons.mp k2
  refine ⟨qs ++ [q], k1.snoc ⟨p, x, ws, rfl, h1, h2⟩, List.nodup_append.mpr ⟨n2, List.nodup_cons.mpr ⟨List.not_mem_nil, List.Pairwise.nil⟩, fun a ha b hb z => ?_⟩, fun a ha => ⟨fun z => ?_, (k3 a ha).2⟩, fun p hp => ?_⟩
  · rw [List.mem_singleton.mp hb] at z
    subst z
    exact n1 ha
  · refine (k3 a ha).1 ?_
    rcases List.mem_append.mp z with z | z
    · exact List.Mem.tail _ z
    · rw [List.mem_singleton.mp z]; exact List.Mem.head _
  · rcases List.mem_append.mp hp with z | z
    · exact k4 p (List.Mem.tail _ z)
    · rw [List.mem_singleton.mp z]; exact k4 q (List.Mem.head _)
theorem DNx.snocP {F Z : Hp} {as : List Addr} {A vs ws : List V} {p q : Addr} {x : V} (h : DNx F Z as (A ++ vs) q) (h1 : F p = some (.tup [x, .ref q])) (h2 : F q = some (.lst ws)) : DN F Z as (A ++ (vs ++ [.ref p])) := by
  rw [← List.append_assoc]
  exact h.snoc h1 h2
/-- the list itself told apart from them too -/
theorem DNx.own {F Z : Hp} {vs : List V} {as : List Addr} {a : Addr} {o : HO} (h : DNx F Z as vs a) (h1 : F a = some o) : DN F Z (a :: as) vs := by
  obtain ⟨qs, k1, k2, k3, k4⟩ := h
  obtain ⟨n1, n2⟩ := List.nodup_cons.mp k2
  refine ⟨qs, k1, n2, fun b hb => ?_, fun q hq => k4 q (List.Mem.tail _ hq)⟩
  rcases List.mem_cons.mp hb with rfl | hb
  · exact ⟨n1, by rw [h1]; simp⟩
  · exact ⟨fun z => (k3 b hb).1 (List.Mem.tail _ z), (k3 b hb).2⟩
/-- what is told: such a list -/
def DNv (F : Hp) (v : V) : Prop := ∃ a vs, v = .ref a ∧ F a = some (.lst vs) ∧ DN F hp0 [a] vs
theorem DNv.mono {F F' : Hp} {v : V} (e : Ex F F') (h : DNv F v) : DNv F' v := by
  obtain ⟨a, vs, h1, h2, h3⟩ := h
  exact ⟨a, vs, h1, e _ _ h2, h3.mono e⟩
def dPD {α : Type} (P : Rp α) (x : α) : DT := fun F v L => L = [] ∧ P F v x ∧ DNv F v
theorem mdPD {α : Type} {P : Rp α} {x : α} (m : Mono P) : MonoD (dPD P x) := fun _ _ _ _ e h => ⟨h.1, m _ _ _ _ e h.2.1, h.2.2.mono e⟩
/-- told by a call: new to all that stood ahead of it -/
theorem DNv.at {α : Type} {P : Rp α} {Z Hc R F : Hp} {a : Addr} {xs : List α} (h : DNv (ovr hp0 Hc R) (.ref a)) (eH : Ex Z Hc) (e : Ex (ovr hp0 Hc R) F) (hn : rL P F (.ref a) xs) : ∃ vs, F a = some (.lst vs) ∧ DN F Z [a] vs ∧ All2 (P F) vs xs ∧ Z a = none := by
  obtain ⟨a', vs, h1, h2, qs, k1, k2, k3, _⟩ := h
  cases h1
  obtain ⟨us, j1, j2⟩ := rL_at hn
  have j3 := e _ _ h2
  rw [j1] at j3
  have j4 : us = vs := HO.lst.inj (Option.some.inj j3)
  subst j4
  have new : ∀ q, ovr hp0 Hc R q ≠ none → Z q = none := fun q hq => by
    cases z : ovr hp0 Hc R q with
    | none => exact absurd z hq
    | some o =>
      obtain ⟨c, _⟩ := ovr_some z
      rcases c with c | c
      · exact absurd rfl c
      · exact eH.back c
  refine ⟨us, j1, ⟨qs, k1.mp fun _ _ k => k.mono e, k2, fun b hb => ⟨(k3 b hb).1, ex_some e (k3 b hb).2⟩, fun q hq => ?_⟩, j2, new a (by rw [h2]; simp)⟩
  obtain ⟨_, _, p, x, ws, _, _, k⟩ := all2_memR k1 q hq
  exact new q (by rw [k]; simp)
theorem All2.split2 {α β : Type} {P : α → β → Prop} : ∀ (as : List α) (bs : List β) {cs : List α} {ds : List β}, as.length = bs.length → All2 P (as ++ cs) (bs ++ ds) → All2 P as bs ∧ All2 P cs ds
  | [], [], _, _, _, h => ⟨.nil, h⟩
  | [], _ :: _, _, _, e, _ => by simp at e
  | _ :: _, [], _, _, e, _ => by simp at e
  | a :: as, b :: bs, _, _, e, h => by
    cases h with
    | cons k t =>
      obtain ⟨h1, h2⟩ := All2.split2 as bs (by simpa using e) t
      exact ⟨.cons k h1, h2⟩
/-! one of the lists changed -/
theorem All2.ixs {α β : Type} {P : α → β → Prop} : ∀ {as : List α} {bs : List β} (i : Nat) (b : β), All2 P as bs → bs[i]? = some b → ∃ a, as[i]? = some a ∧ P a b := fun i b h e => by
  induction h generalizing i with
  | nil => simp at e
  | cons k t ih =>
    cases i with
    | zero => cases e; exact ⟨_, rfl, k⟩
    | succ i => exact ih i (by simpa using e)
abbrev rIL : Rp (Int × List Int) := rT2 rI (rL rI)
theorem dn_step {F F' : Hp} {q : Addr} {o : HO} {vs : List V} {xs : List (Int × List Int)} {qs : List Addr} (hq : ∀ a, a ≠ q → F' a = F a) (hF : ∃ ws, F q = some (.lst ws)) (h : All2 (rIL F) vs xs) (k : All2 (IQ F) vs qs) (n : q ∉ qs) : All2 (rIL F') vs xs := by
  obtain ⟨us, hF⟩ := hF
  induction h generalizing qs with
  | nil => exact .nil
  | cons h1 _ ih =>
    cases k with
    | @cons _ q0 _ qs0 k1 k2 =>
      refine .cons ?_ (ih k2 fun z => n (List.Mem.tail _ z))
      obtain ⟨p, a, b, e1, e2, e3, e4⟩ := h1
      obtain ⟨p', x, ws, c1, c2, c3⟩ := k1
      rw [e1] at c1
      cases c1
      rw [e2] at c2
      cases c2
      obtain ⟨q', vs', d1, d2, d3⟩ := e4
      have d1 : q0 = q' := by injection d1
      rw [← d1] at d2
      exact ⟨p, _, .ref q0, e1, (hq p (fun z => by
          subst z
          rw [e2] at hF
          cases hF)).trans e2, e3, q0, vs', rfl, (hq q0 (fun z => n (by rw [← z]; exact List.Mem.head _))).trans d2, d3⟩
theorem dn_all {F : Hp} {q : Addr} {c : Int} : ∀ {vs : List V} {xs : List (Int × List Int)} {qs : List Addr} (i : Nat) (x : Int) (ys : List Int), All2 (rIL F) vs xs → All2 (IQ F) vs qs → qs.Nodup → qs[i]? = some q → xs[i]? = some (x, ys) →
    All2 (rIL (upd F q (.lst ((ys ++ [c]).map V.int)))) vs (xs.set i (x, ys ++ [c])) := fun {vs} {xs} {qs} i x ys h => by
  have hq : ∀ a, a ≠ q → upd F q (.lst ((ys ++ [c]).map V.int)) a = F a := fun a h => upd_ne h
  induction h generalizing qs i with
  | nil => intro _ _ _ e; simp at e
  | @cons v y vs' xs' h1 t ih =>
    intro k n e1 e2
    cases k with
    | @cons _ q0 _ qs' k1 k2 =>
      obtain ⟨n1, n2⟩ := List.nodup_cons.mp n
      obtain ⟨p, a, b, c1, c2, c3, c4⟩ := h1
      obtain ⟨p', x', ws, d1, d2, d3⟩ := k1
      rw [c1] at d1
      cases d1
      rw [c2] at d2
      cases d2
      cases i with
      | zero =>
        cases e1
        cases e2
        refine .cons ⟨p, _, _, c1, ?_, c3, ⟨_, _, rfl, upd_same, ?_⟩⟩ ?_
        · rw [upd_ne (fun z => by
            subst z
            rw [c2] at d3
            cases d3)]
          exact c2
        · exact iA (ys ++ [c])
        · exact dn_step (o := .lst []) hq ⟨ws, d3⟩ t k2 n1
      | succ i =>
        have e1' : qs'[i]? = some q := by simpa using e1
        have hm : q ∈ qs' := List.mem_of_getElem? e1'
        have hF : ∃ us, F q = some (.lst us) := by
          obtain ⟨_, _, _, _, us, _, _, z⟩ := all2_memR k2 q hm
          exact ⟨us, z⟩
        have hne : q ∉ [q0] := fun z => by
          rw [List.mem_singleton.mp z] at hm
          exact n1 hm
        have hh := dn_step (F := F) (o := .lst []) (vs := [v]) (xs := [y]) (qs := [q0]) hq hF (.cons ⟨p, _, _, c1, c2, c3, c4⟩ .nil) (.cons ⟨p, _, _, c1, c2, d3⟩ .nil) hne
        cases hh with
        | cons hh _ =>
          rw [List.set_cons_succ]
          exact .cons hh (ih i k2 n2 e1' (by simpa using e2))
theorem dn_keep {F Z : Hp} {q : Addr} {o : HO} {as : List Addr} {vs : List V} (hF : ∃ ws, F q = some (.lst ws)) (ho : ∃ us, o = .lst us) (h : DN F Z as vs) : DN (upd F q o) Z as vs := by
  obtain ⟨us, hF⟩ := hF
  obtain ⟨ws', rfl⟩ := ho
  obtain ⟨qs, k1, k2, k3, k4⟩ := h
  refine ⟨qs, k1.mp fun v q' ⟨p, x, ws, h1, h2, h3⟩ => ?_, k2, (fun a ha => ⟨(k3 a ha).1, fun z => (k3 a ha).2 (by
    unfold upd at z
    split at z
    · cases z
    · exact z)⟩), k4⟩
  have hp : p ≠ q := fun z => by
    subst z
    rw [h2] at hF
    cases hF
  by_cases z : q' = q
  · subst z
    exact ⟨p, x, _, h1, by rw [upd_ne hp]; exact h2, upd_same⟩
  · exact ⟨p, x, ws, h1, by rw [upd_ne hp]; exact h2, by rw [upd_ne z]; exact h3⟩
theorem ovr_upd {R0 Hb R : Hp} {q : Addr} {o o' : HO} (h : ovr R0 Hb R q = some o) : ovr R0 Hb (upd R q o') = upd (ovr R0 Hb R) q o' := by
  obtain ⟨c, _⟩ := ovr_some h
  funext a
  by_cases z : a = q
  · subst z
    rw [upd_same]
    exact ovr_mk c upd_same
  · rw [upd_ne z]
    unfold ovr
    rw [upd_ne z]
theorem Own.updR {R H : Hp} {L : List Cell} {q : Addr} {o o' : HO} (O : Own R H L) (h : R q = some o) : Own (upd R q o') (upd H q o') L := by
  have hne : ∀ c ∈ L, c.1 ≠ q := fun c hc z => by
    have := O.fr c hc
    rw [z, h] at this
    cases this
  refine ⟨fun x u e => ?_, fun c hc => ?_, fun c hc => ?_, O.nd⟩
  · by_cases z : x = q
    · subst z
      rw [upd_same] at e ⊢
      exact e
    · rw [upd_ne z] at e ⊢
      exact O.ex _ _ e
  · rw [upd_ne (hne c hc)]
    exact O.at_ c hc
  · rw [upd_ne (hne c hc)]
    exact O.fr c hc
/-- xs[i][1].append(c), the lists apart: those ahead (A) and behind (B) stay as they are -/
theorem pokeF {F Z : Hp} {as : List Addr} {A vs B : List V} {xa xs xb : List (Int × List Int)} {n : Nat} {c : Int} {e : Int × List Int} {w : V} {p q : Addr} (hA : All2 (rIL F) A xa) (hs : All2 (rIL F) vs xs) (hB : All2 (rIL F) B xb) (d : DN F Z as (A ++ (vs ++ B)))
    (hi : xs[n]? = some e) (e1 : vs[n]? = some (.ref p)) (e2 : F p = some (.tup [w, .ref q])) (hcell : F q = some (.lst (e.2.map V.int))) :
    All2 (rIL (upd F q (.lst ((e.2 ++ [c]).map V.int)))) A xa ∧ All2 (rIL (upd F q (.lst ((e.2 ++ [c]).map V.int)))) vs (xs.set n (e.1, e.2 ++ [c])) ∧ All2 (rIL (upd F q (.lst ((e.2 ++ [c]).map V.int)))) B xb ∧ DN (upd F q (.lst ((e.2 ++ [c]).map V.int))) Z as (A ++ (vs ++ B)) ∧ (∀ a ∈ as, a ≠ q) ∧ Z q = none := by
  obtain ⟨qs, k1, k2, k3, k4⟩ := d
  have hall : All2 (rIL F) (A ++ (vs ++ B)) (xa ++ (xs ++ xb)) := hA.app (hs.app hB)
  have lA := hA.len
  have ls := hs.len
  have hn : n < xs.length := (List.getElem?_eq_some_iff.mp hi).1
  have ev : (A ++ (vs ++ B))[A.length + n]? = some (.ref p) := by
    rw [List.getElem?_append_right (by omega), Nat.add_sub_cancel_left, List.getElem?_append_left (by omega)]
    exact e1
  have ex_ : (xa ++ (xs ++ xb))[A.length + n]? = some (e.1, e.2) := by
    rw [lA, List.getElem?_append_right (by omega), Nat.add_sub_cancel_left, List.getElem?_append_left hn]
    exact hi
  have hlen := k1.len
  have hlt : A.length + n < qs.length := by
    rw [← hlen]
    exact (List.getElem?_eq_some_iff.mp ev).1
  have eq0 : qs[A.length + n]? = some qs[A.length + n] := List.getElem?_eq_getElem hlt
  obtain ⟨v0, ev0, p0, x0, ws0, c1, c2, c3⟩ := All2.ixs _ _ k1 eq0
  rw [ev] at ev0
  cases ev0
  cases c1
  rw [e2] at c2
  injection c2 with c2
  injection c2 with c2
  injection c2 with c2 c4
  injection c4 with c4 _
  injection c4 with c4
  rw [← c4] at eq0 c3
  have hm : q ∈ qs := List.mem_of_getElem? eq0
  have hnew := dn_all (c := c) _ e.1 e.2 hall k1 k2 eq0 ex_
  have hset : (xa ++ (xs ++ xb)).set (A.length + n) (e.1, e.2 ++ [c]) = xa ++ (xs.set n (e.1, e.2 ++ [c]) ++ xb) := by
    rw [lA, List.set_append_right _ _ (by omega), Nat.add_sub_cancel_left, List.set_append_left _ _ hn]
  rw [hset] at hnew
  obtain ⟨hA', h1⟩ := All2.split2 A xa lA hnew
  obtain ⟨hs', hB'⟩ := All2.split2 vs (xs.set n (e.1, e.2 ++ [c])) (by simp; omega) h1
  exact ⟨hA', hs', hB', dn_keep ⟨_, hcell⟩ ⟨_, rfl⟩ ⟨qs, k1, k2, k3, k4⟩, fun a ha z => (k3 a ha).1 (by rw [z]; exact hm), k4 q hm⟩
/-- what is known behind such a change -/
def PkD (Z : Hp) (as : List Addr) (A B vs : List V) (xa xb xs' : List (Int × List Int)) (F F' : Hp) : Prop :=
  All2 (rIL F') A xa ∧ All2 (rIL F') vs xs' ∧ All2 (rIL F') B xb ∧ DN F' Z as (A ++ (vs ++ B)) ∧ ∀ a ∈ as, F' a = F a
theorem k_pokeD {R Z H : Hp} {L : List Cell} {as : List Addr} {A vs B : List V} {xa xs xb xs' : List (Int × List Int)} {n : Nat} {i c : Int} {e : Int × List Int} {l : List Int} {w : V} {p q : Addr} {Q : VK} (O : Own R H L) (eZ : Ex Z R) (hA : All2 (rIL R) A xa) (hs : All2 (rIL R) vs xs) (hB : All2 (rIL R) B xb) (d : DN R Z as (A ++ (vs ++ B)))
    (hn : ixN xs.length i = some n) (hi : xs[n]? = some e) (e1 : vs[n]? = some (.ref p)) (e2 : R p = some (.tup [w, .ref q])) (hcell : R q = some (.lst (e.2.map V.int))) (ha : appG e.2 c = some l) (hset : setG xs i (e.1, l) = some xs')
    (k : ∀ H' R', Own R' H' L → Ex Z R' → PkD Z as A B vs xa xb xs' R R' → Q .non H') : rAppend (.ref q) [.int c] H Q := by
  obtain ⟨hl, rfl⟩ := grdE ha
  obtain ⟨a1, a2, a3, a4, a5, a6⟩ := pokeF (c := c) hA hs hB d hi e1 e2 hcell
  have hx : xs' = xs.set n (e.1, e.2 ++ [c]) := by
    unfold setG at hset
    rw [hn] at hset
    cases hset
    rfl
  subst hx
  have O2 := O.updR (o' := .lst ((e.2 ++ [c]).map V.int)) hcell
  refine ⟨q, _, _, rfl, rfl, O.ex _ _ hcell, by rw [List.length_map]; exact hl, ?_⟩
  rw [show (e.2.map V.int) ++ [V.int c] = (e.2 ++ [c]).map V.int by simp]
  refine k _ _ O2 (fun a o h => ?_) ⟨a1, a2, a3, a4, fun a ha => upd_ne (a5 a ha)⟩
  rw [upd_ne (ne_of_none h a6)]
  exact eZ _ _ h
theorem k_pokeDO {R0 Hb R Z H : Hp} {L : List Cell} {as : List Addr} {A vs B : List V} {xa xs xb xs' : List (Int × List Int)} {n : Nat} {i c : Int} {e : Int × List Int} {l : List Int} {w : V} {p q : Addr} {Q : VK} (O : Own R H L) (eZ : Ex Z R) (hA : All2 (rIL (ovr R0 Hb R)) A xa) (hs : All2 (rIL (ovr R0 Hb R)) vs xs) (hB : All2 (rIL (ovr R0 Hb R)) B xb) (d : DN (ovr R0 Hb R) Z as (A ++ (vs ++ B)))
    (hn : ixN xs.length i = some n) (hi : xs[n]? = some e) (e1 : vs[n]? = some (.ref p)) (e2 : ovr R0 Hb R p = some (.tup [w, .ref q])) (hcell : ovr R0 Hb R q = some (.lst (e.2.map V.int))) (ha : appG e.2 c = some l) (hset : setG xs i (e.1, l) = some xs')
    (k : ∀ H' R', Own R' H' L → Ex Z R' → PkD Z as A B vs xa xb xs' (ovr R0 Hb R) (ovr R0 Hb R') → Q .non H') : rAppend (.ref q) [.int c] H Q := by
  obtain ⟨hl, rfl⟩ := grdE ha
  obtain ⟨a1, a2, a3, a4, a5, a6⟩ := pokeF (c := c) hA hs hB d hi e1 e2 hcell
  have hx : xs' = xs.set n (e.1, e.2 ++ [c]) := by
    unfold setG at hset
    rw [hn] at hset
    cases hset
    rfl
  subst hx
  have hR := ovr_ex _ _ hcell
  have O2 := O.updR (o' := .lst ((e.2 ++ [c]).map V.int)) hR
  refine ⟨q, _, _, rfl, rfl, O.ex _ _ hR, by rw [List.length_map]; exact hl, ?_⟩
  rw [show (e.2.map V.int) ++ [V.int c] = (e.2 ++ [c]).map V.int by simp]
  rw [← ovr_upd hcell] at a1 a2 a3 a4
  refine k _ _ O2 (fun a o h => ?_) ⟨a1, a2, a3, a4, fun a ha => ?_⟩
  · rw [upd_ne (ne_of_none h a6)]
    exact eZ _ _ h
  · rw [ovr_upd hcell]
    exact upd_ne (a5 a ha)
theorem k_ixAn {α : Type} {K : PySem.W.Frag} {P : V → α → Prop} {H : Hp} {a : Addr} {vs : List V} {xs : List α} {i : Int} {y : α} {Q : VK} (hs : SqL K H a vs) (ha : All2 P vs xs) (h : atI xs i = some y) (k : ∀ n v, ixN xs.length i = some n → xs[n]? = some y → vs[n]? = some v → P v y → Q v H) : rIxL K (.ref a) (.int i) H Q := by
  have h' := h
  unfold atI at h'
  cases hx : ixN xs.length i with
  | none => rw [hx] at h'; cases h'
  | some n =>
    rw [hx] at h'
    have hy : xs[n]? = some y := h'
    obtain ⟨v, e1, hv⟩ := ha.get hy
    refine ⟨a, vs, i, v, rfl, rfl, hs, ?_, k n v hx hy e1 hv⟩
    have hl := ha.len
    unfold atI
    rw [hl, hx]
    exact e1
/-- back to an older frame, one cell kept in hand -/
theorem Own.pick {Rs R H : Hp} {L : List Cell} {a : Addr} {o : HO} (O : Own R H L) (e : Ex Rs R) (hz : Rs a = none) (h : R a = some o) : Own Rs H ((a, o) :: L) := by
  refine ⟨fun x u k => O.ex _ _ (e _ _ k), fun c hc => ?_, fun c hc => ?_, List.nodup_cons.mpr ⟨fun z => ?_, O.nd⟩⟩
  · rcases List.mem_cons.mp hc with rfl | hc
    · exact O.ex _ _ h
    · exact O.at_ c hc
  · rcases List.mem_cons.mp hc with rfl | hc
    · exact hz
    · cases q : Rs c.1 with
      | none => rfl
      | some u =>
        have := e _ _ q
        rw [O.fr c hc] at this
        cases this
  · obtain ⟨c, hc, z⟩ := List.mem_map.mp z
    have := O.fr c hc
    rw [z] at this
    rw [h] at this
    cases this
theorem k_popD {α : Type} {P : V → α → Prop} {R H : Hp} {a : Addr} {vs : List V} {xs ys : List α} {y : α} {g : HO → List Cell} {Q : VK} (hl : H a = some (.lst vs)) (ha : All2 P vs xs) (hp : ∀ o', Own R (upd H a o') (g o')) (h : popL xs = some (y, ys)) (k : ∀ H' ws w, Own R H' (g (.lst ws)) → Q w H') : rPop (.ref a) [] H Q := by
  obtain ⟨e, rfl⟩ := popE h
  obtain ⟨w, w1, w2⟩ := ha.get e
  rw [← ha.len] at w1
  exact ⟨a, _, w, rfl, rfl, hl, w1, k _ _ w (hp _)⟩
end Bt

set_option linter.all false
set_option maxRecDepth 100000
set_option maxHeartbeats 1000000
/-! Texts. -/
namespace Bt
open PySem L2
def sg (c : Nat) : Str := ⟨#[c]⟩
/-- the signs of a text -/
def sgs (z : Str) : List Str := z.cps.toList.map sg
def ixS (z : Str) (i : Int) : Option Str := bnd (grd (z.length ≤ 16777216) (sgs z)) fun l => atI l i
def slS (z : Str) (lo hi : Option Int) : Option Str := grd (z.length ≤ 16777216) (cutS z lo hi)
def addS (x y : Str) : Option Str := grd (x.length + y.length ≤ 16777216) (x ++ y)
def lenS (z : Str) : Option Int := grd (z.length ≤ 16777216) (z.length : Int)
def joinS (a : Str) (ys : List Str) : Option Str := grd ((ys.map (·.length)).sum + ys.length * a.length ≤ 16777216) (Txt.join a ys)
section
variable {K : PySem.W.Frag} {σ : St} {H R : Hp} {L : List Cell} {Q : VK} {i : Int} {x y z : Str} {lo hi : Option Int} {p : Addr} {ys : List Str} {n : Int}
theorem atI_map {α β : Type} {f : α → β} {xs : List α} {i : Int} {v : β} (h : atI (xs.map f) i = some v) : ∃ u, atI xs i = some u ∧ v = f u := by
  unfold atI at h ⊢
  rw [List.length_map] at h
  cases e : ixN xs.length i with
  | none => rw [e] at h; cases h
  | some j =>
    rw [e] at h
    have h : (xs.map f)[j]? = some v := h
    rw [List.getElem?_map] at h
    cases e2 : xs[j]? with
    | none => rw [e2] at h; cases h
    | some u =>
      rw [e2] at h
      exact ⟨u, e2, (Option.some.inj h).symm⟩
theorem k_ixS (h : ixS z i = some y) (k : Q (.str y) H) : rIxS (.str z) (.int i) H Q := by
  obtain ⟨l, h1, h2⟩ := bndE h
  obtain ⟨c, rfl⟩ := grdE h1
  obtain ⟨u, e1, rfl⟩ := atI_map h2
  exact ⟨z, i, u, rfl, rfl, c, e1, k⟩
theorem k_slS (h : slS z lo hi = some y) (k : Q (.str y) H) : rSlS (.str z) lo hi H Q := by
  obtain ⟨c, rfl⟩ := grdE h
  exact ⟨z, rfl, c, k⟩
def rAddZ : R2 := fun x y H Q => ∃ i j, x = .str i ∧ y = .str j ∧ i.length + j.length ≤ sizeLine ∧ Q (.str (i ++ j)) H
theorem op_addZ {X : Cx} : OpR X (binaryOp .Add) rAddZ := op_add_str
theorem k_addS (h : addS x y = some z) (k : Q (.str z) H) : rAddZ (.str x) (.str y) H Q := by
  obtain ⟨c, rfl⟩ := grdE h
  exact ⟨x, y, rfl, rfl, c, k⟩
def rLenZ : List V → Hp → VK → Prop := fun xs H Q => ∃ z : Str, xs = [.str z] ∧ z.length ≤ sizeLine ∧ Q (.int (z.length : Int)) H
theorem call_lenZ {X : Cx} : CallR X (.builtin "len") rLenZ := call_len_str
theorem n_lenZ (h : lenS z = some n) (k : Q (.int n) H) : rLenZ [.str z] H Q := by
  obtain ⟨c, rfl⟩ := grdE h
  exact ⟨z, rfl, c, k⟩
theorem o_m1 {to te : TE} {r : V → List V → Hp → VK → Prop} (h : to σ H fun x H1 => (∃ a, x = .str a) ∧ te σ H1 fun y H2 => r x [y] H2 Q) : tM1 r to te σ H Q := h
def rJoin (K : PySem.W.Frag) : V → List V → Hp → VK → Prop := fun x xs H Q => ∃ a p, ∃ ys : List Str, x = .str a ∧ xs = [.ref p] ∧ (SqL K H p (ys.map V.str) ∨ SqT K H p (ys.map V.str)) ∧ (ys.map (·.length)).sum + ys.length * a.length ≤ 16777216 ∧ Q (.str (Txt.join a ys)) H
theorem mt_joinZ {X : Cx} : MtR X "str.join" (rJoin X.K) := mt_join
theorem k_join (hs : SqL K H p (ys.map V.str)) (h : joinS x ys = some z) (k : Q (.str z) H) : rJoin K (.str x) [.ref p] H Q := by
  obtain ⟨c, rfl⟩ := grdE h
  exact ⟨x, p, ys, rfl, rfl, .inl hs, c, k⟩
theorem o_is {te : TE} {Rr : It → Hp → Prop} (h : te σ H fun v H1 => ∃ x, v = .str x ∧ Rr (Its x) H1) : iStr te σ H Rr := h
theorem q_forS {j : Nat} {z : Str} {ts : TS} {n b k : St → Hp → Prop} {w : VK} (J : List Str → St → Hp → Prop) (h0 : J (sgs z) σ H)
    (hs : ∀ x r σ H, J (x :: r) σ H → ts (Ends.mk (J r) w n (J r)) (σ.set j (some (.str x))) H) (hd : ∀ σ H, J [] σ H → n σ H) :
    ∃ W : Nat → Nat → St → Hp → Prop, (∃ m, W 0 m σ H) ∧ ∀ i m σ H, W i m σ H →
      ((Its z).stop i H ∧ n σ H) ∨ ((Its z).go i H ∧ ∃ N : St → Hp → Prop, (∀ σ' H', N σ' H' → ∃ m', m' < m ∧ W (i + 1) m' σ' H') ∧ ∀ x H', (Its z).yld i H x H' → gName j x σ H' fun σ2 H2 => ts (Ends.mk N w n N) σ2 H2) := by
  have hz : (sgs z).length = z.cps.size := by unfold sgs; simp
  refine ⟨fun i m σ H => m = z.cps.size - i ∧ i ≤ z.cps.size ∧ J ((sgs z).drop i) σ H, ⟨z.cps.size, by simp, Nat.zero_le _, h0⟩, ?_⟩
  rintro i m σ H ⟨rfl, hi, hJ⟩
  by_cases hlt : i < z.cps.size
  · have e : z.cps[i]? = some z.cps[i] := Array.getElem?_eq_getElem hlt
    have e2 : (sgs z).drop i = sg z.cps[i] :: (sgs z).drop (i + 1) := by
      rw [List.drop_eq_getElem_cons (by omega)]
      congr 1
      unfold sgs
      simp
    rw [e2] at hJ
    refine .inr ⟨hlt, J ((sgs z).drop (i + 1)), fun σ' H' hJ' => ⟨_, by omega, rfl, hlt, hJ'⟩, fun v H' hv => ?_⟩
    obtain ⟨rfl, c, hc, rfl⟩ := hv
    rw [e] at hc
    cases hc
    exact hs _ _ σ H' hJ
  · have : i = z.cps.size := by omega
    subst this
    rw [List.drop_of_length_le (by omega)] at hJ
    exact .inl ⟨Nat.le_refl _, hd σ H hJ⟩
def inS (x y : Str) : Bool := !(Builtin.Str.occurrences y x 0 y.length 1).isEmpty
def rInZ : R2 := fun x y H Q => ∃ i j, x = .str i ∧ y = .str j ∧ Q (.bl (inS i j)) H
theorem op_inZ {X : Cx} : OpR X (compareOp .In) rInZ := op_in_str
def rNiZ : R2 := fun x y H Q => ∃ i j, x = .str i ∧ y = .str j ∧ Q (.bl (!inS i j)) H
theorem op_niZ {X : Cx} : OpR X (compareOp .NotIn) rNiZ := op_notin_str
def strI (i : Int) : Option Str := grd (i.natAbs.log2 < 1920) (Str.ofString (toString i))
def rStrZ : List V → Hp → VK → Prop := fun xs H Q => ∃ i : Int, xs = [.int i] ∧ i.natAbs.log2 < 1920 ∧ Q (.str (Str.ofString (toString i))) H
theorem call_strZ {X : Cx} : CallR X (.type "str") rStrZ := call_str_int
theorem n_strZ (h : strI i = some z) (k : Q (.str z) H) : rStrZ [.int i] H Q := by
  obtain ⟨c, rfl⟩ := grdE h
  exact ⟨i, rfl, c, k⟩
def intS (z : Str) : Option Int := bnd (grd (z.length ≤ 640) ()) fun _ => intText? z
def rIntZ : List V → Hp → VK → Prop := fun xs H Q => ∃ (a : Str) (n : Int), xs = [.str a] ∧ PySem.intText? a = some n ∧ a.length ≤ 640 ∧ Q (.int n) H
theorem call_intZ {X : Cx} : CallR X (.type "int") rIntZ := call_int_str
theorem n_intZ (h : intS z = some n) (k : Q (.int n) H) : rIntZ [.str z] H Q := by
  obtain ⟨u, h1, h2⟩ := bndE h
  obtain ⟨c, _⟩ := grdE h1
  exact ⟨z, n, rfl, h2, c, k⟩
def zfS (z : Str) (i : Int) : Option Str := grd (PySem.PadOk i = true) (Txt.zfill z i)
def rZf : V → List V → Hp → VK → Prop := fun x xs H Q => ∃ (a : Str) (i : Int), x = .str a ∧ xs = [.int i] ∧ PySem.PadOk i = true ∧ Q (.str (Txt.zfill a i)) H
theorem mt_zfZ {X : Cx} : MtR X "str.zfill" rZf := mt_zfill
theorem k_zf (h : zfS x i = some z) (k : Q (.str z) H) : rZf (.str x) [.int i] H Q := by
  obtain ⟨c, rfl⟩ := grdE h
  exact ⟨x, i, rfl, rfl, c, k⟩
/-! range with a step -/
def rng3 (i j c : Int) : Option (List Int) := grd (0 < c ∧ c < 1000000 ∧ -(2 ^ 60) ≤ i ∧ i < 2 ^ 60 ∧ -(2 ^ 60) ≤ j ∧ j < 2 ^ 60) ((List.range (Builtin.Range.rangeSize i j c).toNat).map fun (k : Nat) => i + (k : Int) * c)
theorem rng3E {i j c : Int} {xs : List Int} (h : rng3 i j c = some xs) : RgC i j c (Builtin.Range.rangeSize i j c).toNat ∧ ((List.range (Builtin.Range.rangeSize i j c).toNat).map fun (k : Nat) => i + (k : Int) * c) = xs := by
  obtain ⟨⟨c0, c1, i0, i1, j0, j1⟩, rfl⟩ := grdE h
  have hs : 0 ≤ Builtin.Range.rangeSize i j c ∧ Builtin.Range.rangeSize i j c ≤ 2 ^ 62 := by
    unfold Builtin.Range.rangeSize
    rw [if_pos c0]
    split
    · rename_i hlt
      have h1 := Int.ediv_nonneg (show 0 ≤ j - i - 1 by omega) (show 0 ≤ c by omega)
      have h2 := Int.ediv_le_self c (show 0 ≤ j - i - 1 by omega)
      omega
    · omega
  refine ⟨⟨by omega, by omega, ?_, by omega⟩, rfl⟩
  unfold Builtin.Range.small
  generalize Builtin.Range.rangeSize i j c = z at hs
  simp only [Builtin.Range.rangeFitsLong, Bool.and_eq_true, Bool.or_eq_true, decide_eq_true_eq, beq_iff_eq, if_pos (show c > 0 from c0)]
  omega
theorem o_ir3 {tr : TA} {Rr : It → Hp → Prop} (h : tr σ H fun vs H1 => ∃ (i j c : Int) (n : Nat), vs = [.int i, .int j, .int c] ∧ RgC i j c n ∧ Rr (Itc i c n) H1) : iRng3 tr σ H Rr := h
theorem q_forC {j : Nat} {lo c : Int} {n : Nat} {ts : TS} {nx : St → Hp → Prop} {w : VK} (J : List Int → St → Hp → Prop) (h0 : J ((List.range n).map fun (i : Nat) => lo + (i : Int) * c) σ H)
    (hs : ∀ x r σ H, J (x :: r) σ H → ts (Ends.mk (J r) w nx (J r)) (σ.set j (some (.int x))) H) (hd : ∀ σ H, J [] σ H → nx σ H) :
    ∃ W : Nat → Nat → St → Hp → Prop, (∃ m, W 0 m σ H) ∧ ∀ i m σ H, W i m σ H →
      ((Itc lo c n).stop i H ∧ nx σ H) ∨ ((Itc lo c n).go i H ∧ ∃ N : St → Hp → Prop, (∀ σ' H', N σ' H' → ∃ m', m' < m ∧ W (i + 1) m' σ' H') ∧ ∀ x H', (Itc lo c n).yld i H x H' → gName j x σ H' fun σ2 H2 => ts (Ends.mk N w nx N) σ2 H2) := by
  have hz : ((List.range n).map fun (i : Nat) => lo + (i : Int) * c).length = n := by simp
  generalize hL : ((List.range n).map fun (i : Nat) => lo + (i : Int) * c) = L at h0 hz
  refine ⟨fun i m σ H => m = n - i ∧ i ≤ n ∧ J (L.drop i) σ H, ⟨n, by simp, Nat.zero_le _, h0⟩, ?_⟩
  rintro i m σ H ⟨rfl, hi, hJ⟩
  by_cases hlt : i < n
  · have e2 : L.drop i = (lo + (i : Int) * c) :: L.drop (i + 1) := by
      rw [List.drop_eq_getElem_cons (by omega)]
      congr 1
      subst hL
      simp
    rw [e2] at hJ
    refine .inr ⟨hlt, J (L.drop (i + 1)), fun σ' H' hJ' => ⟨_, by omega, rfl, hlt, hJ'⟩, fun v H' hv => ?_⟩
    obtain ⟨rfl, rfl⟩ := hv
    exact hs _ _ σ H' hJ
  · have : i = n := by omega
    subst this
    rw [List.drop_of_length_le (by omega)] at hJ
    exact .inl ⟨Nat.le_refl _, hd σ H hJ⟩
theorem k_inZ (q : Q (.bl (inS x y)) H) : rInZ (.str x) (.str y) H Q := ⟨x, y, rfl, rfl, q⟩
theorem k_niZ (q : Q (.bl (!inS x y)) H) : rNiZ (.str x) (.str y) H Q := ⟨x, y, rfl, rfl, q⟩
theorem gv_str {K : PySem.W.Frag} {h : Heap} {mg : Str → Option Value} {x s : Str} {t : Tok} (X : K.In h) (G : h.Ns mainGlobals mg) (a : PySem.W.nsIn K mainGlobals x = some (some (.str s t))) : Gv mg x (.str s) := ⟨_, PySem.W.mg_of X G a, _, rfl⟩
/-! text.index(sign), found -/
def idxS (x y : Str) : Option Int := match Builtin.Str.occurrences x y 0 x.length 1 with
  | i :: _ => some ((i : Nat) : Int)
  | [] => none
def rIndexZ : V → List V → Hp → VK → Prop := fun x xs H Q => ∃ a b i rest, x = .str a ∧ xs = [.str b] ∧ Builtin.Str.occurrences a b 0 a.length 1 = i :: rest ∧ Q (.int (i : Nat)) H
theorem mt_indexZ {X : Cx} : MtR X "str.index" rIndexZ := mt_sindex
theorem k_indexZ (h : idxS x y = some n) (k : Q (.int n) H) : rIndexZ (.str x) [.str y] H Q := by
  unfold idxS at h
  split at h
  · rename_i i r e
    cases h
    exact ⟨x, y, i, r, rfl, rfl, e, k⟩
  · cases h
/-! text * number -/
def repZ (x : Str) (n : Int) : Str := if n < 1 then Str.empty else if (n == 1 || x.length == 0) = true then x else ⟨(List.replicate n.toNat x.cps).foldl (· ++ ·) #[]⟩
def mulZ (x : Str) (n : Int) : Option Str := grd (0 ≤ n ∧ n ≤ 1000000 ∧ x.length * n.toNat ≤ 16777216 ∧ (repZ x n).length ≤ 16777216) (repZ x n)
def rMulZ : R2 := fun x y H Q => ∃ a n, x = .str a ∧ y = .int n ∧ 0 ≤ n ∧ n ≤ 1000000 ∧ a.length * n.toNat ≤ 16777216 ∧ (repZ a n).length ≤ 16777216 ∧ Q (.str (repZ a n)) H
theorem op_mulZ {X : Cx} : OpR X (binaryOp .Mult) rMulZ := by
  intro pins s σ H x y v u Q I rx ry h
  obtain ⟨a, n, rfl, rfl, h0, h1, h2, h3, q⟩ := h
  obtain ⟨t, rfl⟩ := rx
  obtain ⟨t', rfl⟩ := ry
  refine PySem.P.mul_str ?_ ?_ ?_ ?_
  · rw [decide_eq_false (by omega), decide_eq_false (by omega)]
    rfl
  · intro g1 g2 g3
    have e : (2 ^ 63 - 1 : Int) / n * n ≤ 2 ^ 63 - 1 := Int.ediv_mul_le _ (by omega)
    have e2 : ((a.length * n.toNat : Nat) : Int) = (a.length : Int) * n := by
      rw [Int.natCast_mul, Int.toNat_of_nonneg h0]
    have e3 : ((2 ^ 63 - 1 : Int) / n + 1) * n ≤ (a.length : Int) * n := Int.mul_le_mul_of_nonneg_right (by omega) h0
    have e4 : (2 ^ 63 - 1 : Int) < ((2 ^ 63 - 1 : Int) / n + 1) * n := by
      have := Int.lt_ediv_add_one_mul_self (2 ^ 63 - 1) (show 0 < n by omega)
      exact this
    omega
  · intro _ _
    unfold Builtin.Str.tooLong
    rw [sizeLine_eq]
    exact decide_eq_false (by omega)
  · unfold repZ at h3 q
    by_cases g1 : n < 1
    · rw [if_pos g1] at h3 q ⊢
      exact ⟨by decide, ⟨.str Str.empty, H, I.tok _, ⟨_, rfl⟩, q⟩⟩
    · rw [if_neg g1] at h3 q ⊢
      by_cases g2 : (n == 1 || a.length == 0) = true
      · rw [if_pos g2] at h3 q ⊢
        exact ⟨.str a, H, I, ⟨_, rfl⟩, q⟩
      · rw [if_neg g2] at h3 q ⊢
        exact ⟨h3, ⟨.str _, H, I.tok _, ⟨_, rfl⟩, q⟩⟩
theorem k_mulZ (h : mulZ x n = some z) (k : Q (.str z) H) : rMulZ (.str x) (.int n) H Q := by
  obtain ⟨⟨c1, c2, c3, c4⟩, rfl⟩ := grdE h
  exact ⟨x, n, rfl, rfl, c1, c2, c3, c4, k⟩
end
/-! xs.pop(i) -/
section
variable {α : Type} {f : α → V} {R H : Hp} {L : List Cell} {a : Addr} {xs ys : List α} {y : α} {i : Int} {Q : VK} {P : V → α → Prop} {vs : List V}
def popA (xs : List α) (i : Int) : Option (α × List α) := bnd (grd (xs.length ≤ 1000000000) ()) fun _ => bnd (ixN xs.length i) fun k => bnd xs[k]? fun y => some (y, xs.eraseIdx k)
def rPopI : V → List V → Hp → VK → Prop := fun x vs H Q => ∃ l xs i k y, x = .ref l ∧ vs = [.int i] ∧ H l = some (.lst xs) ∧ -(2 ^ 63) ≤ i ∧ i < 2 ^ 63 ∧ seqIndex? i xs.length = some k ∧ xs[k]? = some y ∧ Q y (upd H l (.lst (xs.eraseIdx k)))
theorem mt_popI {X : Cx} : MtM X "list.pop" rPopI := mt_popAt
theorem erase_map (f : α → V) : ∀ (xs : List α) (k : Nat), (xs.map f).eraseIdx k = (xs.eraseIdx k).map f
  | [], _ => rfl
  | _ :: _, 0 => rfl
  | x :: r, k + 1 => by
    show f x :: (r.map f).eraseIdx k = f x :: (r.eraseIdx k).map f
    rw [erase_map f r k]
theorem k_popI {g : HO → List Cell} (hl : H a = some (.lst (xs.map f))) (hp : ∀ o', Own R (upd H a o') (g o')) (h : popA xs i = some (y, ys)) (k : ∀ H', Own R H' (g (.lst (ys.map f))) → Q (f y) H') : rPopI (.ref a) [.int i] H Q := by
  obtain ⟨_, h1, h2⟩ := bndE h
  obtain ⟨c, _⟩ := grdE h1
  obtain ⟨j, h3, h4⟩ := bndE h2
  obtain ⟨z, h5, h6⟩ := bndE h4
  cases h6
  obtain ⟨s1, s2, s3, s4⟩ := ixN_seq h3
  refine ⟨a, _, i, j, f y, rfl, rfl, hl, by omega, by omega, by rw [List.length_map]; exact s1, by rw [List.getElem?_map, h5]; rfl, ?_⟩
  rw [erase_map]
  exact k _ (hp _)
end
end Bt

set_option linter.all false
set_option maxRecDepth 100000
set_option maxHeartbeats 1000000
/-! Lists that are handed to be changed, and lists of one's own lists. -/
namespace Bt
open PySem L2
section
variable {α : Type} {f : α → V} {F R R0 Hb H : Hp} {a : Addr} {L C : List Cell} {xs : List α}
/-- a list of plain things -/
def oRow (f : α → V) : Ob (List α) := fun _ a L xs => L = [(a, HO.lst (xs.map f))]
theorem moRow : MonoO (oRow f) := fun _ _ _ _ _ _ h => h
theorem oRow_mk : oRow f F a [(a, HO.lst (xs.map f))] xs := rfl
/-- a list of data that is to stay -/
def oRowD (P : Rp α) : Ob (List α) := fun F a L xs => ∃ vs, L = [(a, HO.lst vs)] ∧ All2 (P F) vs xs
theorem moRowD {P : Rp α} (m : Mono P) : MonoO (oRowD P) := fun _ _ _ _ _ e ⟨vs, h1, h2⟩ => ⟨vs, h1, mA m e h2⟩
theorem Own.frzAll : ∀ (L : List Cell) {R : Hp}, Own R H (L ++ C) → Ex Hb R → ∃ R', Own R' H C ∧ Ex R R' ∧ ∀ c ∈ L, ovr R0 Hb R' c.1 = some c.2
  | [], R, O, _ => ⟨R, O, Ex.refl _, fun _ h => nomatch h⟩
  | (p, o) :: r, R, O, e => by
    obtain ⟨R1, O1, e1, h1⟩ := Own.frzO (R0 := R0) O e
    obtain ⟨R2, O2, e2, h2⟩ := Own.frzAll r O1 (e.trans e1)
    refine ⟨R2, O2, e1.trans e2, fun c hc => ?_⟩
    rcases List.mem_cons.mp hc with rfl | hc
    · exact ovr_mono e2 _ _ h1
    · exact h2 c hc
theorem all_map {P : Rp α} (hP : ∀ F x, P F (f x) x) (G : Hp) : ∀ ys : List α, All2 (P G) (ys.map f) ys
  | [] => .nil
  | y :: r => .cons (hP G y) (all_map hP G r)
theorem rows_all {P : Rp α} (hP : ∀ F x, P F (f x) x) {G : Hp} {as : List Addr} {Ls : List (List Cell)} {xss : List (List α)} (h : All3 (oRow f F) as Ls xss) (hg : ∀ c ∈ Ls.flatten, G c.1 = some c.2) : All2 (rL P G) (as.map V.ref) xss := by
  induction h with
  | nil => exact .nil
  | @cons b L1 ys as Ls xss h t ih =>
    refine .cons ⟨b, ys.map f, rfl, ?_, ?_⟩ (ih fun c hc => hg c (by rw [List.flatten_cons]; exact List.mem_append_right _ hc))
    · have := hg (b, .lst (ys.map f)) (by rw [List.flatten_cons, show L1 = _ from h]; exact List.Mem.head _)
      exact this
    · exact all_map hP G ys
/-- laid in the frame -/
theorem Own.frzRows {P : Rp α} {xss : List (List α)} (hP : ∀ F x, P F (f x) x) (O : Own R H (L ++ C)) (h : oLs (oRow f) F a L xss) (e : Ex Hb R) : ∃ R', Own R' H C ∧ Ex R R' ∧ rL (rL P) (ovr R0 Hb R') (.ref a) xss := by
  obtain ⟨as, Ls, hp, h3⟩ := h
  obtain ⟨R', O', e1, h1⟩ := Own.frzAll (R0 := R0) L O e
  have hm : ∀ c ∈ (a, HO.lst (as.map V.ref)) :: Ls.flatten, ovr R0 Hb R' c.1 = some c.2 := fun c hc => h1 c (hp.mem_iff.mpr hc)
  exact ⟨R', O', e1, a, as.map V.ref, rfl, hm _ (List.Mem.head _), rows_all hP h3 fun c hc => hm c (List.Mem.tail _ hc)⟩
end
/-! fields that may be None -/
section
variable {α : Type} {f : α → V} {P : Rp α} {F : Hp} {v : V} {m : Option α}
def ov (f : α → V) : Option α → V
  | none => .non
  | some x => f x
theorem ov_r (hP : ∀ F x, P F (f x) x) : rO P F (ov f m) m := by
  cases m with
  | none => rfl
  | some x => exact hP F x
theorem rO_ov (hP : ∀ F v x, P F v x → v = f x) (h : rO P F v m) : v = ov f m := by
  cases m with
  | none => exact h
  | some x => exact hP F v x h
end
/-! a tuple's slice -/
section
variable {K : PySem.W.Frag} {R H : Hp} {L : List Cell} {a : Addr} {xs : List V} {lo hi : Option Int} {Q : VK}
theorem k_cutT (O : Own R H L) (h : H a = some (.tup xs)) (c : ¬ (HT.sIx xs.length 0 lo = 0 ∧ HT.sIx xs.length xs.length hi = xs.length)) (k : ∀ p H', Own R H' ((p, .tup (cutV xs lo hi)) :: L) → Q (.ref p) H') : rSlT K (.ref a) lo hi H Q :=
  ⟨a, xs, rfl, SqT.of h, c, fun p hp => k p _ (O.new hp)⟩
end
/-! o.m(e, ..) in a try's suite -/
section
variable {X : Cx} {CX : CXT} {k : Nat} {f C : Addr} {fd : FuncData} {ps : List Str} {sp : Sp} {E : L2.St → XK} {m : Str} {pos apos : Pos} {e o : Expr} {es : List Expr} {ta : TE} {t : TA}
def tMethE (C : Addr) (m : Str) (sp : Sp) (E : L2.St → XK) (ta : TE) (t : TA) : TE := fun σ H Q => ta σ H fun x H1 => ∃ a dx fs, x = .ref a ∧ H1 a = some (.ins C dx fs) ∧ fs.lookup m = none ∧ t σ H1 fun vs H2 => sp (x :: vs) H2 Q (E σ)
theorem o_methE {σ : L2.St} {H : Hp} {Q : VK} (h : ta σ H fun x H1 => ∃ a dx fs, x = .ref a ∧ H1 a = some (.ins C dx fs) ∧ fs.lookup m = none ∧ t σ H1 fun vs H2 => sp (x :: vs) H2 Q (E σ)) : tMethE C m sp E ta t σ H Q := h
def tMakeE (C : Addr) (sp : Sp) (dvs : List V) (E : L2.St → XK) (t : TA) : TE := fun σ H Q => t σ H fun vs H1 => ∀ x dx, H1 x = none → H1 dx = none → dx ≠ x → sp (.ref x :: (vs ++ dvs)) (upd (upd H1 dx (.own x)) x (.ins C dx [])) (fun v H2 => v = .non ∧ Q (.ref x) H2) (E σ)
theorem o_makeE {dvs : List V} {σ : L2.St} {H : Hp} {Q : VK} (h : t σ H fun vs H1 => ∀ x dx, H1 x = none → H1 dx = none → dx ≠ x → sp (.ref x :: (vs ++ dvs)) (upd (upd H1 dx (.own x)) x (.ins C dx [])) (fun v H2 => v = .non ∧ Q (.ref x) H2) (E σ)) : tMakeE C sp dvs E t σ H Q := h
theorem pe_makeE {x : Str} {p : Pos} {dvs : List V} {ds : List Value} (M : Mk X.K C f) (F : FnOk X.prog X.w X.K X.mg X.base CX k f fd ps sp) (hr : Room (k + 1) X.A) (hg : Gl X x) (hm : X.mg x = some (.ref C)) (hb : Binds X.K fd ps ds) (hd : Vals dvs ds) (hx : ∀ σ, PassesAt CX X σ (E σ))
    (ha : PA X (e :: es) t) (hdb : (x == ("__debug__" : Str)) = false := by decide) (he : starEach (e :: es) X.env = (false, eval e X.env) :: starEach es X.env := by rfl) (hpl : (backTo pos (starEach es X.env)).any (·.1) = false := by rfl) :
    PE X (.Call (.Name x p) (e :: es) [] pos) (tMakeE C sp dvs E t) := by
  refine ⟨fun pins s σ H Q I h => ?_⟩
  refine wpAny_Call_Name_kw (ld_glob I hg hm ?_ hdb)
  refine PySem.W.callWith_K (h₀ := X.base) I.ok.mod.kin M.kp (thn (ha.run pos pins s σ H _ I h) fun us s1 ⟨vs, H1, I1, r, q⟩ => ⟨I1.kIn, ?_⟩) he hpl
  have hq := q (s1.heap.objs.size + 1) s1.heap.objs.size (I1.hok.fresh (Nat.le_succ _)) (I1.hok.fresh (Nat.le_refl _)) (Nat.ne_of_lt (Nat.lt_succ_self _))
  have I2 := Inv.made (C := C) I1
  have r2 : Vals (V.ref (s1.heap.objs.size + 1) :: (vs ++ dvs)) (Value.ref (s1.heap.objs.size + 1) :: (us ++ ds)) := .cons rfl (r.append hd)
  have hl : (Value.ref (s1.heap.objs.size + 1) :: us ++ ds).length = ps.length := by
    have e := r2.length
    rw [F.len _ _ _ _ hq] at e
    exact e.symm
  refine wpAny_call (make_map (f := f) I1.kIn M.makes M.init (beq_iff_eq.mp M.fn) (codeAny_mono (F.run _ X.stack _ _ ⟨Value.ref (s1.heap.objs.size + 1) :: us, []⟩ (Value.ref (s1.heap.objs.size + 1) :: (us ++ ds)) _ _ (E σ) (hr.make C us [])
    (I2.env0.make C us []) (hb _ (Value.ref (s1.heap.objs.size + 1) :: us) I2.kIn hl) r2 hq) fun r s' hq' => ?_))
  cases r with
  | error e => exact hx σ pins _ _ e s' I2 hq'
  | ok fl =>
    cases fl with
    | ret u =>
      obtain ⟨v, H', I3, rv, ev, q3⟩ := I2.after hq'
      subst ev
      exact ⟨rv, ⟨V.ref (s1.heap.objs.size + 1), H', I3, rfl, q3⟩⟩
    | next => exact False.elim hq'
    | brk => exact False.elim hq'
    | cont => exact False.elim hq'
theorem pe_methE {pl : Sem Bool} (he : PE X o ta) (c : Cls X.K C) (hm : Meth X.K C m f) (F : FnOk X.prog X.w X.K X.mg X.base CX k f fd ps sp) (hr : Room k X.A) (hb : Binds X.K fd ps []) (hx : ∀ σ, PassesAt CX X σ (E σ)) (ha : PA X (e :: es) t)
    (hst : starEach (e :: es) X.env = (false, eval e X.env) :: starEach es X.env := by rfl) (hpl : (backTo pos (starEach es X.env)).any (·.1) = false := by rfl)
    (ht : eval (.Call (.Attribute o m apos) (e :: es) [] pos) X.env = (do
      let ov ← eval o X.env
      standAt apos.atName
      let (f, first) ← holding [ov] (getMethod ov m pl)
      callWith pos f first (backTo pos (starEach (e :: es) X.env)) (backToKw pos (keywordEach [] X.env))) := by rfl) :
    PE X (.Call (.Attribute o m apos) (e :: es) [] pos) (tMethE C m sp E ta t) := by
  refine ⟨fun pins s σ H Q I h => ?_⟩
  refine PySem.W.methodCall_KW (pl := pl) (thn (he.run pins s σ H _ I h) fun u s1 ⟨x, H1, I1, rx, a, dx, fs, ex, ea, l, q⟩ => ?_) ht
  subst ex
  obtain rfl : u = Value.ref a := rx
  refine getmeth_ok I1 ea c hm l ?_
  refine PySem.W.callWith_K (first := [.ref a]) (h₀ := X.base) I.ok.mod.kin hm.kp (thn (ha.run pos pins s1 σ H1 _ I1 q) fun us s2 ⟨vs, H2, I2, r, q2⟩ => ⟨I2.kIn, ?_⟩) hst hpl
  exact run_fnS (us := .ref a :: us) (vs := .ref a :: vs) F hr hb (hx σ) I2 (.cons rfl r) q2
end
/-! a, b = x, y -/
theorem o_par {i j : Nat} {ta : TA} {n b k : L2.St → Hp → Prop} {w : VK} {σ : L2.St} {H : Hp} (h : ta σ H fun vs H1 => ∃ x y, vs = [x, y] ∧ n ((σ.set i (some x)).set j (some y)) H1) : tPar i j ta (Ends.mk n w b k) σ H := h
/-! a list of data that is to stay, repeated -/
section
variable {α : Type} {P : V → α → Prop} {vs : List V} {xs zs : List α} {k : Int} {R H : Hp} {L : List Cell} {a : Addr} {Q : VK}
theorem All2.rep (h : All2 P vs xs) : ∀ n : Nat, All2 P (List.replicate n vs).flatten (List.replicate n xs).flatten
  | 0 => .nil
  | n + 1 => by
    rw [List.replicate_succ, List.replicate_succ, List.flatten_cons, List.flatten_cons]
    exact h.app (All2.rep h n)
theorem k_repA (O : Own R H L) (h1 : H a = some (.lst vs)) (ha : All2 P vs xs) (h : repG xs k = some zs) (q : ∀ p H' ws, Own R H' ((p, .lst ws) :: L) → All2 P ws zs → Q (.ref p) H') : rRep (.ref a) (.int k) H Q := by
  obtain ⟨⟨c1, c2, c3⟩, rfl⟩ := grdE h
  exact ⟨a, k, vs, rfl, rfl, h1, c1, c2, by rw [ha.len]; exact c3, fun p hp => q p _ _ (O.new hp) (ha.rep _)⟩
end
/-! a list of data, each seen as one of several kinds -/
theorem All2.mapR {α β : Type} {P : V → α → Prop} {P' : V → β → Prop} {g : α → β} (h : ∀ v x, P v x → P' v (g x)) {vs : List V} {xs : List α} (k : All2 P vs xs) : All2 P' vs (xs.map g) := by
  induction k with
  | nil => exact .nil
  | cons a _ ih => exact .cons (h _ _ a) ih
theorem rL_map {α β : Type} {P : Rp α} {P' : Rp β} {F : Hp} {g : α → β} (h : ∀ F v x, P F v x → P' F v (g x)) {v : V} {xs : List α} (k : rL P F v xs) : rL P' F v (xs.map g) := by
  obtain ⟨p, vs, e, h1, h2⟩ := k
  exact ⟨p, vs, e, h1, h2.mapR (h F)⟩
/-! a and b, where b changes what is read no more -/
theorem x_andVJ2 {c d e : Bool} {tt uu : TE} {σ : L2.St} {H : Hp} {Q : VK} (J J2 : Hp → Prop) (hJ : ∀ H', J H' → J2 H') (h1 : ∀ Q1 : VK, (∀ H', J H' → Q1 (.bl c) H') → tt σ H Q1) (h2 : c = true → e = d ∧ ∀ H', J H' → ∀ Q2 : VK, (∀ H'', J2 H'' → Q2 (.bl e) H'') → uu σ H' Q2)
    (h3 : c = false → false = d) (k : ∀ H', J2 H' → Q (.bl d) H') : tAndV tt uu σ H Q := by
  refine h1 _ fun H' O' => ⟨_, rfl, ?_⟩
  cases c with
  | true =>
    obtain ⟨e1, g2⟩ := h2 rfl
    subst e1
    exact g2 H' O' Q k
  | false =>
    rw [← h3 rfl] at k
    exact k H' (hJ H' O')
end Bt

set_option linter.all false
set_option maxRecDepth 100000
set_option maxHeartbeats 1000000
/-! sorted, len(set(..)), the order of (int, list). -/
namespace Bt
open PySem L2
/-! len(set(xs)) -/
def setL (xs : List Int) : List Int := xs.foldl PyProof.Rows.step_dedup []
theorem firstMet_all : ∀ (xs : List Int), PyProof.Rows.firstMet (fun j => xs.getD j 0) xs.length = setL xs := fun xs => by
  unfold PyProof.Rows.firstMet setL
  congr 1
  refine List.ext_getElem? fun i => ?_
  rw [List.getElem?_map]
  by_cases h : i < xs.length
  · rw [List.getElem?_range h, List.getElem?_eq_getElem h]
    simp [List.getD_eq_getElem?_getD, h]
  · rw [List.getElem?_eq_none (by simpa using h), List.getElem?_eq_none (by simpa using h)]
    rfl
def lenSet (xs : List Int) : Option Int := grd (xs.length ≤ 4000) ((setL xs).length : Int)
open PySem.Spec PyProof.Rows RZ in
def rLset (K : PySem.W.Frag) (x : V) (H1 : Hp) (Q : VK) : Prop := ∃ (l : Addr) (ns : List Int), x = .ref l ∧ SqL K H1 l (ns.map V.int) ∧ ns.length ≤ 4000 ∧ Q (.int ((setL ns).length : Nat)) H1
def tLenSetN (K : PySem.W.Frag) (ta : TE) : TE := fun σ H Q => ta σ H fun x H1 => rLset K x H1 Q
open PySem.Spec PyProof.Rows RZ in
theorem pe_lenSetN {X : Cx} {a : Expr} {ta : TE} {p p2 q pos : Pos} (hg : Gl X "len") (hm : X.mg "len" = none) (hg2 : Gl X "set") (hm2 : X.mg "set" = none) (ha : PE X a ta) (hc : X.calm = true := by rfl)
    (na : starEach [a] X.env = (false, eval a X.env) :: starEach [] X.env := by rfl) : PE X (.Call (.Name "len" p) [.Call (.Name "set" p2) [a] [] q] [] pos) (tLenSetN X.K ta) := by
  refine ⟨fun pins s σ H Q I h => ?_⟩
  refine PyProof.Rows.Call_ (ld_blt I hg hm boot_len ?_)
  refine PyProof.Rows.callWith_builtin1 (PyProof.Rows.args_cons ?_ rfl) rfl rfl
  refine PyProof.Rows.Call_ (ld_blt I hg2 hm2 boot_set ?_)
  refine PyProof.Rows.callWith_type1 (PyProof.Rows.args_cons (thn (ha.run pins s σ H _ I h) fun v s1 ⟨x, H1, I1, r1, q1⟩ => PyProof.Rows.args_nil ?_) na) na rfl
  obtain ⟨l, ns, rfl, hq, hl, q1⟩ := q1
  cases r1
  obtain ⟨its, r, pl, hz⟩ := I1.list hq
  have hlen : its.toArray.size = ns.length := by rw [List.size_toArray, ← r.length, List.length_map]
  refine call_set_list (I1.ok.hd hc) pl.isList (by simpa using intsAre_vals r) (by rw [hlen]; unfold scanBound; omega) fun h' tk hS hk => ?_
  refine PyProof.Rows.args_nil ?_
  rw [hlen, firstMet_all] at hS
  have hsz : (setL ns).length ≤ ns.length := by rw [← firstMet_all]; exact PyProof.Rows.firstMet_length_le _ _
  obtain ⟨o, es, ep, t, ho, hex, hd, _, _, _, hf, hn⟩ := hS
  have I2 : Inv X pins σ H1 { s1 with heap := h', toks := tk } := I1.kept fun b o e => hk b o (Heap.lt_size e) e
  exact call_len_set ho hex hd hf (by rw [hn] <;> omega) ⟨.int (setL ns).length, H1, I2.tok _, ⟨_, by rw [hn]⟩, q1⟩
section
variable {K : PySem.W.Frag} {H R : Hp} {L : List Cell} {Q : VK} {a : Addr} {xs : List Int} {n : Int} {ta : TE} {σ : L2.St}
theorem o_lset (h : ta σ H fun x H1 => rLset K x H1 Q) : tLenSetN K ta σ H Q := h
theorem k_lset (hs : SqL K H a (xs.map V.int)) (h : lenSet xs = some n) (q : Q (.int n) H) : rLset K (.ref a) H Q := by
  obtain ⟨c, rfl⟩ := grdE h
  exact ⟨a, xs, rfl, hs, c, q⟩
end
/-! sorted(xs) -/
def insI (x : Int) : List Int → List Int
  | [] => [x]
  | y :: r => if x ≤ y then x :: y :: r else y :: insI x r
def srtI : List Int → List Int
  | [] => []
  | x :: r => insI x (srtI r)
theorem insI_perm (x : Int) : ∀ r : List Int, (insI x r).Perm (x :: r)
  | [] => List.Perm.refl _
  | y :: r => by
    unfold insI
    split
    · exact List.Perm.refl _
    · exact ((insI_perm x r).cons y).trans (List.Perm.swap x y r)
theorem srtI_perm : ∀ r : List Int, (srtI r).Perm r
  | [] => List.Perm.refl _
  | x :: r => (insI_perm x _).trans ((srtI_perm r).cons x)
theorem insI_srt (x : Int) : ∀ {r : List Int}, r.Pairwise (· ≤ ·) → (insI x r).Pairwise (· ≤ ·)
  | [], _ => by simp [insI]
  | y :: r, h => by
    obtain ⟨h1, h2⟩ := List.pairwise_cons.mp h
    unfold insI
    split
    · rename_i c
      refine List.pairwise_cons.mpr ⟨fun z hz => ?_, h⟩
      rcases List.mem_cons.mp hz with rfl | hz
      · exact c
      · exact Int.le_trans c (h1 z hz)
    · rename_i c
      refine List.pairwise_cons.mpr ⟨fun z hz => ?_, insI_srt x h2⟩
      rcases List.mem_cons.mp ((insI_perm x r).mem_iff.mp hz) with rfl | hz
      · omega
      · exact h1 z hz
theorem srtI_srt : ∀ r : List Int, (srtI r).Pairwise (· ≤ ·)
  | [] => List.Pairwise.nil
  | x :: r => insI_srt x (srtI_srt r)
theorem srt_uniq : ∀ {xs ys : List Int}, xs.Perm ys → xs.Pairwise (· ≤ ·) → ys.Pairwise (· ≤ ·) → xs = ys
  | [], ys, p, _, _ => (List.nil_perm.mp p).symm
  | x :: xs, [], p, _, _ => absurd (List.perm_nil.mp p) (by simp)
  | x :: xs, y :: ys, p, hx, hy => by
    obtain ⟨hx1, hx2⟩ := List.pairwise_cons.mp hx
    obtain ⟨hy1, hy2⟩ := List.pairwise_cons.mp hy
    have e : x = y := by
      have m1 : x ∈ y :: ys := p.mem_iff.mp (List.Mem.head _)
      have m2 : y ∈ x :: xs := p.mem_iff.mpr (List.Mem.head _)
      rcases List.mem_cons.mp m1 with e | m1
      · exact e
      · rcases List.mem_cons.mp m2 with e | m2
        · exact e.symm
        · have := hx1 y m2
          have := hy1 x m1
          omega
    subst e
    rw [srt_uniq (List.Perm.cons_inv p) hx2 hy2]
section
variable {K : PySem.W.Frag} {H R : Hp} {L : List Cell} {Q : VK} {a : Addr} {xs : List Int}
theorem k_sorted (O : Own R H L) (hs : SqL K H a (xs.map V.int)) (k : ∀ p H', Own R H' ((p, .lst ((srtI xs).map V.int)) :: L) → Q (.ref p) H') : rSortedI K [.ref a] H Q :=
  ⟨a, xs, rfl, hs, fun ns' p h1 h2 hp => by
    have e : ns' = srtI xs := srt_uniq (h1.trans (srtI_perm xs).symm) h2 (srtI_srt xs)
    subst e
    exact k p _ (O.new hp)⟩
end
/-! (int, list of ints) >= such -/
def ltIs : List Int → List Int → Bool
  | [], [] => false
  | [], _ :: _ => true
  | _ :: _, [] => false
  | x :: xs, y :: ys => if x = y then ltIs xs ys else decide (x < y)
def ltIL (x y : Int × List Int) : Bool := if x.1 = y.1 then ltIs x.2 y.2 else decide (x.1 < y.1)
open PySem.W PySem.SeqAt in
theorem alike_ints : ∀ xs ys : List Int, alikeAll (xs.map PyData.int) (ys.map PyData.int) = true
  | [], _ => by simp [alikeAll]
  | _ :: _, [] => by simp [alikeAll]
  | x :: xs, y :: ys => by simp only [List.map_cons, alikeAll, alike, alike_ints xs ys, Bool.and_self]
open PySem.W PySem.SeqAt in
theorem lt_ints : ∀ xs ys : List Int, dataLt (.list (xs.map PyData.int)) (.list (ys.map PyData.int)) = ltIs xs ys
  | [], [] => by rw [dataLt_list]; rfl
  | [], y :: ys => by rw [dataLt_list]; rfl
  | x :: xs, [] => by rw [dataLt_list]; rfl
  | x :: xs, y :: ys => by
    have ih := lt_ints xs ys
    rw [dataLt_list] at ih ⊢
    rw [List.map_cons, List.map_cons]
    by_cases h : x = y
    · rw [dataLt_all_yes (by simp [alike]) (by simp [PyData.eqv, h]), ih]
      show _ = if x = y then _ else _
      rw [if_pos h]
    · rw [dataLt_all_no (by simp [alike]) (by simpa [PyData.eqv] using h), dataLt_int]
      show _ = if x = y then _ else _
      rw [if_neg h]
open PySem.W PySem.SeqAt in
theorem lt_il (x y : Int × List Int) : dataLt ((deT2 deI (deL deI)).d x) ((deT2 deI (deL deI)).d y) = ltIL x y := by
  obtain ⟨i, xs⟩ := x
  obtain ⟨j, ys⟩ := y
  show dataLt (.tuple [.int i, .list (xs.map PyData.int)]) (.tuple [.int j, .list (ys.map PyData.int)]) = _
  rw [dataLt_tuple]
  show _ = if i = j then ltIs xs ys else decide (i < j)
  by_cases h : i = j
  · rw [dataLt_all_yes (by simp [alike]) (by simp [PyData.eqv, h]), if_pos h]
    by_cases h2 : xs = ys
    · subst h2
      rw [dataLt_all_yes (by simp only [alike]; exact alike_ints _ _) (by simp only [PyData.eqv]; rw [show PyData.eqvAll (xs.map PyData.int) (xs.map PyData.int) = decide (xs = xs) from eq_all deI xs xs]; simp)]
      have e : ltIs xs xs = false := by
        induction xs with
        | nil => rfl
        | cons a r ih => show (if a = a then ltIs r r else _) = false; rw [if_pos rfl]; exact ih
      rw [e]
      rfl
    · rw [dataLt_all_no (by simp only [alike]; exact alike_ints _ _) (by simp only [PyData.eqv]; rw [show PyData.eqvAll (xs.map PyData.int) (ys.map PyData.int) = decide (xs = ys) from eq_all deI xs ys]; simpa using h2), lt_ints]
  · rw [dataLt_all_no (by simp [alike]) (by simpa [PyData.eqv] using h), dataLt_int, if_neg h]
def rGeIL (K : PySem.W.Frag) : R2 := fun x y H Q => ∃ d e : Int × List Int, rT2 rI (rL rI) H x d ∧ rT2 rI (rL rI) H y e ∧ Q (.bl (!ltIL d e)) H
theorem k_geIL {K : PySem.W.Frag} {H : Hp} {Q : VK} {x y : V} {d e : Int × List Int} (h1 : rT2 rI (rL rI) H x d) (h2 : rT2 rI (rL rI) H y e) (q : Q (.bl (!ltIL d e)) H) : rGeIL K x y H Q := ⟨d, e, h1, h2, q⟩
open PySem.W PySem.SeqAt in
theorem op_geIL {X : Cx} (hu : X.A.units + 65 < cLine) : OpR X (compareOp .GtE) (rGeIL X.K) := by
  intro pins s σ H x y v u Q I rx ry h
  obtain ⟨d, e, h1, h2, q⟩ := h
  obtain ⟨as, r1⟩ := Dp.reads I _ x v ((deT2 deI (deL deI)).dp X.K H x d h1) rx
  obtain ⟨bs, r2⟩ := Dp.reads I _ y u ((deT2 deI (deL deI)).dp X.K H y e h2) ry
  have hd := (deT2 deI (deL deI)).dep d
  have hn : (deT2 deI (deL deI)).n = 2 := rfl
  rw [hn] at hd
  refine PySem.W.ge_data r1 r2 ?_ ?_ ?_ ⟨.bl _, H, I, rfl, ?_⟩
  · obtain ⟨i, xs⟩ := d
    obtain ⟨j, ys⟩ := e
    show alike (.tuple [.int i, .list (xs.map PyData.int)]) (.tuple [.int j, .list (ys.map PyData.int)]) = true
    simp only [alike, alikeAll, alike_ints, Bool.and_self]
  · obtain ⟨i, xs⟩ := d
    intro z
    cases z
  · omega
  · rw [lt_il]
    exact q
end Bt

set_option linter.all false
set_option maxRecDepth 100000
set_option maxHeartbeats 1000000
/-! Posts: a tuple that holds an object, the base's own __init__, constants that are tuples, five things in a tuple. -/
namespace Bt
open PySem L2
section
variable {α β : Type} {f : α → V} {o : Ob β}
/-- (a plain thing, an object) -/
def oTS (f : α → V) (o : Ob β) : Ob (α × β) := fun F a L x => ∃ b Lb, L = (a, HO.tup [f x.1, .ref b]) :: Lb ∧ o F b Lb x.2
theorem moTS (m : MonoO o) : MonoO (oTS f o) := fun _ _ _ _ _ e ⟨b, Lb, h1, h2⟩ => ⟨b, Lb, h1, m _ _ _ _ _ e h2⟩
end
/-- a method, as it is found in its class -/
structure MF (K : PySem.W.Frag) (C q : Addr) (nm qual : Str) (st : Stmt) : Prop where
  at_ : PySem.W.findIn K (.ref C) nm = some (some (.ref q))
  fi : PySem.W.isFn K (.ref q) = true
  lo : ∃ oc od kV doc pm an cdv ct osl, K.lookup q = some ⟨oc, od, .func (PySem.W.fnOf nm qual (defArgs st) (defBody st) (defScope st) .none kV doc pm an cdv ct), osl⟩ ∧ PySem.W.codeIn K cdv qual = true
  ik : PySem.W.keepIn K (.ref q) = true
theorem MF.fn {K : PySem.W.Frag} {C q : Addr} {nm qual : Str} {st : Stmt} (m : MF K C q nm qual st) : ∃ fd, Fun K nm qual st q fd := by
  obtain ⟨oc, od, kV, doc, pm, an, cdv, ct, osl, h1, h2⟩ := m.lo
  exact ⟨_, fun_mk h1 h2 m.ik⟩
/-- a class as the base of another one: its __init__ read off the class -/
structure ClB (K : PySem.W.Frag) (R f : Addr) : Prop where
  ga : PySem.W.specialIn K (.ref R) "__getattribute__" = some (some (.builtin "type.__getattribute__"))
  rd : PySem.W.readsIn K R (.type "type") = true
  at_ : PySem.W.findCls K (.ref R) (.type "type") "__init__" = some (.val (.ref f))
  kp : PySem.W.keepIn K (.ref f) = true
section
variable {X : Cx} {CX : CXT} {k : Nat} {f R : Addr} {fd : FuncData} {ps : List Str} {sp : Sp} {E : XK} {x : Str} {p1 p2 pos : Pos} {e : Expr} {es : List Expr} {ta : TA} {pl : Sem Bool}
theorem pe_base (hm : X.mg x = some (.ref R)) (B : ClB X.K R f) (F : FnOk X.prog X.w X.K X.mg X.base CX k f fd ps sp) (hr : Room k X.A) (hb : Binds X.K fd ps []) (hx : Passes CX X E) (ha : PA X (e :: es) ta) (hg : Gl X x := by rfl)
    (hc : eval (.Call (.Attribute (.Name x p1) "__init__" p2) (e :: es) [] pos) X.env = (do
      let ov ← eval (.Name x p1) X.env
      standAt p2.atName
      let (f, first) ← holding [ov] (getMethod ov "__init__" pl)
      callWith pos f first (backTo pos (starEach (e :: es) X.env)) (backToKw pos (keywordEach [] X.env))) := by rfl)
    (hdb : (x == ("__debug__" : Str)) = false := by decide)
    (he : starEach (e :: es) X.env = (false, eval e X.env) :: starEach es X.env := by rfl) (hpl : (backTo pos (starEach es X.env)).any (·.1) = false := by rfl) :
    PE X (.Call (.Attribute (.Name x p1) "__init__" p2) (e :: es) [] pos) (tCall sp [] E ta) := by
  refine ⟨fun pins s σ H Q I h => ?_⟩
  refine PySem.W.methodCall_KW (ld_glob I hg hm ?_ hdb) hc
  refine PySem.W.method_cls I.kIn B.ga (PySem.W.cls_value I.kIn B.rd B.at_ rfl ?_)
  refine PySem.W.callWith_K (h₀ := X.base) I.ok.mod.kin B.kp (thn (ha.run pos pins _ σ H _ (I.tok _) h) fun us s1 ⟨vs, H1, I1, r, q⟩ => ⟨I1.kIn, ?_⟩) he hpl
  exact run_fn (us := us) (vs := vs) F hr hb .nil hx I1 r q
end
/-! a constant of the module that is a tuple of whole numbers -/
theorem gv_tup {K : PySem.W.Frag} {h : Heap} {mg : Str → Option Value} {x : Str} {A : Addr} {od : Option Addr} {its : Array Value} {n : Nat} {sl : Array (Option Value)} {ns : List Int} (X : K.In h) (G : h.Ns mainGlobals mg)
    (a : PySem.W.nsIn K mainGlobals x = some (some (.ref A))) (l : K.lookup A = some ⟨.type "tuple", od, .seq its n, sl⟩) (s : its.size ≤ sizeLine) (v : Vals (ns.map V.int) its.toList) : ∃ a, Gv mg x (.ref a) ∧ ∀ H, SqT K H a (ns.map V.int) :=
  ⟨A, ⟨_, PySem.W.mg_of X G a, rfl⟩, fun _ => .inr ⟨_, its, n, l, rfl, rfl, s, v⟩⟩
/-! tests with two sides, the second of which changes an object -/
section
variable {σ : L2.St} {H : Hp} {Q : VK} {c d : Bool} {QB : Bool → Hp → Prop}
theorem x_andJ3 {tt uu : TT} (J J2 : Hp → Prop) (h1 : ∀ Q1 : Bool → Hp → Prop, (∀ H', J H' → Q1 c H') → tt σ H Q1) (h2 : c = true → ∀ H', J H' → ∀ Q2 : Bool → Hp → Prop, (∀ H'', J2 H'' → Q2 d H'') → uu σ H' Q2)
    (h3 : c = false → false = d ∧ ∀ H', J H' → J2 H') (k : ∀ H', J2 H' → QB d H') : tAnd tt uu σ H QB := by
  refine h1 _ fun H' O' => ?_
  cases c with
  | true => exact h2 rfl H' O' QB k
  | false =>
    obtain ⟨e, g⟩ := h3 rfl
    rw [← e] at k
    exact k H' (g H' O')
theorem x_orJ3 {tt uu : TT} (J J2 : Hp → Prop) (h1 : ∀ Q1 : Bool → Hp → Prop, (∀ H', J H' → Q1 c H') → tt σ H Q1) (h2 : c = false → ∀ H', J H' → ∀ Q2 : Bool → Hp → Prop, (∀ H'', J2 H'' → Q2 d H'') → uu σ H' Q2)
    (h3 : c = true → true = d ∧ ∀ H', J H' → J2 H') (k : ∀ H', J2 H' → QB d H') : tOr tt uu σ H QB := by
  refine h1 _ fun H' O' => ?_
  cases c with
  | false => exact h2 rfl H' O' QB k
  | true =>
    obtain ⟨e, g⟩ := h3 rfl
    rw [← e] at k
    exact k H' (g H' O')
theorem x_andVJ3 {tt uu : TE} (J J2 : Hp → Prop) (h1 : ∀ Q1 : VK, (∀ H', J H' → Q1 (.bl c) H') → tt σ H Q1) (h2 : c = true → ∀ H', J H' → ∀ Q2 : VK, (∀ H'', J2 H'' → Q2 (.bl d) H'') → uu σ H' Q2)
    (h3 : c = false → false = d ∧ ∀ H', J H' → J2 H') (k : ∀ H', J2 H' → Q (.bl d) H') : tAndV tt uu σ H Q := by
  refine h1 _ fun H' O' => ⟨_, rfl, ?_⟩
  cases c with
  | true => exact h2 rfl H' O' Q k
  | false =>
    obtain ⟨e, g⟩ := h3 rfl
    rw [← e] at k
    exact k H' (g H' O')
theorem x_orVJ3 {tt uu : TE} (J J2 : Hp → Prop) (h1 : ∀ Q1 : VK, (∀ H', J H' → Q1 (.bl c) H') → tt σ H Q1) (h2 : c = false → ∀ H', J H' → ∀ Q2 : VK, (∀ H'', J2 H'' → Q2 (.bl d) H'') → uu σ H' Q2)
    (h3 : c = true → true = d ∧ ∀ H', J H' → J2 H') (k : ∀ H', J2 H' → Q (.bl d) H') : tOrV tt uu σ H Q := by
  refine h1 _ fun H' O' => ⟨_, rfl, ?_⟩
  cases c with
  | false => exact h2 rfl H' O' Q k
  | true =>
    obtain ⟨e, g⟩ := h3 rfl
    rw [← e] at k
    exact k H' (g H' O')
end
/-- out of a loop by break: the loop is over -/
theorem brkJ {α S R : Type} {f : α → S → Option (Fl S R)} {go : S → Option (Fl S R)} {s : S} {out : Fl S R} (h : contF go (.bk s) = some out) : loopF f [] s = some out := h
/-! five things -/
def rT5 {α β γ δ ε : Type} (P : Rp α) (Q : Rp β) (R : Rp γ) (S : Rp δ) (T : Rp ε) : Rp (α × β × γ × δ × ε) := fun F v x => ∃ p a b c d e, v = .ref p ∧ F p = some (.tup [a, b, c, d, e]) ∧ P F a x.1 ∧ Q F b x.2.1 ∧ R F c x.2.2.1 ∧ S F d x.2.2.2.1 ∧ T F e x.2.2.2.2
section
variable {α β γ δ ε : Type} {P : Rp α} {Q : Rp β} {R : Rp γ} {S : Rp δ} {T : Rp ε}
theorem mT5 (m : Mono P) (n : Mono Q) (o : Mono R) (q : Mono S) (t : Mono T) : Mono (rT5 P Q R S T) := fun F F' v x e ⟨p, a, b, c, d, z, h1, h2, h3, h4, h5, h6, h7⟩ => ⟨p, a, b, c, d, z, h1, e _ _ h2, m _ _ _ _ e h3, n _ _ _ _ e h4, o _ _ _ _ e h5, q _ _ _ _ e h6, t _ _ _ _ e h7⟩
theorem rT5_at {F : Hp} {a : Addr} {x : α × β × γ × δ × ε} (h : rT5 P Q R S T F (.ref a) x) : ∃ u v w y z, F a = some (.tup [u, v, w, y, z]) ∧ P F u x.1 ∧ Q F v x.2.1 ∧ R F w x.2.2.1 ∧ S F y x.2.2.2.1 ∧ T F z x.2.2.2.2 := by
  obtain ⟨p, u, v, w, y, z, h1, h2⟩ := h
  cases h1
  exact ⟨u, v, w, y, z, h2⟩
theorem rT5_ref {F : Hp} {v : V} {x : α × β × γ × δ × ε} (h : rT5 P Q R S T F v x) : ∃ p, v = .ref p := by
  obtain ⟨p, _, _, _, _, _, h1, _⟩ := h
  exact ⟨p, h1⟩
theorem tyT5 {K : PySem.W.Frag} {b : String} {r : Bool} (h : kitB "tuple" b = some r) : TyP (rT5 P Q R S T) K (.type b) (fun _ => r) := fun H v x hx => by
  obtain ⟨p, _, _, _, _, _, rfl, h1, _⟩ := hx
  exact ⟨_, .base (.tup h1), kit_ty h⟩
end
/-! xs.pop(i) of a list of data -/
section
variable {α : Type} {P : V → α → Prop} {vs : List V} {xs ys : List α} {y : α} {i : Int} {R H : Hp} {a : Addr} {Q : VK}
theorem All2.del {α β : Type} {P : α → β → Prop} {as : List α} {bs : List β} (h : All2 P as bs) : ∀ n, All2 P (as.eraseIdx n) (bs.eraseIdx n) := by
  induction h with
  | nil => intro n; exact .nil
  | cons h t ih =>
    intro n
    cases n with
    | zero => exact t
    | succ n => exact .cons h (ih n)
theorem k_popIA {g : HO → List Cell} (hl : H a = some (.lst vs)) (ha : All2 P vs xs) (hp : ∀ o', Own R (upd H a o') (g o')) (h : popA xs i = some (y, ys)) (k : ∀ H' ws w, Own R H' (g (.lst ws)) → P w y → All2 P ws ys → Q w H') : rPopI (.ref a) [.int i] H Q := by
  obtain ⟨_, h1, h2⟩ := bndE h
  obtain ⟨c, _⟩ := grdE h1
  obtain ⟨j, h3, h4⟩ := bndE h2
  obtain ⟨z, h5, h6⟩ := bndE h4
  cases h6
  obtain ⟨s1, s2, s3, s4⟩ := ixN_seq h3
  obtain ⟨w, w1, w2⟩ := ha.get h5
  exact ⟨a, _, i, j, w, rfl, rfl, hl, by omega, by omega, by rw [ha.len]; exact s1, w1, k _ _ _ (hp _) w2 (ha.del j)⟩
end
end Bt

set_option Elab.async false
set_option linter.all false
set_option maxRecDepth 100000
set_option maxHeartbeats 4000000
/-! The head by one kernel run, its facts told by decisions (for tops that k_head does not get through). -/
namespace Bt
open PySem L2 PySem.Spec PyProof.Rows
/-- one fact of the part of the heap that the top leaves -/
structure FP where
  P : PySem.W.Frag → Prop
  d : ∀ K, Decidable (P K)
def mkF (P : PySem.W.Frag → Prop) [d : ∀ K, Decidable (P K)] : FP := ⟨P, d⟩
abbrev fG (x : Str) (K : PySem.W.Frag) : Prop := PySem.W.nsIn K PySem.mainGlobals x = some (some (.ref (He.ga K x)))
abbrev fZ (x : Str) (K : PySem.W.Frag) : Prop := PySem.W.nsIn K PySem.mainGlobals x = some none
abbrev fK (x : Str) (K : PySem.W.Frag) : Prop := PySem.W.keepIn K (.ref (He.ga K x)) = true
abbrev fM (C m : Str) (K : PySem.W.Frag) : Prop := PySem.W.findIn K (.ref (He.ga K C)) m = some (some (.ref (He.ma K (He.ga K C) m)))
abbrev fN (C m : Str) (K : PySem.W.Frag) : Prop := PySem.W.isFn K (.ref (He.ma K (He.ga K C) m)) = true
abbrev fP (C m : Str) (K : PySem.W.Frag) : Prop := PySem.W.keepIn K (.ref (He.ma K (He.ga K C) m)) = true
abbrev fO (C m : Str) (K : PySem.W.Frag) : Prop := PySem.W.findIn K (.ref (He.ga K C)) m = some none
def FP.ok (f : FP) (K : PySem.W.Frag) : Bool := @decide (f.P K) (f.d K)
def dF (p : Str × Option Str) (nm qual : Str) (st : Stmt) : He.FnD := ⟨p, nm, qual, defArgs st, defBody st, defScope st⟩
def obsH (fa : List FP) (fn : List He.FnD) (K : PySem.W.Frag) : He.Al := ((fa.all fun f => f.ok K) && fn.all fun d => (He.Fa.code d.at_ d.qual).ok K, fn.map fun d => He.fnObs K d.at_)
def SaysH (fa : List FP) (fn : List He.FnD) (K : PySem.W.Frag) : Prop := obsH fa fn K = He.valE fn
/-- what an object names, each thing once (a class: its names; the classes above it are the module's own names) -/
def refsH (o : Obj) : List Addr := match o.data with
  | .seq its _ => its.toList.flatMap He.refV
  | .dict es _ => es.toList.flatMap fun e => He.refV e.val
  | .func fd => He.refV fd.code ++ He.refV fd.defaults
  | .cls cd => [cd.ns]
  | .fields vs => vs.toList.flatMap He.refV
  | _ => []
def lvH (g : Addr → Option Obj) : Nat → List Addr → List Addr
  | 0, as => as
  | n + 1, as => as ++ lvH g n (as.flatMap fun a => match g a with
    | some o => refsH o
    | none => [])
def obsHG (n : Nat) (fa : List FP) (fn : List He.FnD) (g : Addr → Option Obj) : He.Al := obsH fa fn (He.frG g (PySem.cStatics :: lvH g n [mainGlobals]))
def hookH (n : Nat) (fa : List FP) (fn : List He.FnD) : PySem.W.Hook where
  α := He.Al
  obs := fun s => obsHG n fa fn s.heap.get?
  val := fun _ => He.valE fn
  says := fun _ h => ∃ K : PySem.W.Frag, K.In h ∧ SaysH fa fn K
  of := fun _ _ e => ⟨_, He.frG_in, e⟩
  keeps := fun _ _ _ ⟨K, hK, c⟩ k => ⟨K, PySem.W.Frag.In.keeps hK k, c⟩
theorem obsHG_eq {n : Nat} {fa : List FP} {fn : List He.FnD} {g : Addr → Option Obj} {s : Shared} (h : ∀ a, g a = s.heap.get? a) : obsHG n fa fn g = (hookH n fa fn).obs s := by
  have e : g = s.heap.get? := funext h
  rw [e] <;> rfl
section
variable {fa : List FP} {fn : List He.FnD} {K : PySem.W.Frag} {h : Heap} {mg : Str → Option Value}
theorem SaysH.fact (c : SaysH fa fn K) (i : Nat) {f : FP} (h : fa[i]? = some f) : f.P K := by
  have c1 := (He.ba (show ((fa.all fun f => f.ok K) && fn.all fun d => (He.Fa.code d.at_ d.qual).ok K) = true from congrArg (fun z : He.Al => z.1) c)).1
  exact @of_decide_eq_true _ (f.d K) (List.all_eq_true.mp c1 f (List.mem_of_getElem? h))
theorem SaysH.def_ (c : SaysH fa fn K) (i : Nat) {d : He.FnD} (h : fn[i]? = some d) :
    ∃ oc od osl kV doc pm an cdv ct, K.lookup (He.fAd K d.at_) = some ⟨oc, od, .func (PySem.W.fnOf d.name d.qual d.params d.body d.scope .none kV doc pm an cdv ct), osl⟩ ∧ PySem.W.codeIn K cdv d.qual = true := by
  have c2 := (He.ba (show ((fa.all fun f => f.ok K) && fn.all fun d => (He.Fa.code d.at_ d.qual).ok K) = true from congrArg (fun z : He.Al => z.1) c)).2
  have e : fn.map (fun d => He.fnObs K d.at_) = fn.map He.FnD.val := congrArg (fun z : He.Al => z.2) c
  have e2 : (fn.map fun d => He.fnObs K d.at_)[i]? = (fn.map He.FnD.val)[i]? := by rw [e]
  rw [List.getElem?_map, List.getElem?_map, h] at e2
  exact He.fn_ok (Option.some.inj e2) (List.all_eq_true.mp c2 d (List.mem_of_getElem? h))
theorem SaysH.mf (c : SaysH fa fn K) (i : Nat) {C nm qual : Str} {st : Stmt} (h : fn[i]? = some (dF (C, some nm) nm qual st)) (h1 : PySem.W.findIn K (.ref (He.ga K C)) nm = some (some (.ref (He.ma K (He.ga K C) nm))))
    (h2 : PySem.W.isFn K (.ref (He.ma K (He.ga K C) nm)) = true) (h3 : PySem.W.keepIn K (.ref (He.ma K (He.ga K C) nm)) = true) : MF K (He.ga K C) (He.ma K (He.ga K C) nm) nm qual st := by
  obtain ⟨oc, od, osl, kV, doc, pm, an, cdv, ct, e1, e2⟩ := c.def_ i h
  exact ⟨h1, h2, ⟨oc, od, kV, doc, pm, an, cdv, ct, osl, e1, e2⟩, h3⟩
theorem SaysH.fun_ (c : SaysH fa fn K) (X : K.In h) (G : h.Ns mainGlobals mg) (i : Nat) {x : Str} {st : Stmt} (hi : fn[i]? = some (dF (x, none) x x st)) (h1 : PySem.W.nsIn K mainGlobals x = some (some (.ref (He.ga K x))))
    (h3 : PySem.W.keepIn K (.ref (He.ga K x)) = true) : ∃ f fd, Fun K x x st f fd ∧ mg x = some (.ref f) := by
  obtain ⟨oc, od, osl, kV, doc, pm, an, cdv, ct, e1, e2⟩ := c.def_ i hi
  exact def_mk X G h1 e1 e2 h3
theorem gvh_int (X : K.In h) (G : h.Ns mainGlobals mg) {x : Str} {i : Int} (c : (He.Fa.int x i).ok K = true) : Gv mg x (.int i) := by
  obtain ⟨t, e⟩ := He.int_ok X G c
  exact ⟨_, e, _, rfl⟩
theorem gvh_str (X : K.In h) (G : h.Ns mainGlobals mg) {x z : Str} (c : (He.Fa.str x z).ok K = true) : Gv mg x (.str z) := by
  obtain ⟨t, e⟩ := He.str_ok X G c
  exact ⟨_, e, _, rfl⟩
theorem gvh_tup (X : K.In h) (G : h.Ns mainGlobals mg) {x : Str} {ns : List Int} (g : PySem.W.nsIn K mainGlobals x = some (some (.ref (He.ga K x)))) (c : He.tupB K x (ns.map He.Dv.int) = true) :
    ∃ a, Gv mg x (.ref a) ∧ ∀ H, SqT K H a (ns.map V.int) := by
  refine ⟨He.ga K x, ⟨_, PySem.W.mg_of X G g, rfl⟩, fun H => ?_⟩
  have := He.tupB_ok c H
  rw [List.map_map] at this
  exact this
end
def fcB (K : PySem.W.Frag) (C q : Addr) : Bool := match PySem.W.findCls K (.ref C) (.type "type") "__init__" with
  | some (.val (.ref a)) => decide (a = q)
  | _ => false
theorem fcB_ok {K : PySem.W.Frag} {C q : Addr} (h : fcB K C q = true) : PySem.W.findCls K (.ref C) (.type "type") "__init__" = some (.val (.ref q)) := by
  unfold fcB at h
  split at h
  · rename_i a e
    rw [e, of_decide_eq_true h]
  · cases h
end Bt
namespace Bt
open PySem PySem.W PySem.Calls PyProof.Rows HandSHeadRun
/-- the run's equation in three parts, so that the kernel keeps less at a time -/
def RunA (r : OpenRow) (M : Nat) (w : World) : Prop := ∀ os : OsState, (endF (stepQ (denQ tabQ) r.prog w) M r.prog w os).map (fun s => looksF r.prog (boot_heap w.params) s.abs) = some true
def RunB (r : OpenRow) (q : Program) (M : Nat) (loose : List PySem.Str) (w : World) : Prop := ∀ os : OsState, (endF (stepQ (denQ tabQ) r.prog w) M r.prog w os).map (fun s => seenQ q loose (importedModules r.prog.main.body) (fun s => xlAt q [] s && recOk r.toRowW.records s) s.abs) = some (openGood q loose)
def RunC (r : OpenRow) (α : Type) (ob : SharedT → α) (v : α) (M : Nat) (w : World) : Prop := ∀ os : OsState, (endF (stepQ (denQ tabQ) r.prog w) M r.prog w os).map ob = some v
theorem run3 {r : OpenRow} {q : Program} {H : Hook} {ob : SharedT → H.α} {M : Nat} {loose : List PySem.Str} {w : World} (a : RunA r M w) (b : RunB r q M loose w) (c : RunC r H.α ob (H.val w) M w) : RunEq r q H ob M loose w := fun os => by
  have a := a os
  have b := b os
  have c := c os
  obtain ⟨s, e, ha⟩ := Option.map_eq_some_iff.mp a
  rw [e] at b c ⊢
  have hb := Option.some.inj b
  have hc := Option.some.inj c
  show some (_, _, _) = some (_, _, _)
  rw [ha, hc]
  exact congrArg (fun z => some (true, z, H.val w)) hb
end Bt

set_option Elab.async false
set_option linter.all false
set_option maxRecDepth 100000
set_option maxHeartbeats 4000000
/-! More built-ins of lists. -/
namespace Bt
open PySem L2 PySem.Spec PyProof.Rows
def minG : List Int → Option Int
  | [] => none
  | n :: ns => some (ns.foldl min n)
def maxG : List Int → Option Int
  | [] => none
  | n :: ns => some (ns.foldl max n)
theorem foldl_min (ns : List Int) : ∀ n : Int, (ns.foldl min n = n ∨ ns.foldl min n ∈ ns) ∧ ns.foldl min n ≤ n ∧ ∀ y ∈ ns, ns.foldl min n ≤ y := by
  induction ns with
  | nil => intro n; exact ⟨.inl rfl, Int.le_refl _, fun _ h => nomatch h⟩
  | cons m r ih =>
    intro n
    obtain ⟨h1, h2, h3⟩ := ih (min n m)
    refine ⟨?_, ?_, fun y hy => ?_⟩
    · rcases h1 with h1 | h1
      · by_cases h : n ≤ m
        · left; show r.foldl min (min n m) = n; rw [h1]; omega
        · right; show r.foldl min (min n m) ∈ m :: r; rw [h1, show min n m = m by omega]; exact List.Mem.head _
      · exact .inr (List.Mem.tail _ h1)
    · show r.foldl min (min n m) ≤ n; omega
    · rcases List.mem_cons.mp hy with rfl | hy
      · show r.foldl min (min n y) ≤ y; omega
      · exact h3 y hy
theorem foldl_max (ns : List Int) : ∀ n : Int, (ns.foldl max n = n ∨ ns.foldl max n ∈ ns) ∧ n ≤ ns.foldl max n ∧ ∀ y ∈ ns, y ≤ ns.foldl max n := by
  induction ns with
  | nil => intro n; exact ⟨.inl rfl, Int.le_refl _, fun _ h => nomatch h⟩
  | cons m r ih =>
    intro n
    obtain ⟨h1, h2, h3⟩ := ih (max n m)
    refine ⟨?_, ?_, fun y hy => ?_⟩
    · rcases h1 with h1 | h1
      · by_cases h : m ≤ n
        · left; show r.foldl max (max n m) = n; rw [h1]; omega
        · right; show r.foldl max (max n m) ∈ m :: r; rw [h1, show max n m = m by omega]; exact List.Mem.head _
      · exact .inr (List.Mem.tail _ h1)
    · show n ≤ r.foldl max (max n m); omega
    · rcases List.mem_cons.mp hy with rfl | hy
      · show y ≤ r.foldl max (max n y); omega
      · exact h3 y hy
theorem minG_spec {xs : List Int} {m : Int} (h : minG xs = some m) : 0 < xs.length ∧ m ∈ xs ∧ ∀ y ∈ xs, m ≤ y := by
  cases xs with
  | nil => cases h
  | cons n r =>
    cases h
    obtain ⟨h1, h2, h3⟩ := foldl_min r n
    refine ⟨by simp, ?_, fun y hy => ?_⟩
    · rcases h1 with h1 | h1
      · rw [h1]; exact List.Mem.head _
      · exact List.Mem.tail _ h1
    · rcases List.mem_cons.mp hy with rfl | hy
      · exact h2
      · exact h3 y hy
theorem maxG_spec {xs : List Int} {m : Int} (h : maxG xs = some m) : 0 < xs.length ∧ m ∈ xs ∧ ∀ y ∈ xs, y ≤ m := by
  cases xs with
  | nil => cases h
  | cons n r =>
    cases h
    obtain ⟨h1, h2, h3⟩ := foldl_max r n
    refine ⟨by simp, ?_, fun y hy => ?_⟩
    · rcases h1 with h1 | h1
      · rw [h1]; exact List.Mem.head _
      · exact List.Mem.tail _ h1
    · rcases List.mem_cons.mp hy with rfl | hy
      · exact h2
      · exact h3 y hy
section
variable {K : PySem.W.Frag} {H R : Hp} {L : List Cell} {Q : VK} {a : Addr} {xs : List Int} {m : Int}
theorem k_min (hs : SqL K H a (xs.map V.int)) (h : minG xs = some m) (q : Q (.int m) H) : rMin K [.ref a] H Q := by
  obtain ⟨h1, h2, h3⟩ := minG_spec h
  refine ⟨a, xs, rfl, hs, h1, fun m' hm hy => ?_⟩
  have e1 := hy m h2
  have e2 := h3 m' hm
  have : m' = m := by omega
  rw [this]; exact q
theorem k_max (hs : SqL K H a (xs.map V.int)) (h : maxG xs = some m) (q : Q (.int m) H) : rMax K [.ref a] H Q := by
  obtain ⟨h1, h2, h3⟩ := maxG_spec h
  refine ⟨a, xs, rfl, hs, h1, fun m' hm hy => ?_⟩
  have e1 := hy m h2
  have e2 := h3 m' hm
  have : m' = m := by omega
  rw [this]; exact q
end
theorem inV_str (i : Str) : ∀ xs : List Str, inV (.str i) (xs.map V.str) = decide (i ∈ xs)
  | [] => rfl
  | y :: r => by
    have ih := inV_str i r
    have e : inV (.str i) ((y :: r).map V.str) = (eqV (.str y) (.str i) || inV (.str i) (r.map V.str)) := rfl
    rw [e, ih]
    have e2 : eqV (.str y) (.str i) = decide (i = y) := by
      by_cases h : i = y
      · subst h; simp [eqV]
      · have : ¬ y = i := fun q => h q.symm
        simp [eqV, h, this]
    rw [e2]
    simp
theorem flat_str : ∀ xs : List Str, (xs.map V.str).all flatV = true
  | [] => rfl
  | y :: r => by
    have ih := flat_str r
    show (flatV (.str y) && (r.map V.str).all flatV) = true
    rw [ih]
    rfl
section
variable {K : PySem.W.Frag} {H : Hp} {Q : VK} {a : Addr} {i : Str} {ns : List Str}
theorem k_inLS (hs : SqL K H a (ns.map V.str)) (k : Q (.bl (decide (i ∈ ns))) H) : rIn K false (.str i) (.ref a) H Q := ⟨a, _, rfl, .inl hs, rfl, flat_str _, by rw [inV_str]; exact k⟩
theorem k_niLS (hs : SqL K H a (ns.map V.str)) (k : Q (.bl (!decide (i ∈ ns))) H) : rIn K true (.str i) (.ref a) H Q := ⟨a, _, rfl, .inl hs, rfl, flat_str _, by rw [inV_str]; exact k⟩
theorem k_inTS (hs : SqT K H a (ns.map V.str)) (k : Q (.bl (decide (i ∈ ns))) H) : rIn K false (.str i) (.ref a) H Q := ⟨a, _, rfl, .inr hs, rfl, flat_str _, by rw [inV_str]; exact k⟩
theorem k_niTS (hs : SqT K H a (ns.map V.str)) (k : Q (.bl (!decide (i ∈ ns))) H) : rIn K true (.str i) (.ref a) H Q := ⟨a, _, rfl, .inr hs, rfl, flat_str _, by rw [inV_str]; exact k⟩
end
/-! l.count(x), l.index(x) of data -/
def rCountD (K : PySem.W.Frag) : V → List V → Hp → VK → Prop := fun x xs H Q => ∃ (a : Addr) (y : V) (d : PyData) (ds : List PyData), x = V.ref a ∧ xs = [y] ∧ Dp K H (V.ref a) (.list ds) ∧ Dp K H y d ∧
  SeqAt.shaped (.list ds) = true ∧ SeqAt.shaped d = true ∧ Q (.int ((ds.countP fun z => PyData.eqv z d : Nat) : Int)) H
theorem mt_countD {X : Cx} (hu : X.A.units + 65 < cLine) : MtR X "list.count" (rCountD X.K) := by
  intro pins s σ H x xs v us Q I rx rxs h
  obtain ⟨a, y, d, ds, rfl, rfl, hl, hy, sl, sd, q⟩ := h
  cases rx
  cases rxs with
  | cons ry rt =>
    rename_i uy ut
    cases rt
    obtain ⟨bs, r1⟩ := Dp.reads I d y uy hy ry
    have hxs : PyData.canLayAll0 ds = true := SeqAt.canLay_of_shaped sl
    have hroom : X.A.units + 1 + min (PyData.depthAll ds) d.depth < cLine := room_in_shaped sd hu
    cases hl with
    | lst hs ha =>
      obtain ⟨its, rv, ⟨⟨cls, dd, data, sls⟩, n, ho, hc, hdn, hdt⟩, hlen⟩ := I.list hs
      simp only at hc hdt
      subst hc hdt
      obtain ⟨as, h4⟩ := Dp.readsAll I ds _ its ha rv
      have hmap : its.map (SeqAt.readOf s.heap) = ds := SeqAt.readsAll_map ds its as hxs h4
      have e : its.toArray.toList.countP (fun u => PyData.eqv (SeqAt.readOf s.heap u) d) = ds.countP fun z => PyData.eqv z d := by
        rw [← hmap, List.countP_map]
        rfl
      rw [← e] at q
      exact call_meets PySem.F.slot_list_count ⟨_, ho, rfl⟩ PySem.F.entry_list_count (PySem.F.args_list_count_2 _ _) (SeqAt.list_countAt a its.toArray n dd sls uy (fun u => PyData.eqv (SeqAt.readOf s.heap u) d))
        ⟨ho, SeqAt.items_eqAt (vs := its.toArray) (show ReadsAll s.heap its.toArray.toList ds as from h4) r1 hxs (SeqAt.canLay_of_shaped sd) hroom, ⟨.int _, H, I.tok _, ⟨_, rfl⟩, q⟩⟩
section
variable {α : Type} [DecidableEq α] {P : Rp α} {K : PySem.W.Frag} {H : Hp} {v w : V} {xs : List α} {y : α} {Q : VK} {a : Addr}
def cntL (xs : List α) (y : α) : Int := ((xs.countP fun z => decide (z = y) : Nat) : Int)
theorem countP_de (e : Dq P) (y : α) : ∀ xs : List α, ((xs.map e.d).countP fun z => PyData.eqv z (e.d y)) = xs.countP fun z => decide (z = y)
  | [] => rfl
  | x :: r => by
    rw [List.map_cons, List.countP_cons, List.countP_cons, countP_de e y r, e.eq x y]
theorem k_countD (e : Dq P) (h : e.n ≤ 60) (hx : PyData.canLay0 ((dqL e).d xs) = true) (hy : PyData.canLay0 (e.d y) = true) (h1 : rL P H (.ref a) xs) (h2 : P H v y) (q : Q (.int (cntL xs y)) H) : rCountD K (.ref a) [v] H Q :=
  ⟨a, v, e.d y, xs.map e.d, rfl, rfl, (dqL e).dp K H _ _ h1, e.dp K H _ _ h2, sh_dq (dqL e) (by show e.n + 1 ≤ 64; omega) hx, sh_dq e (by omega) hy, by rw [countP_de]; exact q⟩
def idxL : List α → α → Option Int
  | [], _ => none
  | x :: r, y => if x = y then some 0 else match idxL r y with
    | some j => some (j + 1)
    | none => none
theorem idxL_spec : ∀ {xs : List α} {j : Int}, idxL xs y = some j → ∃ n : Nat, j = n ∧ xs[n]? = some y ∧ ∀ m z, m < n → xs[m]? = some z → z ≠ y
  | [], j, h => by cases h
  | x :: r, j, h => by
    unfold idxL at h
    by_cases c : x = y
    · rw [if_pos c] at h
      cases h
      exact ⟨0, rfl, by rw [c]; rfl, fun m z hm => by omega⟩
    · rw [if_neg c] at h
      cases e : idxL r y with
      | none => rw [e] at h; cases h
      | some i =>
        rw [e] at h
        cases h
        obtain ⟨n, rfl, h1, h2⟩ := idxL_spec e
        refine ⟨n + 1, by omega, by simpa using h1, fun m z hm hz => ?_⟩
        cases m with
        | zero => cases Option.some.inj hz; exact c
        | succ m => exact h2 m z (by omega) (by simpa using hz)
theorem k_indexD (e : Dq P) (h : e.n ≤ 60) (hx : PyData.canLay0 ((dqL e).d xs) = true) (hy : PyData.canLay0 (e.d y) = true) (h1 : rL P H (.ref a) xs) (h2 : P H v y) {j : Int} (hj : idxL xs y = some j) (q : Q (.int j) H) : rIndexD K (.ref a) [v] H Q := by
  obtain ⟨n, rfl, g1, g2⟩ := idxL_spec hj
  refine ⟨a, v, e.d y, xs.map e.d, n, e.d y, rfl, rfl, (dqL e).dp K H _ _ h1, e.dp K H _ _ h2, sh_dq (dqL e) (by show e.n + 1 ≤ 64; omega) hx, sh_dq e (by omega) hy, by rw [List.getElem?_map, g1]; rfl, by rw [e.eq]; simp, fun m z' hm hz => ?_, q⟩
  rw [List.getElem?_map] at hz
  cases e1 : xs[m]? with
  | none => rw [e1] at hz; cases hz
  | some z =>
    rw [e1] at hz
    cases hz
    rw [e.eq]
    exact decide_eq_false (g2 m z hm e1)
theorem okInts (xs : List Int) : PyData.canLay0 ((dqL (De.q deI)).d xs) = true := by
  show PyData.canLay0 (.list (xs.map PyData.int)) = true
  simp only [PyData.canLay0]
  induction xs with
  | nil => rfl
  | cons x r ih => simp only [List.map_cons, PyData.canLayAll0, PyData.canLay0, ih, Bool.and_self]
theorem okDe {P : Rp α} (e : De P) (y : α) : PyData.canLay0 ((De.q e).d y) = true := e.ok y
theorem okDeL {P : Rp α} (e : De P) (xs : List α) : PyData.canLay0 ((dqL (De.q e)).d xs) = true := by
  show PyData.canLay0 (.list (xs.map e.d)) = true
  simp only [PyData.canLay0]
  exact ok_all e xs
end
/-! xs.insert(i, y) -/
section
variable {α : Type} {f : α → V} {R H : Hp} {L : List Cell} {a : Addr} {xs ys : List α} {y : α} {i : Int} {Q : VK} {v : V} {P : V → α → Prop} {vs : List V}
def insG (xs : List α) (i : Int) (y : α) : Option (List α) := grd (xs.length < sizeLine ∧ 0 ≤ i ∧ i < 2 ^ 63) (xs.take i.toNat ++ [y] ++ xs.drop i.toNat)
def rInsert : V → List V → Hp → VK → Prop := fun x vs H Q => ∃ (l : Addr) (xs : List V) (i : Int) (y : V), x = .ref l ∧ vs = [.int i, y] ∧ H l = some (.lst xs) ∧ xs.length < sizeLine ∧ 0 ≤ i ∧ i < 2 ^ 63 ∧
    Q .non (upd H l (.lst (xs.take i.toNat ++ [y] ++ xs.drop i.toNat)))
theorem k_ins {g : HO → List Cell} (hl : H a = some (.lst (xs.map f))) (hp : ∀ o', Own R (upd H a o') (g o')) (h : insG xs i y = some ys) (k : ∀ H', Own R H' (g (.lst (ys.map f))) → Q .non H') : rInsert (.ref a) [.int i, f y] H Q := by
  obtain ⟨⟨c1, c2, c3⟩, rfl⟩ := grdE h
  refine ⟨a, _, i, _, rfl, rfl, hl, by rw [List.length_map]; exact c1, c2, c3, ?_⟩
  rw [← List.map_take, ← List.map_drop, map_snoc, ← List.map_append]
  exact k _ (hp _)
theorem k_insA {g : HO → List Cell} (hl : H a = some (.lst vs)) (ha : All2 P vs xs) (hp : ∀ o', Own R (upd H a o') (g o')) (h : insG xs i y = some ys) (hv : P v y) (k : ∀ H' ws, Own R H' (g (.lst ws)) → All2 P ws ys → Q .non H') : rInsert (.ref a) [.int i, v] H Q := by
  obtain ⟨⟨c1, c2, c3⟩, rfl⟩ := grdE h
  exact ⟨a, _, i, _, rfl, rfl, hl, by rw [ha.len]; exact c1, c2, c3, k _ _ (hp _) (((ha.take _).snoc hv).app (ha.drop _))⟩
theorem k_insE {g : HO → List Cell} (hl : H a = some (.lst vs)) (hp : ∀ o', Own R (upd H a o') (g o')) (c1 : vs.length < sizeLine) (c2 : 0 ≤ i) (c3 : i < 2 ^ 63) (k : ∀ H', Own R H' (g (.lst (vs.take i.toNat ++ [v] ++ vs.drop i.toNat))) → Q .non H') : rInsert (.ref a) [.int i, v] H Q :=
  ⟨a, _, i, _, rfl, rfl, hl, c1, c2, c3, k _ (hp _)⟩
end
def rInt : List V → Hp → VK → Prop := fun xs H Q => (∃ i, xs = [.int i] ∧ Q (.int i) H) ∨ ∃ k, xs = [.bl k] ∧ Q (.int (if k then 1 else 0)) H
theorem call_intQ {X : Cx} : CallR X (.type "int") rInt := call_int1
theorem mt_insertQ {X : Cx} : MtR X "list.insert" rInsert := mt_insert
end Bt

set_option Elab.async false
set_option linter.all false
set_option maxRecDepth 100000
set_option maxHeartbeats 4000000
set_option synthInstance.maxHeartbeats 400000
set_option synthInstance.maxSize 4096
namespace Bt
open PySem L2
open HAppend (hAppend)
def top (i : Nat) : Stmt := PySem.Challenge.pw_bitrail_k05_a_duel.main.body.getD i (.Pass ⟨0, 0, 0, 0⟩)
abbrev s__law_draw : Stmt := top 17
abbrev s__law_names : Stmt := top 18
abbrev s_is_name : Stmt := top 13
abbrev s_bit_at : Stmt := top 14
abbrev s_duel : Stmt := top 15
abbrev s__law_told : Stmt := top 19
abbrev s__law_is_other : Stmt := top 20
abbrev s__law_refused : Stmt := top 21
abbrev s_law : Stmt := top 22
structure Ad where
  f__law_draw : Addr
  fd__law_draw : FuncData
  f__law_names : Addr
  fd__law_names : FuncData
  f_is_name : Addr
  fd_is_name : FuncData
  f_bit_at : Addr
  fd_bit_at : FuncData
  f_duel : Addr
  fd_duel : FuncData
  f__law_told : Addr
  fd__law_told : FuncData
  f__law_is_other : Addr
  fd__law_is_other : FuncData
  f__law_refused : Addr
  fd__law_refused : FuncData
  f_law : Addr
  fd_law : FuncData
  es : Eds
abbrev ks : List Ek := [.NoBits, .NoName, .NoKey, .NoFrame, .NoPost, .NoThing, .NoStrip, .NoRail, .NoWire, .NoRow]
structure Txt (K : PySem.W.Frag) (mg : Str → Option Value) (ad : Ad) : Prop where
  F__law_draw : Fun K "_law_draw" "_law_draw" s__law_draw ad.f__law_draw ad.fd__law_draw
  g__law_draw : mg "_law_draw" = some (.ref ad.f__law_draw)
  b__law_draw : Binds K ad.fd__law_draw ["script", "k", "many"] []
  F__law_names : Fun K "_law_names" "_law_names" s__law_names ad.f__law_names ad.fd__law_names
  g__law_names : mg "_law_names" = some (.ref ad.f__law_names)
  b__law_names : Binds K ad.fd__law_names ["script"] []
  F_is_name : Fun K "is_name" "is_name" s_is_name ad.f_is_name ad.fd_is_name
  g_is_name : mg "is_name" = some (.ref ad.f_is_name)
  b_is_name : Binds K ad.fd_is_name ["number"] []
  F_bit_at : Fun K "bit_at" "bit_at" s_bit_at ad.f_bit_at ad.fd_bit_at
  g_bit_at : mg "bit_at" = some (.ref ad.f_bit_at)
  b_bit_at : Binds K ad.fd_bit_at ["name", "k"] []
  F_duel : Fun K "duel" "duel" s_duel ad.f_duel ad.fd_duel
  g_duel : mg "duel" = some (.ref ad.f_duel)
  b_duel : Binds K ad.fd_duel ["names"] []
  F__law_told : Fun K "_law_told" "_law_told" s__law_told ad.f__law_told ad.fd__law_told
  g__law_told : mg "_law_told" = some (.ref ad.f__law_told)
  b__law_told : Binds K ad.fd__law_told ["found", "names"] []
  F__law_is_other : Fun K "_law_is_other" "_law_is_other" s__law_is_other ad.f__law_is_other ad.fd__law_is_other
  g__law_is_other : mg "_law_is_other" = some (.ref ad.f__law_is_other)
  b__law_is_other : Binds K ad.fd__law_is_other ["e"] []
  F__law_refused : Fun K "_law_refused" "_law_refused" s__law_refused ad.f__law_refused ad.fd__law_refused
  g__law_refused : mg "_law_refused" = some (.ref ad.f__law_refused)
  b__law_refused : Binds K ad.fd__law_refused ["names"] []
  F_law : Fun K "law" "law" s_law ad.f_law ad.fd_law
  g_law : mg "law" = some (.ref ad.f_law)
  b_law : Binds K ad.fd_law ["script"] []
  z_ValueError : mg "ValueError" = none
  z_bool : mg "bool" = none
  z_int : mg "int" = none
  z_isinstance : mg "isinstance" = none
  z_len : mg "len" = none
  z_list : mg "list" = none
  z_min : mg "min" = none
  z_range : mg "range" = none
  z_set : mg "set" = none
  z_tuple : mg "tuple" = none
  e_NoName : ErrC K mg "NoName" ad.es.NoName
  n_NoBits : mg "NoBits" = some (.ref ad.es.NoBits)
  n_NoFrame : mg "NoFrame" = some (.ref ad.es.NoFrame)
  n_NoKey : mg "NoKey" = some (.ref ad.es.NoKey)
  n_NoName : mg "NoName" = some (.ref ad.es.NoName)
  n_NoPost : mg "NoPost" = some (.ref ad.es.NoPost)
  n_NoRail : mg "NoRail" = some (.ref ad.es.NoRail)
  n_NoRow : mg "NoRow" = some (.ref ad.es.NoRow)
  n_NoStrip : mg "NoStrip" = some (.ref ad.es.NoStrip)
  n_NoThing : mg "NoThing" = some (.ref ad.es.NoThing)
  n_NoWire : mg "NoWire" = some (.ref ad.es.NoWire)
  n_RailError : mg "RailError" = some (.ref ad.es.RailError)
  EC : EcF K ad.es ks
section
variable {P : Program} {w : World} {K : PySem.W.Frag} {mg : Str → Option Value} {base : Heap}
def m__law_draw (script_1 : List Int) (k_3 : Int) (many_4 : Int) : Option (Int) :=
  bnd (ifB (decide ((0 : Int) < (List.length script_1 : Int))) (bnd (modG k_3 (List.length script_1 : Int)) fun t_5 =>
  bnd (atI script_1 t_5) fun e_7 => some e_7) ( some (0 : Int))) fun z_10 =>
  bnd (mulG ((31 : Int) * k_3) k_3) fun t_12 =>
  ltv ((((z_10 % (1000003 : Int)) + t_12) + (1 : Int))) fun seed_14 =>
  bnd (modG ((((seed_14 * (48271 : Int)) % (999983 : Int)) * (7919 : Int)) % (524287 : Int)) many_4) fun t_16 =>
  some t_16
def sp__law_draw (K : PySem.W.Frag) : Sp := fun vs H Q _ => ∃ (script_1 : List Int) (a_2 : Addr) (k_3 : Int) (many_4 : Int) (r : Int), vs = [.ref a_2, .int k_3, .int many_4] ∧ SqL K H a_2 (List.map V.int script_1) ∧ m__law_draw script_1 k_3 many_4 = some r ∧ RetV (.int r) H Q
abbrev N__law_draw : List Str := ["script", "k", "many", "cell", "seed"]
theorem sc__law_draw : FnScope N__law_draw ["script", "k", "many"] (defScope s__law_draw) := ⟨rfl, rfl, rfl, by decide +kernel, rfl, by decide +kernel, by decide +kernel⟩
theorem ok__law_draw {ad : Ad} (T : Txt K mg ad) : FnOk P w K mg base CX0 1 ad.f__law_draw ad.fd__law_draw ["script", "k", "many"] (sp__law_draw K) := by
  refine T.F__law_draw.ok sc__law_draw (fun vs H Q E h => ?_) (fun cdv A outer s H vs Q E hr h => ?_)
  · obtain ⟨_, _, _, _, _, rfl, _⟩ := h
    rfl
  · obtain ⟨script_1, a_2, k_3, many_4, r, rfl, hp_a_2, hm, k⟩ := h
    unfold m__law_draw at hm
    obtain ⟨H0, hH0⟩ : ∃ H0 : Hp, H0 = H := ⟨H, rfl⟩
    have O : Own H0 H [] := by rw [hH0]; exact Own.start H
    rw [← hH0] at k hp_a_2
    clear hH0
    refine ⟨_, (pss_cons (ps_set (i := 3) sc__law_draw.nd rfl (Or.inl rfl) (pe_ifExp (pt_cmpR op_gt (pe_callB (r := rLenQ K) call_lenQ (by rfl) T.z_len PySem.boot_len (pa_cons (pv 0) pa_nil)) pe_int (nomark _)) (pe_ix (r := rIxL K) ix_list (pv 0) (pe_op op_mod (pv 1) (pe_callB (r := rLenQ K) call_lenQ (by rfl) T.z_len PySem.boot_len (pa_cons (pv 0) pa_nil))) (fun _ _ => rfl)) pe_int)) (pss_cons (ps_set (i := 4) sc__law_draw.nd rfl (Or.inl rfl) (pe_op op_add (pe_op op_add (pe_op op_mod (pv 3) pe_int) (pe_op op_mulW (pe_op op_mul pe_int (pv 1)) (pv 1))) pe_int)) (pss_one (ps_ret (pe_op op_mod (pe_op op_mod (pe_op op_mul (pe_op op_mod (pe_op op_mul (pv 4) pe_int) pe_int) pe_int) pe_int) (pv 2)))))), ?_⟩
    -- 50
    refine o_seq ?_
    refine o_asg ?_
    obtain ⟨z_10, h11, hm⟩ := bndE hm
    refine x_if (c := decide ((0 : Int) < (List.length script_1 : Int))) (x := .int z_10) (y := .int z_10) (v := .int z_10) O (fun Q1 k1 => ?_) (fun h9 => ⟨rfl, fun H O Q2 k2 => ?_⟩) (fun h9 => ⟨rfl, fun H O Q2 k2 => ?_⟩) (fun H O => ?_)
    · refine ⟨_, rfl, ?_⟩
      refine x_nil ?_
      refine n_len (O.ex.l hp_a_2) ?_
      refine ⟨_, _, rfl, rfl, _, rfl, ?_⟩
      exact k1 _ O
    · replace hm := ifT h11 h9
      obtain ⟨t_5, h6, hm⟩ := bndE hm
      obtain ⟨e_7, h8, hm⟩ := bndE hm
      obtain rfl := Option.some.inj hm
      refine ⟨_, rfl, _, rfl, _, rfl, ?_⟩
      refine x_nil ?_
      refine n_len (O.ex.l hp_a_2) ?_
      refine k_mod h6 ?_
      refine k_ixL (f := V.int) (O.ex.l hp_a_2) h8 ?_
      exact k2 _ O
    · replace hm := ifF h11 h9
      obtain rfl := Option.some.inj hm
      refine o_c ?_
      exact k2 _ O
    -- 51
    refine o_seq ?_
    refine o_asg ?_
    obtain ⟨t_12, h13, hm⟩ := bndE hm
    refine ⟨_, rfl, _, _, rfl, rfl, (by show (0 : Int) < 1000003; decide), _, rfl, _, _, rfl, rfl, .inl ⟨by decide, by decide⟩, _, rfl, ?_⟩
    refine k_mul h13 ?_
    refine ⟨_, _, rfl, rfl, _, _, rfl, rfl, ?_⟩
    obtain ⟨seed_14, h15, hm⟩ := ltvE hm
    refine a_set (congrArg V.int h15) ?_
    -- 52
    refine o_ret ?_
    obtain ⟨t_16, h17, hm⟩ := bndE hm
    refine ⟨_, rfl, _, _, rfl, rfl, .inr ⟨by decide, by decide⟩, _, _, rfl, rfl, (by show (0 : Int) < 999983; decide), _, _, rfl, rfl, .inr ⟨by decide, by decide⟩, _, _, rfl, rfl, (by show (0 : Int) < 524287; decide), _, rfl, ?_⟩
    refine k_mod h17 ?_
    obtain rfl := Option.some.inj hm
    exact RetV.go k O
def m__law_names_L0 (law_dr_3 : Int) (near_7 : Bool) (law_dr_9 : Int) (cell_20 : Int) (names_13 : List Int) : Option ((List Int)) :=
  ltv ((cell_20 % (256 : Int))) fun name_24 =>
  bnd (ifB near_7 (
    bnd (shlG (cell_20 % (4 : Int)) law_dr_9) fun t_29 =>
    some (Builtin.bitXor law_dr_3 t_29)) (
    some name_24)) fun name_32 =>
  ifB (!decide (name_32 ∈ names_13)) (
    bnd (appG names_13 name_32) fun l_34 =>
    some l_34) (
    some names_13)
def m__law_names (script_1 : List Int) : Option (List Int) :=
  bnd (m__law_draw script_1 (0 : Int) (256 : Int)) fun law_dr_3 =>
  bnd (m__law_draw script_1 (1 : Int) (2 : Int)) fun law_dr_5 =>
  ltv ((decide (law_dr_5 = (1 : Int)))) fun near_7 =>
  bnd (m__law_draw script_1 (2 : Int) (7 : Int)) fun law_dr_9 =>
  bnd (loopM (fun cell_20 s => m__law_names_L0 law_dr_3 near_7 law_dr_9 cell_20 s) (cutL script_1 none (some (19 : Int))) ([law_dr_3])) fun names_16 =>
  some names_16
def sp__law_names (K : PySem.W.Frag) : Sp := fun vs H Q _ => ∃ (script_1 : List Int) (a_2 : Addr) (r : List Int), vs = [.ref a_2] ∧ SqL K H a_2 (List.map V.int script_1) ∧ m__law_names script_1 = some r ∧ RetL (List.map V.int r) H Q
abbrev N__law_names : List Str := ["script", "base", "near", "shift", "names", "cell", "name"]
theorem sc__law_names : FnScope N__law_names ["script"] (defScope s__law_names) := ⟨rfl, rfl, rfl, by decide +kernel, rfl, by decide +kernel, by decide +kernel⟩
theorem ok__law_names {ad : Ad} (T : Txt K mg ad) : FnOk P w K mg base CX0 2 ad.f__law_names ad.fd__law_names ["script"] (sp__law_names K) := by
  have G__law_draw := ok__law_draw (P := P) (w := w) (base := base) T
  refine T.F__law_names.ok sc__law_names (fun vs H Q E h => ?_) (fun cdv A outer s H vs Q E hr h => ?_)
  · obtain ⟨_, _, _, rfl, _⟩ := h
    rfl
  · obtain ⟨script_1, a_2, r, rfl, hp_a_2, hm, k⟩ := h
    unfold m__law_names at hm
    obtain ⟨H0, hH0⟩ : ∃ H0 : Hp, H0 = H := ⟨H, rfl⟩
    have O : Own H0 H [] := by rw [hH0]; exact Own.start H
    rw [← hH0] at k hp_a_2
    clear hH0
    refine ⟨_, (pss_cons (ps_set (i := 1) sc__law_names.nd rfl (Or.inl rfl) (pe_call G__law_draw (hr.mono (by decide)) (by rfl) T.g__law_draw T.F__law_draw.kp T.b__law_draw .nil pass0 (pa_cons (pv 0) (pa_cons pe_int (pa_cons pe_int pa_nil))))) (pss_cons (ps_set (i := 2) sc__law_names.nd rfl (Or.inl rfl) (pe_cmpR op_eq (pe_call G__law_draw (hr.mono (by decide)) (by rfl) T.g__law_draw T.F__law_draw.kp T.b__law_draw .nil pass0 (pa_cons (pv 0) (pa_cons pe_int (pa_cons pe_int pa_nil)))) pe_int (nomark _))) (pss_cons (ps_set (i := 3) sc__law_names.nd rfl (Or.inl rfl) (pe_call G__law_draw (hr.mono (by decide)) (by rfl) T.g__law_draw T.F__law_draw.kp T.b__law_draw .nil pass0 (pa_cons (pv 0) (pa_cons pe_int (pa_cons pe_int pa_nil))))) (pss_cons (ps_set (i := 4) sc__law_names.nd rfl (Or.inl rfl) (pe_lstQ (pe_lst (pa_cons (pv 1) pa_nil)))) (pss_cons (ps_for PassesOwn.never rfl (pi_list (pe_slice (r := rSlL K) sl_list (pv 0) po_none (po_some pe_int))) (pg_name (i := 5) sc__law_names.nd rfl (Or.inl rfl)) (pss_cons (ps_set (i := 6) sc__law_names.nd rfl (Or.inl rfl) (pe_op op_mod (pv 5) pe_int)) (Evl.pss_cut (ps_if (pt_val (pv 2)) (pss_one (ps_set (i := 6) sc__law_names.nd rfl (Or.inl rfl) (pe_op op_xor (pv 1) (pe_op op_shlW (pe_op op_mod (pv 5) pe_int) (pv 3))))) pss_nil) (pss_one (ps_if (pt_cmpR (r := rIn K true) op_notIn_seq (pv 6) (pv 4) (by rfl)) (pss_one (ps_expr (pe_bm PySem.F.plainAttrs_list PySem.F.slot_list_append PySem.F.type_list_append mt_append (pv 4) (pa_cons (pv 6) pa_nil)))) pss_nil))))) (pss_one (ps_ret (pv 4)))))))), ?_⟩
    -- 54
    refine o_seq ?_
    refine o_asg ?_
    obtain ⟨law_dr_3, h4, hm⟩ := bndE hm
    refine ⟨_, rfl, ?_⟩
    refine o_cons ?_
    refine o_c ?_
    refine o_cons ?_
    refine o_c ?_
    refine x_nil ?_
    refine ⟨_, _, _, _, law_dr_3, rfl, (O.ex.l hp_a_2), h4, ?_⟩
    refine O.retV fun H O => ?_
    -- 55
    refine o_seq ?_
    refine o_asg ?_
    obtain ⟨law_dr_5, h6, hm⟩ := bndE hm
    refine ⟨_, rfl, ?_⟩
    refine o_cons ?_
    refine o_c ?_
    refine o_cons ?_
    refine o_c ?_
    refine x_nil ?_
    refine ⟨_, _, _, _, law_dr_5, rfl, (O.ex.l hp_a_2), h6, ?_⟩
    refine O.retV fun H O => ?_
    refine o_c ?_
    refine k_eqI ?_
    obtain ⟨near_7, h8, hm⟩ := ltvE hm
    refine a_set (congrArg V.bl h8) ?_
    -- 56
    refine o_seq ?_
    refine o_asg ?_
    obtain ⟨law_dr_9, h10, hm⟩ := bndE hm
    refine ⟨_, rfl, ?_⟩
    refine o_cons ?_
    refine o_c ?_
    refine o_cons ?_
    refine o_c ?_
    refine x_nil ?_
    refine ⟨_, _, _, _, law_dr_9, rfl, (O.ex.l hp_a_2), h10, ?_⟩
    refine O.retV fun H O => ?_
    -- 57
    refine o_seq ?_
    refine o_asg ?_
    refine ⟨_, rfl, ?_⟩
    refine x_nil ?_
    refine n_lst (f := V.int) (xs := [law_dr_3]) O rfl (by show 1 ≤ sizeLine; decide) fun p_11 H O => ?_
    -- 58
    refine o_seq ?_
    refine o_for ?_
    refine ⟨_, rfl, _, rfl, ?_⟩
    refine k_cut (f := V.int) O (O.ex.l hp_a_2) fun p_12 H O => ?_
    obtain ⟨names_16, h17, hm⟩ := bndE hm
    refine ⟨_, rfl, ⟨_, (SqL.of (O.mem (hd_)))⟩, q_forL (f := V.int) (xs := (cutL script_1 none (some (19 : Int)))) (fun r σ H => ∃ (names_13 : List Int) (j_14 : Option V) (j_15 : Option V), σ = [some (.ref a_2), some (.int law_dr_3), some (.bl near_7), some (.int law_dr_9), some (.ref p_11), j_14, j_15] ∧ Own H0 H [(p_11, .lst (List.map V.int names_13)), (p_12, .lst (List.map V.int (cutL script_1 none (some (19 : Int)))))] ∧ loopM (fun cell_20 s => m__law_names_L0 law_dr_3 near_7 law_dr_9 cell_20 s) r names_13 = some names_16) ⟨_, _, _, rfl, (Own.pk (L' := [(p_11, .lst (List.map V.int ([law_dr_3]))), (p_12, .lst (List.map V.int (cutL script_1 none (some (19 : Int)))))]) O [1, 0] (by decide) rfl), h17⟩ (by rintro r σ H ⟨names_13, j_14, j_15, rfl, O, hL⟩; exact (SqL.of (O.mem (tl_ (hd_))))) ?_ ?_⟩
    · rintro cell_20 r σ H ⟨names_13, j_14, j_15, rfl, O, hL⟩
      obtain ⟨s_, hm, h19⟩ := loopM_cons hL
      replace hm : m__law_names_L0 law_dr_3 near_7 law_dr_9 cell_20 names_13 = some s_ := hm
      unfold m__law_names_L0 at hm
      -- 59
      refine o_seq ?_
      refine o_asg ?_
      refine ⟨_, rfl, _, _, rfl, rfl, (by show (0 : Int) < 256; decide), ?_⟩
      obtain ⟨name_24, h25, hm⟩ := ltvE hm
      refine a_set (congrArg V.int h25) ?_
      -- 60
      obtain ⟨name_32, h28, hm⟩ := bndE hm
      refine o_cut (fun σ H => ∃ (j_31 : Option V), σ = [some (.ref a_2), some (.int law_dr_3), some (.bl near_7), some (.int law_dr_9), some (.ref p_11), j_31, some (.int name_32)] ∧ Own H0 H [(p_11, .lst (List.map V.int names_13)), (p_12, .lst (List.map V.int (cutL script_1 none (some (19 : Int)))))]) ?_ ?_
      · refine o_ifs ?_
        refine ⟨_, rfl, _, rfl, ?_⟩
        refine iteS (c := near_7) (fun h27 => ?_) (fun h27 => ?_)
        · replace hm := ifT h28 h27
          -- 61
          refine o_asg ?_
          obtain ⟨t_29, h30, hm⟩ := bndE hm
          refine ⟨_, rfl, _, rfl, _, _, rfl, rfl, (by show (0 : Int) < 4; decide), _, rfl, ?_⟩
          refine k_shl h30 ?_
          refine ⟨_, _, rfl, rfl, ?_⟩
          have Oz := O
          have hq_ := Option.some.inj hm
          subst hq_
          exact ⟨_, rfl, Oz⟩
        · replace hm := ifF h28 h27
          refine o_next ?_
          have Oz := O
          have hq_ := Option.some.inj hm
          subst hq_
          exact ⟨_, rfl, Oz⟩
      rintro σ H ⟨j_31, rfl, O⟩
      -- 62
      refine o_ifs ?_
      refine ⟨_, rfl, _, rfl, ?_⟩
      refine k_niL (SqL.of (O.mem (hd_))) ?_
      refine ⟨_, rfl, ?_⟩
      refine iteS (c := (!decide (name_32 ∈ names_13))) (fun h33 => ?_) (fun h33 => ?_)
      · replace hm := ifT hm h33
        -- 63
        refine o_drop ?_
        obtain ⟨l_34, h35, hm⟩ := bndE hm
        refine ⟨_, rfl, .inl ⟨rfl, _, (SqL.of (O.mem (hd_)))⟩, _, rfl, ?_⟩
        refine x_nil ?_
        refine k_app (f := V.int) (O.mem (hd_)) (fun _ => O.put0) h35 fun H O => ?_
        have Oz := O
        obtain rfl := Option.some.inj hm
        exact ⟨_, _, _, rfl, Oz, h19⟩
      · replace hm := ifF hm h33
        refine o_next ?_
        have Oz := O
        obtain rfl := Option.some.inj hm
        exact ⟨_, _, _, rfl, Oz, h19⟩
    rintro σ H ⟨names_13, j_14, j_15, rfl, O, hL⟩
    cases loopM_nil hL
    replace O := (Own.pk (L' := [(p_11, .lst (List.map V.int names_16))]) O [0] (by decide) rfl)
    -- 64
    refine o_ret ?_
    refine ⟨_, rfl, ?_⟩
    obtain rfl := Option.some.inj hm
    exact RetL.go k O (hd_)
def m_is_name (number_1 : Int) : Option (Bool) :=
  some (decide ((0 : Int) ≤ number_1) && decide (number_1 ≤ (255 : Int)))
def sp_is_name (K : PySem.W.Frag) : Sp := fun vs H Q _ => ∃ (number_1 : Int) (r : Bool), vs = [.int number_1] ∧ m_is_name number_1 = some r ∧ RetV (.bl r) H Q
abbrev N_is_name : List Str := ["number"]
theorem sc_is_name : FnScope N_is_name ["number"] (defScope s_is_name) := ⟨rfl, rfl, rfl, by decide +kernel, rfl, by decide +kernel, by decide +kernel⟩
theorem ok_is_name {ad : Ad} (T : Txt K mg ad) : FnOk P w K mg base CX0 1 ad.f_is_name ad.fd_is_name ["number"] (sp_is_name K) := by
  refine T.F_is_name.ok sc_is_name (fun vs H Q E h => ?_) (fun cdv A outer s H vs Q E hr h => ?_)
  · obtain ⟨_, _, rfl, _⟩ := h
    rfl
  · obtain ⟨number_1, r, rfl, hm, k⟩ := h
    unfold m_is_name at hm
    obtain ⟨H0, hH0⟩ : ∃ H0 : Hp, H0 = H := ⟨H, rfl⟩
    have O : Own H0 H [] := by rw [hH0]; exact Own.start H
    rw [← hH0] at k
    clear hH0
    refine ⟨_, (pss_one (ps_ret (pe_chain op_le op_le pe_int (pv 0) pe_int))), ?_⟩
    -- 32
    refine o_ret ?_
    refine x_chain (x := .int (0 : Int)) (y := .int number_1) (z := .int (255 : Int)) (c := decide ((0 : Int) ≤ number_1)) (e := decide (number_1 ≤ (255 : Int))) (d := (decide ((0 : Int) ≤ number_1) && decide (number_1 ≤ (255 : Int)))) O (fun Q1 k1 => ?_) (fun H O Q1 k1 => ?_) (fun _ _ k1 => ⟨_, _, rfl, rfl, k1⟩) (fun h2 => ⟨by rw [h2]; rfl, fun H O Q1 k1 => ?_⟩) (fun _ _ k1 => ⟨_, _, rfl, rfl, k1⟩) (fun h2 => by rw [h2]; rfl) (fun H O => ?_)
    · refine o_c ?_
      exact k1 _ O
    · refine ⟨_, rfl, ?_⟩
      exact k1 _ O
    · refine o_c ?_
      exact k1 _ O
    obtain rfl := Option.some.inj hm
    exact RetV.go k O
def m_bit_at (name_1 : Int) (k_2 : Int) : Option (Int) :=
  bnd (shrG name_1 ((7 : Int) - k_2)) fun t_3 =>
  some (Builtin.bitAnd t_3 (1 : Int))
def sp_bit_at (K : PySem.W.Frag) : Sp := fun vs H Q _ => ∃ (name_1 : Int) (k_2 : Int) (r : Int), vs = [.int name_1, .int k_2] ∧ m_bit_at name_1 k_2 = some r ∧ RetV (.int r) H Q
abbrev N_bit_at : List Str := ["name", "k"]
theorem sc_bit_at : FnScope N_bit_at ["name", "k"] (defScope s_bit_at) := ⟨rfl, rfl, rfl, by decide +kernel, rfl, by decide +kernel, by decide +kernel⟩
theorem ok_bit_at {ad : Ad} (T : Txt K mg ad) : FnOk P w K mg base CX0 1 ad.f_bit_at ad.fd_bit_at ["name", "k"] (sp_bit_at K) := by
  refine T.F_bit_at.ok sc_bit_at (fun vs H Q E h => ?_) (fun cdv A outer s H vs Q E hr h => ?_)
  · obtain ⟨_, _, _, rfl, _⟩ := h
    rfl
  · obtain ⟨name_1, k_2, r, rfl, hm, k⟩ := h
    unfold m_bit_at at hm
    obtain ⟨H0, hH0⟩ : ∃ H0 : Hp, H0 = H := ⟨H, rfl⟩
    have O : Own H0 H [] := by rw [hH0]; exact Own.start H
    rw [← hH0] at k
    clear hH0
    refine ⟨_, (pss_one (ps_ret (pe_op op_and (pe_op op_shr (pv 0) (pe_op op_sub pe_int (pv 1))) pe_int))), ?_⟩
    -- 34
    refine o_ret ?_
    obtain ⟨t_3, h4, hm⟩ := bndE hm
    refine ⟨_, rfl, _, rfl, _, _, rfl, rfl, ?_⟩
    refine k_shr h4 ?_
    refine ⟨_, _, rfl, rfl, ?_⟩
    obtain rfl := Option.some.inj hm
    exact RetV.go k O
def m_duel_L0  (name_14 : Int) : Option (Fl (Unit) (Rs (List (Int × (List Int))))) :=
  bnd (m_is_name name_14) fun is_nam_18 =>
  ifB (!is_nam_18) (
    some (.rt (.er .NoName))) (
    some (.nx ()))
def m_duel_C2 (k_38 : Int) (name_42 : Int) : Option Int :=
  bnd (m_bit_at name_42 k_38) fun bit_at_50 =>
  some bit_at_50
def m_duel_C3  (name_54 : Int) : Option Int :=
  
  some name_54
def m_duel_C3t (k_38 : Int) (m_52 : Int) (name_54 : Int) : Option Bool :=
  bnd (m_bit_at name_54 k_38) fun bit_at_62 =>
  some (decide (bit_at_62 = m_52))
def m_duel_L1  (k_38 : Int) (told_27 : List (Int × (List Int))) (still_29 : List Int) : Option ((List (Int × (List Int))) × (List Int)) :=
  bnd (compM (m_duel_C2 k_38) still_29 []) fun l_43 =>
  bnd (minG l_43) fun m_52 =>
  bnd (compT (m_duel_C3t k_38 m_52) (m_duel_C3) still_29 []) fun l_55 =>
  bnd (appG told_27 (m_52, l_55)) fun l_66 =>
  some (l_66, l_55)
def m_duel (names_1 : List Int) : Option (Rs (List (Int × (List Int)))) :=
  bnd (ifB (decide ((List.length names_1 : Int) = (0 : Int))) (some true) (bnd (lenSet names_1) fun n_5 => some (decide (n_5 < (List.length names_1 : Int))))) fun c_7 =>
  ifB c_7 (
    some (.er .NoName)) (
    fin (loopF (fun name_14 (_ : Unit) => m_duel_L0 name_14) names_1 ()) fun _ =>
    bnd (rng1 (8 : Int)) fun rg_23 =>
    bnd (loopM (fun k_38 s => m_duel_L1 k_38 s.1 s.2) rg_23 (([] : List (Int × (List Int))), names_1)) fun (told_33, still_34) =>
    some (.ok told_33))
def sp_duel (K : PySem.W.Frag) (ad : Ad) (d : Eds) : Sp := fun vs H Q E => ∃ (names_1 : List Int) (a_2 : Addr) (R0 : Hp) (r : Rs (List (Int × (List Int)))), vs = [.ref a_2] ∧ Own R0 H [] ∧ (hsub H []) a_2 = some (.lst (List.map V.int names_1)) ∧ m_duel names_1 = some r ∧ RetR (fun r => RetX R0 (hsub H []) (dPD (rL (rT2 rI (rL rI))) r) Q) d r H E
abbrev N_duel : List Str := ["names", "name", "told", "still", "k", "least"]
theorem sc_duel : FnScope N_duel ["names"] (defScope s_duel) := ⟨rfl, rfl, rfl, by decide +kernel, rfl, by decide +kernel, by decide +kernel⟩
theorem ok_duel {ad : Ad} (T : Txt K mg ad) : FnOk P w K mg base (L2N.CX P w) 2 ad.f_duel ad.fd_duel ["names"] (sp_duel K ad ad.es) := by
  have G_bit_at := ok_bit_at (P := P) (w := w) (base := base) T
  have G_is_name := ok_is_name (P := P) (w := w) (base := base) T
  refine okN T.F_duel sc_duel (fun vs H Q E h => ?_) (fun cdv A outer s H vs Q E hr h => ?_)
  · obtain ⟨_, _, _, _, rfl, _⟩ := h
    rfl
  · obtain ⟨names_1, a_2, R0, r, rfl, OO, hp_a_2, hm, k⟩ := h
    unfold m_duel at hm
    obtain ⟨Hb, hHb⟩ : ∃ Hb : Hp, Hb = hsub H [] := ⟨_, rfl⟩
    obtain ⟨H0, hH0⟩ : ∃ H0 : Hp, H0 = Hb := ⟨Hb, rfl⟩
    have O : Own H0 H [] := by rw [hH0, hHb]; exact OO.startX
    have eR : Ex R0 Hb := by rw [hHb]; exact OO.subR
    rw [← hHb] at k hp_a_2
    have eB : Ex Hb H0 := by rw [hH0]; exact Ex.refl _
    have eS : Ex R0 (ovr R0 Hb H0) := by rw [hH0]; exact ovr_start eR
    rw [← hH0] at hp_a_2
    clear hH0
    refine ⟨_, (pss_cons (ps_if (PW.pt (pw_or (pt_cmpR op_eq (pe_callB (r := rLenQ K) call_lenQ (by rfl) T.z_len PySem.boot_len (pa_cons (pv 0) pa_nil)) pe_int (nomark _)) (pw_or1 (pt_cmpR op_lt (pe_lenSetN (by rfl) T.z_len (by rfl) T.z_set (pv 0)) (pe_callB (r := rLenQ K) call_lenQ (by rfl) T.z_len PySem.boot_len (pa_cons (pv 0) pa_nil)) (nomark _))))) (pss_one (ps_errN T.e_NoName (L2N.takes_of rfl rfl rfl rfl) rfl rfl)) pss_nil) (pss_cons (ps_for (passes_of rfl) rfl (pi_list (pv 0)) (pg_name (i := 1) sc_duel.nd rfl (Or.inl rfl)) (pss_one (ps_if (pt_not (pt_val (pe_call G_is_name (hr.mono (by decide)) (by rfl) T.g_is_name T.F_is_name.kp T.b_is_name .nil pass0 (pa_cons (pv 1) pa_nil)))) (pss_one (ps_errN T.e_NoName (L2N.takes_of rfl rfl rfl rfl) rfl rfl)) pss_nil))) (pss_cons (ps_set (i := 2) sc_duel.nd rfl (Or.inl rfl) (pe_lstQ (pe_lst pa_nil))) (pss_cons (ps_set (i := 3) sc_duel.nd rfl (Or.inl rfl) (pe_callTy (r := rListQ K) call_listQ (by rfl) T.z_list (by decide +kernel) (pa_cons (pv 0) pa_nil))) (pss_cons (ps_for (passes_of rfl) rfl (pi_range1 (by rfl) T.z_range (pa_cons pe_int pa_nil)) (pg_name (i := 4) sc_duel.nd rfl (Or.inr rfl)) (pss_cons (ps_set (i := 5) sc_duel.nd rfl (Or.inr rfl) (pe_callB (r := rMin K) (cr_min rfl) (by rfl) T.z_min (by decide +kernel) (pa_cons (pe_lc (own := [("name", 1)]) (g := gName 1) (tt := tYes) rfl sc_duel.nd (pi_list (pv 3)) (blkOk_by (own := [("name", 1)]) (N := N_duel) (sc := defScope s_duel) (by decide +kernel)) (fun _ _ _ _ _ => pg_name (i := 1) sc_duel.nd rfl (Or.inl rfl)) (fun _ _ _ _ _ => pts_nil) (fun _ _ _ _ _ => (pe_call G_bit_at (hr.mono (by decide)) (by rfl) T.g_bit_at T.F_bit_at.kp T.b_bit_at .nil pass0 (pa_cons (pv 1) (pa_cons (pv 4) pa_nil))))) pa_nil))) (pss_cons (ps_setLc (i := 3) (own := [("name", 1)]) (g := gName 1) rfl sc_duel.nd rfl rfl (sw_true rfl rfl rfl (by decide +kernel)) (pi_list (pv 3)) (blkOk_by (own := [("name", 1)]) (N := N_duel) (sc := defScope s_duel) (by decide +kernel)) (fun _ _ _ _ _ => pg_name (i := 1) sc_duel.nd rfl (Or.inl rfl)) (fun _ _ _ _ _ => pts_one (pt_cmpR op_eq (pe_call G_bit_at (hr.mono (by decide)) (by rfl) T.g_bit_at T.F_bit_at.kp T.b_bit_at .nil pass0 (pa_cons (pv 1) (pa_cons (pv 4) pa_nil))) (pv 5) (nomark _))) (fun _ _ _ _ _ => (pv 1))) (pss_one (ps_expr (pe_bm PySem.F.plainAttrs_list PySem.F.slot_list_append PySem.F.type_list_append mt_append (pv 2) (pa_cons (pe_tupQ (pe_tup (pa_cons (pv 5) (pa_cons (pv 3) pa_nil)))) pa_nil))))))) (pss_one (ps_ret (pv 2)))))))), ?_⟩
    -- 36
    refine o_seq ?_
    refine o_ifs ?_
    obtain ⟨c_7, h8, hm⟩ := bndE hm
    refine x_orJ (c := (decide ((List.length names_1 : Int) = (0 : Int)))) (e := c_7) (d := c_7) (fun H => ∃ (R_ : Hp), Ex H0 R_ ∧ Own R_ H []) (fun Q1 k1 => ?_) (fun h3 => ⟨rfl, fun H hJ Q2 k2 => ?_⟩) (fun h3 => Option.some.inj (ifT h8 h3)) (fun H hJ => ?_)
    · have eJ4 : Ex H0 H0 := Ex.refl _
      refine ⟨_, rfl, ?_⟩
      refine x_nil ?_
      refine n_len (SqL.of (O.ex _ _ hp_a_2)) ?_
      refine o_c ?_
      refine k_eqI ?_
      refine ⟨_, rfl, ?_⟩
      exact k1 _ ⟨H0, eJ4, O⟩
    · replace hm := ifF h8 h3
      obtain ⟨n_5, h6, hm⟩ := bndE hm
      obtain rfl := Option.some.inj hm
      obtain ⟨H0, eJ4, O⟩ := hJ
      replace hp_a_2 := eJ4 _ _ hp_a_2
      replace eB := eB.trans eJ4
      refine ⟨_, rfl, ?_⟩
      refine k_lset (SqL.of (O.ex _ _ hp_a_2)) h6 ?_
      refine ⟨_, rfl, ?_⟩
      refine x_nil ?_
      refine n_len (SqL.of (O.ex _ _ hp_a_2)) ?_
      refine ⟨_, _, rfl, rfl, _, rfl, ?_⟩
      exact k2 _ ⟨H0, eJ4, O⟩
    obtain ⟨H0, eJ4, O⟩ := hJ
    replace hp_a_2 := eJ4 _ _ hp_a_2
    replace eB := eB.trans eJ4
    refine iteS (c := c_7) (fun h9 => ?_) (fun h9 => ?_)
    · replace hm := ifT hm h9
      -- 37
      obtain rfl := Option.some.inj hm
      exact k _ (Own.whole OO hHb eB (show Own _ _ (hAppend [] []) from (Own.pk O [] (by decide) rfl)))
    · replace hm := ifF hm h9
      refine o_next ?_
      -- 38
      refine o_seq ?_
      refine o_for ?_
      refine ⟨_, rfl, ?_⟩
      obtain ⟨out_15, h11, h12⟩ := bndE hm
      refine ⟨_, rfl, ⟨_, (SqL.of (O.ex _ _ hp_a_2))⟩, q_forL (f := V.int) (xs := names_1) (fun r σ H => ∃ (R_ : Hp) (j_10 : Option V), σ = [some (.ref a_2), j_10, none, none, none, none] ∧ Ex H0 R_ ∧ Own R_ H [] ∧ loopF (fun name_14 (_ : Unit) => m_duel_L0 name_14) r () = some out_15) ⟨H0, _, rfl, Ex.refl _, O, h11⟩ (by rintro r σ H ⟨H0, j_10, rfl, eJ_, O, hL⟩; replace hp_a_2 := eJ_ _ _ hp_a_2; exact (SqL.of (O.ex _ _ hp_a_2))) ?_ ?_⟩
      · rintro name_14 r σ H ⟨H0, j_10, rfl, eL15, O, hL⟩
        replace hp_a_2 := eL15 _ _ hp_a_2
        replace eB := eB.trans eL15
        obtain ⟨s_, hm, h13⟩ := loopF_cons hL
        replace hm : m_duel_L0 name_14 = some s_ := hm
        unfold m_duel_L0 at hm
        -- 39
        refine o_ifs ?_
        obtain ⟨is_nam_18, h19, hm⟩ := bndE hm
        refine ⟨_, rfl, ?_⟩
        refine x_nil ?_
        refine ⟨_, is_nam_18, rfl, h19, ?_⟩
        refine O.retV fun H O => ?_
        refine ⟨_, rfl, ?_⟩
        refine iteS (c := (!is_nam_18)) (fun h20 => ?_) (fun h20 => ?_)
        · replace hm := ifT hm h20
          -- 40
          obtain rfl := Option.some.inj hm
          obtain rfl := contRt h13
          obtain rfl := finRt h12
          exact k _ (Own.whole OO hHb eB (show Own _ _ (hAppend [] []) from (Own.pk O [] (by decide) rfl)))
        · replace hm := ifF hm h20
          refine o_next ?_
          have Oz := O
          obtain rfl := Option.some.inj hm
          exact ⟨H0, _, rfl, eL15, Oz, h13⟩
      rintro σ H ⟨H0, j_10, rfl, eJ_, O, hL⟩
      replace hp_a_2 := eJ_ _ _ hp_a_2
      replace eB := eB.trans eJ_
      obtain rfl := loopF_nil hL
      replace hm := finNx h12
      -- 41
      refine o_seq ?_
      refine o_asg ?_
      refine x_nil ?_
      refine n_lstV O (by show 0 ≤ sizeLine; decide) fun p_21 H O => ?_
      have ha_p_21 : All2 ((rT2 rI (rL rI)) (ovr R0 Hb H0)) ([] : List V) (([] : List (Int × (List Int))) : List (Int × (List Int))) := .nil
      have hd_p_21 : DN (ovr R0 Hb H0) hp0 [] [] := DN.nil
      -- 42
      refine o_seq ?_
      refine o_asg ?_
      refine ⟨_, rfl, ?_⟩
      refine x_nil ?_
      refine n_list O (SqL.of (O.ex _ _ hp_a_2)) fun p_22 H O => ?_
      -- 43
      refine o_seq ?_
      obtain ⟨H0, O, e_, hp_p_22⟩ := O.frzO (R0 := R0) eB
      replace hp_a_2 := e_ _ _ hp_a_2
      replace ha_p_21 := mA (mT2 mI (mL mI)) (ovr_mono e_) ha_p_21
      replace hd_p_21 := hd_p_21.mono (ovr_mono e_)
      replace eB := eB.trans e_
      refine o_for ?_
      obtain ⟨rg_23, h24, hm⟩ := bndE hm
      refine o_ir1 ?_
      refine o_cons ?_
      refine o_c ?_
      refine x_nil ?_
      obtain ⟨c1, c2, rfl⟩ := rng1E h24
      obtain ⟨⟨told_33, still_34⟩, h35, hm⟩ := bndE hm
      refine ⟨_, rfl, c1, c2, q_forR (fun r σ H => ∃ (R_ : Hp) (p_30 : Addr) (told_27 : List (Int × (List Int))) (still_29 : List Int) (vs_28 : List V) (j_25 : Option V) (j_26 : Option V) (j_31 : Option V) (j_32 : Option V), σ = [j_25, j_26, some (.ref p_21), some (.ref p_30), j_31, j_32] ∧ Ex H0 R_ ∧ Own R_ H [(p_21, .lst vs_28)] ∧ ovr R0 Hb R_ p_30 = some (.lst (List.map V.int still_29)) ∧ All2 ((rT2 rI (rL rI)) (ovr R0 Hb R_)) vs_28 told_27 ∧ DN (ovr R0 Hb R_) hp0 [] vs_28 ∧ loopM (fun k_38 s => m_duel_L1 k_38 s.1 s.2) r (told_27, still_29) = some (told_33, still_34)) ⟨H0, p_22, ([] : List (Int × (List Int))), _, (([] : List V)), _, _, _, _, rfl, Ex.refl _, O, hp_p_22, ha_p_21, hd_p_21, h35⟩ ?_ ?_⟩
      · rintro k_38 r σ H ⟨H0, p_30, told_27, still_29, vs_28, j_25, j_26, j_31, j_32, rfl, eL39, O, hp_p_30, ha_p_21, hd_p_21, hL⟩
        replace eB := eB.trans eL39
        obtain ⟨s_, hm, h37⟩ := loopM_cons hL
        replace hm : m_duel_L1 k_38 told_27 still_29 = some s_ := hm
        unfold m_duel_L1 at hm
        -- 44
        refine o_seq ?_
        refine o_asg ?_
        refine ⟨_, rfl, ?_⟩
        obtain ⟨l_43, h44, hm⟩ := bndE hm
        refine ⟨_, rfl, ⟨_, (SqL.of (O.ex _ _ (ovr_ex _ _ hp_p_30)))⟩, fun p_45 hD => k_lcL (f := V.int) (xs := still_29) (fun r H => ∃ (R_ : Hp) (acc : List Int), Ex H0 R_ ∧ Own R_ H [(p_45, .lst (List.map V.int acc)), (p_21, .lst vs_28)] ∧ compM (m_duel_C2 k_38) r acc = some l_43) ⟨H0, [], Ex.refl _, O.new hD, h44⟩ (by rintro r H ⟨H0, acc, eC45, O, hC⟩; exact (SqL.of (O.ex _ _ (eC45 _ _ (ovr_ex _ _ hp_p_30))))) ?_ ?_⟩
        · rintro name_42 r H ⟨H0, acc, eC45, O, hC⟩
          replace hp_p_30 := (ovr_mono eC45) _ _ hp_p_30
          replace ha_p_21 := mA (mT2 mI (mL mI)) (ovr_mono eC45) ha_p_21
          replace hd_p_21 := hd_p_21.mono (ovr_mono eC45)
          replace eB := eB.trans eC45
          replace eL39 := eL39.trans eC45
          obtain ⟨y, hm, hz, hC⟩ := compM_cons hC
          refine ⟨rfl, ?_⟩
          unfold m_duel_C2 at hm
          obtain ⟨bit_at_50, h51, hm⟩ := bndE hm
          refine ⟨_, rfl, _, rfl, ?_⟩
          refine x_nil ?_
          refine ⟨_, _, bit_at_50, rfl, h51, ?_⟩
          refine O.retV fun H O => ?_
          obtain rfl := Option.some.inj hm
          refine ⟨_, O.mem (hd_), (by rw [List.length_map]; exact hz), H0, _, eC45, ?_, hC⟩
          rw [map_snoc]
          exact O.put0
        rintro H ⟨H0, acc, eC45, O, hC⟩
        replace hp_p_30 := (ovr_mono eC45) _ _ hp_p_30
        replace ha_p_21 := mA (mT2 mI (mL mI)) (ovr_mono eC45) ha_p_21
        replace hd_p_21 := hd_p_21.mono (ovr_mono eC45)
        replace eB := eB.trans eC45
        replace eL39 := eL39.trans eC45
        obtain rfl := compM_nil hC
        obtain ⟨m_52, h53, hm⟩ := bndE hm
        refine x_nil ?_
        refine k_min (SqL.of (O.mem (hd_))) h53 ?_
        -- 45
        refine o_seq ?_
        refine o_asg ?_
        refine ⟨_, rfl, ?_⟩
        obtain ⟨l_55, h56, hm⟩ := bndE hm
        refine ⟨_, rfl, ⟨_, (SqL.of (O.ex _ _ (ovr_ex _ _ hp_p_30)))⟩, fun p_57 hD => k_lcLt (f := V.int) (xs := still_29) (fun r H => ∃ (R_ : Hp) (acc : List Int), Ex H0 R_ ∧ Own R_ H [(p_57, .lst (List.map V.int acc)), (p_45, .lst (List.map V.int l_43)), (p_21, .lst vs_28)] ∧ compT (m_duel_C3t k_38 m_52) (m_duel_C3) r acc = some l_55) ⟨H0, [], Ex.refl _, O.new hD, h56⟩ (by rintro r H ⟨H0, acc, eC57, O, hC⟩; exact (SqL.of (O.ex _ _ (eC57 _ _ (ovr_ex _ _ hp_p_30))))) ?_ ?_⟩
        · rintro name_54 r H ⟨H0, acc, eC57, O, hC⟩
          replace hp_p_30 := (ovr_mono eC57) _ _ hp_p_30
          replace ha_p_21 := mA (mT2 mI (mL mI)) (ovr_mono eC57) ha_p_21
          replace hd_p_21 := hd_p_21.mono (ovr_mono eC57)
          replace eB := eB.trans eC57
          replace eL39 := eL39.trans eC57
          obtain ⟨b_, hm, hC⟩ := compT_cons hC
          refine ⟨rfl, ?_⟩
          unfold m_duel_C3t at hm
          obtain ⟨bit_at_62, h63, hm⟩ := bndE hm
          refine ⟨_, rfl, _, rfl, ?_⟩
          refine x_nil ?_
          refine ⟨_, _, bit_at_62, rfl, h63, ?_⟩
          refine O.retV fun H O => ?_
          refine ⟨_, rfl, ?_⟩
          refine k_eqI ?_
          refine ⟨_, rfl, ?_⟩
          obtain rfl := Option.some.inj hm
          refine iteS (c := (decide (bit_at_62 = m_52))) (fun h64 => ?_) (fun h64 => ?_)
          · obtain ⟨y, hm, hz, hC⟩ := compT_yes (ifT hC h64)
            unfold m_duel_C3 at hm
            refine ⟨_, rfl, ?_⟩
            obtain rfl := Option.some.inj hm
            refine ⟨_, O.mem (hd_), (by rw [List.length_map]; exact hz), H0, _, eC57, ?_, hC⟩
            rw [map_snoc]
            exact O.put0
          · exact ⟨H0, acc, eC57, O, ifF hC h64⟩
        rintro H ⟨H0, acc, eC57, O, hC⟩
        replace hp_p_30 := (ovr_mono eC57) _ _ hp_p_30
        replace ha_p_21 := mA (mT2 mI (mL mI)) (ovr_mono eC57) ha_p_21
        replace hd_p_21 := hd_p_21.mono (ovr_mono eC57)
        replace eB := eB.trans eC57
        replace eL39 := eL39.trans eC57
        obtain rfl := compT_nil hC
        -- 46
        refine o_drop ?_
        refine ⟨_, rfl, .inl ⟨rfl, _, (SqL.of (O.mem (tl_ (tl_ (hd_)))))⟩, _, rfl, _, rfl, ?_⟩
        refine x_nil ?_
        have hx_p_57 := DN.pre hd_p_21 (ovr_no (O.fr (p_57, _) (hd_))) rfl
        obtain ⟨H0, O, e_, hp_p_57⟩ := O.frzO (R0 := R0) eB
        replace hp_p_30 := (ovr_mono e_) _ _ hp_p_30
        replace ha_p_21 := mA (mT2 mI (mL mI)) (ovr_mono e_) ha_p_21
        replace hd_p_21 := hd_p_21.mono (ovr_mono e_)
        replace hx_p_57 := hx_p_57.mono (ovr_mono e_)
        replace eB := eB.trans e_
        replace eL39 := eL39.trans e_
        refine n_tup O (by show 2 ≤ sizeLine; decide) fun p_65 H O => ?_
        obtain ⟨H0, O, e_, hp_p_65⟩ := O.frzO (R0 := R0) eB
        replace hp_p_30 := (ovr_mono e_) _ _ hp_p_30
        replace ha_p_21 := mA (mT2 mI (mL mI)) (ovr_mono e_) ha_p_21
        replace hd_p_21 := hd_p_21.mono (ovr_mono e_)
        replace hx_p_57 := hx_p_57.mono (ovr_mono e_)
        replace hp_p_57 := (ovr_mono e_) _ _ hp_p_57
        replace eB := eB.trans e_
        replace eL39 := eL39.trans e_
        have hn_p_65 : (rT2 rI (rL rI)) (ovr R0 Hb H0) (.ref p_65) ((m_52, l_55) : Int × (List Int)) := ⟨_, _, _, rfl, hp_p_65, rfl, (gI hp_p_57)⟩
        refine x_nil ?_
        obtain ⟨l_66, h67, hm⟩ := bndE hm
        refine k_appA (O.mem (tl_ (hd_))) ha_p_21 (fun _ => O.put1) h67 hn_p_65 fun H O ha_p_21 => ?_
        have hd_p_21 := hx_p_57.snoc hp_p_65 hp_p_57
        have Oz := O
        obtain rfl := Option.some.inj hm
        exact ⟨H0, p_57, _, _, ((vs_28 ++ [.ref p_65])), _, _, _, _, rfl, eL39, (Own.pk (L' := [(p_21, .lst (vs_28 ++ [.ref p_65]))]) Oz [1] (by decide) rfl), hp_p_57, ha_p_21, hd_p_21, h37⟩
      rintro σ H ⟨H0, p_30, told_27, still_29, vs_28, j_25, j_26, j_31, j_32, rfl, eJ_, O, hp_p_30, ha_p_21, hd_p_21, hL⟩
      replace eB := eB.trans eJ_
      cases loopM_nil hL
      -- 47
      refine o_ret ?_
      refine ⟨_, rfl, ?_⟩
      obtain rfl := Option.some.inj hm
      have hx_p_21 := DN.pre hd_p_21 (ovr_no (O.fr (p_21, _) (hd_))) rfl
      obtain ⟨H0, O, e_, hp_p_21⟩ := O.frzO (R0 := R0) eB
      replace hp_p_30 := (ovr_mono e_) _ _ hp_p_30
      replace ha_p_21 := mA (mT2 mI (mL mI)) (ovr_mono e_) ha_p_21
      replace hd_p_21 := hd_p_21.mono (ovr_mono e_)
      replace hx_p_21 := hx_p_21.mono (ovr_mono e_)
      replace eB := eB.trans e_
      have hn_p_21 : (rL (rT2 rI (rL rI))) (ovr R0 Hb H0) (.ref p_21) told_33 := ⟨_, _, rfl, hp_p_21, ha_p_21⟩
      exact k _ _ H0 _ eB (by exact (Own.pk O [] (by decide) rfl)) ⟨rfl, hn_p_21, _, _, rfl, hp_p_21, hx_p_21.own hp_p_21⟩
def m__law_told_C1 (t_29 : Int) (name_31 : Int) : Option Int :=
  bnd (fdivG name_31 t_29) fun t_36 =>
  some (t_36 % (2 : Int))
def m__law_told_C2  (name_44 : Int) : Option Int :=
  
  some name_44
def m__law_told_C2t (t_29 : Int) (bit_42 : Int) (name_44 : Int) : Option Bool :=
  bnd (fdivG name_44 t_29) fun t_49 =>
  some (decide ((t_49 % (2 : Int)) = bit_42))
def m__law_told_L0 (found_1 : List (Int × (List Int))) (k_25 : Int) (still_14 : List Int) : Option (Fl ((List Int)) (Bool)) :=
  bnd (shrG (128 : Int) k_25) fun t_29 =>
  bnd (compM (m__law_told_C1 t_29) still_14 []) fun l_33 =>
  bnd (ifB (decide ((0 : Int) ∈ l_33)) (
    some (0 : Int)) (
    some (1 : Int))) fun bit_42 =>
  bnd (compT (m__law_told_C2t t_29 bit_42) (m__law_told_C2) still_14 []) fun l_46 =>
  bnd (atI found_1 k_25) fun e_52 =>
  ifB ((!true) || ((!decide (((2 : Nat) : Int) = (2 : Int))) || ((!true) || false))) (
    some (.rt false)) (
    ifB ((!decide (e_52.1 = bit_42)) || ((!true) || (!decide (e_52.2 = l_46)))) (
      some (.rt false)) (
      some (.nx l_46)))
def m__law_told (found_1 : List (Int × (List Int))) (names_3 : List Int) : Option (Bool) :=
  ifB ((!true) || (!decide ((List.length found_1 : Int) = (8 : Int)))) (
    some false) (
    bnd (rng1 (8 : Int)) fun rg_12 =>
    fin (loopF (fun k_25 s => m__law_told_L0 found_1 k_25 s) rg_12 names_3) fun still_14 =>
    bnd (atI found_1 (7 : Int)) fun e_96 =>
    bnd (minG names_3) fun m_110 =>
    some (decide (e_96.2 = [m_110])))
def sp__law_told (K : PySem.W.Frag) : Sp := fun vs H Q _ => ∃ (found_1 : List (Int × (List Int))) (a_2 : Addr) (names_3 : List Int) (a_4 : Addr) (r : Bool), vs = [.ref a_2, .ref a_4] ∧ (rL (rT2 rI (rL rI))) H (.ref a_2) found_1 ∧ H a_4 = some (.lst (List.map V.int names_3)) ∧ m__law_told found_1 names_3 = some r ∧ RetV (.bl r) H Q
abbrev N__law_told : List Str := ["found", "names", "still", "k", "worth", "said", "bit", "one", "name"]
theorem sc__law_told : FnScope N__law_told ["found", "names"] (defScope s__law_told) := ⟨rfl, rfl, rfl, by decide +kernel, rfl, by decide +kernel, by decide +kernel⟩
theorem ok__law_told {ad : Ad} (T : Txt K mg ad) : FnOk P w K mg base CX0 1 ad.f__law_told ad.fd__law_told ["found", "names"] (sp__law_told K) := by
  refine T.F__law_told.ok sc__law_told (fun vs H Q E h => ?_) (fun cdv A outer s H vs Q E hr h => ?_)
  · obtain ⟨_, _, _, _, _, rfl, _⟩ := h
    rfl
  · obtain ⟨found_1, a_2, names_3, a_4, r, rfl, hn_a_2, hp_a_4, hm, k⟩ := h
    unfold m__law_told at hm
    obtain ⟨H0, hH0⟩ : ∃ H0 : Hp, H0 = H := ⟨H, rfl⟩
    have O : Own H0 H [] := by rw [hH0]; exact Own.start H
    rw [← hH0] at k hn_a_2 hp_a_4
    clear hH0
    refine ⟨_, (pss_cons (ps_if (PW.pt (pw_or (pt_not (pt_val (pe_callB (r := rIsi K) call_isi (by rfl) T.z_isinstance (by decide +kernel) (pa_cons (pv 0) (pa_cons (pe_bltn (v := V.ty "list") (u := .type "list") (by rfl) T.z_list (by decide +kernel) rfl) pa_nil))))) (pw_or1 (pt_cmpR op_ne (pe_callB (r := rLenQ K) call_lenQ (by rfl) T.z_len PySem.boot_len (pa_cons (pv 0) pa_nil)) pe_int (nomark _))))) (pss_one (ps_ret pe_bl)) pss_nil) (pss_cons (ps_set (i := 2) sc__law_told.nd rfl (Or.inl rfl) (pe_callTy (r := rListQ K) call_listQ (by rfl) T.z_list (by decide +kernel) (pa_cons (pv 1) pa_nil))) (pss_cons (ps_for PassesOwn.never rfl (pi_range1 (by rfl) T.z_range (pa_cons pe_int pa_nil)) (pg_name (i := 3) sc__law_told.nd rfl (Or.inl rfl)) (pss_cons (ps_set (i := 4) sc__law_told.nd rfl (Or.inr rfl) (pe_op op_shr pe_int (pv 3))) (pss_cons (ps_setLc (i := 5) (own := [("name", 8)]) (g := gName 8) (tt := tYes) rfl sc__law_told.nd rfl rfl (sw_true rfl rfl rfl (by decide +kernel)) (pi_list (pv 2)) (blkOk_by (own := [("name", 8)]) (N := N__law_told) (sc := defScope s__law_told) (by decide +kernel)) (fun _ _ _ _ _ => pg_name (i := 8) sc__law_told.nd rfl (Or.inl rfl)) (fun _ _ _ _ _ => pts_nil) (fun _ _ _ _ _ => (pe_op op_mod (pe_op op_fdivW (pv 8) (pv 4)) pe_int))) (pss_cons (ps_set (i := 6) sc__law_told.nd rfl (Or.inr rfl) pe_int) (Evl.pss_cut (ps_if (pt_cmpR (r := rIn K false) op_in_seq pe_int (pv 5) (by rfl)) (pss_one (ps_set (i := 6) sc__law_told.nd rfl (Or.inr rfl) pe_int)) pss_nil) (pss_cons (ps_setLc (i := 2) (own := [("name", 8)]) (g := gName 8) rfl sc__law_told.nd rfl rfl (sw_true rfl rfl rfl (by decide +kernel)) (pi_list (pv 2)) (blkOk_by (own := [("name", 8)]) (N := N__law_told) (sc := defScope s__law_told) (by decide +kernel)) (fun _ _ _ _ _ => pg_name (i := 8) sc__law_told.nd rfl (Or.inl rfl)) (fun _ _ _ _ _ => pts_one (pt_cmpR op_eq (pe_op op_mod (pe_op op_fdivW (pv 8) (pv 4)) pe_int) (pv 6) (nomark _))) (fun _ _ _ _ _ => (pv 8))) (pss_cons (ps_set (i := 7) sc__law_told.nd rfl (Or.inl rfl) (pe_ix (r := rIxL K) ix_list (pv 0) (pv 3) (fun _ _ => rfl))) (pss_cons (ps_if (PW.pt (pw_or (pt_not (pt_val (pe_callB (r := rIsi K) call_isi (by rfl) T.z_isinstance (by decide +kernel) (pa_cons (pv 7) (pa_cons (pe_bltn (v := V.ty "tuple") (u := .type "tuple") (by rfl) T.z_tuple (by decide +kernel) rfl) pa_nil))))) (pw_or (pt_cmpR op_ne (pe_callB (r := rLenQ K) call_lenQ (by rfl) T.z_len PySem.boot_len (pa_cons (pv 7) pa_nil)) pe_int (nomark _)) (pw_or (pt_not (pt_val (pe_callB (r := rIsi K) call_isi (by rfl) T.z_isinstance (by decide +kernel) (pa_cons (pe_ix (r := rIxT K) ix_tup (pv 7) pe_int (fun _ _ => rfl)) (pa_cons (pe_bltn (v := V.ty "int") (u := .type "int") (by rfl) T.z_int (by decide +kernel) rfl) pa_nil))))) (pw_or1 (pt_val (pe_callB (r := rIsi K) call_isi (by rfl) T.z_isinstance (by decide +kernel) (pa_cons (pe_ix (r := rIxT K) ix_tup (pv 7) pe_int (fun _ _ => rfl)) (pa_cons (pe_bltn (v := V.ty "bool") (u := .type "bool") (by rfl) T.z_bool (by decide +kernel) rfl) pa_nil))))))))) (pss_one (ps_ret pe_bl)) pss_nil) (pss_one (ps_if (PW.pt (pw_or (pt_cmpR op_ne (pe_ix (r := rIxT K) ix_tup (pv 7) pe_int (fun _ _ => rfl)) (pv 6) (nomark _)) (pw_or (pt_not (pt_val (pe_callB (r := rIsi K) call_isi (by rfl) T.z_isinstance (by decide +kernel) (pa_cons (pe_ix (r := rIxT K) ix_tup (pv 7) pe_int (fun _ _ => rfl)) (pa_cons (pe_bltn (v := V.ty "list") (u := .type "list") (by rfl) T.z_list (by decide +kernel) rfl) pa_nil))))) (pw_or1 (pt_cmpR (r := rNeD K) (op_neD hr.units) (pe_ix (r := rIxT K) ix_tup (pv 7) pe_int (fun _ _ => rfl)) (pv 2) (nomark _)))))) (pss_one (ps_ret pe_bl)) pss_nil)))))))))) (pss_one (ps_ret (pe_cmpR (r := rEqD K) (op_eqD hr.units) (pe_ix (r := rIxT K) ix_tup (pe_ix (r := rIxL K) ix_list (pv 0) pe_int (fun _ _ => rfl)) pe_int (fun _ _ => rfl)) (pe_lstQ (pe_lst (pa_cons (pe_callB (r := rMin K) (cr_min rfl) (by rfl) T.z_min (by decide +kernel) (pa_cons (pv 1) pa_nil)) pa_nil))) (nomark _))))))), ?_⟩
    -- 66
    refine o_seq ?_
    refine o_ifs ?_
    refine x_or (c := (!true)) (e := (!decide ((List.length found_1 : Int) = (8 : Int)))) (d := ((!true) || (!decide ((List.length found_1 : Int) = (8 : Int))))) O (fun Q1 k1 => ?_) (fun h5 => ⟨by rw [h5]; rfl, fun H O Q2 k2 => ?_⟩) (fun h5 => by rw [h5]; rfl) (fun H O => ?_)
    · refine ⟨_, rfl, ?_⟩
      obtain ⟨_, h6, _⟩ := rL_at hn_a_2
      refine ⟨_, _, _, _, true, rfl, .ty _, .base (.lst (O.ex _ _ h6)), kit_ty (by decide +kernel), _, rfl, ?_⟩
      exact k1 _ O
    · refine ⟨_, rfl, ?_⟩
      refine x_nil ?_
      obtain ⟨vs_7, h8, h9⟩ := rL_at hn_a_2
      refine n_lenA (SqL.of (O.ex _ _ h8)) h9 ?_
      refine o_c ?_
      refine k_neI ?_
      refine ⟨_, rfl, ?_⟩
      exact k2 _ O
    refine iteS (c := ((!true) || (!decide ((List.length found_1 : Int) = (8 : Int))))) (fun h10 => ?_) (fun h10 => ?_)
    · replace hm := ifT hm h10
      -- 67
      refine o_ret ?_
      refine o_c ?_
      obtain rfl := Option.some.inj hm
      exact RetV.go k O
    · replace hm := ifF hm h10
      refine o_next ?_
      -- 68
      refine o_seq ?_
      refine o_asg ?_
      refine ⟨_, rfl, ?_⟩
      refine x_nil ?_
      refine n_list O (SqL.of (O.ex _ _ hp_a_4)) fun p_11 H O => ?_
      -- 69
      refine o_seq ?_
      refine o_for ?_
      obtain ⟨rg_12, h13, hm⟩ := bndE hm
      refine o_ir1 ?_
      refine o_cons ?_
      refine o_c ?_
      refine x_nil ?_
      obtain ⟨c1, c2, rfl⟩ := rng1E h13
      obtain ⟨out_26, h22, h23⟩ := bndE hm
      refine ⟨_, rfl, c1, c2, q_forR (fun r σ H => ∃ (p_15 : Addr) (still_14 : List Int) (j_16 : Option V) (j_17 : Option V) (j_18 : Option V) (j_19 : Option V) (j_20 : Option V), σ = [some (.ref a_2), some (.ref a_4), some (.ref p_15), j_16, j_17, j_18, j_19, j_20, none] ∧ Own H0 H [(p_15, .lst (List.map V.int still_14))] ∧ loopF (fun k_25 s => m__law_told_L0 found_1 k_25 s) r still_14 = some out_26) ⟨p_11, _, _, _, _, _, _, rfl, O, h22⟩ ?_ ?_⟩
      · rintro k_25 r σ H ⟨p_15, still_14, j_16, j_17, j_18, j_19, j_20, rfl, O, hL⟩
        obtain ⟨s_, hm, h24⟩ := loopF_cons hL
        replace hm : m__law_told_L0 found_1 k_25 still_14 = some s_ := hm
        unfold m__law_told_L0 at hm
        -- 70
        refine o_seq ?_
        refine o_asg ?_
        obtain ⟨t_29, h30, hm⟩ := bndE hm
        refine ⟨_, rfl, ?_⟩
        refine k_shr h30 ?_
        -- 71
        refine o_seq ?_
        refine o_asg ?_
        refine ⟨_, rfl, ?_⟩
        obtain ⟨l_33, h34, hm⟩ := bndE hm
        refine ⟨_, rfl, ⟨_, (SqL.of (O.mem (hd_)))⟩, fun p_35 hD => k_lcL (f := V.int) (xs := still_14) (fun r H => ∃ acc : List Int, Own H0 H ((p_35, .lst (List.map V.int acc)) :: [(p_15, .lst (List.map V.int still_14))]) ∧ compM (m__law_told_C1 t_29) r acc = some l_33) ⟨[], O.new hD, h34⟩ (by rintro r H ⟨acc, O, hC⟩; exact (SqL.of (O.mem (tl_ (hd_))))) ?_ ?_⟩
        · rintro name_31 r H ⟨acc, O, hC⟩
          obtain ⟨y, hm, hz, hC⟩ := compM_cons hC
          refine ⟨rfl, ?_⟩
          unfold m__law_told_C1 at hm
          obtain ⟨t_36, h37, hm⟩ := bndE hm
          refine ⟨_, rfl, _, rfl, ?_⟩
          refine k_fdiv h37 ?_
          refine ⟨_, _, rfl, rfl, (by show (0 : Int) < 2; decide), ?_⟩
          obtain rfl := Option.some.inj hm
          refine ⟨_, O.mem (hd_), (by rw [List.length_map]; exact hz), _, ?_, hC⟩
          rw [map_snoc]
          exact O.put0
        rintro H ⟨acc, O, hC⟩
        obtain rfl := compM_nil hC
        -- 72
        refine o_seq ?_
        refine o_asg ?_
        refine o_c ?_
        -- 73
        obtain ⟨bit_42, h40, hm⟩ := bndE hm
        refine o_cut (fun σ H => ∃ (j_41 : Option V) (j_43 : Option V), σ = [some (.ref a_2), some (.ref a_4), some (.ref p_15), some (.int k_25), some (.int t_29), j_41, some (.int bit_42), j_43, none] ∧ Own H0 H [(p_15, .lst (List.map V.int still_14))]) ?_ ?_
        · refine o_ifs ?_
          refine ⟨_, rfl, ?_⟩
          refine k_inL (SqL.of (O.mem (hd_))) ?_
          refine ⟨_, rfl, ?_⟩
          refine iteS (c := (decide ((0 : Int) ∈ l_33))) (fun h39 => ?_) (fun h39 => ?_)
          · replace hm := ifT h40 h39
            -- 74
            refine o_asg ?_
            refine o_c ?_
            have Oz := O
            have hq_ := Option.some.inj hm
            subst hq_
            exact ⟨_, _, rfl, (Own.pk (L' := [(p_15, .lst (List.map V.int still_14))]) Oz [1] (by decide) rfl)⟩
          · replace hm := ifF h40 h39
            refine o_next ?_
            have Oz := O
            have hq_ := Option.some.inj hm
            subst hq_
            exact ⟨_, _, rfl, (Own.pk (L' := [(p_15, .lst (List.map V.int still_14))]) Oz [1] (by decide) rfl)⟩
        rintro σ H ⟨j_41, j_43, rfl, O⟩
        -- 75
        refine o_seq ?_
        refine o_asg ?_
        refine ⟨_, rfl, ?_⟩
        obtain ⟨l_46, h47, hm⟩ := bndE hm
        refine ⟨_, rfl, ⟨_, (SqL.of (O.mem (hd_)))⟩, fun p_48 hD => k_lcLt (f := V.int) (xs := still_14) (fun r H => ∃ acc : List Int, Own H0 H ((p_48, .lst (List.map V.int acc)) :: [(p_15, .lst (List.map V.int still_14))]) ∧ compT (m__law_told_C2t t_29 bit_42) (m__law_told_C2) r acc = some l_46) ⟨[], O.new hD, h47⟩ (by rintro r H ⟨acc, O, hC⟩; exact (SqL.of (O.mem (tl_ (hd_))))) ?_ ?_⟩
        · rintro name_44 r H ⟨acc, O, hC⟩
          obtain ⟨b_, hm, hC⟩ := compT_cons hC
          refine ⟨rfl, ?_⟩
          unfold m__law_told_C2t at hm
          obtain ⟨t_49, h50, hm⟩ := bndE hm
          refine ⟨_, rfl, _, rfl, ?_⟩
          refine k_fdiv h50 ?_
          refine ⟨_, _, rfl, rfl, (by show (0 : Int) < 2; decide), _, rfl, ?_⟩
          refine k_eqI ?_
          refine ⟨_, rfl, ?_⟩
          obtain rfl := Option.some.inj hm
          refine iteS (c := (decide ((t_49 % (2 : Int)) = bit_42))) (fun h51 => ?_) (fun h51 => ?_)
          · obtain ⟨y, hm, hz, hC⟩ := compT_yes (ifT hC h51)
            unfold m__law_told_C2 at hm
            refine ⟨_, rfl, ?_⟩
            obtain rfl := Option.some.inj hm
            refine ⟨_, O.mem (hd_), (by rw [List.length_map]; exact hz), _, ?_, hC⟩
            rw [map_snoc]
            exact O.put0
          · exact ⟨acc, O, ifF hC h51⟩
        rintro H ⟨acc, O, hC⟩
        obtain rfl := compT_nil hC
        -- 76
        refine o_seq ?_
        refine o_asg ?_
        obtain ⟨e_52, h53, hm⟩ := bndE hm
        refine ⟨_, rfl, _, rfl, ?_⟩
        obtain ⟨vs_54, h55, h56⟩ := rL_at hn_a_2
        refine k_ixA (SqL.of (O.ex _ _ h55)) h56 h53 fun w_57 h58 => ?_
        obtain ⟨p_59, rfl⟩ := rT2_ref h58
        have hn_p_59 := h58
        -- 77
        refine o_seq ?_
        refine o_ifs ?_
        refine x_or (c := (!true)) (e := ((!decide (((2 : Nat) : Int) = (2 : Int))) || ((!true) || false))) (d := ((!true) || ((!decide (((2 : Nat) : Int) = (2 : Int))) || ((!true) || false)))) O (fun Q1 k1 => ?_) (fun h60 => ⟨by rw [h60]; rfl, fun H O Q2 k2 => ?_⟩) (fun h60 => by rw [h60]; rfl) (fun H O => ?_)
        · refine ⟨_, rfl, ?_⟩
          obtain ⟨_, _, h61, _⟩ := rT2_at hn_p_59
          refine ⟨_, _, _, _, true, rfl, .ty _, .base (.tup (O.ex _ _ h61)), kit_ty (by decide +kernel), _, rfl, ?_⟩
          exact k1 _ O
        · refine x_or (c := (!decide (((2 : Nat) : Int) = (2 : Int)))) (e := ((!true) || false)) (d := ((!decide (((2 : Nat) : Int) = (2 : Int))) || ((!true) || false))) O (fun Q1 k1 => ?_) (fun h62 => ⟨by rw [h62]; rfl, fun H O Q2 k2 => ?_⟩) (fun h62 => by rw [h62]; rfl) (fun H O => ?_)
          · refine ⟨_, rfl, ?_⟩
            refine x_nil ?_
            obtain ⟨_, _, h63, _⟩ := rT2_at hn_p_59
            refine n_lenT (SqT.of (O.ex _ _ h63)) (n := 2) rfl ?_
            refine o_c ?_
            refine k_neI ?_
            refine ⟨_, rfl, ?_⟩
            exact k1 _ O
          · refine x_or (c := (!true)) (e := false) (d := ((!true) || false)) O (fun Q1 k1 => ?_) (fun h64 => ⟨by rw [h64]; rfl, fun H O Q2 k2 => ?_⟩) (fun h64 => by rw [h64]; rfl) (fun H O => ?_)
            · refine ⟨_, rfl, ?_⟩
              refine o_c ?_
              obtain ⟨w_65, w_66, h67, h68, h69⟩ := rT2_at hn_p_59
              refine k_ixT (xs := [w_65, w_66]) (SqT.of (O.ex _ _ h67)) rfl ?_
              obtain rfl := h68
              refine ⟨_, _, _, _, true, rfl, .ty _, .base (.int _), kit_ty (by decide +kernel), _, rfl, ?_⟩
              exact k1 _ O
            · refine ⟨_, rfl, ?_⟩
              refine o_c ?_
              obtain ⟨w_70, w_71, h72, h73, h74⟩ := rT2_at hn_p_59
              refine k_ixT (xs := [w_70, w_71]) (SqT.of (O.ex _ _ h72)) rfl ?_
              obtain rfl := h73
              refine ⟨_, _, _, _, false, rfl, .ty _, .base (.int _), kit_ty (by decide +kernel), _, rfl, ?_⟩
              exact k2 _ O
            exact k2 _ O
          exact k2 _ O
        refine iteS (c := ((!true) || ((!decide (((2 : Nat) : Int) = (2 : Int))) || ((!true) || false)))) (fun h75 => ?_) (fun h75 => ?_)
        · replace hm := ifT hm h75
          -- 78
          refine o_ret ?_
          refine o_c ?_
          obtain rfl := Option.some.inj hm
          obtain rfl := contRt h24
          obtain rfl := finRt h23
          exact RetV.go k O
        · replace hm := ifF hm h75
          refine o_next ?_
          -- 79
          refine o_ifs ?_
          refine x_or (c := (!decide (e_52.1 = bit_42))) (e := ((!true) || (!decide (e_52.2 = l_46)))) (d := ((!decide (e_52.1 = bit_42)) || ((!true) || (!decide (e_52.2 = l_46))))) O (fun Q1 k1 => ?_) (fun h76 => ⟨by rw [h76]; rfl, fun H O Q2 k2 => ?_⟩) (fun h76 => by rw [h76]; rfl) (fun H O => ?_)
          · refine ⟨_, rfl, ?_⟩
            refine o_c ?_
            obtain ⟨w_77, w_78, h79, h80, h81⟩ := rT2_at hn_p_59
            refine k_ixT (xs := [w_77, w_78]) (SqT.of (O.ex _ _ h79)) rfl ?_
            obtain rfl := h80
            refine ⟨_, rfl, ?_⟩
            refine k_neI ?_
            refine ⟨_, rfl, ?_⟩
            exact k1 _ O
          · refine x_or (c := (!true)) (e := (!decide (e_52.2 = l_46))) (d := ((!true) || (!decide (e_52.2 = l_46)))) O (fun Q1 k1 => ?_) (fun h82 => ⟨by rw [h82]; rfl, fun H O Q2 k2 => ?_⟩) (fun h82 => by rw [h82]; rfl) (fun H O => ?_)
            · refine ⟨_, rfl, ?_⟩
              refine o_c ?_
              obtain ⟨w_83, w_84, h85, h86, h87⟩ := rT2_at hn_p_59
              refine k_ixT (xs := [w_83, w_84]) (SqT.of (O.ex _ _ h85)) rfl ?_
              obtain ⟨p_88, rfl, hp_p_88⟩ := fI h87
              refine ⟨_, _, _, _, true, rfl, .ty _, .base (.lst (O.ex _ _ hp_p_88)), kit_ty (by decide +kernel), _, rfl, ?_⟩
              exact k1 _ O
            · refine ⟨_, rfl, ?_⟩
              refine o_c ?_
              obtain ⟨w_89, w_90, h91, h92, h93⟩ := rT2_at hn_p_59
              refine k_ixT (xs := [w_89, w_90]) (SqT.of (O.ex _ _ h91)) rfl ?_
              obtain ⟨p_94, rfl, hp_p_94⟩ := fI h93
              refine ⟨_, rfl, ?_⟩
              refine k_neLI (SqL.of (O.ex _ _ hp_p_94)) (SqL.of (O.mem (hd_))) ?_
              refine ⟨_, rfl, ?_⟩
              exact k2 _ O
            exact k2 _ O
          refine iteS (c := ((!decide (e_52.1 = bit_42)) || ((!true) || (!decide (e_52.2 = l_46))))) (fun h95 => ?_) (fun h95 => ?_)
          · replace hm := ifT hm h95
            -- 80
            refine o_ret ?_
            refine o_c ?_
            obtain rfl := Option.some.inj hm
            obtain rfl := contRt h24
            obtain rfl := finRt h23
            exact RetV.go k O
          · replace hm := ifF hm h95
            refine o_next ?_
            have Oz := O
            obtain rfl := Option.some.inj hm
            exact ⟨p_48, _, _, _, _, _, _, rfl, (Own.pk (L' := [(p_48, .lst (List.map V.int l_46))]) Oz [0] (by decide) rfl), h24⟩
      rintro σ H ⟨p_15, still_14, j_16, j_17, j_18, j_19, j_20, rfl, O, hL⟩
      obtain rfl := loopF_nil hL
      replace hm := finNx h23
      -- 81
      refine o_ret ?_
      obtain ⟨e_96, h97, hm⟩ := bndE hm
      refine ⟨_, rfl, ?_⟩
      refine o_c ?_
      obtain ⟨vs_98, h99, h100⟩ := rL_at hn_a_2
      refine k_ixA (SqL.of (O.ex _ _ h99)) h100 h97 fun w_101 h102 => ?_
      obtain ⟨p_103, rfl⟩ := rT2_ref h102
      have hn_p_103 := h102
      refine o_c ?_
      obtain ⟨w_104, w_105, h106, h107, h108⟩ := rT2_at hn_p_103
      refine k_ixT (xs := [w_104, w_105]) (SqT.of (O.ex _ _ h106)) rfl ?_
      obtain ⟨p_109, rfl, hp_p_109⟩ := fI h108
      obtain ⟨m_110, h111, hm⟩ := bndE hm
      refine ⟨_, rfl, ?_⟩
      refine x_nil ?_
      refine k_min (SqL.of (O.ex _ _ hp_a_4)) h111 ?_
      refine x_nil ?_
      refine n_lst (f := V.int) (xs := [m_110]) O rfl (by show 1 ≤ sizeLine; decide) fun p_112 H O => ?_
      refine k_eqLI (SqL.of (O.ex _ _ hp_p_109)) (SqL.of (O.mem (hd_))) ?_
      replace O := O.tl
      obtain rfl := Option.some.inj hm
      exact RetV.go k O
def m__law_is_other (k : Ek) : Bool := inKs k [.NoBits, .NoFrame, .NoKey, .NoPost, .NoRail, .NoRow, .NoStrip, .NoThing, .NoWire]
abbrev N__law_is_other : List Str := ["e"]
theorem sc__law_is_other : FnScope N__law_is_other ["e"] (defScope s__law_is_other) := ⟨rfl, rfl, rfl, by decide +kernel, rfl, by decide +kernel, by decide +kernel⟩
theorem ok__law_is_other {ad : Ad} (T : Txt K mg ad) (ex : Er) (hk : ex.k ∈ ks) : FnE P w K mg base 1 ad.f__law_is_other ad.fd__law_is_other "e" (ad.es.at ex.k) ex (m__law_is_other ex.k) := by
  refine fnE_of T.F__law_is_other sc__law_is_other fun cdv A outer s H p Q hu hz hd hf hq => ?_
  refine ⟨_, (pss_one (ps_ret (pe_callB (r := rIsXt K (ad.es.at ex.k) p.1 ex p.2.dict) (call_isPt (hd_) (T.EC.ec _ hk) hz rfl hf) (by rfl) T.z_isinstance (by decide +kernel) (pa_cons (pv 0) (pa_cons (pe_tupQ (pe_tup (pa_cons (pe_gr rfl T.n_NoBits) (pa_cons (pe_gr rfl T.n_NoFrame) (pa_cons (pe_gr rfl T.n_NoKey) (pa_cons (pe_gr rfl T.n_NoPost) (pa_cons (pe_gr rfl T.n_NoRail) (pa_cons (pe_gr rfl T.n_NoRow) (pa_cons (pe_gr rfl T.n_NoStrip) (pa_cons (pe_gr rfl T.n_NoThing) (pa_cons (pe_gr rfl T.n_NoWire) pa_nil))))))))))) pa_nil))))), ?_⟩
  obtain ⟨H0, hH0⟩ : ∃ H0 : Hp, H0 = H := ⟨H, rfl⟩
  have O : Own H0 H [] := by rw [hH0]; exact Own.start H
  rw [← hH0] at hd hq
  clear hH0
  refine o_ret ?_
  refine o_cb ?_
  refine o_cons ?_
  refine ⟨_, rfl, ?_⟩
  refine o_cons ?_
  refine o_cons ?_
  refine o_c ?_
  refine o_cons ?_
  refine o_c ?_
  refine o_cons ?_
  refine o_c ?_
  refine o_cons ?_
  refine o_c ?_
  refine o_cons ?_
  refine o_c ?_
  refine o_cons ?_
  refine o_c ?_
  refine o_cons ?_
  refine o_c ?_
  refine o_cons ?_
  refine o_c ?_
  refine o_cons ?_
  refine o_c ?_
  refine x_nil ?_
  refine n_tup O (by show 9 ≤ sizeLine; decide) fun p1 H O => ?_
  refine x_nil ?_
  refine ⟨_, _, ([.NoBits, .NoFrame, .NoKey, .NoPost, .NoRail, .NoRow, .NoStrip, .NoThing, .NoWire] : List Ek).map (fun c => .ref (ad.es.at c)), _, rfl, O.mem (hd_), (.cons (.own _) (.cons (.own _) (.cons (.own _) (.cons (.own _) (.cons (.own _) (.cons (.own _) (.cons (.own _) (.cons (.own _) (.cons (.own _) .nil))))))))), hd.ext O.ex, kit_any T.EC hk [.NoBits, .NoFrame, .NoKey, .NoPost, .NoRail, .NoRow, .NoStrip, .NoThing, .NoWire] (by decide), ?_⟩
  exact RetV.go hq O
def m__law_refused (names_1 : List Int) : Option (Bool) :=
  bnd (m_duel names_1) fun x_5 =>
  tryR x_5 (fun duel_3 =>
    some false) (fun e_ =>
    ifB (okE ks e_) (
      some ((decide (e_.k = .NoName)) && (true && (!(m__law_is_other e_.k))))) none)
def sp__law_refused (K : PySem.W.Frag) : Sp := fun vs H Q _ => ∃ (names_1 : List Int) (a_2 : Addr) (r : Bool), vs = [.ref a_2] ∧ H a_2 = some (.lst (List.map V.int names_1)) ∧ m__law_refused names_1 = some r ∧ RetV (.bl r) H Q
abbrev N__law_refused : List Str := ["names", "good", "e"]
theorem sc__law_refused : FnScope N__law_refused ["names"] (defScope s__law_refused) := ⟨rfl, rfl, rfl, by decide +kernel, rfl, by decide +kernel, by decide +kernel⟩
theorem ok__law_refused {ad : Ad} (T : Txt K mg ad) : FnOk P w K mg base CX0 3 ad.f__law_refused ad.fd__law_refused ["names"] (sp__law_refused K) := by
  have G__law_is_other := ok__law_is_other (P := P) (w := w) (base := base) T
  have G_duel := ok_duel (P := P) (w := w) (base := base) T
  refine T.F__law_refused.ok sc__law_refused (fun vs H Q E h => ?_) (fun cdv A outer s H vs Q E hr h => ?_)
  · obtain ⟨_, _, _, rfl, _⟩ := h
    rfl
  · obtain ⟨names_1, a_2, r, rfl, hp_a_2, hm, k⟩ := h
    unfold m__law_refused at hm
    obtain ⟨Hb, hHb⟩ : ∃ Hb : Hp, Hb = H := ⟨H, rfl⟩
    obtain ⟨H0, hH0⟩ : ∃ H0 : Hp, H0 = Hb := ⟨Hb, rfl⟩
    have O : Own H0 H [] := by rw [hH0, hHb]; exact Own.start H
    rw [← hHb] at k hp_a_2
    rw [← hH0] at hp_a_2
    have eB : Ex Hb H0 := by rw [hH0]; exact Ex.refl _
    clear hH0 hHb
    refine ⟨_, (pss_cons (ps_set (i := 1) sc__law_refused.nd rfl (Or.inl rfl) pe_bl) (pss_cons (L2N.ps_try_as (i := 2) (tb := fun W => _) rfl rfl sc__law_refused.nd rfl rfl ⟨rfl, by decide, .inl T.n_RailError⟩ takesN0 (fun W pn xe tk _ => (pss_one (ps_expr (pe_callS G_duel (hr.mono (by decide)) (by rfl) T.g_duel T.F_duel.kp T.b_duel (fun σ => L2N.passAt tk σ) (pa_cons (pv 0) pa_nil))))) (fun a oe cls d pn hz hf => pss_exc (es := ad.es) (ks := ks) fun ex hk hc => (pss_one (ps_set (i := 1) sc__law_refused.nd rfl (Or.inl rfl) (pe_and (pe_callB (r := rIsX K (ad.es.at ex.k) a ex d) (call_isP (p := (a, oe)) (hd_) (T.EC.ec _ hk) (hz.1.trans hc) hz.2.1 hf) (by rfl) T.z_isinstance (by decide +kernel) (pa_cons (pv 2) (pa_cons (pe_gr rfl T.n_NoName) pa_nil))) (pe_and (pe_callB (r := rIsX K (ad.es.at ex.k) a ex d) (call_isP (p := (a, oe)) (hd_) (T.EC.ec _ hk) (hz.1.trans hc) hz.2.1 hf) (by rfl) T.z_isinstance (by decide +kernel) (pa_cons (pv 2) (pa_cons (pe_bltn (v := V.ty "ValueError") (u := .type "ValueError") (by rfl) T.z_ValueError (by decide +kernel) rfl) pa_nil))) (pe_one (pe_not (pe_callEs (ok__law_is_other (P := P) (w := w) (base := base) T ex hk) hz hf hc (hr.mono (by decide)) (by rfl) T.g__law_is_other T.F__law_is_other.kp T.b__law_is_other (pa_cons (pv 2) pa_nil)))))))))) (pss_one (ps_ret (pv 1))))), ?_⟩
    -- 85
    refine o_seq ?_
    refine o_asg ?_
    refine o_c ?_
    -- 86
    refine o_seq ?_
    refine o_drop ?_
    obtain ⟨x_5, h4, hm⟩ := bndE hm
    refine ⟨_, rfl, ?_⟩
    refine x_nil ?_
    have Oc : Own H0 H (hAppend [] []) := (Own.pk O [] (by decide) rfl)
    refine ⟨names_1, a_2, H0, x_5, rfl, Oc.left, (Oc.left.subR _ _ hp_a_2), h4, ?_⟩
    refine RetR.split (fun e_ h6 => ?_) ?_
    · subst h6
      replace hm := tryEr hm
      obtain ⟨hq_, hm⟩ := ifN hm
      obtain ⟨hp_, hk_⟩ := okE_iff hq_
      refine RetE.byP hp_ fun H1 hE => ?_
      replace O := O.ext hE
      refine ⟨true, T.EC.xr _ hk_, fun _ a_ ha_ => ?_, fun q => nomatch q⟩
      refine ⟨e_, hk_, rfl, ?_⟩
      -- 89
      refine o_asg ?_
      refine x_andVJ (c := (decide (e_.k = .NoName))) (e := (true && (!(m__law_is_other e_.k)))) (d := ((decide (e_.k = .NoName)) && (true && (!(m__law_is_other e_.k))))) (fun H => ∃ (R_ : Hp), Ex H0 R_ ∧ Own R_ H []) (fun Q1 k1 => ?_) (fun h7 => ⟨by rw [h7]; rfl, fun H hJ Q2 k2 => ?_⟩) (fun h7 => by rw [h7]; rfl) (fun H hJ => ?_)
      · have eJ8 : Ex H0 H0 := Ex.refl _
        refine ⟨_, rfl, ?_⟩
        refine o_cons ?_
        refine o_c ?_
        refine x_nil ?_
        refine ⟨_, _, _, rfl, .own _, (XFl.of hp_), T.EC.kt _ hk_ .NoName (by decide), ?_⟩
        exact k1 _ ⟨H0, eJ8, O⟩
      · obtain ⟨H0, eJ8, O⟩ := hJ
        replace hp_a_2 := eJ8 _ _ hp_a_2
        replace eB := eB.trans eJ8
        refine x_andVJ (c := true) (e := (!(m__law_is_other e_.k))) (d := (true && (!(m__law_is_other e_.k)))) (fun H => ∃ (R_ : Hp), Ex H0 R_ ∧ Own R_ H []) (fun Q1 k1 => ?_) (fun h9 => ⟨by rw [h9]; rfl, fun H hJ Q2 k2 => ?_⟩) (fun h9 => by rw [h9]; rfl) (fun H hJ => ?_)
        · have eJ10 : Ex H0 H0 := Ex.refl _
          refine ⟨_, rfl, ?_⟩
          refine o_cons ?_
          refine o_c ?_
          refine x_nil ?_
          refine ⟨_, _, _, rfl, .ty _, (XFl.of hp_), T.EC.kv _ hk_, ?_⟩
          exact k1 _ ⟨H0, eJ10, O⟩
        · obtain ⟨H0, eJ10, O⟩ := hJ
          replace hp_a_2 := eJ10 _ _ hp_a_2
          replace eB := eB.trans eJ10
          replace eJ8 := eJ8.trans eJ10
          refine ⟨_, rfl, ?_⟩
          refine x_nil ?_
          refine ⟨rfl, (XFl.of hp_), ?_⟩
          refine O.retV fun H O => ?_
          refine ⟨_, rfl, ?_⟩
          exact k2 _ ⟨H0, eJ10, O⟩
        obtain ⟨H0, eJ10, O⟩ := hJ
        replace hp_a_2 := eJ10 _ _ hp_a_2
        replace eB := eB.trans eJ10
        replace eJ8 := eJ8.trans eJ10
        exact k2 _ ⟨H0, eJ8, O⟩
      obtain ⟨H0, eJ8, O⟩ := hJ
      replace hp_a_2 := eJ8 _ _ hp_a_2
      replace eB := eB.trans eJ8
      refine o_dn ?_
      -- 90
      refine o_ret ?_
      refine ⟨_, rfl, ?_⟩
      obtain rfl := Option.some.inj hm
      exact RetV.goR k O eB
    rintro duel_3 h6
    subst h6
    replace hm := tryOk hm
    refine Oc.retX (mdPD (mL (mT2 mI (mL mI)))) fun w_11 H H0 L_12 O e_ d_ => ?_
    replace hp_a_2 := e_ _ _ hp_a_2
    replace eB := eB.trans e_
    obtain ⟨rfl, h13, h14⟩ := d_
    try simp only [n1, n2, n3, n4, n5, n6, n7] at O
    obtain ⟨p_15, rfl⟩ := rL_ref h13
    have hn_p_15 := h13
    -- 90
    refine o_ret ?_
    refine ⟨_, rfl, ?_⟩
    obtain rfl := Option.some.inj hm
    exact RetV.goR k O eB
def m_law_C0  (one_24 : Int × (List Int)) : Option (Int × (List Int)) :=
  
  some (one_24.1, one_24.2)
def m_law (script_1 : List Int) : Option (Bool) :=
  bnd (m__law_names script_1) fun law_na_3 =>
  bndO (m_duel law_na_3) fun duel_7 =>
  bnd (m__law_told duel_7 law_na_3) fun law_to_18 =>
  ifB ((!law_to_18) || (!decide (law_na_3 = law_na_3))) (
    some false) (
    bnd (compM (m_law_C0) duel_7 []) fun l_25 =>
    bnd (appG law_na_3 (7 : Int)) fun l_46 =>
    ifB (!decide ((duel_7 : List (Int × (List Int))) = l_25)) (
      some false) (
      bnd (m__law_draw script_1 (6 : Int) (8 : Int)) fun law_dr_49 =>
      bnd (atI duel_7 law_dr_49) fun e_51 =>
      bnd (appG e_51.2 (999 : Int)) fun l_69 =>
      bnd (setG duel_7 law_dr_49 (e_51.1, l_69)) fun l_71 =>
      bnd (atI l_25 law_dr_49) fun e_74 =>
      bnd (appG e_74.2 (999 : Int)) fun l_89 =>
      bnd (setG l_25 law_dr_49 (e_74.1, l_89)) fun l_91 =>
      bnd (ifB (!decide ((l_71 : List (Int × (List Int))) = l_91)) (some true) (bnd (catG law_na_3 ([(7 : Int)])) fun t_97 => some (!decide (l_46 = t_97)))) fun c_100 =>
      ifB c_100 (
        some false) (
        bnd (popL l_71) fun (e_103, l_104) =>
        bndO (m_duel law_na_3) fun duel_107 =>
        bnd (m__law_told duel_107 law_na_3) fun law_to_114 =>
        ifB (!law_to_114) (
          some false) (
          bnd (m__law_draw script_1 (3 : Int) ((List.length law_na_3 : Int) + (1 : Int))) fun law_dr_117 =>
          bnd (m__law_draw script_1 (4 : Int) (List.length law_na_3 : Int)) fun law_dr_119 =>
          bnd (atI law_na_3 law_dr_119) fun e_121 =>
          bnd (ifB (decide ((0 : Int) < (List.length script_1 : Int))) (
            bnd (atI script_1 (0 : Int)) fun e_126 =>
            bnd (powG (10 : Int) (18 : Int)) fun t_128 =>
            bnd (modG e_126 t_128) fun t_130 =>
            bnd (atI script_1 (0 : Int)) fun e_132 =>
            bnd (powG (10 : Int) (18 : Int)) fun t_134 =>
            bnd (modG e_132 t_134) fun t_136 =>
            bnd (m__law_draw script_1 (5 : Int) (4 : Int)) fun law_dr_139 =>
            bnd (atI ([(-(1 : Int)), (256 : Int), ((256 : Int) + t_130), ((-(1 : Int)) - t_136)]) law_dr_139) fun e_141 =>
            some e_141) (
            some (256 : Int))) fun far_148 =>
          ltv ((if (List.length (cutL law_na_3 none (some (19 : Int))) : Int) < law_dr_117 then (List.length (cutL law_na_3 none (some (19 : Int))) : Int) else law_dr_117)) fun at_150 =>
          bnd (catG (cutL (cutL law_na_3 none (some (19 : Int))) none (some at_150)) ([e_121])) fun t_156 =>
          bnd (catG t_156 (cutL (cutL law_na_3 none (some (19 : Int))) (some at_150) none)) fun t_160 =>
          bnd (m__law_refused t_160) fun law_re_163 =>
          ifB ((!law_re_163) && (decide (e_121 ∈ (cutL law_na_3 none (some (19 : Int)))))) (
            some false) (
            bnd (catG (cutL (cutL law_na_3 none (some (19 : Int))) none (some at_150)) ([far_148])) fun t_170 =>
            bnd (catG t_170 (cutL (cutL law_na_3 none (some (19 : Int))) (some at_150) none)) fun t_174 =>
            bnd (m__law_refused t_174) fun law_re_177 =>
            bnd (ifB law_re_177 (bnd (m__law_refused ([] : List Int)) fun law_re_180 => some law_re_180) (some false)) fun c_182 =>
            some c_182)))))
def sp_law (K : PySem.W.Frag) : Sp := fun vs H Q _ => ∃ (script_1 : List Int) (a_2 : Addr) (r : Bool), vs = [.ref a_2] ∧ SqL K H a_2 (List.map V.int script_1) ∧ m_law script_1 = some r ∧ RetV (.bl r) H Q
abbrev N_law : List Str := ["script", "names", "handed", "found", "kept", "first", "at", "twice", "far", "few", "one"]
theorem sc_law : FnScope N_law ["script"] (defScope s_law) := ⟨rfl, rfl, rfl, by decide +kernel, rfl, by decide +kernel, by decide +kernel⟩
theorem ok_law {ad : Ad} (T : Txt K mg ad) : FnOk P w K mg base CX0 4 ad.f_law ad.fd_law ["script"] (sp_law K) := by
  have G__law_draw := ok__law_draw (P := P) (w := w) (base := base) T
  have G__law_names := ok__law_names (P := P) (w := w) (base := base) T
  have G__law_refused := ok__law_refused (P := P) (w := w) (base := base) T
  have G__law_told := ok__law_told (P := P) (w := w) (base := base) T
  have G_duel := ok_duel (P := P) (w := w) (base := base) T
  refine T.F_law.ok sc_law (fun vs H Q E h => ?_) (fun cdv A outer s H vs Q E hr h => ?_)
  · obtain ⟨_, _, _, rfl, _⟩ := h
    rfl
  · obtain ⟨script_1, a_2, r, rfl, hp_a_2, hm, k⟩ := h
    unfold m_law at hm
    obtain ⟨Hb, hHb⟩ : ∃ Hb : Hp, Hb = H := ⟨H, rfl⟩
    obtain ⟨H0, hH0⟩ : ∃ H0 : Hp, H0 = Hb := ⟨Hb, rfl⟩
    have O : Own H0 H [] := by rw [hH0, hHb]; exact Own.start H
    rw [← hHb] at k hp_a_2
    rw [← hH0] at hp_a_2
    have eB : Ex Hb H0 := by rw [hH0]; exact Ex.refl _
    clear hH0 hHb
    refine ⟨_, (pss_cons (ps_set (i := 1) sc_law.nd rfl (Or.inl rfl) (pe_call G__law_names (hr.mono (by decide)) (by rfl) T.g__law_names T.F__law_names.kp T.b__law_names .nil pass0 (pa_cons (pv 0) pa_nil))) (pss_cons (ps_set (i := 2) sc_law.nd rfl (Or.inl rfl) (pe_callTy (r := rListQ K) call_listQ (by rfl) T.z_list (by decide +kernel) (pa_cons (pv 1) pa_nil))) (pss_cons (ps_set (i := 3) sc_law.nd rfl (Or.inl rfl) (pe_call G_duel (hr.mono (by decide)) (by rfl) T.g_duel T.F_duel.kp T.b_duel .nil passN (pa_cons (pv 2) pa_nil))) (pss_cons (ps_if (PW.pt (pw_or (pt_not (pt_val (pe_call G__law_told (hr.mono (by decide)) (by rfl) T.g__law_told T.F__law_told.kp T.b__law_told .nil pass0 (pa_cons (pv 3) (pa_cons (pv 1) pa_nil))))) (pw_or1 (pt_cmpR (r := rNeD K) (op_neD hr.units) (pv 2) (pv 1) (nomark _))))) (pss_one (ps_ret pe_bl)) pss_nil) (pss_cons (ps_setLc (i := 4) (own := [("one", 10)]) (g := gName 10) (tt := tYes) rfl sc_law.nd rfl rfl (sw_true rfl rfl rfl (by decide +kernel)) (pi_list (pv 3)) (blkOk_by (own := [("one", 10)]) (N := N_law) (sc := defScope s_law) (by decide +kernel)) (fun _ _ _ _ _ => pg_name (i := 10) sc_law.nd rfl (Or.inl rfl)) (fun _ _ _ _ _ => pts_nil) (fun _ _ _ _ _ => (pe_tup2 (pe_tup (pa_cons (pe_ix (r := rIxT K) ix_tup (pv 10) pe_int (fun _ _ => rfl)) (pa_cons (pe_callTy (r := rListQ K) call_listQ (by rfl) T.z_list (by decide +kernel) (pa_cons (pe_ix (r := rIxT K) ix_tup (pv 10) pe_int (fun _ _ => rfl)) pa_nil)) pa_nil)))))) (pss_cons (ps_expr (pe_bm PySem.F.plainAttrs_list PySem.F.slot_list_append PySem.F.type_list_append mt_append (pv 2) (pa_cons pe_int pa_nil))) (pss_cons (ps_if (pt_cmpR (r := rNeD K) (op_neD hr.units) (pv 3) (pv 4) (nomark _)) (pss_one (ps_ret pe_bl)) pss_nil) (pss_cons (ps_set (i := 5) sc_law.nd rfl (Or.inl rfl) (pe_call G__law_draw (hr.mono (by decide)) (by rfl) T.g__law_draw T.F__law_draw.kp T.b__law_draw .nil pass0 (pa_cons (pv 0) (pa_cons pe_int (pa_cons pe_int pa_nil))))) (pss_cons (ps_expr (pe_bm PySem.F.plainAttrs_list PySem.F.slot_list_append PySem.F.type_list_append mt_append (pe_ix (r := rIxT K) ix_tup (pe_ix (r := rIxL K) ix_list (pv 3) (pv 5) (fun _ _ => rfl)) pe_int (fun _ _ => rfl)) (pa_cons pe_int pa_nil))) (pss_cons (ps_expr (pe_bm PySem.F.plainAttrs_list PySem.F.slot_list_append PySem.F.type_list_append mt_append (pe_ix (r := rIxT K) ix_tup (pe_ix (r := rIxL K) ix_list (pv 4) (pv 5) (fun _ _ => rfl)) pe_int (fun _ _ => rfl)) (pa_cons pe_int pa_nil))) (pss_cons (ps_if (PW.pt (pw_or (pt_cmpR (r := rNeD K) (op_neD hr.units) (pv 3) (pv 4) (nomark _)) (pw_or1 (pt_cmpR (r := rNeD K) (op_neD hr.units) (pv 2) (pe_op op_cat (pv 1) (pe_lstQ (pe_lst (pa_cons pe_int pa_nil)))) (nomark _))))) (pss_one (ps_ret pe_bl)) pss_nil) (pss_cons (ps_expr (pe_bm0 PySem.F.plainAttrs_list PySem.F.slot_list_pop PySem.F.type_list_pop mt_pop (pv 3))) (pss_cons (ps_if (pt_not (pt_val (pe_call G__law_told (hr.mono (by decide)) (by rfl) T.g__law_told T.F__law_told.kp T.b__law_told .nil pass0 (pa_cons (pe_call G_duel (hr.mono (by decide)) (by rfl) T.g_duel T.F_duel.kp T.b_duel .nil passN (pa_cons (pe_callTy (r := rListQ K) call_listQ (by rfl) T.z_list (by decide +kernel) (pa_cons (pv 1) pa_nil)) pa_nil)) (pa_cons (pv 1) pa_nil))))) (pss_one (ps_ret pe_bl)) pss_nil) (pss_cons (ps_set (i := 6) sc_law.nd rfl (Or.inl rfl) (pe_call G__law_draw (hr.mono (by decide)) (by rfl) T.g__law_draw T.F__law_draw.kp T.b__law_draw .nil pass0 (pa_cons (pv 0) (pa_cons pe_int (pa_cons (pe_op op_add (pe_callB (r := rLenQ K) call_lenQ (by rfl) T.z_len PySem.boot_len (pa_cons (pv 1) pa_nil)) pe_int) pa_nil))))) (pss_cons (ps_set (i := 7) sc_law.nd rfl (Or.inl rfl) (pe_ix (r := rIxL K) ix_list (pv 1) (pe_call G__law_draw (hr.mono (by decide)) (by rfl) T.g__law_draw T.F__law_draw.kp T.b__law_draw .nil pass0 (pa_cons (pv 0) (pa_cons pe_int (pa_cons (pe_callB (r := rLenQ K) call_lenQ (by rfl) T.z_len PySem.boot_len (pa_cons (pv 1) pa_nil)) pa_nil)))) (fun _ _ => rfl))) (pss_cons (ps_set (i := 8) sc_law.nd rfl (Or.inl rfl) pe_int) (Evl.pss_cut (ps_if (pt_cmpR op_gt (pe_callB (r := rLenQ K) call_lenQ (by rfl) T.z_len PySem.boot_len (pa_cons (pv 0) pa_nil)) pe_int (nomark _)) (pss_one (ps_set (i := 8) sc_law.nd rfl (Or.inl rfl) (pe_ix (r := rIxL K) ix_list (pe_lstQ (pe_lst (pa_cons (pe_un un_neg pe_int) (pa_cons pe_int (pa_cons (pe_op op_add pe_int (pe_op op_mod (pe_ix (r := rIxL K) ix_list (pv 0) pe_int (fun _ _ => rfl)) (pe_op op_pow pe_int pe_int))) (pa_cons (pe_op op_sub (pe_un un_neg pe_int) (pe_op op_mod (pe_ix (r := rIxL K) ix_list (pv 0) pe_int (fun _ _ => rfl)) (pe_op op_pow pe_int pe_int))) pa_nil)))))) (pe_call G__law_draw (hr.mono (by decide)) (by rfl) T.g__law_draw T.F__law_draw.kp T.b__law_draw .nil pass0 (pa_cons (pv 0) (pa_cons pe_int (pa_cons pe_int pa_nil)))) (fun _ _ => rfl)))) pss_nil) (pss_cons (ps_set (i := 9) sc_law.nd rfl (Or.inl rfl) (pe_slice (r := rSlL K) sl_list (pv 1) po_none (po_some pe_int))) (pss_cons (ps_set (i := 6) sc_law.nd rfl (Or.inl rfl) (pe_callB (call_min2 rfl) (by rfl) T.z_min (by decide +kernel) (pa_cons (pv 6) (pa_cons (pe_callB (r := rLenQ K) call_lenQ (by rfl) T.z_len PySem.boot_len (pa_cons (pv 9) pa_nil)) pa_nil)))) (pss_cons (ps_if (PW.pt (pw_and (pt_not (pt_val (pe_call G__law_refused (hr.mono (by decide)) (by rfl) T.g__law_refused T.F__law_refused.kp T.b__law_refused .nil pass0 (pa_cons (pe_op op_cat (pe_op op_cat (pe_slice (r := rSlL K) sl_list (pv 9) po_none (po_some (pv 6))) (pe_lstQ (pe_lst (pa_cons (pv 7) pa_nil)))) (pe_slice (r := rSlL K) sl_list (pv 9) (po_some (pv 6)) po_none)) pa_nil)))) (pw_and1 (pt_cmpR (r := rIn K false) op_in_seq (pv 7) (pv 9) (by rfl))))) (pss_one (ps_ret pe_bl)) pss_nil) (pss_one (ps_ret (pe_and (pe_call G__law_refused (hr.mono (by decide)) (by rfl) T.g__law_refused T.F__law_refused.kp T.b__law_refused .nil pass0 (pa_cons (pe_op op_cat (pe_op op_cat (pe_slice (r := rSlL K) sl_list (pv 9) po_none (po_some (pv 6))) (pe_lstQ (pe_lst (pa_cons (pv 8) pa_nil)))) (pe_slice (r := rSlL K) sl_list (pv 9) (po_some (pv 6)) po_none)) pa_nil)) (pe_one (pe_call G__law_refused (hr.mono (by decide)) (by rfl) T.g__law_refused T.F__law_refused.kp T.b__law_refused .nil pass0 (pa_cons (pe_lstQ (pe_lst pa_nil)) pa_nil)))))))))))))))))))))))))), ?_⟩
    -- 92
    refine o_seq ?_
    refine o_asg ?_
    obtain ⟨law_na_3, h4, hm⟩ := bndE hm
    refine ⟨_, rfl, ?_⟩
    refine x_nil ?_
    refine ⟨_, _, law_na_3, rfl, (O.ex.l hp_a_2), h4, ?_⟩
    refine O.retL fun p_5 H O => ?_
    -- 93
    refine o_seq ?_
    refine o_asg ?_
    refine ⟨_, rfl, ?_⟩
    refine x_nil ?_
    refine n_list O (SqL.of (O.mem (hd_))) fun p_6 H O => ?_
    -- 94
    refine o_seq ?_
    refine o_asg ?_
    obtain ⟨duel_7, h8, hm⟩ := bndOE hm
    refine ⟨_, rfl, ?_⟩
    refine x_nil ?_
    obtain ⟨Hs_9, hHs_9⟩ : ∃ Hs : Hp, Hs = H0 := ⟨_, rfl⟩
    have eS_9 : Ex Hs_9 H0 := by rw [hHs_9]; exact Ex.refl _
    have s9_hp_a_2 := hp_a_2
    have s9_eB := eB
    rw [← hHs_9] at s9_hp_a_2
    rw [← hHs_9] at s9_eB
    have Oc : Own H0 H (hAppend [] [(p_6, .lst (List.map V.int law_na_3)), (p_5, .lst (List.map V.int law_na_3))]) := (Own.pk O [0, 1] (by decide) rfl)
    refine ⟨law_na_3, p_6, (fun _ => none), (.ok duel_7), rfl, (Own.shrink Oc.left exE), (Own.inC Oc (hd_)), h8, ?_⟩
    refine RetR.ok ?_
    have eH_9 : Ex Hs_9 (hsub H []) := eS_9.trans Oc.left.subR
    obtain ⟨Hc_9, hHc_⟩ : ∃ Hc : Hp, Hc = hsub H [] := ⟨_, rfl⟩
    rw [← hHc_] at eH_9
    have eC_ : Ex H0 Hc_9 := by rw [hHc_]; exact Oc.left.subR
    refine Oc.retX0 (mdPD (mL (mT2 mI (mL mI)))) hHc_ fun w_10 H H0 L_11 O e_ d_ => ?_
    replace hp_a_2 := e_.l hp_a_2
    replace eB := eB.trans e_
    replace eS_9 := eS_9.trans e_
    obtain ⟨rfl, h12, h13⟩ := d_
    try simp only [n1, n2, n3, n4, n5, n6, n7] at O
    have hfr_9 := h12
    replace h12 := (mL (mT2 mI (mL mI))) _ _ _ _ ovr_ex h12
    obtain ⟨p_14, rfl⟩ := rL_ref h12
    have hn_p_14 := h12
    obtain ⟨vs_15, hp_p_14, hd_p_14, ha_p_14, hz_p_14⟩ := DNv.at h13 eH_9 ovr_ex hn_p_14
    -- 95
    refine o_seq ?_
    refine o_ifs ?_
    obtain ⟨law_to_18, h19, hm⟩ := bndE hm
    refine x_orJ (c := (!law_to_18)) (e := (!decide (law_na_3 = law_na_3))) (d := ((!law_to_18) || (!decide (law_na_3 = law_na_3)))) (fun H => ∃ (R_ : Hp), Ex H0 R_ ∧ Own R_ H [(p_6, .lst (List.map V.int law_na_3)), (p_5, .lst (List.map V.int law_na_3))]) (fun Q1 k1 => ?_) (fun h16 => ⟨by rw [h16]; rfl, fun H hJ Q2 k2 => ?_⟩) (fun h16 => by rw [h16]; rfl) (fun H hJ => ?_)
    · have eJ17 : Ex H0 H0 := Ex.refl _
      refine ⟨_, rfl, _, rfl, ?_⟩
      refine x_nil ?_
      refine ⟨duel_7, _, _, _, law_to_18, rfl, ((mL (mT2 mI (mL mI))) _ _ _ _ O.ex hn_p_14), (O.mem (tl_ (hd_))), h19, ?_⟩
      refine O.retV fun H O => ?_
      refine ⟨_, rfl, ?_⟩
      exact k1 _ ⟨H0, eJ17, O⟩
    · obtain ⟨H0, eJ17, O⟩ := hJ
      replace hp_a_2 := eJ17.l hp_a_2
      replace hfr_9 := (mL (mT2 mI (mL mI))) _ _ _ _ (ovr_mono eJ17) hfr_9
      replace hn_p_14 := (mL (mT2 mI (mL mI))) _ _ _ _ eJ17 hn_p_14
      replace hp_p_14 := eJ17 _ _ hp_p_14
      replace hd_p_14 := hd_p_14.mono eJ17
      replace ha_p_14 := mA (mT2 mI (mL mI)) eJ17 ha_p_14
      replace eB := eB.trans eJ17
      replace eS_9 := eS_9.trans eJ17
      refine ⟨_, rfl, _, rfl, ?_⟩
      refine k_neLI (SqL.of (O.mem (hd_))) (SqL.of (O.mem (tl_ (hd_)))) ?_
      refine ⟨_, rfl, ?_⟩
      exact k2 _ ⟨H0, eJ17, O⟩
    obtain ⟨H0, eJ17, O⟩ := hJ
    replace hp_a_2 := eJ17.l hp_a_2
    replace hfr_9 := (mL (mT2 mI (mL mI))) _ _ _ _ (ovr_mono eJ17) hfr_9
    replace hn_p_14 := (mL (mT2 mI (mL mI))) _ _ _ _ eJ17 hn_p_14
    replace hp_p_14 := eJ17 _ _ hp_p_14
    replace hd_p_14 := hd_p_14.mono eJ17
    replace ha_p_14 := mA (mT2 mI (mL mI)) eJ17 ha_p_14
    replace eB := eB.trans eJ17
    replace eS_9 := eS_9.trans eJ17
    refine iteS (c := ((!law_to_18) || (!decide (law_na_3 = law_na_3)))) (fun h20 => ?_) (fun h20 => ?_)
    · replace hm := ifT hm h20
      -- 96
      refine o_ret ?_
      refine o_c ?_
      obtain rfl := Option.some.inj hm
      exact RetV.goR k O eB
    · replace hm := ifF hm h20
      refine o_next ?_
      -- 97
      refine o_seq ?_
      refine o_asg ?_
      refine ⟨_, rfl, ?_⟩
      obtain ⟨vs_21, h22, h23⟩ := rL_at hn_p_14
      obtain ⟨l_25, h26, hm⟩ := bndE hm
      refine ⟨_, rfl, ⟨_, (SqL.of (O.ex _ _ h22))⟩, fun p_27 hD => k_lcA h23 (fun r H => ∃ (R_ : Hp) (vs_28 : List V) (acc : List (Int × (List Int))), Ex H0 R_ ∧ Own R_ H [(p_27, .lst vs_28), (p_6, .lst (List.map V.int law_na_3)), (p_5, .lst (List.map V.int law_na_3))] ∧ All2 ((rT2 rI (rL rI)) (R_)) vs_28 acc ∧ DN (R_) Hs_9 [p_14] (vs_15 ++ vs_28) ∧ compM (m_law_C0) r acc = some l_25) ⟨H0, ([] : List V), [], Ex.refl _, O.new hD, .nil, (DN.app0 hd_p_14), h26⟩ (by rintro r H ⟨H0, vs_28, acc, eC27, O, ha_p_27, hd_p_27, hC⟩; exact (SqL.of (O.ex _ _ (eC27 _ _ h22)))) ?_ ?_⟩
      · rintro one_24 w_30 r H h31 ⟨H0, vs_28, acc, eC27, O, ha_p_27, hd_p_27, hC⟩
        replace hp_a_2 := eC27.l hp_a_2
        replace hfr_9 := (mL (mT2 mI (mL mI))) _ _ _ _ (ovr_mono eC27) hfr_9
        replace hn_p_14 := (mL (mT2 mI (mL mI))) _ _ _ _ eC27 hn_p_14
        replace hp_p_14 := eC27 _ _ hp_p_14
        replace hd_p_14 := hd_p_14.mono eC27
        replace ha_p_14 := mA (mT2 mI (mL mI)) eC27 ha_p_14
        replace eB := eB.trans eC27
        replace eS_9 := eS_9.trans eC27
        obtain ⟨y, hm, hz, hC⟩ := compM_cons hC
        refine ⟨rfl, ?_⟩
        refine o_yes ?_
        unfold m_law_C0 at hm
        replace h31 := (mT2 mI (mL mI)) _ _ _ _ eC27 h31
        obtain ⟨p_32, rfl⟩ := rT2_ref h31
        have hn_p_32 := h31
        refine ⟨_, rfl, ?_⟩
        refine o_c ?_
        obtain ⟨w_33, w_34, h35, h36, h37⟩ := rT2_at hn_p_32
        refine k_ixT (xs := [w_33, w_34]) (SqT.of (O.ex _ _ h35)) rfl ?_
        obtain rfl := h36
        refine ⟨_, rfl, ?_⟩
        refine o_c ?_
        obtain ⟨w_38, w_39, h40, h41, h42⟩ := rT2_at hn_p_32
        refine k_ixT (xs := [w_38, w_39]) (SqT.of (O.ex _ _ h40)) rfl ?_
        obtain ⟨p_43, rfl, hp_p_43⟩ := fI h42
        refine x_nil ?_
        refine n_list O (SqL.of (O.ex _ _ hp_p_43)) fun p_44 H O => ?_
        refine x_nil ?_
        have hx_p_44 := DN.pre hd_p_27 (O.fr (p_44, _) (hd_)) ((eS_9).back (O.fr (p_44, _) (hd_)))
        obtain ⟨H0, O, e_, hp_p_44⟩ := O.frz
        replace hp_a_2 := e_.l hp_a_2
        replace hfr_9 := (mL (mT2 mI (mL mI))) _ _ _ _ (ovr_mono e_) hfr_9
        replace hn_p_14 := (mL (mT2 mI (mL mI))) _ _ _ _ e_ hn_p_14
        replace hp_p_14 := e_ _ _ hp_p_14
        replace hd_p_14 := hd_p_14.mono e_
        replace ha_p_14 := mA (mT2 mI (mL mI)) e_ ha_p_14
        replace ha_p_27 := mA (mT2 mI (mL mI)) e_ ha_p_27
        replace hd_p_27 := hd_p_27.mono e_
        replace hn_p_32 := (mT2 mI (mL mI)) _ _ _ _ e_ hn_p_32
        replace hp_p_43 := e_ _ _ hp_p_43
        replace hx_p_44 := hx_p_44.mono e_
        replace eB := eB.trans e_
        replace eS_9 := eS_9.trans e_
        replace eC27 := eC27.trans e_
        refine n_tup O (by show 2 ≤ sizeLine; decide) fun p_45 H O => ?_
        obtain ⟨H0, O, e_, hp_p_45⟩ := O.frz
        replace hp_a_2 := e_.l hp_a_2
        replace hfr_9 := (mL (mT2 mI (mL mI))) _ _ _ _ (ovr_mono e_) hfr_9
        replace hn_p_14 := (mL (mT2 mI (mL mI))) _ _ _ _ e_ hn_p_14
        replace hp_p_14 := e_ _ _ hp_p_14
        replace hd_p_14 := hd_p_14.mono e_
        replace ha_p_14 := mA (mT2 mI (mL mI)) e_ ha_p_14
        replace ha_p_27 := mA (mT2 mI (mL mI)) e_ ha_p_27
        replace hd_p_27 := hd_p_27.mono e_
        replace hn_p_32 := (mT2 mI (mL mI)) _ _ _ _ e_ hn_p_32
        replace hp_p_43 := e_ _ _ hp_p_43
        replace hx_p_44 := hx_p_44.mono e_
        replace hp_p_44 := e_ _ _ hp_p_44
        replace eB := eB.trans e_
        replace eS_9 := eS_9.trans e_
        replace eC27 := eC27.trans e_
        have hn_p_45 : (rT2 rI (rL rI)) (H0) (.ref p_45) ((one_24.1, one_24.2) : Int × (List Int)) := ⟨_, _, _, rfl, hp_p_45, rfl, (gI hp_p_44)⟩
        obtain rfl := Option.some.inj hm
        exact ⟨_, O.mem (hd_), (by rw [ha_p_27.len]; exact hz), H0, _, _, eC27, O.put0, ha_p_27.snoc hn_p_45, (hx_p_44.snocP hp_p_45 hp_p_44), hC⟩
      rintro H ⟨H0, vs_28, acc, eC27, O, ha_p_27, hd_p_27, hC⟩
      replace hp_a_2 := eC27.l hp_a_2
      replace hfr_9 := (mL (mT2 mI (mL mI))) _ _ _ _ (ovr_mono eC27) hfr_9
      replace hn_p_14 := (mL (mT2 mI (mL mI))) _ _ _ _ eC27 hn_p_14
      replace hp_p_14 := eC27 _ _ hp_p_14
      replace hd_p_14 := hd_p_14.mono eC27
      replace ha_p_14 := mA (mT2 mI (mL mI)) eC27 ha_p_14
      replace eB := eB.trans eC27
      replace eS_9 := eS_9.trans eC27
      obtain rfl := compM_nil hC
      -- 98
      refine o_seq ?_
      refine o_drop ?_
      obtain ⟨l_46, h47, hm⟩ := bndE hm
      refine ⟨_, rfl, .inl ⟨rfl, _, (SqL.of (O.mem (tl_ (hd_))))⟩, ?_⟩
      refine o_cons ?_
      refine o_c ?_
      refine x_nil ?_
      refine k_app (f := V.int) (O.mem (tl_ (hd_))) (fun _ => O.put1) h47 fun H O => ?_
      -- 99
      refine o_seq ?_
      refine o_ifs ?_
      refine ⟨_, rfl, _, rfl, ?_⟩
      refine k_neN (x := duel_7) (y := l_25) (deL (deT2 deI (deL deI))) (mL (mT2 mI (mL mI))) (by decide) ((mL (mT2 mI (mL mI))) _ _ _ _ O.ex hn_p_14) (Ex.refl _) ⟨_, _, rfl, (O.mem (hd_)), (mA (mT2 mI (mL mI)) O.ex ha_p_27)⟩ (Ex.refl _) ?_
      refine ⟨_, rfl, ?_⟩
      refine iteS (c := (!decide ((duel_7 : List (Int × (List Int))) = l_25))) (fun h48 => ?_) (fun h48 => ?_)
      · replace hm := ifT hm h48
        -- 100
        refine o_ret ?_
        refine o_c ?_
        obtain rfl := Option.some.inj hm
        exact RetV.goR k O eB
      · replace hm := ifF hm h48
        refine o_next ?_
        -- 101
        refine o_seq ?_
        refine o_asg ?_
        obtain ⟨law_dr_49, h50, hm⟩ := bndE hm
        refine ⟨_, rfl, ?_⟩
        refine o_cons ?_
        refine o_c ?_
        refine o_cons ?_
        refine o_c ?_
        refine x_nil ?_
        refine ⟨_, _, _, _, law_dr_49, rfl, (O.ex.l hp_a_2), h50, ?_⟩
        refine O.retV fun H O => ?_
        -- 102
        refine o_seq ?_
        refine o_drop ?_
        obtain ⟨e_51, h52, hm⟩ := bndE hm
        refine ⟨_, rfl, _, rfl, ?_⟩
        obtain ⟨vs_53, h54, h55⟩ := rL_at hn_p_14
        refine k_ixAn (SqL.of (O.ex _ _ h54)) h55 h52 fun n_65 w_56 h66 h67 h68 h57 => ?_
        obtain ⟨p_58, rfl⟩ := rT2_ref h57
        have hn_p_58 := h57
        refine o_c ?_
        obtain ⟨w_59, w_60, h61, h62, h63⟩ := rT2_at hn_p_58
        refine k_ixT (xs := [w_59, w_60]) (SqT.of (O.ex _ _ h61)) rfl ?_
        obtain ⟨p_64, rfl, hp_p_64⟩ := fI h63
        refine ⟨.inl ⟨rfl, _, (SqL.of (O.ex _ _ hp_p_64))⟩, ?_⟩
        refine o_cons ?_
        refine o_c ?_
        refine x_nil ?_
        obtain ⟨l_69, h70, hm⟩ := bndE hm
        obtain ⟨l_71, h72, hm⟩ := bndE hm
        have e_ : vs_15 = vs_53 := HO.lst.inj (Option.some.inj (hp_p_14.symm.trans h54))
        subst e_
        refine k_pokeD (A := []) (B := vs_28) (xa := []) O eS_9 .nil ha_p_14 ha_p_27 (by simpa only [List.nil_append, List.append_nil] using hd_p_27) h66 h67 h68 h61 hp_p_64 h70 h72 fun H H0 O eK_ hP_ => ?_
        obtain ⟨hA_, hS_, hB_, hD_, hK_⟩ := hP_
        have hp_a_2 := s9_hp_a_2
        have eB := s9_eB
        replace hp_a_2 := eK_.l hp_a_2
        replace eB := eB.trans eK_
        have eS_9 := eK_
        have ha_p_14 := hS_
        have hp_p_14 := (hK_ _ (by simp)).trans hp_p_14
        have hn_g72 : (rL (rT2 rI (rL rI))) (H0) (.ref p_14) l_71 := ⟨_, _, rfl, hp_p_14, ha_p_14⟩
        have ha_p_27 := hB_
        have hd_p_27 : DN (H0) Hs_9 [p_14] (vs_15 ++ vs_28) := (by simpa only [List.nil_append, List.append_nil] using hD_)
        -- 103
        refine o_seq ?_
        refine o_drop ?_
        obtain ⟨e_74, h75, hm⟩ := bndE hm
        refine ⟨_, rfl, _, rfl, ?_⟩
        refine k_ixAn (SqL.of (O.mem (hd_))) ha_p_27 h75 fun n_85 w_76 h86 h87 h88 h77 => ?_
        obtain ⟨p_78, rfl⟩ := rT2_ref h77
        have hn_p_78 := h77
        refine o_c ?_
        obtain ⟨w_79, w_80, h81, h82, h83⟩ := rT2_at hn_p_78
        refine k_ixT (xs := [w_79, w_80]) (SqT.of (O.ex _ _ h81)) rfl ?_
        obtain ⟨p_84, rfl, hp_p_84⟩ := fI h83
        refine ⟨.inl ⟨rfl, _, (SqL.of (O.ex _ _ hp_p_84))⟩, ?_⟩
        refine o_cons ?_
        refine o_c ?_
        refine x_nil ?_
        obtain ⟨l_89, h90, hm⟩ := bndE hm
        obtain ⟨l_91, h92, hm⟩ := bndE hm
        refine k_pokeD (A := vs_15) (B := []) (xb := []) O eS_9 ha_p_14 ha_p_27 .nil (by simpa only [List.nil_append, List.append_nil] using hd_p_27) h86 h87 h88 h81 hp_p_84 h90 h92 fun H H0 O eK_ hP_ => ?_
        obtain ⟨hA_, hS_, hB_, hD_, hK_⟩ := hP_
        have hp_a_2 := s9_hp_a_2
        have eB := s9_eB
        replace hp_a_2 := eK_.l hp_a_2
        replace eB := eB.trans eK_
        have eS_9 := eK_
        have ha_p_14 := hA_
        have hp_p_14 := (hK_ _ (by simp)).trans hp_p_14
        have hn_g92 : (rL (rT2 rI (rL rI))) (H0) (.ref p_14) l_71 := ⟨_, _, rfl, hp_p_14, ha_p_14⟩
        have ha_p_27 := hS_
        have hd_p_27 : DN (H0) Hs_9 [p_14] (vs_15 ++ vs_28) := (by simpa only [List.nil_append, List.append_nil] using hD_)
        -- 104
        refine o_seq ?_
        refine o_ifs ?_
        obtain ⟨c_100, h101, hm⟩ := bndE hm
        refine x_orJ (c := (!decide ((l_71 : List (Int × (List Int))) = l_91))) (e := c_100) (d := c_100) (fun H => ∃ (R_ : Hp), Ex H0 R_ ∧ Own R_ H [(p_27, .lst vs_28), (p_6, .lst (List.map V.int l_46)), (p_5, .lst (List.map V.int law_na_3))]) (fun Q1 k1 => ?_) (fun h94 => ⟨rfl, fun H hJ Q2 k2 => ?_⟩) (fun h94 => Option.some.inj (ifT h101 h94)) (fun H hJ => ?_)
        · have eJ95 : Ex H0 H0 := Ex.refl _
          refine ⟨_, rfl, _, rfl, ?_⟩
          refine k_neN (x := l_71) (y := l_91) (deL (deT2 deI (deL deI))) (mL (mT2 mI (mL mI))) (by decide) ((mL (mT2 mI (mL mI))) _ _ _ _ O.ex hn_g92) (Ex.refl _) ⟨_, _, rfl, (O.mem (hd_)), (mA (mT2 mI (mL mI)) O.ex ha_p_27)⟩ (Ex.refl _) ?_
          refine ⟨_, rfl, ?_⟩
          exact k1 _ ⟨H0, eJ95, O⟩
        · replace hm := ifF h101 h94
          obtain ⟨t_97, h98, hm⟩ := bndE hm
          obtain rfl := Option.some.inj hm
          obtain ⟨H0, eJ95, O⟩ := hJ
          replace hp_a_2 := eJ95.l hp_a_2
          replace ha_p_14 := mA (mT2 mI (mL mI)) eJ95 ha_p_14
          replace hp_p_14 := eJ95 _ _ hp_p_14
          replace hn_g92 := (mL (mT2 mI (mL mI))) _ _ _ _ eJ95 hn_g92
          replace ha_p_27 := mA (mT2 mI (mL mI)) eJ95 ha_p_27
          replace hd_p_27 := hd_p_27.mono eJ95
          replace eB := eB.trans eJ95
          replace eS_9 := eS_9.trans eJ95
          refine ⟨_, rfl, _, rfl, ?_⟩
          refine o_cons ?_
          refine o_c ?_
          refine x_nil ?_
          refine n_lst (f := V.int) (xs := [(7 : Int)]) O rfl (by show 1 ≤ sizeLine; decide) fun p_96 H O => ?_
          refine k_cat (f := V.int) O (O.mem (tl_ (tl_ (tl_ (hd_))))) (O.mem (hd_)) h98 fun p_99 H O => ?_
          refine k_neLI (SqL.of (O.mem (tl_ (tl_ (tl_ (hd_)))))) (SqL.of (O.mem (hd_))) ?_
          refine ⟨_, rfl, ?_⟩
          replace O := O.tl.tl
          exact k2 _ ⟨H0, eJ95, O⟩
        obtain ⟨H0, eJ95, O⟩ := hJ
        replace hp_a_2 := eJ95.l hp_a_2
        replace ha_p_14 := mA (mT2 mI (mL mI)) eJ95 ha_p_14
        replace hp_p_14 := eJ95 _ _ hp_p_14
        replace hn_g92 := (mL (mT2 mI (mL mI))) _ _ _ _ eJ95 hn_g92
        replace ha_p_27 := mA (mT2 mI (mL mI)) eJ95 ha_p_27
        replace hd_p_27 := hd_p_27.mono eJ95
        replace eB := eB.trans eJ95
        replace eS_9 := eS_9.trans eJ95
        refine iteS (c := c_100) (fun h102 => ?_) (fun h102 => ?_)
        · replace hm := ifT hm h102
          -- 105
          refine o_ret ?_
          refine o_c ?_
          obtain rfl := Option.some.inj hm
          exact RetV.goR k O eB
        · replace hm := ifF hm h102
          refine o_next ?_
          -- 106
          refine o_seq ?_
          refine o_drop ?_
          replace O := Own.drop1 O
          replace O := Own.pick O eS_9 hz_p_14 hp_p_14
          have hS_ := ha_p_14
          obtain ⟨H0, hZ_⟩ : ∃ H0 : Hp, H0 = Hs_9 := ⟨_, rfl⟩
          rw [← hZ_] at O s9_hp_a_2 s9_eB
          have hp_a_2 := s9_hp_a_2
          have eB := s9_eB
          obtain ⟨⟨e_103, l_104⟩, h105, hm⟩ := bndE hm
          refine ⟨_, rfl, .inl ⟨rfl, _, SqL.of ((O.mem (hd_)))⟩, ?_⟩
          refine k_popD (O.mem (hd_)) hS_ (fun _ => O.put0) h105 fun H _ _ O => ?_
          replace O := Own.drop1 O
          -- 107
          refine o_seq ?_
          refine o_ifs ?_
          refine ⟨_, rfl, ?_⟩
          refine x_nil ?_
          refine n_list O (SqL.of (O.mem (tl_ (hd_)))) fun p_106 H O => ?_
          obtain ⟨duel_107, h108, hm⟩ := bndOE hm
          refine x_nil ?_
          have Oc : Own H0 H (hAppend [] [(p_106, .lst (List.map V.int law_na_3)), (p_6, .lst (List.map V.int l_46)), (p_5, .lst (List.map V.int law_na_3))]) := (Own.pk O [0, 1, 2] (by decide) rfl)
          refine ⟨law_na_3, p_106, H0, (.ok duel_107), rfl, Oc.left, (Own.inC Oc (hd_)), h108, ?_⟩
          refine RetR.ok ?_
          refine Oc.retX (mdPD (mL (mT2 mI (mL mI)))) fun w_109 H H0 L_110 O e_ d_ => ?_
          replace hp_a_2 := e_.l hp_a_2
          replace eB := eB.trans e_
          obtain ⟨rfl, h111, h112⟩ := d_
          try simp only [n1, n2, n3, n4, n5, n6, n7] at O
          obtain ⟨p_113, rfl⟩ := rL_ref h111
          have hn_p_113 := h111
          obtain ⟨law_to_114, h115, hm⟩ := bndE hm
          refine ⟨_, rfl, ?_⟩
          refine x_nil ?_
          refine ⟨duel_107, _, _, _, law_to_114, rfl, ((mL (mT2 mI (mL mI))) _ _ _ _ O.ex hn_p_113), (O.mem (tl_ (tl_ (hd_)))), h115, ?_⟩
          refine O.retV fun H O => ?_
          refine ⟨_, rfl, ?_⟩
          replace O := O.tl
          refine iteS (c := (!law_to_114)) (fun h116 => ?_) (fun h116 => ?_)
          · replace hm := ifT hm h116
            -- 108
            refine o_ret ?_
            refine o_c ?_
            obtain rfl := Option.some.inj hm
            exact RetV.goR k O eB
          · replace hm := ifF hm h116
            refine o_next ?_
            -- 109
            refine o_seq ?_
            refine o_asg ?_
            refine ⟨_, rfl, _, rfl, ?_⟩
            refine x_nil ?_
            refine n_len (SqL.of (O.mem (tl_ (hd_)))) ?_
            obtain ⟨law_dr_117, h118, hm⟩ := bndE hm
            refine ⟨_, _, rfl, rfl, ?_⟩
            refine x_nil ?_
            refine ⟨_, _, _, _, law_dr_117, rfl, (O.ex.l hp_a_2), h118, ?_⟩
            refine O.retV fun H O => ?_
            -- 110
            refine o_seq ?_
            refine o_asg ?_
            refine ⟨_, rfl, _, rfl, _, rfl, ?_⟩
            refine x_nil ?_
            refine n_len (SqL.of (O.mem (tl_ (hd_)))) ?_
            obtain ⟨law_dr_119, h120, hm⟩ := bndE hm
            refine x_nil ?_
            refine ⟨_, _, _, _, law_dr_119, rfl, (O.ex.l hp_a_2), h120, ?_⟩
            refine O.retV fun H O => ?_
            obtain ⟨e_121, h122, hm⟩ := bndE hm
            refine k_ixL (f := V.int) (SqL.of (O.mem (tl_ (hd_)))) h122 ?_
            -- 111
            refine o_seq ?_
            refine o_asg ?_
            refine o_c ?_
            -- 112
            obtain ⟨far_148, h125, hm⟩ := bndE hm
            refine o_cut (fun σ H => ∃ (R_ : Hp) (j_143 : Option V) (j_144 : Option V) (j_145 : Option V) (j_146 : Option V) (j_147 : Option V), σ = [j_143, some (.ref p_5), j_144, j_145, j_146, j_147, some (.int law_dr_117), some (.int e_121), some (.int far_148), none, none] ∧ Ex H0 R_ ∧ Own R_ H [(p_5, .lst (List.map V.int law_na_3))]) ?_ ?_
            · have eJ123 : Ex H0 H0 := Ex.refl _
              refine o_ifs ?_
              refine ⟨_, rfl, ?_⟩
              refine x_nil ?_
              refine n_len (O.ex.l hp_a_2) ?_
              refine ⟨_, _, rfl, rfl, _, rfl, ?_⟩
              refine iteS (c := decide ((0 : Int) < (List.length script_1 : Int))) (fun h124 => ?_) (fun h124 => ?_)
              · replace hm := ifT h125 h124
                -- 113
                refine o_asg ?_
                obtain ⟨e_126, h127, hm⟩ := bndE hm
                refine ⟨_, rfl, _, rfl, ?_⟩
                refine o_c ?_
                refine k_ixL (f := V.int) (O.ex.l hp_a_2) h127 ?_
                obtain ⟨t_128, h129, hm⟩ := bndE hm
                refine o_op ?_
                refine o_c ?_
                refine o_c ?_
                refine k_pow h129 ?_
                obtain ⟨t_130, h131, hm⟩ := bndE hm
                refine k_mod h131 ?_
                obtain ⟨e_132, h133, hm⟩ := bndE hm
                refine ⟨_, _, rfl, rfl, _, rfl, _, rfl, ?_⟩
                refine o_c ?_
                refine k_ixL (f := V.int) (O.ex.l hp_a_2) h133 ?_
                obtain ⟨t_134, h135, hm⟩ := bndE hm
                refine o_op ?_
                refine o_c ?_
                refine o_c ?_
                refine k_pow h135 ?_
                obtain ⟨t_136, h137, hm⟩ := bndE hm
                refine k_mod h137 ?_
                refine ⟨_, _, rfl, rfl, ?_⟩
                refine x_nil ?_
                refine n_lst (f := V.int) (xs := [(-(1 : Int)), (256 : Int), ((256 : Int) + t_130), ((-(1 : Int)) - t_136)]) O rfl (by show 4 ≤ sizeLine; decide) fun p_138 H O => ?_
                obtain ⟨law_dr_139, h140, hm⟩ := bndE hm
                refine ⟨_, rfl, ?_⟩
                refine o_cons ?_
                refine o_c ?_
                refine o_cons ?_
                refine o_c ?_
                refine x_nil ?_
                refine ⟨_, _, _, _, law_dr_139, rfl, (O.ex.l hp_a_2), h140, ?_⟩
                refine O.retV fun H O => ?_
                obtain ⟨e_141, h142, hm⟩ := bndE hm
                refine k_ixL (f := V.int) (SqL.of (O.mem (hd_))) h142 ?_
                have Oz := O
                have hq_ := Option.some.inj hm
                subst hq_
                exact ⟨H0, _, _, _, _, _, rfl, eJ123, (Own.pk (L' := [(p_5, .lst (List.map V.int law_na_3))]) Oz [2] (by decide) rfl)⟩
              · replace hm := ifF h125 h124
                refine o_next ?_
                have Oz := O
                have hq_ := Option.some.inj hm
                subst hq_
                exact ⟨H0, _, _, _, _, _, rfl, eJ123, (Own.pk (L' := [(p_5, .lst (List.map V.int law_na_3))]) Oz [1] (by decide) rfl)⟩
            rintro σ H ⟨H0, j_143, j_144, j_145, j_146, j_147, rfl, eJ_, O⟩
            replace eB := eB.trans eJ_
            -- 114
            refine o_seq ?_
            refine o_asg ?_
            refine ⟨_, rfl, _, rfl, ?_⟩
            refine k_cut (f := V.int) O (SqL.of (O.mem (hd_))) fun p_149 H O => ?_
            -- 115
            refine o_seq ?_
            refine o_asg ?_
            refine ⟨_, rfl, _, rfl, ?_⟩
            refine x_nil ?_
            refine n_len (SqL.of (O.mem (hd_))) ?_
            refine ⟨_, _, rfl, ?_⟩
            obtain ⟨at_150, h151, hm⟩ := ltvE hm
            refine a_set (congrArg V.int h151) ?_
            -- 116
            refine o_seq ?_
            refine o_ifs ?_
            obtain ⟨t_156, h157, hm⟩ := bndE hm
            obtain ⟨t_160, h161, hm⟩ := bndE hm
            obtain ⟨law_re_163, h164, hm⟩ := bndE hm
            refine x_andJ (c := (!law_re_163)) (e := (decide (e_121 ∈ (cutL law_na_3 none (some (19 : Int)))))) (d := ((!law_re_163) && (decide (e_121 ∈ (cutL law_na_3 none (some (19 : Int))))))) (fun H => ∃ (R_ : Hp), Ex H0 R_ ∧ Own R_ H [(p_149, .lst (List.map V.int (cutL law_na_3 none (some (19 : Int))))), (p_5, .lst (List.map V.int law_na_3))]) (fun Q1 k1 => ?_) (fun h152 => ⟨by rw [h152]; rfl, fun H hJ Q2 k2 => ?_⟩) (fun h152 => by rw [h152]; rfl) (fun H hJ => ?_)
            · have eJ153 : Ex H0 H0 := Ex.refl _
              refine ⟨_, rfl, _, rfl, _, rfl, ?_⟩
              refine k_cut (f := V.int) O (SqL.of (O.mem (hd_))) fun p_154 H O => ?_
              refine ⟨_, rfl, ?_⟩
              refine x_nil ?_
              refine n_lst (f := V.int) (xs := [e_121]) O rfl (by show 1 ≤ sizeLine; decide) fun p_155 H O => ?_
              refine k_cat (f := V.int) O (O.mem (tl_ (hd_))) (O.mem (hd_)) h157 fun p_158 H O => ?_
              refine ⟨_, rfl, _, rfl, _, rfl, ?_⟩
              refine x_np ?_
              refine k_cut (f := V.int) O (SqL.of (O.mem (tl_ (tl_ (tl_ (hd_)))))) fun p_159 H O => ?_
              refine k_cat (f := V.int) O (O.mem (tl_ (hd_))) (O.mem (hd_)) h161 fun p_162 H O => ?_
              refine x_nil ?_
              refine ⟨_, _, law_re_163, rfl, (O.mem (hd_)), h164, ?_⟩
              refine O.retV fun H O => ?_
              refine ⟨_, rfl, ?_⟩
              exact k1 _ ⟨H0, eJ153, (Own.pk (L' := [(p_149, .lst (List.map V.int (cutL law_na_3 none (some (19 : Int))))), (p_5, .lst (List.map V.int law_na_3))]) O [5, 6] (by decide) rfl)⟩
            · obtain ⟨H0, eJ153, O⟩ := hJ
              replace eB := eB.trans eJ153
              refine ⟨_, rfl, _, rfl, ?_⟩
              refine k_inL (SqL.of (O.mem (hd_))) ?_
              refine ⟨_, rfl, ?_⟩
              exact k2 _ ⟨H0, eJ153, O⟩
            obtain ⟨H0, eJ153, O⟩ := hJ
            replace eB := eB.trans eJ153
            refine iteS (c := ((!law_re_163) && (decide (e_121 ∈ (cutL law_na_3 none (some (19 : Int))))))) (fun h165 => ?_) (fun h165 => ?_)
            · replace hm := ifT hm h165
              -- 117
              refine o_ret ?_
              refine o_c ?_
              obtain rfl := Option.some.inj hm
              exact RetV.goR k O eB
            · replace hm := ifF hm h165
              refine o_next ?_
              -- 118
              refine o_ret ?_
              obtain ⟨t_170, h171, hm⟩ := bndE hm
              obtain ⟨t_174, h175, hm⟩ := bndE hm
              obtain ⟨law_re_177, h178, hm⟩ := bndE hm
              obtain ⟨c_182, h183, hm⟩ := bndE hm
              refine x_andVJ (c := law_re_177) (e := c_182) (d := c_182) (fun H => ∃ (R_ : Hp), Ex H0 R_ ∧ Own R_ H [(p_149, .lst (List.map V.int (cutL law_na_3 none (some (19 : Int))))), (p_5, .lst (List.map V.int law_na_3))]) (fun Q1 k1 => ?_) (fun h166 => ⟨rfl, fun H hJ Q2 k2 => ?_⟩) (fun h166 => Option.some.inj (ifF h183 h166)) (fun H hJ => ?_)
              · have eJ167 : Ex H0 H0 := Ex.refl _
                refine ⟨_, rfl, _, rfl, _, rfl, ?_⟩
                refine k_cut (f := V.int) O (SqL.of (O.mem (hd_))) fun p_168 H O => ?_
                refine ⟨_, rfl, ?_⟩
                refine x_nil ?_
                refine n_lst (f := V.int) (xs := [far_148]) O rfl (by show 1 ≤ sizeLine; decide) fun p_169 H O => ?_
                refine k_cat (f := V.int) O (O.mem (tl_ (hd_))) (O.mem (hd_)) h171 fun p_172 H O => ?_
                refine ⟨_, rfl, _, rfl, _, rfl, ?_⟩
                refine x_np ?_
                refine k_cut (f := V.int) O (SqL.of (O.mem (tl_ (tl_ (tl_ (hd_)))))) fun p_173 H O => ?_
                refine k_cat (f := V.int) O (O.mem (tl_ (hd_))) (O.mem (hd_)) h175 fun p_176 H O => ?_
                refine x_nil ?_
                refine ⟨_, _, law_re_177, rfl, (O.mem (hd_)), h178, ?_⟩
                refine O.retV fun H O => ?_
                exact k1 _ ⟨H0, eJ167, (Own.pk (L' := [(p_149, .lst (List.map V.int (cutL law_na_3 none (some (19 : Int))))), (p_5, .lst (List.map V.int law_na_3))]) O [5, 6] (by decide) rfl)⟩
              · replace hm := ifT h183 h166
                obtain ⟨law_re_180, h181, hm⟩ := bndE hm
                obtain rfl := Option.some.inj hm
                obtain ⟨H0, eJ167, O⟩ := hJ
                replace eB := eB.trans eJ167
                refine o_call ?_
                refine o_cons ?_
                refine x_nil ?_
                refine n_lst (f := V.int) (xs := ([] : List Int)) O rfl (Nat.zero_le _) fun p_179 H O => ?_
                refine x_nil ?_
                refine ⟨_, _, law_re_180, rfl, (O.mem (hd_)), h181, ?_⟩
                refine O.retV fun H O => ?_
                exact k2 _ ⟨H0, eJ167, (Own.pk (L' := [(p_149, .lst (List.map V.int (cutL law_na_3 none (some (19 : Int))))), (p_5, .lst (List.map V.int law_na_3))]) O [1, 2] (by decide) rfl)⟩
              obtain ⟨H0, eJ167, O⟩ := hJ
              replace eB := eB.trans eJ167
              obtain rfl := Option.some.inj hm
              exact RetV.goR k O eB
end
theorem walk {l : PySem.W.OpenLaw} {q : Program} {loose : List Str} {XP : (Str → Option Value) → Heap → Prop} {YP : World → Heap → Prop} {d : DefRec} {K : Params → PySem.W.Frag} (M : ∀ ns : List Int, ns.length ≤ 63 → m_law ns = some true) (hn : l.most = some 63) (hdf : d.params.defaults = [])
    (hY : ∀ (w : World) (h : Heap), YP w h → (K w.params).In h)
    (F : ∀ (w : World) (mg : Str → Option Value) (fa : Addr) (h : Heap), (K w.params).In h → h.Ns mainGlobals mg → mg d.name = some (.ref fa) →
      ∃ fd : FuncData, (∀ (s : Shared) (u : Value), BindsTo s fd ⟨[u], []⟩ [("script", u)]) ∧ ∀ base : Heap, (K w.params).In base → base.Ns mainGlobals mg → FnOk l.prog w (K w.params) mg base CX0 4 fa fd ["script"] (sp_law (K w.params))) :
    PySem.W.WalkO q loose XP YP l.row.toRowW d [] (fun f vs => PySem.call f vs) :=
  L2.walk_of (n := 63) (k := 4) (x := "script") (CX := fun _ => CX0) (sp := fun w => sp_law (K w.params)) hn (by decide) hdf ⟨rfl, by decide, by decide⟩ hY F (fun _ _ a ns hl _ hS => ⟨ns, a, true, rfl, hS, M ns hl, fun _ _ => rfl⟩) fun _ _ _ _ _ z => z
theorem pack {K : PySem.W.Frag} {h : Heap} {mg : Str → Option Value} (X : K.In h) (G : h.Ns mainGlobals mg) {A_NoBits A_NoFrame A_NoKey A_NoName A_NoPost A_NoRail A_NoRow A_NoStrip A_NoThing A_NoWire A_RailError : Addr} (a_NoBits : PySem.W.nsIn K mainGlobals "NoBits" = some (some (.ref A_NoBits))) (a_NoFrame : PySem.W.nsIn K mainGlobals "NoFrame" = some (some (.ref A_NoFrame))) (a_NoKey : PySem.W.nsIn K mainGlobals "NoKey" = some (some (.ref A_NoKey))) (a_NoName : PySem.W.nsIn K mainGlobals "NoName" = some (some (.ref A_NoName))) (a_NoPost : PySem.W.nsIn K mainGlobals "NoPost" = some (some (.ref A_NoPost))) (a_NoRail : PySem.W.nsIn K mainGlobals "NoRail" = some (some (.ref A_NoRail))) (a_NoRow : PySem.W.nsIn K mainGlobals "NoRow" = some (some (.ref A_NoRow))) (a_NoStrip : PySem.W.nsIn K mainGlobals "NoStrip" = some (some (.ref A_NoStrip))) (a_NoThing : PySem.W.nsIn K mainGlobals "NoThing" = some (some (.ref A_NoThing))) (a_NoWire : PySem.W.nsIn K mainGlobals "NoWire" = some (some (.ref A_NoWire))) (a_RailError : PySem.W.nsIn K mainGlobals "RailError" = some (some (.ref A_RailError))) (e_NoName : PySem.W.excIn K A_NoName [.type "ValueError", .type "Exception", .type "BaseException", .type "object"] "ValueError.__new__" = true) (k_NoName : PySem.W.keepIn K (.ref A_NoName) = true) (s_NoName : PySem.W.subIn K (.ref A_NoName) (.type "BaseException") = some true) (t_NoName : PySem.W.typeIn K (.ref A_NoName) = some (.type "type")) (q_NoBits : EcP K A_NoBits) (q_NoName : EcP K A_NoName) (q_NoKey : EcP K A_NoKey) (q_NoFrame : EcP K A_NoFrame) (q_NoPost : EcP K A_NoPost) (q_NoThing : EcP K A_NoThing) (q_NoStrip : EcP K A_NoStrip) (q_NoRail : EcP K A_NoRail) (q_NoWire : EcP K A_NoWire) (q_NoRow : EcP K A_NoRow) (q_RailError : EcP K A_RailError) (r_NoBits : PySem.W.subIn K (.ref A_NoBits) (.ref A_RailError) = some true) (p_NoBits_NoBits : PySem.W.subIn K (.ref A_NoBits) (.ref A_NoBits) = some true) (p_NoBits_NoName : PySem.W.subIn K (.ref A_NoBits) (.ref A_NoName) = some false) (p_NoBits_NoKey : PySem.W.subIn K (.ref A_NoBits) (.ref A_NoKey) = some false) (p_NoBits_NoFrame : PySem.W.subIn K (.ref A_NoBits) (.ref A_NoFrame) = some false) (p_NoBits_NoPost : PySem.W.subIn K (.ref A_NoBits) (.ref A_NoPost) = some false) (p_NoBits_NoThing : PySem.W.subIn K (.ref A_NoBits) (.ref A_NoThing) = some false) (p_NoBits_NoStrip : PySem.W.subIn K (.ref A_NoBits) (.ref A_NoStrip) = some false) (p_NoBits_NoRail : PySem.W.subIn K (.ref A_NoBits) (.ref A_NoRail) = some false) (p_NoBits_NoWire : PySem.W.subIn K (.ref A_NoBits) (.ref A_NoWire) = some false) (p_NoBits_NoRow : PySem.W.subIn K (.ref A_NoBits) (.ref A_NoRow) = some false) (r_NoName : PySem.W.subIn K (.ref A_NoName) (.ref A_RailError) = some true) (p_NoName_NoBits : PySem.W.subIn K (.ref A_NoName) (.ref A_NoBits) = some false) (p_NoName_NoName : PySem.W.subIn K (.ref A_NoName) (.ref A_NoName) = some true) (p_NoName_NoKey : PySem.W.subIn K (.ref A_NoName) (.ref A_NoKey) = some false) (p_NoName_NoFrame : PySem.W.subIn K (.ref A_NoName) (.ref A_NoFrame) = some false) (p_NoName_NoPost : PySem.W.subIn K (.ref A_NoName) (.ref A_NoPost) = some false) (p_NoName_NoThing : PySem.W.subIn K (.ref A_NoName) (.ref A_NoThing) = some false) (p_NoName_NoStrip : PySem.W.subIn K (.ref A_NoName) (.ref A_NoStrip) = some false) (p_NoName_NoRail : PySem.W.subIn K (.ref A_NoName) (.ref A_NoRail) = some false) (p_NoName_NoWire : PySem.W.subIn K (.ref A_NoName) (.ref A_NoWire) = some false) (p_NoName_NoRow : PySem.W.subIn K (.ref A_NoName) (.ref A_NoRow) = some false) (r_NoKey : PySem.W.subIn K (.ref A_NoKey) (.ref A_RailError) = some true) (p_NoKey_NoBits : PySem.W.subIn K (.ref A_NoKey) (.ref A_NoBits) = some false) (p_NoKey_NoName : PySem.W.subIn K (.ref A_NoKey) (.ref A_NoName) = some false) (p_NoKey_NoKey : PySem.W.subIn K (.ref A_NoKey) (.ref A_NoKey) = some true) (p_NoKey_NoFrame : PySem.W.subIn K (.ref A_NoKey) (.ref A_NoFrame) = some false) (p_NoKey_NoPost : PySem.W.subIn K (.ref A_NoKey) (.ref A_NoPost) = some false) (p_NoKey_NoThing : PySem.W.subIn K (.ref A_NoKey) (.ref A_NoThing) = some false) (p_NoKey_NoStrip : PySem.W.subIn K (.ref A_NoKey) (.ref A_NoStrip) = some false) (p_NoKey_NoRail : PySem.W.subIn K (.ref A_NoKey) (.ref A_NoRail) = some false) (p_NoKey_NoWire : PySem.W.subIn K (.ref A_NoKey) (.ref A_NoWire) = some false) (p_NoKey_NoRow : PySem.W.subIn K (.ref A_NoKey) (.ref A_NoRow) = some false) (r_NoFrame : PySem.W.subIn K (.ref A_NoFrame) (.ref A_RailError) = some true) (p_NoFrame_NoBits : PySem.W.subIn K (.ref A_NoFrame) (.ref A_NoBits) = some false) (p_NoFrame_NoName : PySem.W.subIn K (.ref A_NoFrame) (.ref A_NoName) = some false) (p_NoFrame_NoKey : PySem.W.subIn K (.ref A_NoFrame) (.ref A_NoKey) = some false) (p_NoFrame_NoFrame : PySem.W.subIn K (.ref A_NoFrame) (.ref A_NoFrame) = some true) (p_NoFrame_NoPost : PySem.W.subIn K (.ref A_NoFrame) (.ref A_NoPost) = some false) (p_NoFrame_NoThing : PySem.W.subIn K (.ref A_NoFrame) (.ref A_NoThing) = some false) (p_NoFrame_NoStrip : PySem.W.subIn K (.ref A_NoFrame) (.ref A_NoStrip) = some false) (p_NoFrame_NoRail : PySem.W.subIn K (.ref A_NoFrame) (.ref A_NoRail) = some false) (p_NoFrame_NoWire : PySem.W.subIn K (.ref A_NoFrame) (.ref A_NoWire) = some false) (p_NoFrame_NoRow : PySem.W.subIn K (.ref A_NoFrame) (.ref A_NoRow) = some false) (r_NoPost : PySem.W.subIn K (.ref A_NoPost) (.ref A_RailError) = some true) (p_NoPost_NoBits : PySem.W.subIn K (.ref A_NoPost) (.ref A_NoBits) = some false) (p_NoPost_NoName : PySem.W.subIn K (.ref A_NoPost) (.ref A_NoName) = some false) (p_NoPost_NoKey : PySem.W.subIn K (.ref A_NoPost) (.ref A_NoKey) = some false) (p_NoPost_NoFrame : PySem.W.subIn K (.ref A_NoPost) (.ref A_NoFrame) = some false) (p_NoPost_NoPost : PySem.W.subIn K (.ref A_NoPost) (.ref A_NoPost) = some true) (p_NoPost_NoThing : PySem.W.subIn K (.ref A_NoPost) (.ref A_NoThing) = some false) (p_NoPost_NoStrip : PySem.W.subIn K (.ref A_NoPost) (.ref A_NoStrip) = some false) (p_NoPost_NoRail : PySem.W.subIn K (.ref A_NoPost) (.ref A_NoRail) = some false) (p_NoPost_NoWire : PySem.W.subIn K (.ref A_NoPost) (.ref A_NoWire) = some false) (p_NoPost_NoRow : PySem.W.subIn K (.ref A_NoPost) (.ref A_NoRow) = some false) (r_NoThing : PySem.W.subIn K (.ref A_NoThing) (.ref A_RailError) = some true) (p_NoThing_NoBits : PySem.W.subIn K (.ref A_NoThing) (.ref A_NoBits) = some false) (p_NoThing_NoName : PySem.W.subIn K (.ref A_NoThing) (.ref A_NoName) = some false) (p_NoThing_NoKey : PySem.W.subIn K (.ref A_NoThing) (.ref A_NoKey) = some false) (p_NoThing_NoFrame : PySem.W.subIn K (.ref A_NoThing) (.ref A_NoFrame) = some false) (p_NoThing_NoPost : PySem.W.subIn K (.ref A_NoThing) (.ref A_NoPost) = some false) (p_NoThing_NoThing : PySem.W.subIn K (.ref A_NoThing) (.ref A_NoThing) = some true) (p_NoThing_NoStrip : PySem.W.subIn K (.ref A_NoThing) (.ref A_NoStrip) = some false) (p_NoThing_NoRail : PySem.W.subIn K (.ref A_NoThing) (.ref A_NoRail) = some false) (p_NoThing_NoWire : PySem.W.subIn K (.ref A_NoThing) (.ref A_NoWire) = some false) (p_NoThing_NoRow : PySem.W.subIn K (.ref A_NoThing) (.ref A_NoRow) = some false) (r_NoStrip : PySem.W.subIn K (.ref A_NoStrip) (.ref A_RailError) = some true) (p_NoStrip_NoBits : PySem.W.subIn K (.ref A_NoStrip) (.ref A_NoBits) = some false) (p_NoStrip_NoName : PySem.W.subIn K (.ref A_NoStrip) (.ref A_NoName) = some false) (p_NoStrip_NoKey : PySem.W.subIn K (.ref A_NoStrip) (.ref A_NoKey) = some false) (p_NoStrip_NoFrame : PySem.W.subIn K (.ref A_NoStrip) (.ref A_NoFrame) = some false) (p_NoStrip_NoPost : PySem.W.subIn K (.ref A_NoStrip) (.ref A_NoPost) = some false) (p_NoStrip_NoThing : PySem.W.subIn K (.ref A_NoStrip) (.ref A_NoThing) = some false) (p_NoStrip_NoStrip : PySem.W.subIn K (.ref A_NoStrip) (.ref A_NoStrip) = some true) (p_NoStrip_NoRail : PySem.W.subIn K (.ref A_NoStrip) (.ref A_NoRail) = some false) (p_NoStrip_NoWire : PySem.W.subIn K (.ref A_NoStrip) (.ref A_NoWire) = some false) (p_NoStrip_NoRow : PySem.W.subIn K (.ref A_NoStrip) (.ref A_NoRow) = some false) (r_NoRail : PySem.W.subIn K (.ref A_NoRail) (.ref A_RailError) = some true) (p_NoRail_NoBits : PySem.W.subIn K (.ref A_NoRail) (.ref A_NoBits) = some false) (p_NoRail_NoName : PySem.W.subIn K (.ref A_NoRail) (.ref A_NoName) = some false) (p_NoRail_NoKey : PySem.W.subIn K (.ref A_NoRail) (.ref A_NoKey) = some false) (p_NoRail_NoFrame : PySem.W.subIn K (.ref A_NoRail) (.ref A_NoFrame) = some false) (p_NoRail_NoPost : PySem.W.subIn K (.ref A_NoRail) (.ref A_NoPost) = some false) (p_NoRail_NoThing : PySem.W.subIn K (.ref A_NoRail) (.ref A_NoThing) = some false) (p_NoRail_NoStrip : PySem.W.subIn K (.ref A_NoRail) (.ref A_NoStrip) = some false) (p_NoRail_NoRail : PySem.W.subIn K (.ref A_NoRail) (.ref A_NoRail) = some true) (p_NoRail_NoWire : PySem.W.subIn K (.ref A_NoRail) (.ref A_NoWire) = some false) (p_NoRail_NoRow : PySem.W.subIn K (.ref A_NoRail) (.ref A_NoRow) = some false) (r_NoWire : PySem.W.subIn K (.ref A_NoWire) (.ref A_RailError) = some true) (p_NoWire_NoBits : PySem.W.subIn K (.ref A_NoWire) (.ref A_NoBits) = some false) (p_NoWire_NoName : PySem.W.subIn K (.ref A_NoWire) (.ref A_NoName) = some false) (p_NoWire_NoKey : PySem.W.subIn K (.ref A_NoWire) (.ref A_NoKey) = some false) (p_NoWire_NoFrame : PySem.W.subIn K (.ref A_NoWire) (.ref A_NoFrame) = some false) (p_NoWire_NoPost : PySem.W.subIn K (.ref A_NoWire) (.ref A_NoPost) = some false) (p_NoWire_NoThing : PySem.W.subIn K (.ref A_NoWire) (.ref A_NoThing) = some false) (p_NoWire_NoStrip : PySem.W.subIn K (.ref A_NoWire) (.ref A_NoStrip) = some false) (p_NoWire_NoRail : PySem.W.subIn K (.ref A_NoWire) (.ref A_NoRail) = some false) (p_NoWire_NoWire : PySem.W.subIn K (.ref A_NoWire) (.ref A_NoWire) = some true) (p_NoWire_NoRow : PySem.W.subIn K (.ref A_NoWire) (.ref A_NoRow) = some false) (r_NoRow : PySem.W.subIn K (.ref A_NoRow) (.ref A_RailError) = some true) (p_NoRow_NoBits : PySem.W.subIn K (.ref A_NoRow) (.ref A_NoBits) = some false) (p_NoRow_NoName : PySem.W.subIn K (.ref A_NoRow) (.ref A_NoName) = some false) (p_NoRow_NoKey : PySem.W.subIn K (.ref A_NoRow) (.ref A_NoKey) = some false) (p_NoRow_NoFrame : PySem.W.subIn K (.ref A_NoRow) (.ref A_NoFrame) = some false) (p_NoRow_NoPost : PySem.W.subIn K (.ref A_NoRow) (.ref A_NoPost) = some false) (p_NoRow_NoThing : PySem.W.subIn K (.ref A_NoRow) (.ref A_NoThing) = some false) (p_NoRow_NoStrip : PySem.W.subIn K (.ref A_NoRow) (.ref A_NoStrip) = some false) (p_NoRow_NoRail : PySem.W.subIn K (.ref A_NoRow) (.ref A_NoRail) = some false) (p_NoRow_NoWire : PySem.W.subIn K (.ref A_NoRow) (.ref A_NoWire) = some false) (p_NoRow_NoRow : PySem.W.subIn K (.ref A_NoRow) (.ref A_NoRow) = some true) (hn : PySem.W.specialIn K (.builtin "object.__class__") "__get__" = some (some (.builtin "getset_descriptor.__get__"))) (ht : PySem.W.takesIn K (.builtin "object.__class__") = some true) :
  ∃ (es : Eds), mg "NoBits" = some (.ref es.NoBits) ∧ mg "NoFrame" = some (.ref es.NoFrame) ∧ mg "NoKey" = some (.ref es.NoKey) ∧ mg "NoName" = some (.ref es.NoName) ∧ mg "NoPost" = some (.ref es.NoPost) ∧ mg "NoRail" = some (.ref es.NoRail) ∧ mg "NoRow" = some (.ref es.NoRow) ∧ mg "NoStrip" = some (.ref es.NoStrip) ∧ mg "NoThing" = some (.ref es.NoThing) ∧ mg "NoWire" = some (.ref es.NoWire) ∧ mg "RailError" = some (.ref es.RailError) ∧ ErrC K mg "NoName" es.NoName ∧ EcF K es ks :=
  ⟨(⟨A_NoBits, A_NoName, A_NoKey, A_NoFrame, A_NoPost, A_NoThing, A_NoStrip, A_NoRail, A_NoWire, A_NoRow, A_RailError⟩ : Eds), PySem.W.mg_of X G a_NoBits, PySem.W.mg_of X G a_NoFrame, PySem.W.mg_of X G a_NoKey, PySem.W.mg_of X G a_NoName, PySem.W.mg_of X G a_NoPost, PySem.W.mg_of X G a_NoRail, PySem.W.mg_of X G a_NoRow, PySem.W.mg_of X G a_NoStrip, PySem.W.mg_of X G a_NoThing, PySem.W.mg_of X G a_NoWire, PySem.W.mg_of X G a_RailError, ⟨PySem.W.mg_of X G a_NoName, e_NoName, k_NoName, s_NoName, t_NoName⟩, ecf_mk (d := (⟨A_NoBits, A_NoName, A_NoKey, A_NoFrame, A_NoPost, A_NoThing, A_NoStrip, A_NoRail, A_NoWire, A_NoRow, A_RailError⟩ : Eds)) (all_cons (P := fun k => EcP K ((⟨A_NoBits, A_NoName, A_NoKey, A_NoFrame, A_NoPost, A_NoThing, A_NoStrip, A_NoRail, A_NoWire, A_NoRow, A_RailError⟩ : Eds).at k)) q_NoBits (all_cons (P := fun k => EcP K ((⟨A_NoBits, A_NoName, A_NoKey, A_NoFrame, A_NoPost, A_NoThing, A_NoStrip, A_NoRail, A_NoWire, A_NoRow, A_RailError⟩ : Eds).at k)) q_NoName (all_cons (P := fun k => EcP K ((⟨A_NoBits, A_NoName, A_NoKey, A_NoFrame, A_NoPost, A_NoThing, A_NoStrip, A_NoRail, A_NoWire, A_NoRow, A_RailError⟩ : Eds).at k)) q_NoKey (all_cons (P := fun k => EcP K ((⟨A_NoBits, A_NoName, A_NoKey, A_NoFrame, A_NoPost, A_NoThing, A_NoStrip, A_NoRail, A_NoWire, A_NoRow, A_RailError⟩ : Eds).at k)) q_NoFrame (all_cons (P := fun k => EcP K ((⟨A_NoBits, A_NoName, A_NoKey, A_NoFrame, A_NoPost, A_NoThing, A_NoStrip, A_NoRail, A_NoWire, A_NoRow, A_RailError⟩ : Eds).at k)) q_NoPost (all_cons (P := fun k => EcP K ((⟨A_NoBits, A_NoName, A_NoKey, A_NoFrame, A_NoPost, A_NoThing, A_NoStrip, A_NoRail, A_NoWire, A_NoRow, A_RailError⟩ : Eds).at k)) q_NoThing (all_cons (P := fun k => EcP K ((⟨A_NoBits, A_NoName, A_NoKey, A_NoFrame, A_NoPost, A_NoThing, A_NoStrip, A_NoRail, A_NoWire, A_NoRow, A_RailError⟩ : Eds).at k)) q_NoStrip (all_cons (P := fun k => EcP K ((⟨A_NoBits, A_NoName, A_NoKey, A_NoFrame, A_NoPost, A_NoThing, A_NoStrip, A_NoRail, A_NoWire, A_NoRow, A_RailError⟩ : Eds).at k)) q_NoRail (all_cons (P := fun k => EcP K ((⟨A_NoBits, A_NoName, A_NoKey, A_NoFrame, A_NoPost, A_NoThing, A_NoStrip, A_NoRail, A_NoWire, A_NoRow, A_RailError⟩ : Eds).at k)) q_NoWire (all_cons (P := fun k => EcP K ((⟨A_NoBits, A_NoName, A_NoKey, A_NoFrame, A_NoPost, A_NoThing, A_NoStrip, A_NoRail, A_NoWire, A_NoRow, A_RailError⟩ : Eds).at k)) q_NoRow all_nil)))))))))) (all_cons (P := fun k => ∀ c ∈ ks, PySem.W.subIn K (.ref ((⟨A_NoBits, A_NoName, A_NoKey, A_NoFrame, A_NoPost, A_NoThing, A_NoStrip, A_NoRail, A_NoWire, A_NoRow, A_RailError⟩ : Eds).at k)) (.ref ((⟨A_NoBits, A_NoName, A_NoKey, A_NoFrame, A_NoPost, A_NoThing, A_NoStrip, A_NoRail, A_NoWire, A_NoRow, A_RailError⟩ : Eds).at c)) = some (decide (k = c))) (all_cons (P := fun c => PySem.W.subIn K (.ref ((⟨A_NoBits, A_NoName, A_NoKey, A_NoFrame, A_NoPost, A_NoThing, A_NoStrip, A_NoRail, A_NoWire, A_NoRow, A_RailError⟩ : Eds).at .NoBits)) (.ref ((⟨A_NoBits, A_NoName, A_NoKey, A_NoFrame, A_NoPost, A_NoThing, A_NoStrip, A_NoRail, A_NoWire, A_NoRow, A_RailError⟩ : Eds).at c)) = some (decide (.NoBits = c))) p_NoBits_NoBits (all_cons (P := fun c => PySem.W.subIn K (.ref ((⟨A_NoBits, A_NoName, A_NoKey, A_NoFrame, A_NoPost, A_NoThing, A_NoStrip, A_NoRail, A_NoWire, A_NoRow, A_RailError⟩ : Eds).at .NoBits)) (.ref ((⟨A_NoBits, A_NoName, A_NoKey, A_NoFrame, A_NoPost, A_NoThing, A_NoStrip, A_NoRail, A_NoWire, A_NoRow, A_RailError⟩ : Eds).at c)) = some (decide (.NoBits = c))) p_NoBits_NoName (all_cons (P := fun c => PySem.W.subIn K (.ref ((⟨A_NoBits, A_NoName, A_NoKey, A_NoFrame, A_NoPost, A_NoThing, A_NoStrip, A_NoRail, A_NoWire, A_NoRow, A_RailError⟩ : Eds).at .NoBits)) (.ref ((⟨A_NoBits, A_NoName, A_NoKey, A_NoFrame, A_NoPost, A_NoThing, A_NoStrip, A_NoRail, A_NoWire, A_NoRow, A_RailError⟩ : Eds).at c)) = some (decide (.NoBits = c))) p_NoBits_NoKey (all_cons (P := fun c => PySem.W.subIn K (.ref ((⟨A_NoBits, A_NoName, A_NoKey, A_NoFrame, A_NoPost, A_NoThing, A_NoStrip, A_NoRail, A_NoWire, A_NoRow, A_RailError⟩ : Eds).at .NoBits)) (.ref ((⟨A_NoBits, A_NoName, A_NoKey, A_NoFrame, A_NoPost, A_NoThing, A_NoStrip, A_NoRail, A_NoWire, A_NoRow, A_RailError⟩ : Eds).at c)) = some (decide (.NoBits = c))) p_NoBits_NoFrame (all_cons (P := fun c => PySem.W.subIn K (.ref ((⟨A_NoBits, A_NoName, A_NoKey, A_NoFrame, A_NoPost, A_NoThing, A_NoStrip, A_NoRail, A_NoWire, A_NoRow, A_RailError⟩ : Eds).at .NoBits)) (.ref ((⟨A_NoBits, A_NoName, A_NoKey, A_NoFrame, A_NoPost, A_NoThing, A_NoStrip, A_NoRail, A_NoWire, A_NoRow, A_RailError⟩ : Eds).at c)) = some (decide (.NoBits = c))) p_NoBits_NoPost (all_cons (P := fun c => PySem.W.subIn K (.ref ((⟨A_NoBits, A_NoName, A_NoKey, A_NoFrame, A_NoPost, A_NoThing, A_NoStrip, A_NoRail, A_NoWire, A_NoRow, A_RailError⟩ : Eds).at .NoBits)) (.ref ((⟨A_NoBits, A_NoName, A_NoKey, A_NoFrame, A_NoPost, A_NoThing, A_NoStrip, A_NoRail, A_NoWire, A_NoRow, A_RailError⟩ : Eds).at c)) = some (decide (.NoBits = c))) p_NoBits_NoThing (all_cons (P := fun c => PySem.W.subIn K (.ref ((⟨A_NoBits, A_NoName, A_NoKey, A_NoFrame, A_NoPost, A_NoThing, A_NoStrip, A_NoRail, A_NoWire, A_NoRow, A_RailError⟩ : Eds).at .NoBits)) (.ref ((⟨A_NoBits, A_NoName, A_NoKey, A_NoFrame, A_NoPost, A_NoThing, A_NoStrip, A_NoRail, A_NoWire, A_NoRow, A_RailError⟩ : Eds).at c)) = some (decide (.NoBits = c))) p_NoBits_NoStrip (all_cons (P := fun c => PySem.W.subIn K (.ref ((⟨A_NoBits, A_NoName, A_NoKey, A_NoFrame, A_NoPost, A_NoThing, A_NoStrip, A_NoRail, A_NoWire, A_NoRow, A_RailError⟩ : Eds).at .NoBits)) (.ref ((⟨A_NoBits, A_NoName, A_NoKey, A_NoFrame, A_NoPost, A_NoThing, A_NoStrip, A_NoRail, A_NoWire, A_NoRow, A_RailError⟩ : Eds).at c)) = some (decide (.NoBits = c))) p_NoBits_NoRail (all_cons (P := fun c => PySem.W.subIn K (.ref ((⟨A_NoBits, A_NoName, A_NoKey, A_NoFrame, A_NoPost, A_NoThing, A_NoStrip, A_NoRail, A_NoWire, A_NoRow, A_RailError⟩ : Eds).at .NoBits)) (.ref ((⟨A_NoBits, A_NoName, A_NoKey, A_NoFrame, A_NoPost, A_NoThing, A_NoStrip, A_NoRail, A_NoWire, A_NoRow, A_RailError⟩ : Eds).at c)) = some (decide (.NoBits = c))) p_NoBits_NoWire (all_cons (P := fun c => PySem.W.subIn K (.ref ((⟨A_NoBits, A_NoName, A_NoKey, A_NoFrame, A_NoPost, A_NoThing, A_NoStrip, A_NoRail, A_NoWire, A_NoRow, A_RailError⟩ : Eds).at .NoBits)) (.ref ((⟨A_NoBits, A_NoName, A_NoKey, A_NoFrame, A_NoPost, A_NoThing, A_NoStrip, A_NoRail, A_NoWire, A_NoRow, A_RailError⟩ : Eds).at c)) = some (decide (.NoBits = c))) p_NoBits_NoRow all_nil)))))))))) (all_cons (P := fun k => ∀ c ∈ ks, PySem.W.subIn K (.ref ((⟨A_NoBits, A_NoName, A_NoKey, A_NoFrame, A_NoPost, A_NoThing, A_NoStrip, A_NoRail, A_NoWire, A_NoRow, A_RailError⟩ : Eds).at k)) (.ref ((⟨A_NoBits, A_NoName, A_NoKey, A_NoFrame, A_NoPost, A_NoThing, A_NoStrip, A_NoRail, A_NoWire, A_NoRow, A_RailError⟩ : Eds).at c)) = some (decide (k = c))) (all_cons (P := fun c => PySem.W.subIn K (.ref ((⟨A_NoBits, A_NoName, A_NoKey, A_NoFrame, A_NoPost, A_NoThing, A_NoStrip, A_NoRail, A_NoWire, A_NoRow, A_RailError⟩ : Eds).at .NoName)) (.ref ((⟨A_NoBits, A_NoName, A_NoKey, A_NoFrame, A_NoPost, A_NoThing, A_NoStrip, A_NoRail, A_NoWire, A_NoRow, A_RailError⟩ : Eds).at c)) = some (decide (.NoName = c))) p_NoName_NoBits (all_cons (P := fun c => PySem.W.subIn K (.ref ((⟨A_NoBits, A_NoName, A_NoKey, A_NoFrame, A_NoPost, A_NoThing, A_NoStrip, A_NoRail, A_NoWire, A_NoRow, A_RailError⟩ : Eds).at .NoName)) (.ref ((⟨A_NoBits, A_NoName, A_NoKey, A_NoFrame, A_NoPost, A_NoThing, A_NoStrip, A_NoRail, A_NoWire, A_NoRow, A_RailError⟩ : Eds).at c)) = some (decide (.NoName = c))) p_NoName_NoName (all_cons (P := fun c => PySem.W.subIn K (.ref ((⟨A_NoBits, A_NoName, A_NoKey, A_NoFrame, A_NoPost, A_NoThing, A_NoStrip, A_NoRail, A_NoWire, A_NoRow, A_RailError⟩ : Eds).at .NoName)) (.ref ((⟨A_NoBits, A_NoName, A_NoKey, A_NoFrame, A_NoPost, A_NoThing, A_NoStrip, A_NoRail, A_NoWire, A_NoRow, A_RailError⟩ : Eds).at c)) = some (decide (.NoName = c))) p_NoName_NoKey (all_cons (P := fun c => PySem.W.subIn K (.ref ((⟨A_NoBits, A_NoName, A_NoKey, A_NoFrame, A_NoPost, A_NoThing, A_NoStrip, A_NoRail, A_NoWire, A_NoRow, A_RailError⟩ : Eds).at .NoName)) (.ref ((⟨A_NoBits, A_NoName, A_NoKey, A_NoFrame, A_NoPost, A_NoThing, A_NoStrip, A_NoRail, A_NoWire, A_NoRow, A_RailError⟩ : Eds).at c)) = some (decide (.NoName = c))) p_NoName_NoFrame (all_cons (P := fun c => PySem.W.subIn K (.ref ((⟨A_NoBits, A_NoName, A_NoKey, A_NoFrame, A_NoPost, A_NoThing, A_NoStrip, A_NoRail, A_NoWire, A_NoRow, A_RailError⟩ : Eds).at .NoName)) (.ref ((⟨A_NoBits, A_NoName, A_NoKey, A_NoFrame, A_NoPost, A_NoThing, A_NoStrip, A_NoRail, A_NoWire, A_NoRow, A_RailError⟩ : Eds).at c)) = some (decide (.NoName = c))) p_NoName_NoPost (all_cons (P := fun c => PySem.W.subIn K (.ref ((⟨A_NoBits, A_NoName, A_NoKey, A_NoFrame, A_NoPost, A_NoThing, A_NoStrip, A_NoRail, A_NoWire, A_NoRow, A_RailError⟩ : Eds).at .NoName)) (.ref ((⟨A_NoBits, A_NoName, A_NoKey, A_NoFrame, A_NoPost, A_NoThing, A_NoStrip, A_NoRail, A_NoWire, A_NoRow, A_RailError⟩ : Eds).at c)) = some (decide (.NoName = c))) p_NoName_NoThing (all_cons (P := fun c => PySem.W.subIn K (.ref ((⟨A_NoBits, A_NoName, A_NoKey, A_NoFrame, A_NoPost, A_NoThing, A_NoStrip, A_NoRail, A_NoWire, A_NoRow, A_RailError⟩ : Eds).at .NoName)) (.ref ((⟨A_NoBits, A_NoName, A_NoKey, A_NoFrame, A_NoPost, A_NoThing, A_NoStrip, A_NoRail, A_NoWire, A_NoRow, A_RailError⟩ : Eds).at c)) = some (decide (.NoName = c))) p_NoName_NoStrip (all_cons (P := fun c => PySem.W.subIn K (.ref ((⟨A_NoBits, A_NoName, A_NoKey, A_NoFrame, A_NoPost, A_NoThing, A_NoStrip, A_NoRail, A_NoWire, A_NoRow, A_RailError⟩ : Eds).at .NoName)) (.ref ((⟨A_NoBits, A_NoName, A_NoKey, A_NoFrame, A_NoPost, A_NoThing, A_NoStrip, A_NoRail, A_NoWire, A_NoRow, A_RailError⟩ : Eds).at c)) = some (decide (.NoName = c))) p_NoName_NoRail (all_cons (P := fun c => PySem.W.subIn K (.ref ((⟨A_NoBits, A_NoName, A_NoKey, A_NoFrame, A_NoPost, A_NoThing, A_NoStrip, A_NoRail, A_NoWire, A_NoRow, A_RailError⟩ : Eds).at .NoName)) (.ref ((⟨A_NoBits, A_NoName, A_NoKey, A_NoFrame, A_NoPost, A_NoThing, A_NoStrip, A_NoRail, A_NoWire, A_NoRow, A_RailError⟩ : Eds).at c)) = some (decide (.NoName = c))) p_NoName_NoWire (all_cons (P := fun c => PySem.W.subIn K (.ref ((⟨A_NoBits, A_NoName, A_NoKey, A_NoFrame, A_NoPost, A_NoThing, A_NoStrip, A_NoRail, A_NoWire, A_NoRow, A_RailError⟩ : Eds).at .NoName)) (.ref ((⟨A_NoBits, A_NoName, A_NoKey, A_NoFrame, A_NoPost, A_NoThing, A_NoStrip, A_NoRail, A_NoWire, A_NoRow, A_RailError⟩ : Eds).at c)) = some (decide (.NoName = c))) p_NoName_NoRow all_nil)))))))))) (all_cons (P := fun k => ∀ c ∈ ks, PySem.W.subIn K (.ref ((⟨A_NoBits, A_NoName, A_NoKey, A_NoFrame, A_NoPost, A_NoThing, A_NoStrip, A_NoRail, A_NoWire, A_NoRow, A_RailError⟩ : Eds).at k)) (.ref ((⟨A_NoBits, A_NoName, A_NoKey, A_NoFrame, A_NoPost, A_NoThing, A_NoStrip, A_NoRail, A_NoWire, A_NoRow, A_RailError⟩ : Eds).at c)) = some (decide (k = c))) (all_cons (P := fun c => PySem.W.subIn K (.ref ((⟨A_NoBits, A_NoName, A_NoKey, A_NoFrame, A_NoPost, A_NoThing, A_NoStrip, A_NoRail, A_NoWire, A_NoRow, A_RailError⟩ : Eds).at .NoKey)) (.ref ((⟨A_NoBits, A_NoName, A_NoKey, A_NoFrame, A_NoPost, A_NoThing, A_NoStrip, A_NoRail, A_NoWire, A_NoRow, A_RailError⟩ : Eds).at c)) = some (decide (.NoKey = c))) p_NoKey_NoBits (all_cons (P := fun c => PySem.W.subIn K (.ref ((⟨A_NoBits, A_NoName, A_NoKey, A_NoFrame, A_NoPost, A_NoThing, A_NoStrip, A_NoRail, A_NoWire, A_NoRow, A_RailError⟩ : Eds).at .NoKey)) (.ref ((⟨A_NoBits, A_NoName, A_NoKey, A_NoFrame, A_NoPost, A_NoThing, A_NoStrip, A_NoRail, A_NoWire, A_NoRow, A_RailError⟩ : Eds).at c)) = some (decide (.NoKey = c))) p_NoKey_NoName (all_cons (P := fun c => PySem.W.subIn K (.ref ((⟨A_NoBits, A_NoName, A_NoKey, A_NoFrame, A_NoPost, A_NoThing, A_NoStrip, A_NoRail, A_NoWire, A_NoRow, A_RailError⟩ : Eds).at .NoKey)) (.ref ((⟨A_NoBits, A_NoName, A_NoKey, A_NoFrame, A_NoPost, A_NoThing, A_NoStrip, A_NoRail, A_NoWire, A_NoRow, A_RailError⟩ : Eds).at c)) = some (decide (.NoKey = c))) p_NoKey_NoKey (all_cons (P := fun c => PySem.W.subIn K (.ref ((⟨A_NoBits, A_NoName, A_NoKey, A_NoFrame, A_NoPost, A_NoThing, A_NoStrip, A_NoRail, A_NoWire, A_NoRow, A_RailError⟩ : Eds).at .NoKey)) (.ref ((⟨A_NoBits, A_NoName, A_NoKey, A_NoFrame, A_NoPost, A_NoThing, A_NoStrip, A_NoRail, A_NoWire, A_NoRow, A_RailError⟩ : Eds).at c)) = some (decide (.NoKey = c))) p_NoKey_NoFrame (all_cons (P := fun c => PySem.W.subIn K (.ref ((⟨A_NoBits, A_NoName, A_NoKey, A_NoFrame, A_NoPost, A_NoThing, A_NoStrip, A_NoRail, A_NoWire, A_NoRow, A_RailError⟩ : Eds).at .NoKey)) (.ref ((⟨A_NoBits, A_NoName, A_NoKey, A_NoFrame, A_NoPost, A_NoThing, A_NoStrip, A_NoRail, A_NoWire, A_NoRow, A_RailError⟩ : Eds).at c)) = some (decide (.NoKey = c))) p_NoKey_NoPost (all_cons (P := fun c => PySem.W.subIn K (.ref ((⟨A_NoBits, A_NoName, A_NoKey, A_NoFrame, A_NoPost, A_NoThing, A_NoStrip, A_NoRail, A_NoWire, A_NoRow, A_RailError⟩ : Eds).at .NoKey)) (.ref ((⟨A_NoBits, A_NoName, A_NoKey, A_NoFrame, A_NoPost, A_NoThing, A_NoStrip, A_NoRail, A_NoWire, A_NoRow, A_RailError⟩ : Eds).at c)) = some (decide (.NoKey = c))) p_NoKey_NoThing (all_cons (P := fun c => PySem.W.subIn K (.ref ((⟨A_NoBits, A_NoName, A_NoKey, A_NoFrame, A_NoPost, A_NoThing, A_NoStrip, A_NoRail, A_NoWire, A_NoRow, A_RailError⟩ : Eds).at .NoKey)) (.ref ((⟨A_NoBits, A_NoName, A_NoKey, A_NoFrame, A_NoPost, A_NoThing, A_NoStrip, A_NoRail, A_NoWire, A_NoRow, A_RailError⟩ : Eds).at c)) = some (decide (.NoKey = c))) p_NoKey_NoStrip (all_cons (P := fun c => PySem.W.subIn K (.ref ((⟨A_NoBits, A_NoName, A_NoKey, A_NoFrame, A_NoPost, A_NoThing, A_NoStrip, A_NoRail, A_NoWire, A_NoRow, A_RailError⟩ : Eds).at .NoKey)) (.ref ((⟨A_NoBits, A_NoName, A_NoKey, A_NoFrame, A_NoPost, A_NoThing, A_NoStrip, A_NoRail, A_NoWire, A_NoRow, A_RailError⟩ : Eds).at c)) = some (decide (.NoKey = c))) p_NoKey_NoRail (all_cons (P := fun c => PySem.W.subIn K (.ref ((⟨A_NoBits, A_NoName, A_NoKey, A_NoFrame, A_NoPost, A_NoThing, A_NoStrip, A_NoRail, A_NoWire, A_NoRow, A_RailError⟩ : Eds).at .NoKey)) (.ref ((⟨A_NoBits, A_NoName, A_NoKey, A_NoFrame, A_NoPost, A_NoThing, A_NoStrip, A_NoRail, A_NoWire, A_NoRow, A_RailError⟩ : Eds).at c)) = some (decide (.NoKey = c))) p_NoKey_NoWire (all_cons (P := fun c => PySem.W.subIn K (.ref ((⟨A_NoBits, A_NoName, A_NoKey, A_NoFrame, A_NoPost, A_NoThing, A_NoStrip, A_NoRail, A_NoWire, A_NoRow, A_RailError⟩ : Eds).at .NoKey)) (.ref ((⟨A_NoBits, A_NoName, A_NoKey, A_NoFrame, A_NoPost, A_NoThing, A_NoStrip, A_NoRail, A_NoWire, A_NoRow, A_RailError⟩ : Eds).at c)) = some (decide (.NoKey = c))) p_NoKey_NoRow all_nil)))))))))) (all_cons (P := fun k => ∀ c ∈ ks, PySem.W.subIn K (.ref ((⟨A_NoBits, A_NoName, A_NoKey, A_NoFrame, A_NoPost, A_NoThing, A_NoStrip, A_NoRail, A_NoWire, A_NoRow, A_RailError⟩ : Eds).at k)) (.ref ((⟨A_NoBits, A_NoName, A_NoKey, A_NoFrame, A_NoPost, A_NoThing, A_NoStrip, A_NoRail, A_NoWire, A_NoRow, A_RailError⟩ : Eds).at c)) = some (decide (k = c))) (all_cons (P := fun c => PySem.W.subIn K (.ref ((⟨A_NoBits, A_NoName, A_NoKey, A_NoFrame, A_NoPost, A_NoThing, A_NoStrip, A_NoRail, A_NoWire, A_NoRow, A_RailError⟩ : Eds).at .NoFrame)) (.ref ((⟨A_NoBits, A_NoName, A_NoKey, A_NoFrame, A_NoPost, A_NoThing, A_NoStrip, A_NoRail, A_NoWire, A_NoRow, A_RailError⟩ : Eds).at c)) = some (decide (.NoFrame = c))) p_NoFrame_NoBits (all_cons (P := fun c => PySem.W.subIn K (.ref ((⟨A_NoBits, A_NoName, A_NoKey, A_NoFrame, A_NoPost, A_NoThing, A_NoStrip, A_NoRail, A_NoWire, A_NoRow, A_RailError⟩ : Eds).at .NoFrame)) (.ref ((⟨A_NoBits, A_NoName, A_NoKey, A_NoFrame, A_NoPost, A_NoThing, A_NoStrip, A_NoRail, A_NoWire, A_NoRow, A_RailError⟩ : Eds).at c)) = some (decide (.NoFrame = c))) p_NoFrame_NoName (all_cons (P := fun c => PySem.W.subIn K (.ref ((⟨A_NoBits, A_NoName, A_NoKey, A_NoFrame, A_NoPost, A_NoThing, A_NoStrip, A_NoRail, A_NoWire, A_NoRow, A_RailError⟩ : Eds).at .NoFrame)) (.ref ((⟨A_NoBits, A_NoName, A_NoKey, A_NoFrame, A_NoPost, A_NoThing, A_NoStrip, A_NoRail, A_NoWire, A_NoRow, A_RailError⟩ : Eds).at c)) = some (decide (.NoFrame = c))) p_NoFrame_NoKey (all_cons (P := fun c => PySem.W.subIn K (.ref ((⟨A_NoBits, A_NoName, A_NoKey, A_NoFrame, A_NoPost, A_NoThing, A_NoStrip, A_NoRail, A_NoWire, A_NoRow, A_RailError⟩ : Eds).at .NoFrame)) (.ref ((⟨A_NoBits, A_NoName, A_NoKey, A_NoFrame, A_NoPost, A_NoThing, A_NoStrip, A_NoRail, A_NoWire, A_NoRow, A_RailError⟩ : Eds).at c)) = some (decide (.NoFrame = c))) p_NoFrame_NoFrame (all_cons (P := fun c => PySem.W.subIn K (.ref ((⟨A_NoBits, A_NoName, A_NoKey, A_NoFrame, A_NoPost, A_NoThing, A_NoStrip, A_NoRail, A_NoWire, A_NoRow, A_RailError⟩ : Eds).at .NoFrame)) (.ref ((⟨A_NoBits, A_NoName, A_NoKey, A_NoFrame, A_NoPost, A_NoThing, A_NoStrip, A_NoRail, A_NoWire, A_NoRow, A_RailError⟩ : Eds).at c)) = some (decide (.NoFrame = c))) p_NoFrame_NoPost (all_cons (P := fun c => PySem.W.subIn K (.ref ((⟨A_NoBits, A_NoName, A_NoKey, A_NoFrame, A_NoPost, A_NoThing, A_NoStrip, A_NoRail, A_NoWire, A_NoRow, A_RailError⟩ : Eds).at .NoFrame)) (.ref ((⟨A_NoBits, A_NoName, A_NoKey, A_NoFrame, A_NoPost, A_NoThing, A_NoStrip, A_NoRail, A_NoWire, A_NoRow, A_RailError⟩ : Eds).at c)) = some (decide (.NoFrame = c))) p_NoFrame_NoThing (all_cons (P := fun c => PySem.W.subIn K (.ref ((⟨A_NoBits, A_NoName, A_NoKey, A_NoFrame, A_NoPost, A_NoThing, A_NoStrip, A_NoRail, A_NoWire, A_NoRow, A_RailError⟩ : Eds).at .NoFrame)) (.ref ((⟨A_NoBits, A_NoName, A_NoKey, A_NoFrame, A_NoPost, A_NoThing, A_NoStrip, A_NoRail, A_NoWire, A_NoRow, A_RailError⟩ : Eds).at c)) = some (decide (.NoFrame = c))) p_NoFrame_NoStrip (all_cons (P := fun c => PySem.W.subIn K (.ref ((⟨A_NoBits, A_NoName, A_NoKey, A_NoFrame, A_NoPost, A_NoThing, A_NoStrip, A_NoRail, A_NoWire, A_NoRow, A_RailError⟩ : Eds).at .NoFrame)) (.ref ((⟨A_NoBits, A_NoName, A_NoKey, A_NoFrame, A_NoPost, A_NoThing, A_NoStrip, A_NoRail, A_NoWire, A_NoRow, A_RailError⟩ : Eds).at c)) = some (decide (.NoFrame = c))) p_NoFrame_NoRail (all_cons (P := fun c => PySem.W.subIn K (.ref ((⟨A_NoBits, A_NoName, A_NoKey, A_NoFrame, A_NoPost, A_NoThing, A_NoStrip, A_NoRail, A_NoWire, A_NoRow, A_RailError⟩ : Eds).at .NoFrame)) (.ref ((⟨A_NoBits, A_NoName, A_NoKey, A_NoFrame, A_NoPost, A_NoThing, A_NoStrip, A_NoRail, A_NoWire, A_NoRow, A_RailError⟩ : Eds).at c)) = some (decide (.NoFrame = c))) p_NoFrame_NoWire (all_cons (P := fun c => PySem.W.subIn K (.ref ((⟨A_NoBits, A_NoName, A_NoKey, A_NoFrame, A_NoPost, A_NoThing, A_NoStrip, A_NoRail, A_NoWire, A_NoRow, A_RailError⟩ : Eds).at .NoFrame)) (.ref ((⟨A_NoBits, A_NoName, A_NoKey, A_NoFrame, A_NoPost, A_NoThing, A_NoStrip, A_NoRail, A_NoWire, A_NoRow, A_RailError⟩ : Eds).at c)) = some (decide (.NoFrame = c))) p_NoFrame_NoRow all_nil)))))))))) (all_cons (P := fun k => ∀ c ∈ ks, PySem.W.subIn K (.ref ((⟨A_NoBits, A_NoName, A_NoKey, A_NoFrame, A_NoPost, A_NoThing, A_NoStrip, A_NoRail, A_NoWire, A_NoRow, A_RailError⟩ : Eds).at k)) (.ref ((⟨A_NoBits, A_NoName, A_NoKey, A_NoFrame, A_NoPost, A_NoThing, A_NoStrip, A_NoRail, A_NoWire, A_NoRow, A_RailError⟩ : Eds).at c)) = some (decide (k = c))) (all_cons (P := fun c => PySem.W.subIn K (.ref ((⟨A_NoBits, A_NoName, A_NoKey, A_NoFrame, A_NoPost, A_NoThing, A_NoStrip, A_NoRail, A_NoWire, A_NoRow, A_RailError⟩ : Eds).at .NoPost)) (.ref ((⟨A_NoBits, A_NoName, A_NoKey, A_NoFrame, A_NoPost, A_NoThing, A_NoStrip, A_NoRail, A_NoWire, A_NoRow, A_RailError⟩ : Eds).at c)) = some (decide (.NoPost = c))) p_NoPost_NoBits (all_cons (P := fun c => PySem.W.subIn K (.ref ((⟨A_NoBits, A_NoName, A_NoKey, A_NoFrame, A_NoPost, A_NoThing, A_NoStrip, A_NoRail, A_NoWire, A_NoRow, A_RailError⟩ : Eds).at .NoPost)) (.ref ((⟨A_NoBits, A_NoName, A_NoKey, A_NoFrame, A_NoPost, A_NoThing, A_NoStrip, A_NoRail, A_NoWire, A_NoRow, A_RailError⟩ : Eds).at c)) = some (decide (.NoPost = c))) p_NoPost_NoName (all_cons (P := fun c => PySem.W.subIn K (.ref ((⟨A_NoBits, A_NoName, A_NoKey, A_NoFrame, A_NoPost, A_NoThing, A_NoStrip, A_NoRail, A_NoWire, A_NoRow, A_RailError⟩ : Eds).at .NoPost)) (.ref ((⟨A_NoBits, A_NoName, A_NoKey, A_NoFrame, A_NoPost, A_NoThing, A_NoStrip, A_NoRail, A_NoWire, A_NoRow, A_RailError⟩ : Eds).at c)) = some (decide (.NoPost = c))) p_NoPost_NoKey (all_cons (P := fun c => PySem.W.subIn K (.ref ((⟨A_NoBits, A_NoName, A_NoKey, A_NoFrame, A_NoPost, A_NoThing, A_NoStrip, A_NoRail, A_NoWire, A_NoRow, A_RailError⟩ : Eds).at .NoPost)) (.ref ((⟨A_NoBits, A_NoName, A_NoKey, A_NoFrame, A_NoPost, A_NoThing, A_NoStrip, A_NoRail, A_NoWire, A_NoRow, A_RailError⟩ : Eds).at c)) = some (decide (.NoPost = c))) p_NoPost_NoFrame (all_cons (P := fun c => PySem.W.subIn K (.ref ((⟨A_NoBits, A_NoName, A_NoKey, A_NoFrame, A_NoPost, A_NoThing, A_NoStrip, A_NoRail, A_NoWire, A_NoRow, A_RailError⟩ : Eds).at .NoPost)) (.ref ((⟨A_NoBits, A_NoName, A_NoKey, A_NoFrame, A_NoPost, A_NoThing, A_NoStrip, A_NoRail, A_NoWire, A_NoRow, A_RailError⟩ : Eds).at c)) = some (decide (.NoPost = c))) p_NoPost_NoPost (all_cons (P := fun c => PySem.W.subIn K (.ref ((⟨A_NoBits, A_NoName, A_NoKey, A_NoFrame, A_NoPost, A_NoThing, A_NoStrip, A_NoRail, A_NoWire, A_NoRow, A_RailError⟩ : Eds).at .NoPost)) (.ref ((⟨A_NoBits, A_NoName, A_NoKey, A_NoFrame, A_NoPost, A_NoThing, A_NoStrip, A_NoRail, A_NoWire, A_NoRow, A_RailError⟩ : Eds).at c)) = some (decide (.NoPost = c))) p_NoPost_NoThing (all_cons (P := fun c => PySem.W.subIn K (.ref ((⟨A_NoBits, A_NoName, A_NoKey, A_NoFrame, A_NoPost, A_NoThing, A_NoStrip, A_NoRail, A_NoWire, A_NoRow, A_RailError⟩ : Eds).at .NoPost)) (.ref ((⟨A_NoBits, A_NoName, A_NoKey, A_NoFrame, A_NoPost, A_NoThing, A_NoStrip, A_NoRail, A_NoWire, A_NoRow, A_RailError⟩ : Eds).at c)) = some (decide (.NoPost = c))) p_NoPost_NoStrip (all_cons (P := fun c => PySem.W.subIn K (.ref ((⟨A_NoBits, A_NoName, A_NoKey, A_NoFrame, A_NoPost, A_NoThing, A_NoStrip, A_NoRail, A_NoWire, A_NoRow, A_RailError⟩ : Eds).at .NoPost)) (.ref ((⟨A_NoBits, A_NoName, A_NoKey, A_NoFrame, A_NoPost, A_NoThing, A_NoStrip, A_NoRail, A_NoWire, A_NoRow, A_RailError⟩ : Eds).at c)) = some (decide (.NoPost = c))) p_NoPost_NoRail (all_cons (P := fun c => PySem.W.subIn K (.ref ((⟨A_NoBits, A_NoName, A_NoKey, A_NoFrame, A_NoPost, A_NoThing, A_NoStrip, A_NoRail, A_NoWire, A_NoRow, A_RailError⟩ : Eds).at .NoPost)) (.ref ((⟨A_NoBits, A_NoName, A_NoKey, A_NoFrame, A_NoPost, A_NoThing, A_NoStrip, A_NoRail, A_NoWire, A_NoRow, A_RailError⟩ : Eds).at c)) = some (decide (.NoPost = c))) p_NoPost_NoWire (all_cons (P := fun c => PySem.W.subIn K (.ref ((⟨A_NoBits, A_NoName, A_NoKey, A_NoFrame, A_NoPost, A_NoThing, A_NoStrip, A_NoRail, A_NoWire, A_NoRow, A_RailError⟩ : Eds).at .NoPost)) (.ref ((⟨A_NoBits, A_NoName, A_NoKey, A_NoFrame, A_NoPost, A_NoThing, A_NoStrip, A_NoRail, A_NoWire, A_NoRow, A_RailError⟩ : Eds).at c)) = some (decide (.NoPost = c))) p_NoPost_NoRow all_nil)))))))))) (all_cons (P := fun k => ∀ c ∈ ks, PySem.W.subIn K (.ref ((⟨A_NoBits, A_NoName, A_NoKey, A_NoFrame, A_NoPost, A_NoThing, A_NoStrip, A_NoRail, A_NoWire, A_NoRow, A_RailError⟩ : Eds).at k)) (.ref ((⟨A_NoBits, A_NoName, A_NoKey, A_NoFrame, A_NoPost, A_NoThing, A_NoStrip, A_NoRail, A_NoWire, A_NoRow, A_RailError⟩ : Eds).at c)) = some (decide (k = c))) (all_cons (P := fun c => PySem.W.subIn K (.ref ((⟨A_NoBits, A_NoName, A_NoKey, A_NoFrame, A_NoPost, A_NoThing, A_NoStrip, A_NoRail, A_NoWire, A_NoRow, A_RailError⟩ : Eds).at .NoThing)) (.ref ((⟨A_NoBits, A_NoName, A_NoKey, A_NoFrame, A_NoPost, A_NoThing, A_NoStrip, A_NoRail, A_NoWire, A_NoRow, A_RailError⟩ : Eds).at c)) = some (decide (.NoThing = c))) p_NoThing_NoBits (all_cons (P := fun c => PySem.W.subIn K (.ref ((⟨A_NoBits, A_NoName, A_NoKey, A_NoFrame, A_NoPost, A_NoThing, A_NoStrip, A_NoRail, A_NoWire, A_NoRow, A_RailError⟩ : Eds).at .NoThing)) (.ref ((⟨A_NoBits, A_NoName, A_NoKey, A_NoFrame, A_NoPost, A_NoThing, A_NoStrip, A_NoRail, A_NoWire, A_NoRow, A_RailError⟩ : Eds).at c)) = some (decide (.NoThing = c))) p_NoThing_NoName (all_cons (P := fun c => PySem.W.subIn K (.ref ((⟨A_NoBits, A_NoName, A_NoKey, A_NoFrame, A_NoPost, A_NoThing, A_NoStrip, A_NoRail, A_NoWire, A_NoRow, A_RailError⟩ : Eds).at .NoThing)) (.ref ((⟨A_NoBits, A_NoName, A_NoKey, A_NoFrame, A_NoPost, A_NoThing, A_NoStrip, A_NoRail, A_NoWire, A_NoRow, A_RailError⟩ : Eds).at c)) = some (decide (.NoThing = c))) p_NoThing_NoKey (all_cons (P := fun c => PySem.W.subIn K (.ref ((⟨A_NoBits, A_NoName, A_NoKey, A_NoFrame, A_NoPost, A_NoThing, A_NoStrip, A_NoRail, A_NoWire, A_NoRow, A_RailError⟩ : Eds).at .NoThing)) (.ref ((⟨A_NoBits, A_NoName, A_NoKey, A_NoFrame, A_NoPost, A_NoThing, A_NoStrip, A_NoRail, A_NoWire, A_NoRow, A_RailError⟩ : Eds).at c)) = some (decide (.NoThing = c))) p_NoThing_NoFrame (all_cons (P := fun c => PySem.W.subIn K (.ref ((⟨A_NoBits, A_NoName, A_NoKey, A_NoFrame, A_NoPost, A_NoThing, A_NoStrip, A_NoRail, A_NoWire, A_NoRow, A_RailError⟩ : Eds).at .NoThing)) (.ref ((⟨A_NoBits, A_NoName, A_NoKey, A_NoFrame, A_NoPost, A_NoThing, A_NoStrip, A_NoRail, A_NoWire, A_NoRow, A_RailError⟩ : Eds).at c)) = some (decide (.NoThing = c))) p_NoThing_NoPost (all_cons (P := fun c => PySem.W.subIn K (.ref ((⟨A_NoBits, A_NoName, A_NoKey, A_NoFrame, A_NoPost, A_NoThing, A_NoStrip, A_NoRail, A_NoWire, A_NoRow, A_RailError⟩ : Eds).at .NoThing)) (.ref ((⟨A_NoBits, A_NoName, A_NoKey, A_NoFrame, A_NoPost, A_NoThing, A_NoStrip, A_NoRail, A_NoWire, A_NoRow, A_RailError⟩ : Eds).at c)) = some (decide (.NoThing = c))) p_NoThing_NoThing (all_cons (P := fun c => PySem.W.subIn K (.ref ((⟨A_NoBits, A_NoName, A_NoKey, A_NoFrame, A_NoPost, A_NoThing, A_NoStrip, A_NoRail, A_NoWire, A_NoRow, A_RailError⟩ : Eds).at .NoThing)) (.ref ((⟨A_NoBits, A_NoName, A_NoKey, A_NoFrame, A_NoPost, A_NoThing, A_NoStrip, A_NoRail, A_NoWire, A_NoRow, A_RailError⟩ : Eds).at c)) = some (decide (.NoThing = c))) p_NoThing_NoStrip (all_cons (P := fun c => PySem.W.subIn K (.ref ((⟨A_NoBits, A_NoName, A_NoKey, A_NoFrame, A_NoPost, A_NoThing, A_NoStrip, A_NoRail, A_NoWire, A_NoRow, A_RailError⟩ : Eds).at .NoThing)) (.ref ((⟨A_NoBits, A_NoName, A_NoKey, A_NoFrame, A_NoPost, A_NoThing, A_NoStrip, A_NoRail, A_NoWire, A_NoRow, A_RailError⟩ : Eds).at c)) = some (decide (.NoThing = c))) p_NoThing_NoRail (all_cons (P := fun c => PySem.W.subIn K (.ref ((⟨A_NoBits, A_NoName, A_NoKey, A_NoFrame, A_NoPost, A_NoThing, A_NoStrip, A_NoRail, A_NoWire, A_NoRow, A_RailError⟩ : Eds).at .NoThing)) (.ref ((⟨A_NoBits, A_NoName, A_NoKey, A_NoFrame, A_NoPost, A_NoThing, A_NoStrip, A_NoRail, A_NoWire, A_NoRow, A_RailError⟩ : Eds).at c)) = some (decide (.NoThing = c))) p_NoThing_NoWire (all_cons (P := fun c => PySem.W.subIn K (.ref ((⟨A_NoBits, A_NoName, A_NoKey, A_NoFrame, A_NoPost, A_NoThing, A_NoStrip, A_NoRail, A_NoWire, A_NoRow, A_RailError⟩ : Eds).at .NoThing)) (.ref ((⟨A_NoBits, A_NoName, A_NoKey, A_NoFrame, A_NoPost, A_NoThing, A_NoStrip, A_NoRail, A_NoWire, A_NoRow, A_RailError⟩ : Eds).at c)) = some (decide (.NoThing = c))) p_NoThing_NoRow all_nil)))))))))) (all_cons (P := fun k => ∀ c ∈ ks, PySem.W.subIn K (.ref ((⟨A_NoBits, A_NoName, A_NoKey, A_NoFrame, A_NoPost, A_NoThing, A_NoStrip, A_NoRail, A_NoWire, A_NoRow, A_RailError⟩ : Eds).at k)) (.ref ((⟨A_NoBits, A_NoName, A_NoKey, A_NoFrame, A_NoPost, A_NoThing, A_NoStrip, A_NoRail, A_NoWire, A_NoRow, A_RailError⟩ : Eds).at c)) = some (decide (k = c))) (all_cons (P := fun c => PySem.W.subIn K (.ref ((⟨A_NoBits, A_NoName, A_NoKey, A_NoFrame, A_NoPost, A_NoThing, A_NoStrip, A_NoRail, A_NoWire, A_NoRow, A_RailError⟩ : Eds).at .NoStrip)) (.ref ((⟨A_NoBits, A_NoName, A_NoKey, A_NoFrame, A_NoPost, A_NoThing, A_NoStrip, A_NoRail, A_NoWire, A_NoRow, A_RailError⟩ : Eds).at c)) = some (decide (.NoStrip = c))) p_NoStrip_NoBits (all_cons (P := fun c => PySem.W.subIn K (.ref ((⟨A_NoBits, A_NoName, A_NoKey, A_NoFrame, A_NoPost, A_NoThing, A_NoStrip, A_NoRail, A_NoWire, A_NoRow, A_RailError⟩ : Eds).at .NoStrip)) (.ref ((⟨A_NoBits, A_NoName, A_NoKey, A_NoFrame, A_NoPost, A_NoThing, A_NoStrip, A_NoRail, A_NoWire, A_NoRow, A_RailError⟩ : Eds).at c)) = some (decide (.NoStrip = c))) p_NoStrip_NoName (all_cons (P := fun c => PySem.W.subIn K (.ref ((⟨A_NoBits, A_NoName, A_NoKey, A_NoFrame, A_NoPost, A_NoThing, A_NoStrip, A_NoRail, A_NoWire, A_NoRow, A_RailError⟩ : Eds).at .NoStrip)) (.ref ((⟨A_NoBits, A_NoName, A_NoKey, A_NoFrame, A_NoPost, A_NoThing, A_NoStrip, A_NoRail, A_NoWire, A_NoRow, A_RailError⟩ : Eds).at c)) = some (decide (.NoStrip = c))) p_NoStrip_NoKey (all_cons (P := fun c => PySem.W.subIn K (.ref ((⟨A_NoBits, A_NoName, A_NoKey, A_NoFrame, A_NoPost, A_NoThing, A_NoStrip, A_NoRail, A_NoWire, A_NoRow, A_RailError⟩ : Eds).at .NoStrip)) (.ref ((⟨A_NoBits, A_NoName, A_NoKey, A_NoFrame, A_NoPost, A_NoThing, A_NoStrip, A_NoRail, A_NoWire, A_NoRow, A_RailError⟩ : Eds).at c)) = some (decide (.NoStrip = c))) p_NoStrip_NoFrame (all_cons (P := fun c => PySem.W.subIn K (.ref ((⟨A_NoBits, A_NoName, A_NoKey, A_NoFrame, A_NoPost, A_NoThing, A_NoStrip, A_NoRail, A_NoWire, A_NoRow, A_RailError⟩ : Eds).at .NoStrip)) (.ref ((⟨A_NoBits, A_NoName, A_NoKey, A_NoFrame, A_NoPost, A_NoThing, A_NoStrip, A_NoRail, A_NoWire, A_NoRow, A_RailError⟩ : Eds).at c)) = some (decide (.NoStrip = c))) p_NoStrip_NoPost (all_cons (P := fun c => PySem.W.subIn K (.ref ((⟨A_NoBits, A_NoName, A_NoKey, A_NoFrame, A_NoPost, A_NoThing, A_NoStrip, A_NoRail, A_NoWire, A_NoRow, A_RailError⟩ : Eds).at .NoStrip)) (.ref ((⟨A_NoBits, A_NoName, A_NoKey, A_NoFrame, A_NoPost, A_NoThing, A_NoStrip, A_NoRail, A_NoWire, A_NoRow, A_RailError⟩ : Eds).at c)) = some (decide (.NoStrip = c))) p_NoStrip_NoThing (all_cons (P := fun c => PySem.W.subIn K (.ref ((⟨A_NoBits, A_NoName, A_NoKey, A_NoFrame, A_NoPost, A_NoThing, A_NoStrip, A_NoRail, A_NoWire, A_NoRow, A_RailError⟩ : Eds).at .NoStrip)) (.ref ((⟨A_NoBits, A_NoName, A_NoKey, A_NoFrame, A_NoPost, A_NoThing, A_NoStrip, A_NoRail, A_NoWire, A_NoRow, A_RailError⟩ : Eds).at c)) = some (decide (.NoStrip = c))) p_NoStrip_NoStrip (all_cons (P := fun c => PySem.W.subIn K (.ref ((⟨A_NoBits, A_NoName, A_NoKey, A_NoFrame, A_NoPost, A_NoThing, A_NoStrip, A_NoRail, A_NoWire, A_NoRow, A_RailError⟩ : Eds).at .NoStrip)) (.ref ((⟨A_NoBits, A_NoName, A_NoKey, A_NoFrame, A_NoPost, A_NoThing, A_NoStrip, A_NoRail, A_NoWire, A_NoRow, A_RailError⟩ : Eds).at c)) = some (decide (.NoStrip = c))) p_NoStrip_NoRail (all_cons (P := fun c => PySem.W.subIn K (.ref ((⟨A_NoBits, A_NoName, A_NoKey, A_NoFrame, A_NoPost, A_NoThing, A_NoStrip, A_NoRail, A_NoWire, A_NoRow, A_RailError⟩ : Eds).at .NoStrip)) (.ref ((⟨A_NoBits, A_NoName, A_NoKey, A_NoFrame, A_NoPost, A_NoThing, A_NoStrip, A_NoRail, A_NoWire, A_NoRow, A_RailError⟩ : Eds).at c)) = some (decide (.NoStrip = c))) p_NoStrip_NoWire (all_cons (P := fun c => PySem.W.subIn K (.ref ((⟨A_NoBits, A_NoName, A_NoKey, A_NoFrame, A_NoPost, A_NoThing, A_NoStrip, A_NoRail, A_NoWire, A_NoRow, A_RailError⟩ : Eds).at .NoStrip)) (.ref ((⟨A_NoBits, A_NoName, A_NoKey, A_NoFrame, A_NoPost, A_NoThing, A_NoStrip, A_NoRail, A_NoWire, A_NoRow, A_RailError⟩ : Eds).at c)) = some (decide (.NoStrip = c))) p_NoStrip_NoRow all_nil)))))))))) (all_cons (P := fun k => ∀ c ∈ ks, PySem.W.subIn K (.ref ((⟨A_NoBits, A_NoName, A_NoKey, A_NoFrame, A_NoPost, A_NoThing, A_NoStrip, A_NoRail, A_NoWire, A_NoRow, A_RailError⟩ : Eds).at k)) (.ref ((⟨A_NoBits, A_NoName, A_NoKey, A_NoFrame, A_NoPost, A_NoThing, A_NoStrip, A_NoRail, A_NoWire, A_NoRow, A_RailError⟩ : Eds).at c)) = some (decide (k = c))) (all_cons (P := fun c => PySem.W.subIn K (.ref ((⟨A_NoBits, A_NoName, A_NoKey, A_NoFrame, A_NoPost, A_NoThing, A_NoStrip, A_NoRail, A_NoWire, A_NoRow, A_RailError⟩ : Eds).at .NoRail)) (.ref ((⟨A_NoBits, A_NoName, A_NoKey, A_NoFrame, A_NoPost, A_NoThing, A_NoStrip, A_NoRail, A_NoWire, A_NoRow, A_RailError⟩ : Eds).at c)) = some (decide (.NoRail = c))) p_NoRail_NoBits (all_cons (P := fun c => PySem.W.subIn K (.ref ((⟨A_NoBits, A_NoName, A_NoKey, A_NoFrame, A_NoPost, A_NoThing, A_NoStrip, A_NoRail, A_NoWire, A_NoRow, A_RailError⟩ : Eds).at .NoRail)) (.ref ((⟨A_NoBits, A_NoName, A_NoKey, A_NoFrame, A_NoPost, A_NoThing, A_NoStrip, A_NoRail, A_NoWire, A_NoRow, A_RailError⟩ : Eds).at c)) = some (decide (.NoRail = c))) p_NoRail_NoName (all_cons (P := fun c => PySem.W.subIn K (.ref ((⟨A_NoBits, A_NoName, A_NoKey, A_NoFrame, A_NoPost, A_NoThing, A_NoStrip, A_NoRail, A_NoWire, A_NoRow, A_RailError⟩ : Eds).at .NoRail)) (.ref ((⟨A_NoBits, A_NoName, A_NoKey, A_NoFrame, A_NoPost, A_NoThing, A_NoStrip, A_NoRail, A_NoWire, A_NoRow, A_RailError⟩ : Eds).at c)) = some (decide (.NoRail = c))) p_NoRail_NoKey (all_cons (P := fun c => PySem.W.subIn K (.ref ((⟨A_NoBits, A_NoName, A_NoKey, A_NoFrame, A_NoPost, A_NoThing, A_NoStrip, A_NoRail, A_NoWire, A_NoRow, A_RailError⟩ : Eds).at .NoRail)) (.ref ((⟨A_NoBits, A_NoName, A_NoKey, A_NoFrame, A_NoPost, A_NoThing, A_NoStrip, A_NoRail, A_NoWire, A_NoRow, A_RailError⟩ : Eds).at c)) = some (decide (.NoRail = c))) p_NoRail_NoFrame (all_cons (P := fun c => PySem.W.subIn K (.ref ((⟨A_NoBits, A_NoName, A_NoKey, A_NoFrame, A_NoPost, A_NoThing, A_NoStrip, A_NoRail, A_NoWire, A_NoRow, A_RailError⟩ : Eds).at .NoRail)) (.ref ((⟨A_NoBits, A_NoName, A_NoKey, A_NoFrame, A_NoPost, A_NoThing, A_NoStrip, A_NoRail, A_NoWire, A_NoRow, A_RailError⟩ : Eds).at c)) = some (decide (.NoRail = c))) p_NoRail_NoPost (all_cons (P := fun c => PySem.W.subIn K (.ref ((⟨A_NoBits, A_NoName, A_NoKey, A_NoFrame, A_NoPost, A_NoThing, A_NoStrip, A_NoRail, A_NoWire, A_NoRow, A_RailError⟩ : Eds).at .NoRail)) (.ref ((⟨A_NoBits, A_NoName, A_NoKey, A_NoFrame, A_NoPost, A_NoThing, A_NoStrip, A_NoRail, A_NoWire, A_NoRow, A_RailError⟩ : Eds).at c)) = some (decide (.NoRail = c))) p_NoRail_NoThing (all_cons (P := fun c => PySem.W.subIn K (.ref ((⟨A_NoBits, A_NoName, A_NoKey, A_NoFrame, A_NoPost, A_NoThing, A_NoStrip, A_NoRail, A_NoWire, A_NoRow, A_RailError⟩ : Eds).at .NoRail)) (.ref ((⟨A_NoBits, A_NoName, A_NoKey, A_NoFrame, A_NoPost, A_NoThing, A_NoStrip, A_NoRail, A_NoWire, A_NoRow, A_RailError⟩ : Eds).at c)) = some (decide (.NoRail = c))) p_NoRail_NoStrip (all_cons (P := fun c => PySem.W.subIn K (.ref ((⟨A_NoBits, A_NoName, A_NoKey, A_NoFrame, A_NoPost, A_NoThing, A_NoStrip, A_NoRail, A_NoWire, A_NoRow, A_RailError⟩ : Eds).at .NoRail)) (.ref ((⟨A_NoBits, A_NoName, A_NoKey, A_NoFrame, A_NoPost, A_NoThing, A_NoStrip, A_NoRail, A_NoWire, A_NoRow, A_RailError⟩ : Eds).at c)) = some (decide (.NoRail = c))) p_NoRail_NoRail (all_cons (P := fun c => PySem.W.subIn K (.ref ((⟨A_NoBits, A_NoName, A_NoKey, A_NoFrame, A_NoPost, A_NoThing, A_NoStrip, A_NoRail, A_NoWire, A_NoRow, A_RailError⟩ : Eds).at .NoRail)) (.ref ((⟨A_NoBits, A_NoName, A_NoKey, A_NoFrame, A_NoPost, A_NoThing, A_NoStrip, A_NoRail, A_NoWire, A_NoRow, A_RailError⟩ : Eds).at c)) = some (decide (.NoRail = c))) p_NoRail_NoWire (all_cons (P := fun c => PySem.W.subIn K (.ref ((⟨A_NoBits, A_NoName, A_NoKey, A_NoFrame, A_NoPost, A_NoThing, A_NoStrip, A_NoRail, A_NoWire, A_NoRow, A_RailError⟩ : Eds).at .NoRail)) (.ref ((⟨A_NoBits, A_NoName, A_NoKey, A_NoFrame, A_NoPost, A_NoThing, A_NoStrip, A_NoRail, A_NoWire, A_NoRow, A_RailError⟩ : Eds).at c)) = some (decide (.NoRail = c))) p_NoRail_NoRow all_nil)))))))))) (all_cons (P := fun k => ∀ c ∈ ks, PySem.W.subIn K (.ref ((⟨A_NoBits, A_NoName, A_NoKey, A_NoFrame, A_NoPost, A_NoThing, A_NoStrip, A_NoRail, A_NoWire, A_NoRow, A_RailError⟩ : Eds).at k)) (.ref ((⟨A_NoBits, A_NoName, A_NoKey, A_NoFrame, A_NoPost, A_NoThing, A_NoStrip, A_NoRail, A_NoWire, A_NoRow, A_RailError⟩ : Eds).at c)) = some (decide (k = c))) (all_cons (P := fun c => PySem.W.subIn K (.ref ((⟨A_NoBits, A_NoName, A_NoKey, A_NoFrame, A_NoPost, A_NoThing, A_NoStrip, A_NoRail, A_NoWire, A_NoRow, A_RailError⟩ : Eds).at .NoWire)) (.ref ((⟨A_NoBits, A_NoName, A_NoKey, A_NoFrame, A_NoPost, A_NoThing, A_NoStrip, A_NoRail, A_NoWire, A_NoRow, A_RailError⟩ : Eds).at c)) = some (decide (.NoWire = c))) p_NoWire_NoBits (all_cons (P := fun c => PySem.W.subIn K (.ref ((⟨A_NoBits, A_NoName, A_NoKey, A_NoFrame, A_NoPost, A_NoThing, A_NoStrip, A_NoRail, A_NoWire, A_NoRow, A_RailError⟩ : Eds).at .NoWire)) (.ref ((⟨A_NoBits, A_NoName, A_NoKey, A_NoFrame, A_NoPost, A_NoThing, A_NoStrip, A_NoRail, A_NoWire, A_NoRow, A_RailError⟩ : Eds).at c)) = some (decide (.NoWire = c))) p_NoWire_NoName (all_cons (P := fun c => PySem.W.subIn K (.ref ((⟨A_NoBits, A_NoName, A_NoKey, A_NoFrame, A_NoPost, A_NoThing, A_NoStrip, A_NoRail, A_NoWire, A_NoRow, A_RailError⟩ : Eds).at .NoWire)) (.ref ((⟨A_NoBits, A_NoName, A_NoKey, A_NoFrame, A_NoPost, A_NoThing, A_NoStrip, A_NoRail, A_NoWire, A_NoRow, A_RailError⟩ : Eds).at c)) = some (decide (.NoWire = c))) p_NoWire_NoKey (all_cons (P := fun c => PySem.W.subIn K (.ref ((⟨A_NoBits, A_NoName, A_NoKey, A_NoFrame, A_NoPost, A_NoThing, A_NoStrip, A_NoRail, A_NoWire, A_NoRow, A_RailError⟩ : Eds).at .NoWire)) (.ref ((⟨A_NoBits, A_NoName, A_NoKey, A_NoFrame, A_NoPost, A_NoThing, A_NoStrip, A_NoRail, A_NoWire, A_NoRow, A_RailError⟩ : Eds).at c)) = some (decide (.NoWire = c))) p_NoWire_NoFrame (all_cons (P := fun c => PySem.W.subIn K (.ref ((⟨A_NoBits, A_NoName, A_NoKey, A_NoFrame, A_NoPost, A_NoThing, A_NoStrip, A_NoRail, A_NoWire, A_NoRow, A_RailError⟩ : Eds).at .NoWire)) (.ref ((⟨A_NoBits, A_NoName, A_NoKey, A_NoFrame, A_NoPost, A_NoThing, A_NoStrip, A_NoRail, A_NoWire, A_NoRow, A_RailError⟩ : Eds).at c)) = some (decide (.NoWire = c))) p_NoWire_NoPost (all_cons (P := fun c => PySem.W.subIn K (.ref ((⟨A_NoBits, A_NoName, A_NoKey, A_NoFrame, A_NoPost, A_NoThing, A_NoStrip, A_NoRail, A_NoWire, A_NoRow, A_RailError⟩ : Eds).at .NoWire)) (.ref ((⟨A_NoBits, A_NoName, A_NoKey, A_NoFrame, A_NoPost, A_NoThing, A_NoStrip, A_NoRail, A_NoWire, A_NoRow, A_RailError⟩ : Eds).at c)) = some (decide (.NoWire = c))) p_NoWire_NoThing (all_cons (P := fun c => PySem.W.subIn K (.ref ((⟨A_NoBits, A_NoName, A_NoKey, A_NoFrame, A_NoPost, A_NoThing, A_NoStrip, A_NoRail, A_NoWire, A_NoRow, A_RailError⟩ : Eds).at .NoWire)) (.ref ((⟨A_NoBits, A_NoName, A_NoKey, A_NoFrame, A_NoPost, A_NoThing, A_NoStrip, A_NoRail, A_NoWire, A_NoRow, A_RailError⟩ : Eds).at c)) = some (decide (.NoWire = c))) p_NoWire_NoStrip (all_cons (P := fun c => PySem.W.subIn K (.ref ((⟨A_NoBits, A_NoName, A_NoKey, A_NoFrame, A_NoPost, A_NoThing, A_NoStrip, A_NoRail, A_NoWire, A_NoRow, A_RailError⟩ : Eds).at .NoWire)) (.ref ((⟨A_NoBits, A_NoName, A_NoKey, A_NoFrame, A_NoPost, A_NoThing, A_NoStrip, A_NoRail, A_NoWire, A_NoRow, A_RailError⟩ : Eds).at c)) = some (decide (.NoWire = c))) p_NoWire_NoRail (all_cons (P := fun c => PySem.W.subIn K (.ref ((⟨A_NoBits, A_NoName, A_NoKey, A_NoFrame, A_NoPost, A_NoThing, A_NoStrip, A_NoRail, A_NoWire, A_NoRow, A_RailError⟩ : Eds).at .NoWire)) (.ref ((⟨A_NoBits, A_NoName, A_NoKey, A_NoFrame, A_NoPost, A_NoThing, A_NoStrip, A_NoRail, A_NoWire, A_NoRow, A_RailError⟩ : Eds).at c)) = some (decide (.NoWire = c))) p_NoWire_NoWire (all_cons (P := fun c => PySem.W.subIn K (.ref ((⟨A_NoBits, A_NoName, A_NoKey, A_NoFrame, A_NoPost, A_NoThing, A_NoStrip, A_NoRail, A_NoWire, A_NoRow, A_RailError⟩ : Eds).at .NoWire)) (.ref ((⟨A_NoBits, A_NoName, A_NoKey, A_NoFrame, A_NoPost, A_NoThing, A_NoStrip, A_NoRail, A_NoWire, A_NoRow, A_RailError⟩ : Eds).at c)) = some (decide (.NoWire = c))) p_NoWire_NoRow all_nil)))))))))) (all_cons (P := fun k => ∀ c ∈ ks, PySem.W.subIn K (.ref ((⟨A_NoBits, A_NoName, A_NoKey, A_NoFrame, A_NoPost, A_NoThing, A_NoStrip, A_NoRail, A_NoWire, A_NoRow, A_RailError⟩ : Eds).at k)) (.ref ((⟨A_NoBits, A_NoName, A_NoKey, A_NoFrame, A_NoPost, A_NoThing, A_NoStrip, A_NoRail, A_NoWire, A_NoRow, A_RailError⟩ : Eds).at c)) = some (decide (k = c))) (all_cons (P := fun c => PySem.W.subIn K (.ref ((⟨A_NoBits, A_NoName, A_NoKey, A_NoFrame, A_NoPost, A_NoThing, A_NoStrip, A_NoRail, A_NoWire, A_NoRow, A_RailError⟩ : Eds).at .NoRow)) (.ref ((⟨A_NoBits, A_NoName, A_NoKey, A_NoFrame, A_NoPost, A_NoThing, A_NoStrip, A_NoRail, A_NoWire, A_NoRow, A_RailError⟩ : Eds).at c)) = some (decide (.NoRow = c))) p_NoRow_NoBits (all_cons (P := fun c => PySem.W.subIn K (.ref ((⟨A_NoBits, A_NoName, A_NoKey, A_NoFrame, A_NoPost, A_NoThing, A_NoStrip, A_NoRail, A_NoWire, A_NoRow, A_RailError⟩ : Eds).at .NoRow)) (.ref ((⟨A_NoBits, A_NoName, A_NoKey, A_NoFrame, A_NoPost, A_NoThing, A_NoStrip, A_NoRail, A_NoWire, A_NoRow, A_RailError⟩ : Eds).at c)) = some (decide (.NoRow = c))) p_NoRow_NoName (all_cons (P := fun c => PySem.W.subIn K (.ref ((⟨A_NoBits, A_NoName, A_NoKey, A_NoFrame, A_NoPost, A_NoThing, A_NoStrip, A_NoRail, A_NoWire, A_NoRow, A_RailError⟩ : Eds).at .NoRow)) (.ref ((⟨A_NoBits, A_NoName, A_NoKey, A_NoFrame, A_NoPost, A_NoThing, A_NoStrip, A_NoRail, A_NoWire, A_NoRow, A_RailError⟩ : Eds).at c)) = some (decide (.NoRow = c))) p_NoRow_NoKey (all_cons (P := fun c => PySem.W.subIn K (.ref ((⟨A_NoBits, A_NoName, A_NoKey, A_NoFrame, A_NoPost, A_NoThing, A_NoStrip, A_NoRail, A_NoWire, A_NoRow, A_RailError⟩ : Eds).at .NoRow)) (.ref ((⟨A_NoBits, A_NoName, A_NoKey, A_NoFrame, A_NoPost, A_NoThing, A_NoStrip, A_NoRail, A_NoWire, A_NoRow, A_RailError⟩ : Eds).at c)) = some (decide (.NoRow = c))) p_NoRow_NoFrame (all_cons (P := fun c => PySem.W.subIn K (.ref ((⟨A_NoBits, A_NoName, A_NoKey, A_NoFrame, A_NoPost, A_NoThing, A_NoStrip, A_NoRail, A_NoWire, A_NoRow, A_RailError⟩ : Eds).at .NoRow)) (.ref ((⟨A_NoBits, A_NoName, A_NoKey, A_NoFrame, A_NoPost, A_NoThing, A_NoStrip, A_NoRail, A_NoWire, A_NoRow, A_RailError⟩ : Eds).at c)) = some (decide (.NoRow = c))) p_NoRow_NoPost (all_cons (P := fun c => PySem.W.subIn K (.ref ((⟨A_NoBits, A_NoName, A_NoKey, A_NoFrame, A_NoPost, A_NoThing, A_NoStrip, A_NoRail, A_NoWire, A_NoRow, A_RailError⟩ : Eds).at .NoRow)) (.ref ((⟨A_NoBits, A_NoName, A_NoKey, A_NoFrame, A_NoPost, A_NoThing, A_NoStrip, A_NoRail, A_NoWire, A_NoRow, A_RailError⟩ : Eds).at c)) = some (decide (.NoRow = c))) p_NoRow_NoThing (all_cons (P := fun c => PySem.W.subIn K (.ref ((⟨A_NoBits, A_NoName, A_NoKey, A_NoFrame, A_NoPost, A_NoThing, A_NoStrip, A_NoRail, A_NoWire, A_NoRow, A_RailError⟩ : Eds).at .NoRow)) (.ref ((⟨A_NoBits, A_NoName, A_NoKey, A_NoFrame, A_NoPost, A_NoThing, A_NoStrip, A_NoRail, A_NoWire, A_NoRow, A_RailError⟩ : Eds).at c)) = some (decide (.NoRow = c))) p_NoRow_NoStrip (all_cons (P := fun c => PySem.W.subIn K (.ref ((⟨A_NoBits, A_NoName, A_NoKey, A_NoFrame, A_NoPost, A_NoThing, A_NoStrip, A_NoRail, A_NoWire, A_NoRow, A_RailError⟩ : Eds).at .NoRow)) (.ref ((⟨A_NoBits, A_NoName, A_NoKey, A_NoFrame, A_NoPost, A_NoThing, A_NoStrip, A_NoRail, A_NoWire, A_NoRow, A_RailError⟩ : Eds).at c)) = some (decide (.NoRow = c))) p_NoRow_NoRail (all_cons (P := fun c => PySem.W.subIn K (.ref ((⟨A_NoBits, A_NoName, A_NoKey, A_NoFrame, A_NoPost, A_NoThing, A_NoStrip, A_NoRail, A_NoWire, A_NoRow, A_RailError⟩ : Eds).at .NoRow)) (.ref ((⟨A_NoBits, A_NoName, A_NoKey, A_NoFrame, A_NoPost, A_NoThing, A_NoStrip, A_NoRail, A_NoWire, A_NoRow, A_RailError⟩ : Eds).at c)) = some (decide (.NoRow = c))) p_NoRow_NoWire (all_cons (P := fun c => PySem.W.subIn K (.ref ((⟨A_NoBits, A_NoName, A_NoKey, A_NoFrame, A_NoPost, A_NoThing, A_NoStrip, A_NoRail, A_NoWire, A_NoRow, A_RailError⟩ : Eds).at .NoRow)) (.ref ((⟨A_NoBits, A_NoName, A_NoKey, A_NoFrame, A_NoPost, A_NoThing, A_NoStrip, A_NoRail, A_NoWire, A_NoRow, A_RailError⟩ : Eds).at c)) = some (decide (.NoRow = c))) p_NoRow_NoRow all_nil)))))))))) all_nil)))))))))) (all_cons (P := fun k => PySem.W.subIn K (.ref ((⟨A_NoBits, A_NoName, A_NoKey, A_NoFrame, A_NoPost, A_NoThing, A_NoStrip, A_NoRail, A_NoWire, A_NoRow, A_RailError⟩ : Eds).at k)) (.ref (⟨A_NoBits, A_NoName, A_NoKey, A_NoFrame, A_NoPost, A_NoThing, A_NoStrip, A_NoRail, A_NoWire, A_NoRow, A_RailError⟩ : Eds).RailError) = some true) r_NoBits (all_cons (P := fun k => PySem.W.subIn K (.ref ((⟨A_NoBits, A_NoName, A_NoKey, A_NoFrame, A_NoPost, A_NoThing, A_NoStrip, A_NoRail, A_NoWire, A_NoRow, A_RailError⟩ : Eds).at k)) (.ref (⟨A_NoBits, A_NoName, A_NoKey, A_NoFrame, A_NoPost, A_NoThing, A_NoStrip, A_NoRail, A_NoWire, A_NoRow, A_RailError⟩ : Eds).RailError) = some true) r_NoName (all_cons (P := fun k => PySem.W.subIn K (.ref ((⟨A_NoBits, A_NoName, A_NoKey, A_NoFrame, A_NoPost, A_NoThing, A_NoStrip, A_NoRail, A_NoWire, A_NoRow, A_RailError⟩ : Eds).at k)) (.ref (⟨A_NoBits, A_NoName, A_NoKey, A_NoFrame, A_NoPost, A_NoThing, A_NoStrip, A_NoRail, A_NoWire, A_NoRow, A_RailError⟩ : Eds).RailError) = some true) r_NoKey (all_cons (P := fun k => PySem.W.subIn K (.ref ((⟨A_NoBits, A_NoName, A_NoKey, A_NoFrame, A_NoPost, A_NoThing, A_NoStrip, A_NoRail, A_NoWire, A_NoRow, A_RailError⟩ : Eds).at k)) (.ref (⟨A_NoBits, A_NoName, A_NoKey, A_NoFrame, A_NoPost, A_NoThing, A_NoStrip, A_NoRail, A_NoWire, A_NoRow, A_RailError⟩ : Eds).RailError) = some true) r_NoFrame (all_cons (P := fun k => PySem.W.subIn K (.ref ((⟨A_NoBits, A_NoName, A_NoKey, A_NoFrame, A_NoPost, A_NoThing, A_NoStrip, A_NoRail, A_NoWire, A_NoRow, A_RailError⟩ : Eds).at k)) (.ref (⟨A_NoBits, A_NoName, A_NoKey, A_NoFrame, A_NoPost, A_NoThing, A_NoStrip, A_NoRail, A_NoWire, A_NoRow, A_RailError⟩ : Eds).RailError) = some true) r_NoPost (all_cons (P := fun k => PySem.W.subIn K (.ref ((⟨A_NoBits, A_NoName, A_NoKey, A_NoFrame, A_NoPost, A_NoThing, A_NoStrip, A_NoRail, A_NoWire, A_NoRow, A_RailError⟩ : Eds).at k)) (.ref (⟨A_NoBits, A_NoName, A_NoKey, A_NoFrame, A_NoPost, A_NoThing, A_NoStrip, A_NoRail, A_NoWire, A_NoRow, A_RailError⟩ : Eds).RailError) = some true) r_NoThing (all_cons (P := fun k => PySem.W.subIn K (.ref ((⟨A_NoBits, A_NoName, A_NoKey, A_NoFrame, A_NoPost, A_NoThing, A_NoStrip, A_NoRail, A_NoWire, A_NoRow, A_RailError⟩ : Eds).at k)) (.ref (⟨A_NoBits, A_NoName, A_NoKey, A_NoFrame, A_NoPost, A_NoThing, A_NoStrip, A_NoRail, A_NoWire, A_NoRow, A_RailError⟩ : Eds).RailError) = some true) r_NoStrip (all_cons (P := fun k => PySem.W.subIn K (.ref ((⟨A_NoBits, A_NoName, A_NoKey, A_NoFrame, A_NoPost, A_NoThing, A_NoStrip, A_NoRail, A_NoWire, A_NoRow, A_RailError⟩ : Eds).at k)) (.ref (⟨A_NoBits, A_NoName, A_NoKey, A_NoFrame, A_NoPost, A_NoThing, A_NoStrip, A_NoRail, A_NoWire, A_NoRow, A_RailError⟩ : Eds).RailError) = some true) r_NoRail (all_cons (P := fun k => PySem.W.subIn K (.ref ((⟨A_NoBits, A_NoName, A_NoKey, A_NoFrame, A_NoPost, A_NoThing, A_NoStrip, A_NoRail, A_NoWire, A_NoRow, A_RailError⟩ : Eds).at k)) (.ref (⟨A_NoBits, A_NoName, A_NoKey, A_NoFrame, A_NoPost, A_NoThing, A_NoStrip, A_NoRail, A_NoWire, A_NoRow, A_RailError⟩ : Eds).RailError) = some true) r_NoWire (all_cons (P := fun k => PySem.W.subIn K (.ref ((⟨A_NoBits, A_NoName, A_NoKey, A_NoFrame, A_NoPost, A_NoThing, A_NoStrip, A_NoRail, A_NoWire, A_NoRow, A_RailError⟩ : Eds).at k)) (.ref (⟨A_NoBits, A_NoName, A_NoKey, A_NoFrame, A_NoPost, A_NoThing, A_NoStrip, A_NoRail, A_NoWire, A_NoRow, A_RailError⟩ : Eds).RailError) = some true) r_NoRow all_nil)))))))))) q_RailError hn ht (by decide +kernel)⟩
end Bt

/-! Sums without carries, over Nat. -/
namespace Bt
open PySem L2
theorem bx (a b : Nat) : Builtin.bitXor (a : Int) (b : Int) = ((a ^^^ b : Nat) : Int) := Bits.bitXor_pp (Int.natCast_nonneg a) (Int.natCast_nonneg b)
theorem ba (a b : Nat) : Builtin.bitAnd (a : Int) (b : Int) = ((a &&& b : Nat) : Int) := PyProof.Rows.bitAnd_pp (Int.natCast_nonneg a) (Int.natCast_nonneg b)
theorem ba1 (a : Nat) : Builtin.bitAnd (a : Int) 1 = ((a % 2 : Nat) : Int) := by
  have h := ba a 1
  rw [Nat.and_one_is_mod] at h
  exact h
/-- the product without carries -/
def clm (a b : Nat) : Nat := if h : b = 0 then 0 else (if b % 2 = 1 then a else 0) ^^^ clm (2 * a) (b / 2)
termination_by b
decreasing_by omega
theorem clm_zero (a : Nat) : clm a 0 = 0 := by unfold clm; rfl
theorem clm_step (a b : Nat) : clm a b = (if b % 2 = 1 then a else 0) ^^^ clm (2 * a) (b / 2) := by
  by_cases h : b = 0
  · subst h
    rw [clm_zero]
    simp [clm_zero]
  · rw [clm]
    simp [h]
theorem xor4 (a b c d : Nat) : (a ^^^ b) ^^^ (c ^^^ d) = (a ^^^ c) ^^^ (b ^^^ d) := by
  rw [Nat.xor_assoc, Nat.xor_assoc, ← Nat.xor_assoc b c d, Nat.xor_comm b c, Nat.xor_assoc c b d]
theorem two_xor (a b : Nat) : 2 * (a ^^^ b) = (2 * a) ^^^ (2 * b) := by
  have h1 := Nat.xor_div_two (a := 2 * a) (b := 2 * b)
  have h2 := Nat.xor_mod_two_eq_one (a := 2 * a) (b := 2 * b)
  rw [show 2 * a / 2 = a from by omega, show 2 * b / 2 = b from by omega] at h1
  have h3 : ¬ (2 * a ^^^ 2 * b) % 2 = 1 := by rw [h2]; omega
  omega
theorem two_xor1 (k : Nat) : (2 * k) ^^^ 1 = 2 * k + 1 := by
  have h1 := Nat.xor_div_two (a := 2 * k) (b := 1)
  have h2 := Nat.xor_mod_two_eq_one (a := 2 * k) (b := 1)
  rw [show 2 * k / 2 = k from by omega, show 1 / 2 = 0 from rfl, Nat.xor_zero] at h1
  have h3 : (2 * k ^^^ 1) % 2 = 1 := by rw [h2]; omega
  omega
theorem clm_xor_right : ∀ (n : Nat) (a b c : Nat), b + c ≤ n → clm a (b ^^^ c) = clm a b ^^^ clm a c
  | 0, a, b, c, h => by
    obtain ⟨rfl, rfl⟩ : b = 0 ∧ c = 0 := by omega
    simp [clm_zero]
  | n + 1, a, b, c, h => by
    by_cases h0 : b = 0 ∧ c = 0
    · obtain ⟨rfl, rfl⟩ := h0
      simp [clm_zero]
    rw [clm_step a (b ^^^ c), clm_step a b, clm_step a c, Nat.xor_div_two, clm_xor_right n (2 * a) (b / 2) (c / 2) (by omega), xor4]
    congr 1
    have hm := Nat.xor_mod_two_eq_one (a := b) (b := c)
    by_cases h1 : b % 2 = 1 <;> by_cases h2 : c % 2 = 1
    · rw [if_neg (by rw [hm]; simp [h1, h2]), if_pos h1, if_pos h2, Nat.xor_self]
    · rw [if_pos (by rw [hm]; simp [h1, h2]), if_pos h1, if_neg h2, Nat.xor_zero]
    · rw [if_pos (by rw [hm]; simp [h1, h2]), if_neg h1, if_pos h2, Nat.zero_xor]
    · rw [if_neg (by rw [hm]; simp [h1, h2]), if_neg h1, if_neg h2, Nat.xor_zero]
theorem clm_xr (a b c : Nat) : clm a (b ^^^ c) = clm a b ^^^ clm a c := clm_xor_right _ a b c (Nat.le_refl _)
theorem clm_two : ∀ (n a b : Nat), b ≤ n → clm (2 * a) b = 2 * clm a b
  | 0, a, b, h => by
    obtain rfl : b = 0 := by omega
    rw [clm_zero, clm_zero]
  | n + 1, a, b, h => by
    by_cases h0 : b = 0
    · subst h0; rw [clm_zero, clm_zero]
    rw [clm_step (2 * a) b, clm_step a b, clm_two n (2 * a) (b / 2) (by omega), two_xor]
    congr 1
    by_cases h1 : b % 2 = 1
    · rw [if_pos h1, if_pos h1]
    · rw [if_neg h1, if_neg h1]
theorem clm_tl (a b : Nat) : clm (2 * a) b = 2 * clm a b := clm_two b a b (Nat.le_refl _)
theorem clm_xl : ∀ (n a b c : Nat), c ≤ n → clm (a ^^^ b) c = clm a c ^^^ clm b c
  | 0, a, b, c, h => by
    obtain rfl : c = 0 := by omega
    simp [clm_zero]
  | n + 1, a, b, c, h => by
    by_cases h0 : c = 0
    · subst h0; simp [clm_zero]
    rw [clm_step (a ^^^ b) c, clm_step a c, clm_step b c, two_xor, clm_xl n (2 * a) (2 * b) (c / 2) (by omega), xor4]
    congr 1
    by_cases h1 : c % 2 = 1
    · rw [if_pos h1, if_pos h1, if_pos h1]
    · rw [if_neg h1, if_neg h1, if_neg h1, Nat.xor_zero]
theorem clm_xl' (a b c : Nat) : clm (a ^^^ b) c = clm a c ^^^ clm b c := clm_xl c a b c (Nat.le_refl _)
theorem clm_tr (a b : Nat) : clm a (2 * b) = 2 * clm a b := by
  rw [clm_step a (2 * b), if_neg (by omega), Nat.zero_xor, show 2 * b / 2 = b from by omega, clm_tl]
theorem zero_clm : ∀ (n b : Nat), b ≤ n → clm 0 b = 0
  | 0, b, h => by
    obtain rfl : b = 0 := by omega
    exact clm_zero 0
  | n + 1, b, h => by
    by_cases h0 : b = 0
    · subst h0; exact clm_zero 0
    rw [clm_step, zero_clm n (b / 2) (by omega)]
    split <;> rfl
theorem clm_zl (b : Nat) : clm 0 b = 0 := zero_clm b b (Nat.le_refl _)
theorem one_clm : ∀ (n b : Nat), b ≤ n → clm 1 b = b
  | 0, b, h => by
    obtain rfl : b = 0 := by omega
    exact clm_zero 1
  | n + 1, b, h => by
    by_cases h0 : b = 0
    · subst h0; exact clm_zero 1
    rw [clm_step, clm_tl 1, one_clm n (b / 2) (by omega)]
    by_cases h1 : b % 2 = 1
    · rw [if_pos h1]
      rw [Nat.xor_comm, two_xor1]
      omega
    · rw [if_neg h1, Nat.zero_xor]
      omega
theorem clm_ol (b : Nat) : clm 1 b = b := one_clm b b (Nat.le_refl _)
theorem clm_or (a : Nat) : clm a 1 = a := by
  rw [clm_step, if_pos rfl, show 1 / 2 = 0 from rfl, clm_zero, Nat.xor_zero]
theorem split_bit (b : Nat) : b = (2 * (b / 2)) ^^^ (b % 2) := by
  rcases Nat.mod_two_eq_zero_or_one b with h | h
  · rw [h, Nat.xor_zero]; omega
  · rw [h, two_xor1]
    omega
theorem clm_cm : ∀ (n a b : Nat), b ≤ n → clm a b = clm b a
  | 0, a, b, h => by
    obtain rfl : b = 0 := by omega
    rw [clm_zero, clm_zl]
  | n + 1, a, b, h => by
    by_cases h0 : b = 0
    · subst h0; rw [clm_zero, clm_zl]
    have e := split_bit b
    have ih := clm_cm n a (b / 2) (by omega)
    have h1 : clm a b = 2 * clm a (b / 2) ^^^ clm a (b % 2) := by
      conv => lhs; rw [e]
      rw [clm_xr, clm_tr]
    have h2 : clm b a = 2 * clm (b / 2) a ^^^ clm (b % 2) a := by
      conv => lhs; rw [e]
      rw [clm_xl', clm_tl]
    rw [h1, h2, ih]
    congr 1
    rcases Nat.mod_two_eq_zero_or_one b with q | q
    · rw [q, clm_zero, clm_zl]
    · rw [q, clm_or, clm_ol]
theorem clm_comm (a b : Nat) : clm a b = clm b a := clm_cm b a b (Nat.le_refl _)
/-- the same, power by power -/
def pws (a b : Nat) : Nat → Nat
  | 0 => 0
  | n + 1 => pws a b n ^^^ (if b / 2 ^ n % 2 = 1 then a * 2 ^ n else 0)
theorem pws_shift (a b : Nat) : ∀ n : Nat, pws a b (n + 1) = (if b % 2 = 1 then a else 0) ^^^ pws (2 * a) (b / 2) n
  | 0 => by simp [pws]
  | n + 1 => by
    have ih := pws_shift a b n
    show pws a b (n + 1) ^^^ _ = _ ^^^ (pws (2 * a) (b / 2) n ^^^ _)
    rw [ih, Nat.xor_assoc]
    have e1 : b / 2 ^ (n + 1) = b / 2 / 2 ^ n := by rw [Nat.div_div_eq_div_mul, Nat.pow_succ, Nat.mul_comm]
    have e2 : a * 2 ^ (n + 1) = 2 * a * 2 ^ n := by rw [Nat.pow_succ]; ac_rfl
    rw [e1, e2]
theorem pws_clm : ∀ (n a b : Nat), b < 2 ^ n → pws a b n = clm a b
  | 0, a, b, h => by
    obtain rfl : b = 0 := by simp at h; omega
    rw [clm_zero]; rfl
  | n + 1, a, b, h => by
    rw [pws_shift, clm_step, pws_clm n (2 * a) (b / 2) (by rw [Nat.pow_succ] at h; omega)]
end Bt
namespace Bt
open PySem L2
theorem shrN (a k : Nat) : shrG (a : Int) (k : Int) = some ((a / 2 ^ k : Nat) : Int) := by
  rw [shrG_ok (by omega), Int.toNat_natCast, Int.natCast_ediv, Int.natCast_pow]; rfl
theorem shlN {a n : Nat} (k : Nat) (h : a < 2 ^ n) (hn : n + k ≤ 90000000) : shlG (a : Int) (k : Int) = some ((a * 2 ^ k : Nat) : Int) := by
  rw [shlG_ok (n := n) (by omega) (by omega) (by omega), Int.toNat_natCast, Int.natCast_mul, Int.natCast_pow]; rfl
theorem emod_nat {z m : Int} (hm : 0 < m) : ∃ n : Nat, z % m = (n : Int) ∧ (n : Int) < m := by
  obtain ⟨n, hn⟩ := Int.eq_ofNat_of_zero_le (Int.emod_nonneg z (by omega : m ≠ 0))
  exact ⟨n, hn, by rw [← hn]; exact Int.emod_lt_of_pos z hm⟩
theorem testBit_div (x k : Nat) : x.testBit k = decide (x / 2 ^ k % 2 = 1) := by
  rw [Nat.testBit_eq_decide_div_mod_eq]
end Bt

/-! The laws' own draw: the same text in all of them. -/
namespace Bt
open PySem L2
theorem draw_ok (ns : List Int) (k many : Int) (hk : 0 ≤ k) (hk2 : k ≤ 1000000000) (hm : 0 < many) : ∃ v, m__law_draw ns k many = some v ∧ 0 ≤ v ∧ v < many := by
  have hc : ∃ c, (ifB (decide ((0 : Int) < (List.length ns : Int))) (bnd (modG k (List.length ns : Int)) fun t => bnd (atI ns t) fun e => some e) (some (0 : Int))) = some c := by
    by_cases h : (0 : Int) < (List.length ns : Int)
    · rw [decide_eq_true h, ifB_t, modG_ok h, bnd_some]
      obtain ⟨x, hx, _⟩ := atI_mem (xs := ns) (i := k % (ns.length : Int)) (Int.emod_nonneg _ (by omega)) (Int.emod_lt_of_pos _ h)
      exact ⟨x, by rw [hx]; rfl⟩
    · rw [decide_eq_false h]
      exact ⟨0, rfl⟩
  obtain ⟨c, hc⟩ := hc
  refine ⟨(((c % 1000003 + 31 * k * k + 1) * 48271 % 999983) * 7919 % 524287) % many, ?_, Int.emod_nonneg _ (by omega), Int.emod_lt_of_pos _ hm⟩
  unfold m__law_draw
  rw [bnd_of hc, mulG_ok (a := 40) (b := 40) (by omega) (by omega) (by omega), bnd_some, ltv_eq, modG_ok hm, bnd_some]
end Bt

namespace Bt
open PySem L2
def Bits (xs : List Int) : Prop := ∀ b ∈ xs, b = 0 ∨ b = 1
theorem Bits.app {xs ys : List Int} (h : Bits xs) (k : Bits ys) : Bits (xs ++ ys) := fun b hb => by
  rcases List.mem_append.mp hb with q | q
  · exact h b q
  · exact k b q
theorem Bits.one {b : Int} (h : b = 0 ∨ b = 1) : Bits [b] := fun c hc => by rw [List.mem_singleton.mp hc]; exact h
theorem Bits.drop {xs : List Int} (h : Bits xs) (n : Nat) : Bits (xs.drop n) := fun b hb => h b (List.mem_of_mem_drop hb)
theorem Bits.rep {b : Int} (h : b = 0 ∨ b = 1) (n : Nat) : Bits (List.replicate n b) := fun c hc => by rw [List.eq_of_mem_replicate hc]; exact h
def ci (qs : List Nat) : List Int := qs.map fun (q : Nat) => (q : Int)
theorem ci_of : ∀ (l : List Int) (m : Nat), (∀ y ∈ l, ∃ n : Nat, y = (n : Int) ∧ n < m) → ∃ D, l = ci D ∧ ∀ d ∈ D, d < m
  | [], _, _ => ⟨[], rfl, fun _ h => (nomatch h)⟩
  | y :: r, m, h => by
    obtain ⟨n, rfl, hn⟩ := h y (List.Mem.head _)
    obtain ⟨D, rfl, hD⟩ := ci_of r m fun z hz => h z (List.Mem.tail _ hz)
    refine ⟨n :: D, rfl, fun d hd => ?_⟩
    rcases List.mem_cons.mp hd with rfl | hd
    · exact hn
    · exact hD d hd
theorem ci_len (D : List Nat) : (ci D).length = D.length := by simp [ci]
theorem ci_mem {D : List Nat} {x : Int} (h : x ∈ ci D) : ∃ d ∈ D, x = (d : Int) := by
  obtain ⟨d, hd, rfl⟩ := List.mem_map.mp h
  exact ⟨d, hd, rfl⟩
theorem cut_mem {α : Type} {xs : List α} {lo hi : Option Int} {x : α} (h : x ∈ cutL xs lo hi) : x ∈ xs := by
  unfold cutL at h
  exact List.mem_of_mem_drop (List.mem_of_mem_take h)
theorem cut_len {α : Type} (xs : List α) (lo hi : Option Int) : (cutL xs lo hi).length ≤ xs.length := by
  unfold cutL
  rw [List.length_take, List.length_drop]
  omega
theorem draw2 (ns : List Int) (k : Int) (hk : 0 ≤ k) (hk2 : k ≤ 1000000000) : ∃ v, m__law_draw ns k 2 = some v ∧ (v = 0 ∨ v = 1) := by
  obtain ⟨v, h1, h2, h3⟩ := draw_ok ns k 2 hk hk2 (by decide)
  exact ⟨v, h1, by omega⟩
end Bt

/-! Slices by whole numbers. -/
namespace Bt
open PySem L2
section
variable {α : Type}
theorem cut_seg (xs : List α) (a b : Nat) (h : a ≤ b) : cutL xs (some (a : Int)) (some (b : Int)) = (xs.drop a).take (b - a) := by
  unfold cutL
  rw [HT.sIx_nat, HT.sIx_nat]
  by_cases h1 : a ≤ xs.length
  · rw [Nat.min_eq_left h1]
    by_cases h2 : b ≤ xs.length
    · rw [Nat.min_eq_left h2]
    · rw [Nat.min_eq_right (by omega), List.take_of_length_le (by simp), List.take_of_length_le (by simp; omega)]
  · rw [Nat.min_eq_right (by omega), Nat.min_eq_right (by omega), List.drop_of_length_le (Nat.le_refl _), List.drop_of_length_le (by omega)]
    simp
theorem cut_to (xs : List α) (n : Nat) : cutL xs none (some (n : Int)) = xs.take n := by
  unfold cutL
  rw [show HT.sIx xs.length 0 none = 0 from rfl, HT.sIx_nat, List.drop_zero, Nat.sub_zero]
  by_cases h : n ≤ xs.length
  · rw [Nat.min_eq_left h]
  · rw [Nat.min_eq_right (by omega), List.take_of_length_le (Nat.le_refl _), List.take_of_length_le (by omega)]
theorem cut_fr (xs : List α) (n : Nat) : cutL xs (some (n : Int)) none = xs.drop n := by
  unfold cutL
  rw [HT.sIx_nat, show HT.sIx xs.length xs.length none = xs.length from rfl]
  by_cases h : n ≤ xs.length
  · rw [Nat.min_eq_left h, List.take_of_length_le (by simp)]
  · rw [Nat.min_eq_right (by omega), List.drop_of_length_le (Nat.le_refl _), List.drop_of_length_le (by omega)]
    simp
end
end Bt

/-! The program's own duel. -/
namespace Bt
open PySem L2
/-- the bit of a name that is said as the k-th -/
def nb (k n : Nat) : Nat := n / 2 ^ (7 - k) % 2
/-- who is still in ahead of the k-th bit, where M is the least -/
def sk (D : List Nat) (M k : Nat) : List Nat := D.filter fun n => decide (n / 2 ^ (8 - k) = M / 2 ^ (8 - k))
def dT (D : List Nat) (M : Nat) (k : Nat) : List (Int × List Int) := (List.range k).map fun k => (((nb k M : Nat) : Int), ci (sk D M (k + 1)))
structure Du (D : List Nat) (M : Nat) : Prop where
  mem : M ∈ D
  le : ∀ n ∈ D, M ≤ n
  nd : D.Nodup
  lt : ∀ n ∈ D, n < 256
  len : D.length ≤ 1000
theorem pw_half {k : Nat} (h : k < 8) : 2 ^ (8 - k) = 2 ^ (7 - k) * 2 := by rw [← Nat.pow_succ, show (7 - k).succ = 8 - k by omega]
theorem sk0 {D : List Nat} {M : Nat} (h : Du D M) : sk D M 0 = D := by
  refine List.filter_eq_self.mpr fun n hn => decide_eq_true ?_
  have h1 := h.lt n hn
  have h2 := h.lt M h.mem
  show n / 256 = M / 256
  omega
theorem sk8 {D : List Nat} {M : Nat} (h : Du D M) : sk D M 8 = [M] := by
  have e : sk D M 8 = D.filter fun n => decide (n = M) := by
    refine List.filter_congr fun n _ => ?_
    show decide (n / 1 = M / 1) = _
    rw [Nat.div_one, Nat.div_one]
  rw [e]
  have key : ∀ D : List Nat, D.Nodup → D.filter (fun n => decide (n = M)) = if M ∈ D then [M] else [] := fun D => by
    induction D with
    | nil => intro _; rfl
    | cons x r ih =>
      intro hn
      obtain ⟨n1, n2⟩ := List.nodup_cons.mp hn
      rw [List.filter_cons, ih n2]
      by_cases c : x = M
      · subst c
        rw [decide_eq_true rfl, if_pos rfl, if_neg n1, if_pos (show x ∈ x :: r from List.Mem.head _)]
      · rw [decide_eq_false c, if_neg (by simp)]
        by_cases m : M ∈ r
        · rw [if_pos m, if_pos (show M ∈ x :: r from List.Mem.tail _ m)]
        · rw [if_neg m, if_neg (fun z => by
            rcases List.mem_cons.mp z with z | z
            · exact c z.symm
            · exact m z)]
  rw [key D h.nd, if_pos h.mem]
theorem sk_mem {D : List Nat} {M k : Nat} (h : Du D M) : M ∈ sk D M k := List.mem_filter.mpr ⟨h.mem, decide_eq_true rfl⟩
theorem sk_le {D : List Nat} {M k : Nat} (h : Du D M) (hk : k < 8) : ∀ n ∈ sk D M k, nb k M ≤ nb k n := fun n hn => by
  obtain ⟨h1, h2⟩ := List.mem_filter.mp hn
  have h2 := of_decide_eq_true h2
  have h3 : M / 2 ^ (7 - k) ≤ n / 2 ^ (7 - k) := Nat.div_le_div_right (h.le n h1)
  rw [pw_half hk, ← Nat.div_div_eq_div_mul, ← Nat.div_div_eq_div_mul] at h2
  unfold nb
  omega
theorem sk_step {D : List Nat} {M k : Nat} (hk : k < 8) : (sk D M k).filter (fun n => decide (nb k n = nb k M)) = sk D M (k + 1) := by
  unfold sk
  rw [List.filter_filter]
  refine List.filter_congr fun n _ => ?_
  rw [pw_half hk, ← Nat.div_div_eq_div_mul, ← Nat.div_div_eq_div_mul, show 8 - (k + 1) = 7 - k by omega, ← Bool.decide_and]
  unfold nb
  refine decide_eq_decide.mpr ?_
  constructor
  · rintro ⟨a, b⟩; omega
  · intro a; rw [a]; exact ⟨rfl, rfl⟩
theorem sk_len {D : List Nat} {M k : Nat} (h : Du D M) : (sk D M k).length ≤ 1000 := Nat.le_trans (List.length_filter_le ..) h.len
theorem bit_at_ok {n k : Nat} (h : k ≤ 7) : m_bit_at (n : Int) (k : Int) = some ((nb k n : Nat) : Int) := by
  unfold m_bit_at
  rw [show (7 : Int) - (k : Int) = ((7 - k : Nat) : Int) by omega, shrN, bnd_some, ba1]
  rfl
theorem min_is {xs : List Nat} {m : Nat} (h1 : m ∈ xs) (h2 : ∀ n ∈ xs, m ≤ n) : minG (ci xs) = some (m : Int) := by
  cases h : ci xs with
  | nil =>
    have : xs = [] := by simpa [ci] using h
    rw [this] at h1
    cases h1
  | cons a r =>
    have e : minG (a :: r) = some (r.foldl min a) := rfl
    obtain ⟨_, hin, hle⟩ := minG_spec e
    rw [e]
    rw [← h] at hin hle
    have a1 := hle (m : Int) (List.mem_map.mpr ⟨m, h1, rfl⟩)
    obtain ⟨n, hn, en⟩ := ci_mem hin
    have a2 := h2 n hn
    congr 1
    omega
theorem duel_step {D : List Nat} {M k : Nat} (h : Du D M) (hk : k < 8) : m_duel_L1 (k : Int) (dT D M k) (ci (sk D M k)) = some (dT D M (k + 1), ci (sk D M (k + 1))) := by
  have hl := sk_len (k := k) h
  unfold m_duel_L1
  have e1 : compM (m_duel_C2 (k : Int)) (ci (sk D M k)) [] = some (ci ((sk D M k).map (nb k))) := by
    have := compM_ok (f := m_duel_C2 (k : Int)) (g := fun x => ((nb k x.toNat : Nat) : Int)) (ci (sk D M k)) [] (fun x hx => by
      obtain ⟨n, _, rfl⟩ := ci_mem hx
      unfold m_duel_C2
      rw [bit_at_ok (by omega), bnd_some]
      rfl) (by rw [ci_len]; simp; omega)
    rw [this]
    unfold ci
    rw [List.nil_append, List.map_map, List.map_map]
    rfl
  have e2 : compT (m_duel_C3t (k : Int) ((nb k M : Nat) : Int)) m_duel_C3 (ci (sk D M k)) [] = some (ci (sk D M (k + 1))) := by
    have := compT_ok (c := m_duel_C3t (k : Int) ((nb k M : Nat) : Int)) (f := m_duel_C3) (p := fun x => decide (nb k x.toNat = nb k M)) (g := id) (ci (sk D M k)) [] (fun x hx => by
      obtain ⟨n, _, rfl⟩ := ci_mem hx
      unfold m_duel_C3t
      rw [bit_at_ok (by omega), bnd_some]
      congr 1
      rw [Int.toNat_natCast]
      exact decide_eq_decide.mpr (by omega)) (fun x _ => rfl) (by rw [ci_len]; simp; omega)
    rw [this, List.nil_append, List.map_id, ← sk_step hk]
    unfold ci
    rw [List.filter_map]
    rfl
  rw [e1, bnd_some, min_is (m := nb k M) (List.mem_map.mpr ⟨M, sk_mem h, rfl⟩) (fun n hn => by
    obtain ⟨x, hx, rfl⟩ := List.mem_map.mp hn
    exact sk_le h hk x hx), bnd_some, e2, bnd_some, appG_ok (by simp [dT]; omega), bnd_some]
  unfold dT
  rw [List.range_succ, List.map_append]
  rfl
theorem setL_is : ∀ (xs acc : List Int), acc.Nodup → (xs.foldl PyProof.Rows.step_dedup acc).length ≤ acc.length + xs.length ∧ ((xs.foldl PyProof.Rows.step_dedup acc).length = acc.length + xs.length ↔ (acc ++ xs).Nodup)
  | [], acc, h => by simp [h]
  | x :: r, acc, h => by
    rw [List.foldl_cons]
    by_cases hx : x ∈ acc
    · have e : PyProof.Rows.step_dedup acc x = acc := by
        unfold PyProof.Rows.step_dedup
        rw [List.any_eq_true.mpr ⟨x, hx, by simp⟩]
        rfl
      obtain ⟨i1, i2⟩ := setL_is r acc h
      rw [e]
      simp only [List.length_cons]
      refine ⟨by omega, fun z => by omega, fun z => ?_⟩
      exact absurd rfl ((List.nodup_append.mp z).2.2 x hx x (List.Mem.head _))
    · have e : PyProof.Rows.step_dedup acc x = acc ++ [x] := by
        unfold PyProof.Rows.step_dedup
        have : acc.any (· == x) = false := by
          rw [List.any_eq_false]
          intro y hy
          simp only [beq_iff_eq]
          intro z
          subst z
          exact hx hy
        rw [this]
        rfl
      have hn : (acc ++ [x]).Nodup := List.nodup_append.mpr ⟨h, List.nodup_cons.mpr ⟨List.not_mem_nil, List.Pairwise.nil⟩, fun a ha b hb z => by
        rw [List.mem_singleton.mp hb] at z
        subst z
        exact hx ha⟩
      obtain ⟨i1, i2⟩ := setL_is r (acc ++ [x]) hn
      rw [e]
      simp only [List.length_append, List.length_cons, List.length_nil, List.append_assoc, List.singleton_append] at i1 i2 ⊢
      refine ⟨by omega, ?_⟩
      rw [← i2]
      omega
theorem lenSet_is {xs : List Int} (h : xs.length ≤ 1000) : ∃ n : Nat, lenSet xs = some (n : Int) ∧ n ≤ xs.length ∧ (n = xs.length ↔ xs.Nodup) := by
  obtain ⟨i1, i2⟩ := setL_is xs [] List.Pairwise.nil
  refine ⟨(setL xs).length, grd_of (by omega), ?_, ?_⟩
  · unfold setL
    simpa using i1
  · unfold setL
    simpa using i2
theorem ci_nodup {D : List Nat} (h : D.Nodup) : (ci D).Nodup := by
  unfold ci
  exact List.pairwise_map.mpr (h.imp fun {a b} n e => n (Int.ofNat.inj e))
theorem duel_ok {D : List Nat} {M : Nat} (h : Du D M) : m_duel (ci D) = some (.ok (dT D M 8)) := by
  have hne : 0 < D.length := List.length_pos_of_mem h.mem
  have hl := h.len
  obtain ⟨n, e1, _, e2⟩ := lenSet_is (xs := ci D) (by rw [ci_len]; omega)
  have e3 := e2.mpr (ci_nodup h.nd)
  rw [ci_len] at e3
  unfold m_duel
  rw [ci_len, decide_eq_false (by omega), ifB_f, e1, bnd_some, decide_eq_false (by omega), bnd_some, ifB_f, loopF_unit (fun x hx => by
    obtain ⟨n, hn, rfl⟩ := ci_mem hx
    have := h.lt n hn
    unfold m_duel_L0 m_is_name
    rw [bnd_some, decide_eq_true (by omega), decide_eq_true (by omega)]
    rfl), fin_nx, rng1_ok (by decide) (by decide), bnd_some]
  obtain ⟨out, e4, k, hk, ho⟩ := loopM_rng (f := fun k (s : List (Int × List Int) × List Int) => m_duel_L1 k s.1 s.2) (hi := 8) (fun i s => ∃ k : Nat, i = k ∧ s = (dT D M k, ci (sk D M k))) (by
    rintro i s hi ⟨k, rfl, rfl⟩
    exact ⟨_, duel_step h (by omega), k + 1, by omega, rfl⟩) 8 0 (([] : List (Int × List Int)), ci D) (by decide) (by decide) ⟨0, rfl, by rw [sk0 h]; rfl⟩
  have : k = 8 := by omega
  subst this
  rw [e4, bnd_some, ho]
theorem duel_bad {xs : List Int} (hz : xs.length ≤ 1000) (h : xs = [] ∨ ¬ xs.Nodup ∨ ∃ x ∈ xs, x < 0 ∨ 255 < x) : m_duel xs = some (.er .NoName) := by
  obtain ⟨n, e1, e0, e2⟩ := lenSet_is hz
  unfold m_duel
  by_cases c0 : xs = []
  · subst c0
    rfl
  · have hp : 0 < xs.length := List.length_pos_iff.mpr c0
    rw [decide_eq_false (by omega), ifB_f, e1, bnd_some]
    by_cases c1 : xs.Nodup
    · rw [decide_eq_false (by have := e2.mpr c1; omega), bnd_some, ifB_f]
      have hx : ∃ x ∈ xs, x < 0 ∨ 255 < x := by
        rcases h with h | h | h
        · exact absurd h c0
        · exact absurd c1 h
        · exact h
      have key : ∀ xs : List Int, (∃ x ∈ xs, x < 0 ∨ 255 < x) → loopF (fun name_14 (_ : Unit) => m_duel_L0 name_14) xs () = some (.rt (.er .NoName)) := fun xs => by
        induction xs with
        | nil => rintro ⟨_, h, _⟩; cases h
        | cons y r ih =>
          rintro ⟨x, hx, hb⟩
          show bnd (m_duel_L0 y) (contF (loopF _ r)) = _
          unfold m_duel_L0 m_is_name
          by_cases c : 0 ≤ y ∧ y ≤ 255
          · rw [bnd_some, decide_eq_true c.1, decide_eq_true c.2]
            show loopF _ r () = _
            refine ih ?_
            rcases List.mem_cons.mp hx with rfl | hx
            · omega
            · exact ⟨x, hx, hb⟩
          · have e : (decide ((0 : Int) ≤ y) && decide (y ≤ (255 : Int))) = false := by
              rw [Bool.and_eq_false_iff, decide_eq_false_iff_not, decide_eq_false_iff_not]
              omega
            rw [bnd_some, e]
            rfl
      rw [key xs hx, fin_rt]
    · rw [decide_eq_true (by
        have : n ≠ xs.length := fun z => c1 (e2.mp z)
        omega), bnd_some, ifB_t]
end Bt

namespace Bt
open PySem L2
theorem refused_bad {xs : List Int} (hz : xs.length ≤ 1000) (h : xs = [] ∨ ¬ xs.Nodup ∨ ∃ x ∈ xs, x < 0 ∨ 255 < x) : m__law_refused xs = some true := by
  unfold m__law_refused
  rw [duel_bad hz h, bnd_some, tryR_er]
  rfl
theorem refused_ok {D : List Nat} {M : Nat} (h : Du D M) : m__law_refused (ci D) = some false := by
  unfold m__law_refused
  rw [duel_ok h, bnd_some, tryR_ok]
theorem least_of {D : List Nat} (h0 : D ≠ []) (hn : D.Nodup) (hl : ∀ n ∈ D, n < 256) (hz : D.length ≤ 1000) : ∃ M, Du D M := by
  have key : ∀ D : List Nat, D ≠ [] → ∃ M ∈ D, ∀ n ∈ D, M ≤ n := fun D => by
    induction D with
    | nil => intro h; exact absurd rfl h
    | cons x r ih =>
      intro _
      by_cases c : r = []
      · subst c
        exact ⟨x, List.Mem.head _, fun n hn => by rw [List.mem_singleton.mp hn]; exact Nat.le_refl _⟩
      · obtain ⟨M, h1, h2⟩ := ih c
        by_cases q : x ≤ M
        · refine ⟨x, List.Mem.head _, fun n hn => ?_⟩
          rcases List.mem_cons.mp hn with rfl | hn
          · exact Nat.le_refl _
          · exact Nat.le_trans q (h2 n hn)
        · refine ⟨M, List.Mem.tail _ h1, fun n hn => ?_⟩
          rcases List.mem_cons.mp hn with rfl | hn
          · omega
          · exact h2 n hn
  obtain ⟨M, h1, h2⟩ := key D h0
  exact ⟨M, h1, h2, hn, hl, hz⟩
theorem told_step {D : List Nat} {M k : Nat} (h : Du D M) (hk : k < 8) : m__law_told_L0 (dT D M 8) (k : Int) (ci (sk D M k)) = some (.nx (ci (sk D M (k + 1)))) := by
  have hl := sk_len (k := k) h
  have hd : ∀ n : Nat, fdivG (n : Int) ((2 ^ (7 - k) : Nat) : Int) = some ((n / 2 ^ (7 - k) : Nat) : Int) := fun n => by
    have h7 : 2 ^ (7 - k) ≤ 2 ^ 7 := Nat.pow_le_pow_right (by decide) (by omega)
    rw [fdivG_ok (b := 10) (by have := Nat.two_pow_pos (7 - k); omega) (by rw [Int.natAbs_natCast]; omega) (by decide), Int.natCast_ediv]
  have hs : shrG (128 : Int) (k : Int) = some ((2 ^ (7 - k) : Nat) : Int) := by
    rw [show (128 : Int) = ((128 : Nat) : Int) from rfl, shrN]
    congr 2
    obtain rfl | rfl | rfl | rfl | rfl | rfl | rfl | rfl : k = 0 ∨ k = 1 ∨ k = 2 ∨ k = 3 ∨ k = 4 ∨ k = 5 ∨ k = 6 ∨ k = 7 := by omega
    all_goals rfl
  unfold m__law_told_L0
  have e1 : compM (m__law_told_C1 ((2 ^ (7 - k) : Nat) : Int)) (ci (sk D M k)) [] = some (ci ((sk D M k).map (nb k))) := by
    have := compM_ok (f := m__law_told_C1 ((2 ^ (7 - k) : Nat) : Int)) (g := fun x => ((nb k x.toNat : Nat) : Int)) (ci (sk D M k)) [] (fun x hx => by
      obtain ⟨n, _, rfl⟩ := ci_mem hx
      unfold m__law_told_C1
      rw [hd, bnd_some]
      rfl) (by rw [ci_len]; simp; omega)
    rw [this]
    unfold ci
    rw [List.nil_append, List.map_map, List.map_map]
    rfl
  have e2 : compT (m__law_told_C2t ((2 ^ (7 - k) : Nat) : Int) ((nb k M : Nat) : Int)) m__law_told_C2 (ci (sk D M k)) [] = some (ci (sk D M (k + 1))) := by
    have := compT_ok (c := m__law_told_C2t ((2 ^ (7 - k) : Nat) : Int) ((nb k M : Nat) : Int)) (f := m__law_told_C2) (p := fun x => decide (nb k x.toNat = nb k M)) (g := id) (ci (sk D M k)) [] (fun x hx => by
      obtain ⟨n, _, rfl⟩ := ci_mem hx
      unfold m__law_told_C2t
      rw [hd, bnd_some]
      congr 1
      rw [Int.toNat_natCast]
      unfold nb
      exact decide_eq_decide.mpr (by omega)) (fun x _ => rfl) (by rw [ci_len]; simp; omega)
    rw [this, List.nil_append, List.map_id, ← sk_step hk]
    unfold ci
    rw [List.filter_map]
    rfl
  have e3 : (ifB (decide ((0 : Int) ∈ ci ((sk D M k).map (nb k)))) (some (0 : Int)) (some (1 : Int))) = some ((nb k M : Nat) : Int) := by
    have h01 : nb k M = 0 ∨ nb k M = 1 := by unfold nb; omega
    by_cases c : (0 : Int) ∈ ci ((sk D M k).map (nb k))
    · rw [decide_eq_true c, ifB_t]
      obtain ⟨z, hz, ez⟩ := ci_mem c
      obtain ⟨n, hn, rfl⟩ := List.mem_map.mp hz
      have := sk_le h hk n hn
      congr 1
      omega
    · rw [decide_eq_false c, ifB_f]
      have : nb k M ≠ 0 := fun z => c (List.mem_map.mpr ⟨nb k M, List.mem_map.mpr ⟨M, sk_mem h, rfl⟩, by rw [z]; rfl⟩)
      congr 1
      omega
  have e4 : atI (dT D M 8) (k : Int) = some (((nb k M : Nat) : Int), ci (sk D M (k + 1))) := by
    rw [atI_ok (by omega) (by simp [dT]; omega), show ((k : Int)).toNat = k from rfl]
    unfold dT
    rw [List.getElem?_map, List.getElem?_range hk]
    rfl
  rw [hs, bnd_some, e1, bnd_some, e3, bnd_some, e2, bnd_some, e4, bnd_some]
  dsimp only
  rw [decide_eq_true (show ((nb k M : Nat) : Int) = ((nb k M : Nat) : Int) from rfl), decide_eq_true (show ci (sk D M (k + 1)) = ci (sk D M (k + 1)) from rfl)]
  rfl
theorem told_ok {D : List Nat} {M : Nat} (h : Du D M) : m__law_told (dT D M 8) (ci D) = some true := by
  unfold m__law_told
  rw [show (List.length (dT D M 8) : Int) = 8 by simp [dT], decide_eq_true rfl, rng1_ok (by decide) (by decide), bnd_some]
  show fin _ _ = _
  obtain ⟨out, e4, k, hk, ho⟩ := loopF_rng (f := fun k (s : List Int) => m__law_told_L0 (dT D M 8) k s) (hi := 8) (fun i s => ∃ k : Nat, i = k ∧ s = ci (sk D M k)) (by
    rintro i s hi ⟨k, rfl, rfl⟩
    exact ⟨_, told_step h (by omega), k + 1, by omega, rfl⟩) 8 0 (ci D) (by decide) (by decide) ⟨0, rfl, by rw [sk0 h]⟩
  rw [e4, fin_nx]
  have e5 : atI (dT D M 8) (7 : Int) = some (((nb 7 M : Nat) : Int), ci [M]) := by
    have : dT D M 8 = dT D M 7 ++ [(((nb 7 M : Nat) : Int), ci (sk D M 8))] := by
      unfold dT
      rw [List.range_succ, List.map_append]
      rfl
    rw [sk8 h] at this
    rw [atI_ok (by decide) (by simp [dT]), this, show ((7 : Int)).toNat = 7 from rfl, List.getElem?_append_right (by simp [dT])]
    simp [dT]
  rw [e5, bnd_some, min_is h.mem h.le, bnd_some]
  exact congrArg some (decide_eq_true rfl)
theorem names_ok (ns : List Int) : ∃ D : List Nat, m__law_names ns = some (ci D) ∧ D ≠ [] ∧ D.Nodup ∧ (∀ n ∈ D, n < 256) ∧ D.length ≤ 20 := by
  unfold m__law_names
  obtain ⟨b, e1, b0, b1⟩ := draw_ok ns 0 256 (by decide) (by decide) (by decide)
  obtain ⟨n, e2, n0, n1⟩ := draw_ok ns 1 2 (by decide) (by decide) (by decide)
  obtain ⟨sh, e3, s0, s1⟩ := draw_ok ns 2 7 (by decide) (by decide) (by decide)
  obtain ⟨b, rfl⟩ := Int.eq_ofNat_of_zero_le b0
  obtain ⟨sh, rfl⟩ := Int.eq_ofNat_of_zero_le s0
  rw [e1, bnd_some, e2, bnd_some, ltv_eq, e3, bnd_some]
  have hcl : (cutL ns none (some (19 : Int))).length ≤ 19 := by
    rw [show (19 : Int) = ((19 : Nat) : Int) from rfl, cut_to, List.length_take]
    omega
  generalize cutL ns none (some (19 : Int)) = xs at hcl
  generalize decide (n = (1 : Int)) = near
  have key : ∀ (xs : List Int) (D : List Nat), D ≠ [] → D.Nodup → (∀ n ∈ D, n < 256) → D.length + xs.length ≤ 20 → ∃ D' : List Nat, loopM (fun cell_20 s => m__law_names_L0 (b : Int) near (sh : Int) cell_20 s) xs (ci D) = some (ci D') ∧ D' ≠ [] ∧ D'.Nodup ∧ (∀ n ∈ D', n < 256) ∧ D'.length ≤ 20 := fun xs => by
    induction xs with
    | nil => intro D h1 h2 h3 h4; exact ⟨D, rfl, h1, h2, h3, by simpa using h4⟩
    | cons c r ih =>
      intro D h1 h2 h3 h4
      rw [List.length_cons] at h4
      obtain ⟨v, ev, hv⟩ : ∃ v : Nat, (ifB near (bnd (shlG (c % (4 : Int)) (sh : Int)) fun t_29 => some (Builtin.bitXor (b : Int) t_29)) (some (c % 256))) = some (v : Int) ∧ v < 256 := by
        cases near with
        | true =>
          obtain ⟨m, em, hm⟩ := emod_nat (z := c) (m := 4) (by decide)
          have hs : m * 2 ^ sh < 256 := by
            have h7 : 2 ^ sh ≤ 2 ^ 6 := Nat.pow_le_pow_right (by decide) (by omega)
            have : m * 2 ^ sh ≤ 3 * 2 ^ 6 := Nat.mul_le_mul (by omega) h7
            omega
          refine ⟨b ^^^ (m * 2 ^ sh), ?_, Nat.xor_lt_two_pow (n := 8) (by omega) hs⟩
          rw [ifB_t, em, shlN (n := 2) sh (by omega) (by omega), bnd_some, bx]
        | false =>
          obtain ⟨m, em, hm⟩ := emod_nat (z := c) (m := 256) (by decide)
          exact ⟨m, by rw [ifB_f, em], by omega⟩
      by_cases q : v ∈ D
      · have hst : m__law_names_L0 (b : Int) near (sh : Int) c (ci D) = some (ci D) := by
          unfold m__law_names_L0
          rw [ltv_eq, ev, bnd_some, decide_eq_true (show (v : Int) ∈ ci D from List.mem_map.mpr ⟨v, q, rfl⟩)]
          rfl
        rw [loopM_go (f := fun cell_20 s => m__law_names_L0 (b : Int) near (sh : Int) cell_20 s) hst]
        exact ih D h1 h2 h3 (by omega)
      · have hst : m__law_names_L0 (b : Int) near (sh : Int) c (ci D) = some (ci (D ++ [v])) := by
          unfold m__law_names_L0
          rw [ltv_eq, ev, bnd_some, decide_eq_false (show ¬ (v : Int) ∈ ci D from fun z => by
            obtain ⟨n, hn, e⟩ := ci_mem z
            have : v = n := by omega
            exact q (by rw [this]; exact hn)), Bool.not_false, ifB_t, appG_ok (by rw [ci_len]; omega), bnd_some]
          unfold ci
          rw [List.map_append]
          rfl
        rw [loopM_go (f := fun cell_20 s => m__law_names_L0 (b : Int) near (sh : Int) cell_20 s) hst]
        refine ih (D ++ [v]) (by simp) (List.nodup_append.mpr ⟨h2, List.nodup_cons.mpr ⟨List.not_mem_nil, List.Pairwise.nil⟩, fun x hx y hy e => by
          rw [List.mem_singleton.mp hy] at e
          subst e
          exact q hx⟩) (fun n hn => ?_) (by simp; omega)
        rcases List.mem_append.mp hn with z | z
        · exact h3 n z
        · rw [List.mem_singleton.mp z]; exact hv
  obtain ⟨D, e4, r⟩ := key xs [b] (by simp) (List.nodup_cons.mpr ⟨List.not_mem_nil, List.Pairwise.nil⟩) (fun n hn => by rw [List.mem_singleton.mp hn]; omega) (by simpa using by omega)
  have e4' : loopM (fun cell_20 s => m__law_names_L0 (b : Int) near (sh : Int) cell_20 s) xs [(b : Int)] = some (ci D) := e4
  exact ⟨D, by rw [e4', bnd_some], r⟩
theorem put_at {xs : List Int} {a : Nat} {v : Int} (ha : a ≤ xs.length) (hz : xs.length ≤ 100) {β : Type} (f : List Int → Option β) : (bnd (catG (cutL xs none (some (a : Int))) [v]) fun t => bnd (catG t (cutL xs (some (a : Int)) none)) f) = f (xs.take a ++ [v] ++ xs.drop a) := by
  rw [cut_to, cut_fr, catG_ok (by simp; omega), bnd_some, catG_ok (by simp; omega), bnd_some]
theorem law_true (ns : List Int) (_hns : ns.length ≤ 63) : m_law ns = some true := by
  unfold m_law
  obtain ⟨D, e1, h0, h1, h2, h3⟩ := names_ok ns
  obtain ⟨M, h⟩ := least_of h0 h1 h2 (by omega)
  have hp : 0 < D.length := List.length_pos_iff.mpr h0
  have lT : (dT D M 8).length = 8 := by simp [dT]
  rw [e1, bnd_some, duel_ok h, bndO_ok, told_ok h, bnd_some, decide_eq_true (show ci D = ci D from rfl), show ((!true) || (!true)) = false from rfl, ifB_f]
  have e2 : compM m_law_C0 (dT D M 8) [] = some (dT D M 8) := by
    have := compM_ok (f := m_law_C0) (g := fun x => x) (dT D M 8) [] (fun x _ => rfl) (by rw [lT]; decide)
    rw [this, List.nil_append, List.map_id']
  rw [e2, bnd_some, appG_ok (by rw [ci_len]; omega), bnd_some, decide_eq_true (show dT D M 8 = dT D M 8 from rfl), Bool.not_true, ifB_f]
  obtain ⟨i, e3, i0, i1⟩ := draw_ok ns 6 8 (by decide) (by decide) (by decide)
  obtain ⟨x, ex, hx⟩ := atI_mem (xs := dT D M 8) (i := i) i0 (by rw [lT]; exact i1)
  have hx2 : x.2.length ≤ 1000 := by
    unfold dT at hx
    obtain ⟨k, _, rfl⟩ := List.mem_map.mp hx
    show (ci _).length ≤ 1000
    rw [ci_len]
    exact sk_len h
  rw [e3, bnd_some, ex, bnd_some, appG_ok (show x.2.length < 16777216 by omega), bnd_some, setG_ok i0 (by rw [lT]; exact i1), bnd_some, bnd_some, appG_ok (show x.2.length < 16777216 by omega), bnd_some, setG_ok i0 (by rw [lT]; exact i1), bnd_some]
  rw [decide_eq_true (show (dT D M 8).set i.toNat (x.1, x.2 ++ [999]) = (dT D M 8).set i.toNat (x.1, x.2 ++ [999]) from rfl), catG_ok (by rw [ci_len]; simp; omega), bnd_some, decide_eq_true (show ci D ++ [(7 : Int)] = ci D ++ [7] from rfl), Bool.not_true, ifB_f, bnd_some, ifB_f]
  obtain ⟨y, hy⟩ : ∃ y, popL ((dT D M 8).set i.toNat (x.1, x.2 ++ [999])) = some (y, ((dT D M 8).set i.toNat (x.1, x.2 ++ [999])).dropLast) := by
    unfold popL
    have hl : ((dT D M 8).set i.toNat (x.1, x.2 ++ [999])).length = 8 := by rw [List.length_set, lT]
    rw [hl, List.getElem?_eq_getElem (show 8 - 1 < _ by rw [hl]; decide)]
    exact ⟨_, rfl⟩
  rw [hy, bnd_some]
  dsimp only
  rw [bndO_ok, told_ok h, bnd_some, Bool.not_true, ifB_f]
  obtain ⟨a, e4, a0, a1⟩ := draw_ok ns 3 ((List.length (ci D) : Int) + 1) (by decide) (by decide) (by omega)
  obtain ⟨t, e5, t0, t1⟩ := draw_ok ns 4 (List.length (ci D) : Int) (by decide) (by decide) (by rw [ci_len]; omega)
  obtain ⟨tw, e6, htw⟩ := atI_mem (xs := ci D) (i := t) t0 t1
  rw [e4, bnd_some, e5, bnd_some, e6, bnd_some]
  obtain ⟨far, e7, hfar⟩ : ∃ far, (ifB (decide ((0 : Int) < (List.length ns : Int))) (
            bnd (atI ns (0 : Int)) fun e_126 =>
            bnd (powG (10 : Int) (18 : Int)) fun t_128 =>
            bnd (modG e_126 t_128) fun t_130 =>
            bnd (atI ns (0 : Int)) fun e_132 =>
            bnd (powG (10 : Int) (18 : Int)) fun t_134 =>
            bnd (modG e_132 t_134) fun t_136 =>
            bnd (m__law_draw ns (5 : Int) (4 : Int)) fun law_dr_139 =>
            bnd (atI ([(-(1 : Int)), (256 : Int), ((256 : Int) + t_130), ((-(1 : Int)) - t_136)]) law_dr_139) fun e_141 =>
            some e_141) (
            some (256 : Int))) = some far ∧ (far < 0 ∨ 255 < far) := by
    by_cases c : (0 : Int) < (ns.length : Int)
    · obtain ⟨z, ez, _⟩ := atI_mem (xs := ns) (i := 0) (by decide) c
      have hpw : powG (10 : Int) (18 : Int) = some (10 ^ 18) := grd_of (by decide)
      obtain ⟨v, ev, v0, v1⟩ := draw_ok ns 5 4 (by decide) (by decide) (by decide)
      have hm := Int.emod_nonneg z (show (10 ^ 18 : Int) ≠ 0 by decide)
      rw [decide_eq_true c, ifB_t, ez, bnd_some, hpw, bnd_some, modG_ok (show (0 : Int) < 10 ^ 18 by decide), bnd_some, bnd_some, bnd_some, modG_ok (show (0 : Int) < 10 ^ 18 by decide), bnd_some, ev, bnd_some]
      generalize z % 10 ^ 18 = u at hm
      obtain rfl | rfl | rfl | rfl : v = 0 ∨ v = 1 ∨ v = 2 ∨ v = 3 := by omega
      · exact ⟨_, rfl, .inl (by decide)⟩
      · exact ⟨_, rfl, .inr (by decide)⟩
      · exact ⟨_, rfl, .inr (by omega)⟩
      · exact ⟨_, rfl, .inl (by omega)⟩
    · exact ⟨256, by rw [decide_eq_false c, ifB_f], .inr (by decide)⟩
  rw [e7, bnd_some, ltv_eq]
  have hcut : cutL (ci D) none (some (19 : Int)) = ci (D.take 19) := by
    rw [show (19 : Int) = ((19 : Nat) : Int) from rfl, cut_to]
    unfold ci
    rw [List.map_take]
  rw [hcut]
  have nf : (D.take 19).Nodup := h1.sublist (List.take_sublist _ _)
  have lf : ∀ n ∈ D.take 19, n < 256 := fun n hn => h2 n (List.mem_of_mem_take hn)
  have zf : (D.take 19).length ≤ 19 := by rw [List.length_take]; omega
  generalize D.take 19 = F at nf lf zf
  obtain ⟨a', ea', ha'⟩ : ∃ a' : Nat, (if ((ci F).length : Int) < a then ((ci F).length : Int) else a) = (a' : Int) ∧ a' ≤ F.length := by
    rw [ci_len]
    split
    · exact ⟨F.length, rfl, Nat.le_refl _⟩
    · exact ⟨a.toNat, by omega, by omega⟩
  rw [ea', put_at (by rw [ci_len]; exact ha') (by rw [ci_len]; omega)]
  have hperm : ∀ v : Int, ((ci F).take a' ++ [v] ++ (ci F).drop a').Perm (v :: ci F) := fun v => by
    have : ((ci F).take a' ++ [v] ++ (ci F).drop a').Perm (v :: ((ci F).take a' ++ (ci F).drop a')) := by
      rw [List.append_assoc]
      exact List.perm_middle
    rw [List.take_append_drop] at this
    exact this
  have hlen : ∀ v : Int, ((ci F).take a' ++ [v] ++ (ci F).drop a').length ≤ 1000 := fun v => by
    rw [(hperm v).length_eq, List.length_cons, ci_len]
    omega
  have hfst : ∃ b, m__law_refused ((ci F).take a' ++ [tw] ++ (ci F).drop a') = some b ∧ ((!b) && (decide (tw ∈ ci F))) = false := by
    by_cases c : tw ∈ ci F
    · refine ⟨true, refused_bad (hlen _) (.inr (.inl fun z => ?_)), rfl⟩
      have := (hperm tw).nodup_iff.mp z
      exact (List.nodup_cons.mp this).1 c
    · obtain ⟨T, hT, rfl⟩ := ci_mem htw
      have e : (ci F).take a' ++ [(T : Int)] ++ (ci F).drop a' = ci (F.take a' ++ [T] ++ F.drop a') := by
        unfold ci
        rw [List.map_append, List.map_append, List.map_take, List.map_drop]
        rfl
      have hperm2 : (F.take a' ++ [T] ++ F.drop a').Perm (T :: F) := by
        have : (F.take a' ++ [T] ++ F.drop a').Perm (T :: (F.take a' ++ F.drop a')) := by
          rw [List.append_assoc]
          exact List.perm_middle
        rw [List.take_append_drop] at this
        exact this
      obtain ⟨M', hM⟩ := least_of (D := F.take a' ++ [T] ++ F.drop a') (by simp) (hperm2.nodup_iff.mpr (List.nodup_cons.mpr ⟨fun z => c (List.mem_map.mpr ⟨T, z, rfl⟩), nf⟩)) (fun n hn => by
        rcases List.mem_cons.mp (hperm2.mem_iff.mp hn) with rfl | z
        · exact h2 _ hT
        · exact lf n z) (by rw [hperm2.length_eq, List.length_cons]; omega)
      refine ⟨false, by rw [e]; exact refused_ok hM, ?_⟩
      rw [decide_eq_false c]
      rfl
  obtain ⟨b, e8, hb⟩ := hfst
  rw [e8, bnd_some, hb, ifB_f, put_at (by rw [ci_len]; exact ha') (by rw [ci_len]; omega)]
  rw [refused_bad (hlen _) (.inr (.inr ⟨far, (hperm far).mem_iff.mpr (List.Mem.head _), hfar⟩)), bnd_some, ifB_t, refused_bad (by simp) (.inl rfl), bnd_some]
  rfl
end Bt

open PySem PySem.W PyProof.Rows in
set_option maxRecDepth 100000 in
set_option maxHeartbeats 0 in
theorem PySem.Challenge.cw_bitrail_k05_a_duel_holds : PySem.Challenge.rw_bitrail_k05_a_duel.Holds := by
  w_on; o_law; k_head; (case hw => w_witness2)
  k_fill
  refine Bt.walk Bt.law_true (l := PySem.Challenge.rw_bitrail_k05_a_duel) rfl rfl (fun w h Y => PySem.W.kIn_of Y) ?F
  case F =>
    intro w mg fa h KX G hmg
    obtain ⟨f__law_draw, fd__law_draw, F__law_draw, g__law_draw⟩ : ∃ f fd, L2.Fun _ "_law_draw" "_law_draw" Bt.s__law_draw f fd ∧ mg "_law_draw" = some (.ref f) := by
      refine' Bt.def_mk KX G ?a ?l ?c ?k
      (case a => k_is)
      (case l => k_is)
      (case c => k_is)
      (case k => k_is)
    obtain ⟨f__law_names, fd__law_names, F__law_names, g__law_names⟩ : ∃ f fd, L2.Fun _ "_law_names" "_law_names" Bt.s__law_names f fd ∧ mg "_law_names" = some (.ref f) := by
      refine' Bt.def_mk KX G ?a ?l ?c ?k
      (case a => k_is)
      (case l => k_is)
      (case c => k_is)
      (case k => k_is)
    obtain ⟨f_is_name, fd_is_name, F_is_name, g_is_name⟩ : ∃ f fd, L2.Fun _ "is_name" "is_name" Bt.s_is_name f fd ∧ mg "is_name" = some (.ref f) := by
      refine' Bt.def_mk KX G ?a ?l ?c ?k
      (case a => k_is)
      (case l => k_is)
      (case c => k_is)
      (case k => k_is)
    obtain ⟨f_bit_at, fd_bit_at, F_bit_at, g_bit_at⟩ : ∃ f fd, L2.Fun _ "bit_at" "bit_at" Bt.s_bit_at f fd ∧ mg "bit_at" = some (.ref f) := by
      refine' Bt.def_mk KX G ?a ?l ?c ?k
      (case a => k_is)
      (case l => k_is)
      (case c => k_is)
      (case k => k_is)
    obtain ⟨f_duel, fd_duel, F_duel, g_duel⟩ : ∃ f fd, L2.Fun _ "duel" "duel" Bt.s_duel f fd ∧ mg "duel" = some (.ref f) := by
      refine' Bt.def_mk KX G ?a ?l ?c ?k
      (case a => k_is)
      (case l => k_is)
      (case c => k_is)
      (case k => k_is)
    obtain ⟨f__law_told, fd__law_told, F__law_told, g__law_told⟩ : ∃ f fd, L2.Fun _ "_law_told" "_law_told" Bt.s__law_told f fd ∧ mg "_law_told" = some (.ref f) := by
      refine' Bt.def_mk KX G ?a ?l ?c ?k
      (case a => k_is)
      (case l => k_is)
      (case c => k_is)
      (case k => k_is)
    obtain ⟨f__law_is_other, fd__law_is_other, F__law_is_other, g__law_is_other⟩ : ∃ f fd, L2.Fun _ "_law_is_other" "_law_is_other" Bt.s__law_is_other f fd ∧ mg "_law_is_other" = some (.ref f) := by
      refine' Bt.def_mk KX G ?a ?l ?c ?k
      (case a => k_is)
      (case l => k_is)
      (case c => k_is)
      (case k => k_is)
    obtain ⟨f__law_refused, fd__law_refused, F__law_refused, g__law_refused⟩ : ∃ f fd, L2.Fun _ "_law_refused" "_law_refused" Bt.s__law_refused f fd ∧ mg "_law_refused" = some (.ref f) := by
      refine' Bt.def_mk KX G ?a ?l ?c ?k
      (case a => k_is)
      (case l => k_is)
      (case c => k_is)
      (case k => k_is)
    obtain ⟨f_law, fd_law, F_law, g_law⟩ : ∃ f fd, L2.Fun _ "law" "law" Bt.s_law f fd ∧ mg "law" = some (.ref f) := by
      refine' Bt.def_mk KX G ?a ?l ?c ?k
      (case a => k_is)
      (case l => k_is)
      (case c => k_is)
      (case k => k_is)
    have z_ValueError : mg "ValueError" = none := PySem.W.mg_none_of KX G (by k_is)
    have z_bool : mg "bool" = none := PySem.W.mg_none_of KX G (by k_is)
    have z_int : mg "int" = none := PySem.W.mg_none_of KX G (by k_is)
    have z_isinstance : mg "isinstance" = none := PySem.W.mg_none_of KX G (by k_is)
    have z_len : mg "len" = none := PySem.W.mg_none_of KX G (by k_is)
    have z_list : mg "list" = none := PySem.W.mg_none_of KX G (by k_is)
    have z_min : mg "min" = none := PySem.W.mg_none_of KX G (by k_is)
    have z_range : mg "range" = none := PySem.W.mg_none_of KX G (by k_is)
    have z_set : mg "set" = none := PySem.W.mg_none_of KX G (by k_is)
    have z_tuple : mg "tuple" = none := PySem.W.mg_none_of KX G (by k_is)
    obtain ⟨es, n_NoBits, n_NoFrame, n_NoKey, n_NoName, n_NoPost, n_NoRail, n_NoRow, n_NoStrip, n_NoThing, n_NoWire, n_RailError, e_NoName, EC⟩ : ∃ (es : Bt.Eds), mg "NoBits" = some (.ref es.NoBits) ∧ mg "NoFrame" = some (.ref es.NoFrame) ∧ mg "NoKey" = some (.ref es.NoKey) ∧ mg "NoName" = some (.ref es.NoName) ∧ mg "NoPost" = some (.ref es.NoPost) ∧ mg "NoRail" = some (.ref es.NoRail) ∧ mg "NoRow" = some (.ref es.NoRow) ∧ mg "NoStrip" = some (.ref es.NoStrip) ∧ mg "NoThing" = some (.ref es.NoThing) ∧ mg "NoWire" = some (.ref es.NoWire) ∧ mg "RailError" = some (.ref es.RailError) ∧ Bt.ErrC _ mg "NoName" es.NoName ∧ Bt.EcF _ es Bt.ks := by
      refine' Bt.pack KX G ?a_NoBits ?a_NoFrame ?a_NoKey ?a_NoName ?a_NoPost ?a_NoRail ?a_NoRow ?a_NoStrip ?a_NoThing ?a_NoWire ?a_RailError ?e_NoName ?k_NoName ?s_NoName ?t_NoName ?q_NoBits ?q_NoName ?q_NoKey ?q_NoFrame ?q_NoPost ?q_NoThing ?q_NoStrip ?q_NoRail ?q_NoWire ?q_NoRow ?q_RailError ?r_NoBits ?p_NoBits_NoBits ?p_NoBits_NoName ?p_NoBits_NoKey ?p_NoBits_NoFrame ?p_NoBits_NoPost ?p_NoBits_NoThing ?p_NoBits_NoStrip ?p_NoBits_NoRail ?p_NoBits_NoWire ?p_NoBits_NoRow ?r_NoName ?p_NoName_NoBits ?p_NoName_NoName ?p_NoName_NoKey ?p_NoName_NoFrame ?p_NoName_NoPost ?p_NoName_NoThing ?p_NoName_NoStrip ?p_NoName_NoRail ?p_NoName_NoWire ?p_NoName_NoRow ?r_NoKey ?p_NoKey_NoBits ?p_NoKey_NoName ?p_NoKey_NoKey ?p_NoKey_NoFrame ?p_NoKey_NoPost ?p_NoKey_NoThing ?p_NoKey_NoStrip ?p_NoKey_NoRail ?p_NoKey_NoWire ?p_NoKey_NoRow ?r_NoFrame ?p_NoFrame_NoBits ?p_NoFrame_NoName ?p_NoFrame_NoKey ?p_NoFrame_NoFrame ?p_NoFrame_NoPost ?p_NoFrame_NoThing ?p_NoFrame_NoStrip ?p_NoFrame_NoRail ?p_NoFrame_NoWire ?p_NoFrame_NoRow ?r_NoPost ?p_NoPost_NoBits ?p_NoPost_NoName ?p_NoPost_NoKey ?p_NoPost_NoFrame ?p_NoPost_NoPost ?p_NoPost_NoThing ?p_NoPost_NoStrip ?p_NoPost_NoRail ?p_NoPost_NoWire ?p_NoPost_NoRow ?r_NoThing ?p_NoThing_NoBits ?p_NoThing_NoName ?p_NoThing_NoKey ?p_NoThing_NoFrame ?p_NoThing_NoPost ?p_NoThing_NoThing ?p_NoThing_NoStrip ?p_NoThing_NoRail ?p_NoThing_NoWire ?p_NoThing_NoRow ?r_NoStrip ?p_NoStrip_NoBits ?p_NoStrip_NoName ?p_NoStrip_NoKey ?p_NoStrip_NoFrame ?p_NoStrip_NoPost ?p_NoStrip_NoThing ?p_NoStrip_NoStrip ?p_NoStrip_NoRail ?p_NoStrip_NoWire ?p_NoStrip_NoRow ?r_NoRail ?p_NoRail_NoBits ?p_NoRail_NoName ?p_NoRail_NoKey ?p_NoRail_NoFrame ?p_NoRail_NoPost ?p_NoRail_NoThing ?p_NoRail_NoStrip ?p_NoRail_NoRail ?p_NoRail_NoWire ?p_NoRail_NoRow ?r_NoWire ?p_NoWire_NoBits ?p_NoWire_NoName ?p_NoWire_NoKey ?p_NoWire_NoFrame ?p_NoWire_NoPost ?p_NoWire_NoThing ?p_NoWire_NoStrip ?p_NoWire_NoRail ?p_NoWire_NoWire ?p_NoWire_NoRow ?r_NoRow ?p_NoRow_NoBits ?p_NoRow_NoName ?p_NoRow_NoKey ?p_NoRow_NoFrame ?p_NoRow_NoPost ?p_NoRow_NoThing ?p_NoRow_NoStrip ?p_NoRow_NoRail ?p_NoRow_NoWire ?p_NoRow_NoRow ?hn ?ht
      (case a_NoBits => k_is)
      (case a_NoFrame => k_is)
      (case a_NoKey => k_is)
      (case a_NoName => k_is)
      (case a_NoPost => k_is)
      (case a_NoRail => k_is)
      (case a_NoRow => k_is)
      (case a_NoStrip => k_is)
      (case a_NoThing => k_is)
      (case a_NoWire => k_is)
      (case a_RailError => k_is)
      (case e_NoName => first | k_exc | k_is | decide +kernel)
      (case k_NoName => k_is)
      (case s_NoName => k_is)
      (case t_NoName => k_is)
      (case q_NoBits => exact ⟨by k_is, by k_is, by k_is, by k_is, by k_is, by k_is, by k_is, by k_is⟩)
      (case q_NoName => exact ⟨by k_is, by k_is, by k_is, by k_is, by k_is, by k_is, by k_is, by k_is⟩)
      (case q_NoKey => exact ⟨by k_is, by k_is, by k_is, by k_is, by k_is, by k_is, by k_is, by k_is⟩)
      (case q_NoFrame => exact ⟨by k_is, by k_is, by k_is, by k_is, by k_is, by k_is, by k_is, by k_is⟩)
      (case q_NoPost => exact ⟨by k_is, by k_is, by k_is, by k_is, by k_is, by k_is, by k_is, by k_is⟩)
      (case q_NoThing => exact ⟨by k_is, by k_is, by k_is, by k_is, by k_is, by k_is, by k_is, by k_is⟩)
      (case q_NoStrip => exact ⟨by k_is, by k_is, by k_is, by k_is, by k_is, by k_is, by k_is, by k_is⟩)
      (case q_NoRail => exact ⟨by k_is, by k_is, by k_is, by k_is, by k_is, by k_is, by k_is, by k_is⟩)
      (case q_NoWire => exact ⟨by k_is, by k_is, by k_is, by k_is, by k_is, by k_is, by k_is, by k_is⟩)
      (case q_NoRow => exact ⟨by k_is, by k_is, by k_is, by k_is, by k_is, by k_is, by k_is, by k_is⟩)
      (case q_RailError => exact ⟨by k_is, by k_is, by k_is, by k_is, by k_is, by k_is, by k_is, by k_is⟩)
      (case r_NoBits => k_is)
      (case p_NoBits_NoBits => k_is)
      (case p_NoBits_NoName => k_is)
      (case p_NoBits_NoKey => k_is)
      (case p_NoBits_NoFrame => k_is)
      (case p_NoBits_NoPost => k_is)
      (case p_NoBits_NoThing => k_is)
      (case p_NoBits_NoStrip => k_is)
      (case p_NoBits_NoRail => k_is)
      (case p_NoBits_NoWire => k_is)
      (case p_NoBits_NoRow => k_is)
      (case r_NoName => k_is)
      (case p_NoName_NoBits => k_is)
      (case p_NoName_NoName => k_is)
      (case p_NoName_NoKey => k_is)
      (case p_NoName_NoFrame => k_is)
      (case p_NoName_NoPost => k_is)
      (case p_NoName_NoThing => k_is)
      (case p_NoName_NoStrip => k_is)
      (case p_NoName_NoRail => k_is)
      (case p_NoName_NoWire => k_is)
      (case p_NoName_NoRow => k_is)
      (case r_NoKey => k_is)
      (case p_NoKey_NoBits => k_is)
      (case p_NoKey_NoName => k_is)
      (case p_NoKey_NoKey => k_is)
      (case p_NoKey_NoFrame => k_is)
      (case p_NoKey_NoPost => k_is)
      (case p_NoKey_NoThing => k_is)
      (case p_NoKey_NoStrip => k_is)
      (case p_NoKey_NoRail => k_is)
      (case p_NoKey_NoWire => k_is)
      (case p_NoKey_NoRow => k_is)
      (case r_NoFrame => k_is)
      (case p_NoFrame_NoBits => k_is)
      (case p_NoFrame_NoName => k_is)
      (case p_NoFrame_NoKey => k_is)
      (case p_NoFrame_NoFrame => k_is)
      (case p_NoFrame_NoPost => k_is)
      (case p_NoFrame_NoThing => k_is)
      (case p_NoFrame_NoStrip => k_is)
      (case p_NoFrame_NoRail => k_is)
      (case p_NoFrame_NoWire => k_is)
      (case p_NoFrame_NoRow => k_is)
      (case r_NoPost => k_is)
      (case p_NoPost_NoBits => k_is)
      (case p_NoPost_NoName => k_is)
      (case p_NoPost_NoKey => k_is)
      (case p_NoPost_NoFrame => k_is)
      (case p_NoPost_NoPost => k_is)
      (case p_NoPost_NoThing => k_is)
      (case p_NoPost_NoStrip => k_is)
      (case p_NoPost_NoRail => k_is)
      (case p_NoPost_NoWire => k_is)
      (case p_NoPost_NoRow => k_is)
      (case r_NoThing => k_is)
      (case p_NoThing_NoBits => k_is)
      (case p_NoThing_NoName => k_is)
      (case p_NoThing_NoKey => k_is)
      (case p_NoThing_NoFrame => k_is)
      (case p_NoThing_NoPost => k_is)
      (case p_NoThing_NoThing => k_is)
      (case p_NoThing_NoStrip => k_is)
      (case p_NoThing_NoRail => k_is)
      (case p_NoThing_NoWire => k_is)
      (case p_NoThing_NoRow => k_is)
      (case r_NoStrip => k_is)
      (case p_NoStrip_NoBits => k_is)
      (case p_NoStrip_NoName => k_is)
      (case p_NoStrip_NoKey => k_is)
      (case p_NoStrip_NoFrame => k_is)
      (case p_NoStrip_NoPost => k_is)
      (case p_NoStrip_NoThing => k_is)
      (case p_NoStrip_NoStrip => k_is)
      (case p_NoStrip_NoRail => k_is)
      (case p_NoStrip_NoWire => k_is)
      (case p_NoStrip_NoRow => k_is)
      (case r_NoRail => k_is)
      (case p_NoRail_NoBits => k_is)
      (case p_NoRail_NoName => k_is)
      (case p_NoRail_NoKey => k_is)
      (case p_NoRail_NoFrame => k_is)
      (case p_NoRail_NoPost => k_is)
      (case p_NoRail_NoThing => k_is)
      (case p_NoRail_NoStrip => k_is)
      (case p_NoRail_NoRail => k_is)
      (case p_NoRail_NoWire => k_is)
      (case p_NoRail_NoRow => k_is)
      (case r_NoWire => k_is)
      (case p_NoWire_NoBits => k_is)
      (case p_NoWire_NoName => k_is)
      (case p_NoWire_NoKey => k_is)
      (case p_NoWire_NoFrame => k_is)
      (case p_NoWire_NoPost => k_is)
      (case p_NoWire_NoThing => k_is)
      (case p_NoWire_NoStrip => k_is)
      (case p_NoWire_NoRail => k_is)
      (case p_NoWire_NoWire => k_is)
      (case p_NoWire_NoRow => k_is)
      (case r_NoRow => k_is)
      (case p_NoRow_NoBits => k_is)
      (case p_NoRow_NoName => k_is)
      (case p_NoRow_NoKey => k_is)
      (case p_NoRow_NoFrame => k_is)
      (case p_NoRow_NoPost => k_is)
      (case p_NoRow_NoThing => k_is)
      (case p_NoRow_NoStrip => k_is)
      (case p_NoRow_NoRail => k_is)
      (case p_NoRow_NoWire => k_is)
      (case p_NoRow_NoRow => k_is)
      (case hn => k_is)
      (case ht => k_is)
    cases hmg.symm.trans g_law
    refine ⟨fd_law, ?_, fun base _ _ => Bt.ok_law (ad := ⟨f__law_draw, fd__law_draw, f__law_names, fd__law_names, f_is_name, fd_is_name, f_bit_at, fd_bit_at, f_duel, fd_duel, f__law_told, fd__law_told, f__law_is_other, fd__law_is_other, f__law_refused, fd__law_refused, fa, fd_law, es⟩) ⟨F__law_draw, g__law_draw, F__law_draw.binds (ps := ["script", "k", "many"]) fun _ _ _ _ _ _ us hl => match us, hl with | [_, _, _], _ => rfl, F__law_names, g__law_names, F__law_names.binds (ps := ["script"]) fun _ _ _ _ _ _ us hl => match us, hl with | [_], _ => rfl, F_is_name, g_is_name, F_is_name.binds (ps := ["number"]) fun _ _ _ _ _ _ us hl => match us, hl with | [_], _ => rfl, F_bit_at, g_bit_at, F_bit_at.binds (ps := ["name", "k"]) fun _ _ _ _ _ _ us hl => match us, hl with | [_, _], _ => rfl, F_duel, g_duel, F_duel.binds (ps := ["names"]) fun _ _ _ _ _ _ us hl => match us, hl with | [_], _ => rfl, F__law_told, g__law_told, F__law_told.binds (ps := ["found", "names"]) fun _ _ _ _ _ _ us hl => match us, hl with | [_, _], _ => rfl, F__law_is_other, g__law_is_other, F__law_is_other.binds (ps := ["e"]) fun _ _ _ _ _ _ us hl => match us, hl with | [_], _ => rfl, F__law_refused, g__law_refused, F__law_refused.binds (ps := ["names"]) fun _ _ _ _ _ _ us hl => match us, hl with | [_], _ => rfl, F_law, g_law, F_law.binds (ps := ["script"]) fun _ _ _ _ _ _ us hl => match us, hl with | [_], _ => rfl, z_ValueError, z_bool, z_int, z_isinstance, z_len, z_list, z_min, z_range, z_set, z_tuple, e_NoName, n_NoBits, n_NoFrame, n_NoKey, n_NoName, n_NoPost, n_NoRail, n_NoRow, n_NoStrip, n_NoThing, n_NoWire, n_RailError, EC⟩⟩
    obtain ⟨oc, od, kV, doc, pm, an, cdv, ct, osl, rfl, lk, hcd⟩ := F_law.ex
    exact fun s u => .of_eq rfl
