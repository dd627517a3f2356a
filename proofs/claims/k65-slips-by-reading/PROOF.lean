import PyProof.Rows.All
import Wide.All
import OpenK.AllK
import Wide.FinOn
import HandS.ForMost
import HandS.Exc
import HandS.TryOnly
import HandS.ExcOwn
import HandS.WordsExc
import HandS.IsInst
import HandS.Wide
import HandS.WideBits
import HandS.Flow
import HandS.Evl
import HandS.TryMany
import HandS.Style
import HandS.SortKw
import KE.DatumOrd
import HandS.ExcIs
import HandS.HotCalls
import KE.KExcIs
import HandS.ExcInit
import HandS.ExcField
import HandS.Deep
import HandS.Iter
import HandS.Text
import HandS.Codes
import HandS.StrMore
import HandS.Replace
import HandS.Zip
import HandS.SortInts
import KE.DataCmp
import HandS.Head0
import HandS.Head1
import HandS.Head2
import HandS.HeadEnd
import HandS.HeadHook1
import HandS.HeadHook2
import PyProof.ListOps
import HandS.More
import PySem.Challenge.RW_bitrail_k65_slips_by_reading
set_option Elab.async false
set_option linter.all false
set_option maxRecDepth 100000
set_option maxHeartbeats 4000000
/-! The base of all proofs over bitrail: owned cells over a frame, and the readings' steps, one a construct. -/
namespace Bt
open PySem L2
theorem n1 {α β : Type} {f : α → β} : List.map f [] = [] := rfl
theorem n2 {α : Type} {l : List α} {L : List (List α)} : (l :: L).flatten = l ++ L.flatten := List.flatten_cons
theorem n3 {α : Type} : ([] : List (List α)).flatten = [] := rfl
theorem n4 {α : Type} {a : α} {l m : List α} : (a :: l) ++ m = a :: (l ++ m) := rfl
theorem n5 {α : Type} {l : List α} : [] ++ l = l := rfl
theorem n6 {α : Type} {l : List α} : l ++ [] = l := List.append_nil l
theorem n7 {α : Type} {l m n : List α} : (l ++ m) ++ n = l ++ (m ++ n) := List.append_assoc l m n
theorem hd_ {α : Type} {a : α} {l : List α} : a ∈ a :: l := List.Mem.head _
theorem tl_ {α : Type} {a b : α} {l : List α} (h : a ∈ l) : a ∈ b :: l := List.Mem.tail _ h

/-! ### owned cells -/
abbrev Cell := Addr × HO
abbrev Ex (H H' : Hp) : Prop := ∀ a o, H a = some o → H' a = some o
theorem Ex.refl (H : Hp) : Ex H H := fun _ _ h => h
theorem Ex.trans {H H1 H2 : Hp} (a : Ex H H1) (b : Ex H1 H2) : Ex H H2 := fun x o h => b x o (a x o h)
theorem Ex.new {H : Hp} {p : Addr} {o : HO} (h : H p = none) : Ex H (upd H p o) := fun a u e => by
  rw [upd_ne (ne_of_none e h)]
  exact e
theorem Ex.back {H H' : Hp} {p : Addr} (e : Ex H H') (h : H' p = none) : H p = none := by
  cases h1 : H p with
  | none => rfl
  | some o =>
    rw [e p o h1] at h
    cases h
theorem Ex.rd {H H' : Hp} {a : Addr} {u : HO} (e : Ex H H') (h : Rd H a u) : Rd H' a u := by
  rcases h with h | ⟨o, h⟩
  · exact Or.inl (e a _ h)
  · exact Or.inr ⟨o, e a _ h⟩
theorem Ex.l {K : PySem.W.Frag} {H H' : Hp} {a : Addr} {xs : List V} (e : Ex H H') (h : SqL K H a xs) : SqL K H' a xs := by
  rcases h with h | h
  · exact Or.inl (e.rd h)
  · exact Or.inr h
theorem Ex.t {K : PySem.W.Frag} {H H' : Hp} {a : Addr} {xs : List V} (e : Ex H H') (h : SqT K H a xs) : SqT K H' a xs := by
  rcases h with h | h
  · exact Or.inl (e.rd h)
  · exact Or.inr h

/-- H holds the frame R, and beside it the cells L, at unlike places that R does not know -/
structure Own (R H : Hp) (L : List Cell) : Prop where
  ex : Ex R H
  at_ : ∀ c ∈ L, H c.1 = some c.2
  fr : ∀ c ∈ L, R c.1 = none
  nd : (L.map (·.1)).Nodup

section
variable {R H H' : Hp} {L L' A B C : List Cell} {a p q : Addr} {o o' : HO}
theorem Own.start (H : Hp) : Own H H [] := ⟨Ex.refl H, fun _ h => (nomatch h), fun _ h => (nomatch h), List.Pairwise.nil⟩
theorem Own.mem (O : Own R H L) (h : (a, o) ∈ L) : H a = some o := O.at_ _ h
theorem Own.g0 {c1 : Cell} (O : Own R H (c1 :: L)) : H c1.1 = some c1.2 := O.at_ _ (List.Mem.head _)
theorem Own.tl {c1 : Cell} (O : Own R H (c1 :: L)) : Own R H L :=
  ⟨O.ex, fun c h => O.at_ c (List.Mem.tail _ h), fun c h => O.fr c (List.Mem.tail _ h), (List.nodup_cons.mp O.nd).2⟩
theorem Own.ext (O : Own R H L) (e : Ex H H') : Own R H' L := ⟨O.ex.trans e, fun c h => e _ _ (O.at_ c h), O.fr, O.nd⟩
theorem Own.notin (O : Own R H L) (h : H p = none) : p ∉ L.map (·.1) := fun m => by
  obtain ⟨c, hc, e⟩ := List.mem_map.mp m
  have := O.at_ c hc
  rw [e, h] at this
  cases this
theorem Own.ext1 (O : Own R H L) (e : Ex H H') (h : H p = none) (h' : H' p = some o) : Own R H' ((p, o) :: L) :=
  ⟨O.ex.trans e, fun c hc => by
    rcases List.mem_cons.mp hc with rfl | hc
    · exact h'
    · exact e _ _ (O.at_ c hc), fun c hc => by
    rcases List.mem_cons.mp hc with rfl | hc
    · exact O.ex.back h
    · exact O.fr c hc, List.nodup_cons.mpr ⟨O.notin h, O.nd⟩⟩
theorem Own.new (O : Own R H L) (h : H p = none) : Own R (upd H p o) ((p, o) :: L) := O.ext1 (Ex.new h) h upd_same
/-- more cells, owned over H -/
theorem Own.app (O : Own R H L) (N : Own H H' A) : Own R H' (A ++ L) :=
  ⟨O.ex.trans N.ex, fun c hc => by
    rcases List.mem_append.mp hc with hc | hc
    · exact N.at_ c hc
    · exact N.ex _ _ (O.at_ c hc), fun c hc => by
    rcases List.mem_append.mp hc with hc | hc
    · exact O.ex.back (N.fr c hc)
    · exact O.fr c hc, by
    rw [List.map_append]
    refine List.nodup_append.mpr ⟨N.nd, O.nd, fun x hx y hy e => ?_⟩
    subst e
    obtain ⟨c, hc, e⟩ := List.mem_map.mp hx
    have := N.fr c hc
    rw [e] at this
    exact O.notin this hy⟩
theorem Own.put (O : Own R H (A ++ (p, o) :: B)) : Own R (upd H p o') (A ++ (p, o') :: B) := by
  have nd := O.nd
  rw [List.map_append, List.map_cons] at nd
  have nA : p ∉ A.map (·.1) := fun m => by
    have := (List.nodup_append.mp nd).2.2
    exact this _ m p (List.Mem.head _) rfl
  have nB : p ∉ B.map (·.1) := (List.nodup_cons.mp (List.nodup_append.mp nd).2.1).1
  have hp : R p = none := O.fr (p, o) (by simp)
  refine ⟨fun b u e => ?_, fun c hc => ?_, fun c hc => ?_, by rw [List.map_append, List.map_cons]; exact nd⟩
  · rw [upd_ne (ne_of_none e hp)]
    exact O.ex _ _ e
  · rcases List.mem_append.mp hc with hA | hc
    · rw [upd_ne (fun e : c.1 = p => nA (by rw [← e]; exact List.mem_map_of_mem hA))]
      exact O.at_ c (List.mem_append.mpr (Or.inl hA))
    · rcases List.mem_cons.mp hc with rfl | hB
      · exact upd_same
      · rw [upd_ne (fun e : c.1 = p => nB (by rw [← e]; exact List.mem_map_of_mem hB))]
        exact O.at_ c (List.mem_append.mpr (Or.inr (List.mem_cons_of_mem _ hB)))
  · rcases List.mem_append.mp hc with hA | hc
    · exact O.fr c (List.mem_append.mpr (Or.inl hA))
    · rcases List.mem_cons.mp hc with rfl | hB
      · exact hp
      · exact O.fr c (List.mem_append.mpr (Or.inr (List.mem_cons_of_mem _ hB)))
theorem Own.put0 (O : Own R H ((p, o) :: B)) : Own R (upd H p o') ((p, o') :: B) := Own.put (A := []) O
theorem Own.put1 {c1 : Cell} (O : Own R H (c1 :: (p, o) :: B)) : Own R (upd H p o') (c1 :: (p, o') :: B) := Own.put (A := [c1]) O
theorem Own.put2 {c1 c2 : Cell} (O : Own R H (c1 :: c2 :: (p, o) :: B)) : Own R (upd H p o') (c1 :: c2 :: (p, o') :: B) := Own.put (A := [c1, c2]) O
theorem Own.put3 {c1 c2 c3 : Cell} (O : Own R H (c1 :: c2 :: c3 :: (p, o) :: B)) : Own R (upd H p o') (c1 :: c2 :: c3 :: (p, o') :: B) := Own.put (A := [c1, c2, c3]) O
theorem Own.put4 {c1 c2 c3 c4 : Cell} (O : Own R H (c1 :: c2 :: c3 :: c4 :: (p, o) :: B)) : Own R (upd H p o') (c1 :: c2 :: c3 :: c4 :: (p, o') :: B) := Own.put (A := [c1, c2, c3, c4]) O
theorem Own.put5 {c1 c2 c3 c4 c5 : Cell} (O : Own R H (c1 :: c2 :: c3 :: c4 :: c5 :: (p, o) :: B)) : Own R (upd H p o') (c1 :: c2 :: c3 :: c4 :: c5 :: (p, o') :: B) := Own.put (A := [c1, c2, c3, c4, c5]) O
theorem Own.put6 {c1 c2 c3 c4 c5 c6 : Cell} (O : Own R H (c1 :: c2 :: c3 :: c4 :: c5 :: c6 :: (p, o) :: B)) : Own R (upd H p o') (c1 :: c2 :: c3 :: c4 :: c5 :: c6 :: (p, o') :: B) := Own.put (A := [c1, c2, c3, c4, c5, c6]) O
theorem Own.perm (O : Own R H L) (e : L.Perm L') : Own R H L' :=
  ⟨O.ex, fun c h => O.at_ c (e.mem_iff.mpr h), fun c h => O.fr c (e.mem_iff.mpr h), (e.map _).nodup_iff.mp O.nd⟩
/-- fewer cells -/
theorem Own.sub (O : Own R H L) (e : L'.Sublist L) : Own R H L' :=
  ⟨O.ex, fun c h => O.at_ c (e.subset h), fun c h => O.fr c (e.subset h), List.Nodup.sublist (e.map _) O.nd⟩
/-- THE FRAME: what is done to some of the cells, the others being its frame -/
theorem Own.focus (O : Own R H (A ++ B)) : ∃ R', Own R' H A ∧ Ex R R' ∧ (∀ c ∈ B, R' c.1 = some c.2) ∧ ∀ H' A', Own R' H' A' → Own R H' (A' ++ B) := by
  have nd := O.nd
  rw [List.map_append] at nd
  obtain ⟨ndA, ndB, dis⟩ := List.nodup_append.mp nd
  refine ⟨fun b => if b ∈ A.map (·.1) then none else H b, ⟨fun b u e => ?_, fun c h => O.at_ c (List.mem_append.mpr (Or.inl h)), fun c h => if_pos (List.mem_map_of_mem h), ndA⟩, fun b u e => ?_, fun c hc => ?_, fun H' A' O' => ?_⟩
  · by_cases hb : b ∈ A.map (·.1)
    · rw [if_pos hb] at e; cases e
    · rw [if_neg hb] at e; exact e
  · have hb : b ∉ A.map (·.1) := fun m => by
      obtain ⟨c, hc, e1⟩ := List.mem_map.mp m
      have := O.fr c (List.mem_append.mpr (Or.inl hc))
      rw [e1, e] at this
      cases this
    show (if b ∈ A.map (·.1) then none else H b) = some u
    rw [if_neg hb]
    exact O.ex _ _ e
  · have hb : c.1 ∉ A.map (·.1) := fun m => dis _ m _ (List.mem_map_of_mem hc) rfl
    show (if c.1 ∈ A.map (·.1) then none else H c.1) = some c.2
    rw [if_neg hb]
    exact O.at_ c (List.mem_append.mpr (Or.inr hc))
  · have hB : ∀ c ∈ B, (if c.1 ∈ A.map (·.1) then none else H c.1) = some c.2 := fun c hc => by
      have hb : c.1 ∉ A.map (·.1) := fun m => dis _ m _ (List.mem_map_of_mem hc) rfl
      rw [if_neg hb]
      exact O.at_ c (List.mem_append.mpr (Or.inr hc))
    have hR : ∀ b u, R b = some u → (if b ∈ A.map (·.1) then none else H b) = some u := fun b u e => by
      have hb : b ∉ A.map (·.1) := fun m => by
        obtain ⟨c, hc, e1⟩ := List.mem_map.mp m
        have := O.fr c (List.mem_append.mpr (Or.inl hc))
        rw [e1, e] at this
        cases this
      rw [if_neg hb]
      exact O.ex _ _ e
    refine ⟨fun b u e => O'.ex _ _ (hR b u e), fun c hc => ?_, fun c hc => ?_, ?_⟩
    · rcases List.mem_append.mp hc with hc | hc
      · exact O'.at_ c hc
      · exact O'.ex _ _ (hB c hc)
    · rcases List.mem_append.mp hc with hc | hc
      · cases e : R c.1 with
        | none => rfl
        | some u =>
          have := O'.fr c hc
          rw [hR _ _ e] at this
          cases this
      · exact O.fr c (List.mem_append.mpr (Or.inr hc))
    · rw [List.map_append]
      refine List.nodup_append.mpr ⟨O'.nd, ndB, fun x hx y hy e => ?_⟩
      subst e
      obtain ⟨c, hc, e⟩ := List.mem_map.mp hx
      obtain ⟨d, hd, e2⟩ := List.mem_map.mp hy
      have h1 := O'.fr c hc
      have h2 := hB d hd
      rw [e2, ← e, h1] at h2
      cases h2
/-- the frame may be what is there now: all else is kept -/
theorem Own.over (O : Own R H L) : Own H H [] := Own.start H
end

/-! ### what a call hands back: a value; a new list; a new tuple -/
def RetV (v : V) (H : Hp) (Q : VK) : Prop := ∀ H', Ex H H' → Q v H'
def RetL (xs : List V) (H : Hp) (Q : VK) : Prop := ∀ p H', H p = none → Ex H H' → H' p = some (.lst xs) → Q (.ref p) H'
def RetT (xs : List V) (H : Hp) (Q : VK) : Prop := ∀ p H', H p = none → Ex H H' → H' p = some (.tup xs) → Q (.ref p) H'
/-- any new cells, as D says -/
def RetN (D : V → List Cell → Prop) (H : Hp) (Q : VK) : Prop := ∀ v H' L, Own H H' L → D v L → Q v H'
section
variable {R H : Hp} {L : List Cell} {Q : VK} {v : V} {xs : List V}
theorem Own.retV (O : Own R H L) (k : ∀ H', Own R H' L → Q v H') : RetV v H Q := fun H' e => k H' (O.ext e)
theorem Own.retL (O : Own R H L) (k : ∀ p H', Own R H' ((p, .lst xs) :: L) → Q (.ref p) H') : RetL xs H Q := fun p H' h e h' => k p H' (O.ext1 e h h')
theorem Own.retT (O : Own R H L) (k : ∀ p H', Own R H' ((p, .tup xs) :: L) → Q (.ref p) H') : RetT xs H Q := fun p H' h e h' => k p H' (O.ext1 e h h')
theorem Own.retN {D : V → List Cell → Prop} (O : Own R H L) (k : ∀ v H' N, Own R H' (N ++ L) → D v N → Q v H') : RetN D H Q := fun v H' N o d => k v H' N (O.app o) d
/-- the end of a def that started at H: what it hands back is new -/
theorem RetV.go {H0 H : Hp} {L : List Cell} {v : V} {Q : VK} (k : RetV v H0 Q) (O : Own H0 H L) : Q v H := k H O.ex
theorem RetL.go {H0 H : Hp} {L : List Cell} {xs : List V} {Q : VK} {p : Addr} (k : RetL xs H0 Q) (O : Own H0 H L) (h : (p, HO.lst xs) ∈ L) : Q (.ref p) H := k p H (O.fr _ h) O.ex (O.at_ _ h)
theorem RetT.go {H0 H : Hp} {L : List Cell} {xs : List V} {Q : VK} {p : Addr} (k : RetT xs H0 Q) (O : Own H0 H L) (h : (p, HO.tup xs) ∈ L) : Q (.ref p) H := k p H (O.fr _ h) O.ex (O.at_ _ h)
theorem RetN.go {H0 H : Hp} {L N : List Cell} {D : V → List Cell → Prop} {Q : VK} {v : V} (k : RetN D H0 Q) (O : Own H0 H L) (e : N.Sublist L) (d : D v N) : Q v H := k v H N (O.sub e) d
end

end Bt

set_option Elab.async false
set_option linter.all false
set_option maxRecDepth 100000
set_option maxHeartbeats 4000000
/-! The mirror's words (partial functions: none where the program would stop), and the steps that join a reading with its mirror. -/
namespace Bt
open PySem L2

/-! ### the mirror's words -/
section
variable {α β γ S R T : Type}
def ltv (a : α) (f : α → Option β) : Option β := f a
theorem ltvE {a : α} {f : α → Option β} {r : β} (h : ltv a f = some r) : ∃ x, a = x ∧ f x = some r := ⟨a, rfl, h⟩
def bnd (a : Option α) (f : α → Option β) : Option β := match a with
  | some x => f x
  | none => none
theorem bndE {a : Option α} {f : α → Option β} {r : β} (h : bnd a f = some r) : ∃ x, a = some x ∧ f x = some r := by
  cases a with
  | none => cases h
  | some x => exact ⟨x, rfl, h⟩
def ifB (c : Bool) (a b : α) : α := match c with
  | true => a
  | false => b
theorem ifT {c : Bool} {a b r : α} (h : ifB c a b = r) (hc : c = true) : a = r := by subst hc; exact h
theorem ifF {c : Bool} {a b r : α} (h : ifB c a b = r) (hc : c = false) : b = r := by subst hc; exact h
inductive Fl (S R : Type) where
  | nx (s : S)
  | rt (r : R)
  | bk (s : S)
def finK (rest : S → Option R) : Fl S R → Option R
  | .nx s => rest s
  | .rt r => some r
  | .bk _ => none
def fin (a : Option (Fl S R)) (rest : S → Option R) : Option R := bnd a (finK rest)
def floK (rest : S → Option (Fl T R)) : Fl S R → Option (Fl T R)
  | .nx s => rest s
  | .rt r => some (.rt r)
  | .bk _ => none
def flo (a : Option (Fl S R)) (rest : S → Option (Fl T R)) : Option (Fl T R) := bnd a (floK rest)
theorem finRt {rest : S → Option R} {v r : R} (h : finK rest (.rt v) = some r) : v = r := Option.some.inj h
theorem floRt {rest : S → Option (Fl T R)} {v : R} {fl : Fl T R} (h : floK rest (.rt v) = some fl) : Fl.rt v = fl := Option.some.inj h
def loopM (f : α → S → Option S) : List α → S → Option S
  | [], s => some s
  | x :: r, s => bnd (f x s) (loopM f r)
theorem loopM_nil {f : α → S → Option S} {s out : S} (h : loopM f [] s = some out) : out = s := (Option.some.inj h).symm
theorem loopM_cons {f : α → S → Option S} {x : α} {r : List α} {s out : S} (h : loopM f (x :: r) s = some out) : ∃ s', f x s = some s' ∧ loopM f r s' = some out := bndE h
def contF (go : S → Option (Fl S R)) : Fl S R → Option (Fl S R)
  | .nx s => go s
  | .rt r => some (.rt r)
  | .bk s => some (.nx s)
def loopF (f : α → S → Option (Fl S R)) : List α → S → Option (Fl S R)
  | [], s => some (.nx s)
  | x :: r, s => bnd (f x s) (contF (loopF f r))
theorem loopF_nil {f : α → S → Option (Fl S R)} {s : S} {out : Fl S R} (h : loopF f [] s = some out) : Fl.nx s = out := Option.some.inj h
theorem loopF_cons {f : α → S → Option (Fl S R)} {x : α} {r : List α} {s : S} {out : Fl S R} (h : loopF f (x :: r) s = some out) : ∃ fl, f x s = some fl ∧ contF (loopF f r) fl = some out := bndE h
theorem contRt {go : S → Option (Fl S R)} {v : R} {out : Fl S R} (h : contF go (.rt v) = some out) : Fl.rt v = out := Option.some.inj h
theorem contBk {go : S → Option (Fl S R)} {s : S} {out : Fl S R} (h : contF go (.bk s) = some out) : Fl.nx s = out := Option.some.inj h
def whileM (c : S → Option Bool) (f : S → Option S) : Nat → S → Option S
  | 0, _ => none
  | n + 1, s => bnd (c s) fun b => ifB b (bnd (f s) (whileM c f n)) (some s)
theorem whileM_zero {c : S → Option Bool} {f : S → Option S} {s out : S} (h : whileM c f 0 s = some out) : False := nomatch h
theorem whileM_succ {c : S → Option Bool} {f : S → Option S} {n : Nat} {s out : S} (h : whileM c f (n + 1) s = some out) : ∃ b, c s = some b ∧ ifB b (bnd (f s) (whileM c f n)) (some s) = some out := bndE h
def whileF (c : S → Option Bool) (f : S → Option (Fl S R)) : Nat → S → Option (Fl S R)
  | 0, _ => none
  | n + 1, s => bnd (c s) fun b => ifB b (bnd (f s) (contF (whileF c f n))) (some (.nx s))
theorem whileF_succ {c : S → Option Bool} {f : S → Option (Fl S R)} {n : Nat} {s : S} {out : Fl S R} (h : whileF c f (n + 1) s = some out) : ∃ b, c s = some b ∧ ifB b (bnd (f s) (contF (whileF c f n))) (some (.nx s)) = some out := bndE h
/-- a comprehension: what is kept, in order -/
def compM (f : α → Option β) : List α → List β → Option (List β)
  | [], acc => some acc
  | x :: r, acc => bnd (f x) fun y => if acc.length < 16777216 then compM f r (acc ++ [y]) else none
theorem compM_cons {f : α → Option β} {x : α} {r : List α} {acc out : List β} (h : compM f (x :: r) acc = some out) : ∃ y, f x = some y ∧ acc.length < 16777216 ∧ compM f r (acc ++ [y]) = some out := by
  obtain ⟨y, h1, h2⟩ := bndE (show bnd (f x) (fun y => if acc.length < 16777216 then compM f r (acc ++ [y]) else none) = some out from h)
  by_cases c : acc.length < 16777216
  · rw [if_pos c] at h2
    exact ⟨y, h1, c, h2⟩
  · rw [if_neg c] at h2
    cases h2
theorem compM_nil {f : α → Option β} {acc out : List β} (h : compM f [] acc = some out) : out = acc := (Option.some.inj h).symm
/-- .. with a test -/
def compT (c : α → Option Bool) (f : α → Option β) : List α → List β → Option (List β)
  | [], acc => some acc
  | x :: r, acc => bnd (c x) fun b => ifB b (bnd (f x) fun y => if acc.length < 16777216 then compT c f r (acc ++ [y]) else none) (compT c f r acc)
theorem compT_nil {c : α → Option Bool} {f : α → Option β} {acc out : List β} (h : compT c f [] acc = some out) : out = acc := (Option.some.inj h).symm
theorem compT_cons {c : α → Option Bool} {f : α → Option β} {x : α} {r : List α} {acc out : List β} (h : compT c f (x :: r) acc = some out) :
    ∃ b, c x = some b ∧ ifB b (bnd (f x) fun y => if acc.length < 16777216 then compT c f r (acc ++ [y]) else none) (compT c f r acc) = some out := bndE h
theorem compT_yes {c : α → Option Bool} {f : α → Option β} {x : α} {r : List α} {acc out : List β} (h : (bnd (f x) fun y => if acc.length < 16777216 then compT c f r (acc ++ [y]) else none) = some out) :
    ∃ y, f x = some y ∧ acc.length < 16777216 ∧ compT c f r (acc ++ [y]) = some out := by
  obtain ⟨y, h1, h2⟩ := bndE h
  by_cases c : acc.length < 16777216
  · rw [if_pos c] at h2
    exact ⟨y, h1, c, h2⟩
  · rw [if_neg c] at h2
    cases h2
end
section
variable {α : Type}
def grd (c : Prop) [Decidable c] (a : α) : Option α := if c then some a else none
theorem grdE {c : Prop} [Decidable c] {a r : α} (h : grd c a = some r) : c ∧ a = r := by
  unfold grd at h
  by_cases hc : c
  · rw [if_pos hc] at h
    exact ⟨hc, Option.some.inj h⟩
  · rw [if_neg hc] at h
    cases h
theorem grd_of {c : Prop} [Decidable c] {a : α} (h : c) : grd c a = some a := if_pos h
def appG (xs : List α) (y : α) : Option (List α) := grd (xs.length < 16777216) (xs ++ [y])
def catG (xs ys : List α) : Option (List α) := grd (xs.length + ys.length ≤ 16777216) (xs ++ ys)
def repL (xs : List α) : Nat → List α
  | 0 => []
  | n + 1 => xs ++ repL xs n
def repG (xs : List α) (k : Int) : Option (List α) := grd (-(2 ^ 63) ≤ k ∧ k < 2 ^ 63 ∧ xs.length * k.toNat ≤ 16777216) (List.flatten (List.replicate k.toNat xs))
def setG (xs : List α) (i : Int) (y : α) : Option (List α) := match ixN xs.length i with
  | some j => some (xs.set j y)
  | none => none
def cutL (xs : List α) (lo hi : Option Int) : List α := (xs.drop (HT.sIx xs.length 0 lo)).take (HT.sIx xs.length xs.length hi - HT.sIx xs.length 0 lo)
def rangeI (lo hi : Int) : List Int := (List.range (hi - lo).toNat).map fun (i : Nat) => lo + (i : Int)
def rng1 (hi : Int) : Option (List Int) := grd (-(2 ^ 62) ≤ hi ∧ hi < 2 ^ 62) (rangeI 0 hi)
def rng2 (lo hi : Int) : Option (List Int) := grd (-(2 ^ 62) ≤ lo ∧ lo < 2 ^ 62 ∧ -(2 ^ 62) ≤ hi ∧ hi < 2 ^ 62) (rangeI lo hi)
end
def modG (i j : Int) : Option Int := grd (0 < j) (i % j)
def fdivG (i j : Int) : Option Int := grd (0 < j ∧ j.natAbs.log2 < 9000) (i / j)
def mulG (i j : Int) : Option Int := grd (i.natAbs.log2 + j.natAbs.log2 < 1000000) (i * j)
def shlG (i j : Int) : Option Int := grd (0 ≤ j ∧ (Builtin.Int.intBits i : Int) + j ≤ 2 ^ 27) (i * 2 ^ j.toNat)
def shrG (i j : Int) : Option Int := grd (0 ≤ j) (i / 2 ^ j.toNat)
def powG (i j : Int) : Option Int := grd (0 ≤ j ∧ j ≤ 1000000 ∧ i.natAbs < 2 ^ 64) (i ^ j.toNat)

/-! ### the steps -/
section
variable {K : PySem.W.Frag} {σ : St} {H R : Hp} {L : List Cell} {Q : VK} {i j t : Int} {x y z v : V} {a b p q : Addr} {α : Type} {f : α → V} {xs ys zs : List α} {xs' ys' : List Int}
theorem k_mul (h : mulG i j = some t) (k : Q (.int t) H) : rI CMulW (fun i j => .int (i * j)) (.int i) (.int j) H Q := by
  obtain ⟨c, rfl⟩ := grdE h
  exact ⟨_, _, rfl, rfl, c, k⟩
theorem k_mod (h : modG i j = some t) (k : Q (.int t) H) : rI (fun _ j => 0 < j) (fun i j => .int (i % j)) (.int i) (.int j) H Q := by
  obtain ⟨c, rfl⟩ := grdE h
  exact ⟨_, _, rfl, rfl, c, k⟩
theorem k_fdiv (h : fdivG i j = some t) (k : Q (.int t) H) : rI CDivW (fun i j => .int (i / j)) (.int i) (.int j) H Q := by
  obtain ⟨c, rfl⟩ := grdE h
  exact ⟨_, _, rfl, rfl, c, k⟩
theorem k_shl (h : shlG i j = some t) (k : Q (.int t) H) : rI CShl (fun i j => .int (i * 2 ^ j.toNat)) (.int i) (.int j) H Q := by
  obtain ⟨c, rfl⟩ := grdE h
  exact ⟨_, _, rfl, rfl, c, k⟩
theorem k_shr (h : shrG i j = some t) (k : Q (.int t) H) : rI (fun _ j => 0 ≤ j) (fun i j => .int (i / 2 ^ j.toNat)) (.int i) (.int j) H Q := by
  obtain ⟨c, rfl⟩ := grdE h
  exact ⟨_, _, rfl, rfl, c, k⟩
theorem k_pow (h : powG i j = some t) (k : Q (.int t) H) : rI CPow (fun i j => .int (i ^ j.toNat)) (.int i) (.int j) H Q := by
  obtain ⟨c, rfl⟩ := grdE h
  exact ⟨_, _, rfl, rfl, c, k⟩
theorem dec_int (i j : Int) : decide (V.int i = V.int j) = decide (i = j) := by
  by_cases h : i = j
  · subst h; simp
  · have : ¬ V.int i = V.int j := fun e => h (V.int.inj e)
    simp [h, this]
theorem dec_bl (i j : Bool) : decide (V.bl i = V.bl j) = decide (i = j) := by
  by_cases h : i = j
  · subst h; simp
  · have : ¬ V.bl i = V.bl j := fun e => h (V.bl.inj e)
    simp [h, this]
theorem dec_str (i j : Str) : decide (V.str i = V.str j) = decide (i = j) := by
  by_cases h : i = j
  · subst h; simp
  · have : ¬ V.str i = V.str j := fun e => h (V.str.inj e)
    simp [h, this]
theorem k_eqI (k : Q (.bl (decide (i = j))) H) : rEq (.int i) (.int j) H Q := ⟨rfl, by rw [dec_int]; exact k⟩
theorem k_neI (k : Q (.bl (!decide (i = j))) H) : rNe (.int i) (.int j) H Q := ⟨rfl, by rw [dec_int]; exact k⟩
theorem k_eqB {c d : Bool} (k : Q (.bl (decide (c = d))) H) : rEq (.bl c) (.bl d) H Q := ⟨rfl, by rw [dec_bl]; exact k⟩
theorem k_neB {c d : Bool} (k : Q (.bl (!decide (c = d))) H) : rNe (.bl c) (.bl d) H Q := ⟨rfl, by rw [dec_bl]; exact k⟩
theorem k_eqS {c d : Str} (k : Q (.bl (decide (c = d))) H) : rEq (.str c) (.str d) H Q := ⟨rfl, by rw [dec_str]; exact k⟩
theorem k_neS {c d : Str} (k : Q (.bl (!decide (c = d))) H) : rNe (.str c) (.str d) H Q := ⟨rfl, by rw [dec_str]; exact k⟩
/-! deep == of flat lists -/
theorem dpI : ∀ (ns : List Int), DpAll K H (ns.map V.int) (ns.map PyData.int)
  | [] => .nil
  | n :: r => .cons (.int n) (dpI r)
theorem dpB : ∀ (ns : List Bool), DpAll K H (ns.map V.bl) (ns.map PyData.bool)
  | [] => .nil
  | n :: r => .cons (.bl n) (dpB r)
theorem dpS : ∀ (ns : List Str), DpAll K H (ns.map V.str) (ns.map PyData.str)
  | [] => .nil
  | n :: r => .cons (.str n) (dpS r)

theorem sh_I (ns : List Int) : SeqAt.shaped (.list (ns.map PyData.int)) = true := by
  have h1 : ∀ ns : List Int, PyData.canLayAll0 (ns.map PyData.int) = true := fun ns => by
    induction ns with
    | nil => rfl
    | cons n r ih => simpa [PyData.canLayAll0, PyData.canLay0] using ih
  have h2 : ∀ ns : List Int, PyData.depthAll (ns.map PyData.int) = 0 := fun ns => by
    induction ns with
    | nil => rfl
    | cons n r ih => simpa [PyData.depthAll, PyData.depth] using ih
  simp [SeqAt.shaped, PyData.canLay0, h1, PyData.depth, h2]
theorem sh_B (ns : List Bool) : SeqAt.shaped (.list (ns.map PyData.bool)) = true := by
  have h1 : ∀ ns : List Bool, PyData.canLayAll0 (ns.map PyData.bool) = true := fun ns => by
    induction ns with
    | nil => rfl
    | cons n r ih => simpa [PyData.canLayAll0, PyData.canLay0] using ih
  have h2 : ∀ ns : List Bool, PyData.depthAll (ns.map PyData.bool) = 0 := fun ns => by
    induction ns with
    | nil => rfl
    | cons n r ih => simpa [PyData.depthAll, PyData.depth] using ih
  simp [SeqAt.shaped, PyData.canLay0, h1, PyData.depth, h2]
theorem ev_I : ∀ (ns ms : List Int), PyData.eqv (.list (ns.map PyData.int)) (.list (ms.map PyData.int)) = decide (ns = ms) := by
  have h : ∀ (ns ms : List Int), PyData.eqvAll (ns.map PyData.int) (ms.map PyData.int) = decide (ns = ms) := fun ns => by
    induction ns with
    | nil => intro ms; cases ms <;> simp [PyData.eqvAll]
    | cons n r ih =>
      intro ms
      cases ms with
      | nil => simp [PyData.eqvAll]
      | cons m s =>
        simp only [List.map_cons, PyData.eqvAll, PyData.eqv, ih, List.cons.injEq, Bool.decide_and]
        rw [Bool.beq_eq_decide_eq]
  exact fun ns ms => by simpa only [PyData.eqv] using h ns ms
theorem k_eqLI (ha : SqL K H a (xs'.map V.int)) (hb : SqL K H b (ys'.map V.int)) (k : Q (.bl (decide (xs' = ys'))) H) : rEqD K (.ref a) (.ref b) H Q :=
  ⟨_, _, .lst ha (dpI _), .lst hb (dpI _), sh_I _, sh_I _, by rw [ev_I]; exact k⟩
theorem k_neLI (ha : SqL K H a (xs'.map V.int)) (hb : SqL K H b (ys'.map V.int)) (k : Q (.bl (!decide (xs' = ys'))) H) : rNeD K (.ref a) (.ref b) H Q :=
  ⟨_, _, .lst ha (dpI _), .lst hb (dpI _), sh_I _, sh_I _, by rw [ev_I]; exact k⟩
/-! lists -/
theorem k_len (h : SqL K H a (xs.map f)) (k : Q (.int (xs.length : Int)) H) : ∃ p ys, [V.ref a] = [V.ref p] ∧ (SqL K H p ys ∨ SqT K H p ys) ∧ Q (.int ys.length) H :=
  ⟨a, _, rfl, .inl h, by rw [List.length_map]; exact k⟩
theorem k_list (O : Own R H L) {ys : List V} (h : SqL K H a ys) (k : ∀ p H', Own R H' ((p, .lst ys) :: L) → Q (.ref p) H') : ∃ p ys, [V.ref a] = [V.ref p] ∧ (SqL K H p ys ∨ SqT K H p ys) ∧ ∀ l, H l = none → Q (.ref l) (upd H l (.lst ys)) :=
  ⟨a, _, rfl, .inl h, fun l hl => k l _ (O.new hl)⟩
theorem k_sum (h : SqL K H a (xs'.map V.int)) (k : Q (.int xs'.sum) H) : rSum K [.ref a] H Q := ⟨a, _, rfl, h, k⟩
theorem k_new {zs : List V} (O : Own R H L) (k : ∀ p H', Own R H' ((p, .lst zs) :: L) → Q (.ref p) H') : ∀ p, H p = none → Q (.ref p) (upd H p (.lst zs)) := fun p hp => k p _ (O.new hp)
theorem k_newT {zs : List V} (O : Own R H L) (k : ∀ p H', Own R H' ((p, .tup zs) :: L) → Q (.ref p) H') : ∀ p, H p = none → Q (.ref p) (upd H p (.tup zs)) := fun p hp => k p _ (O.new hp)
theorem at_map {xs : List α} {i : Int} {x : α} (h : atI xs i = some x) (f : α → V) : atI (xs.map f) i = some (f x) := by
  unfold atI at h ⊢
  rw [List.length_map]
  cases e : ixN xs.length i with
  | none => rw [e] at h; cases h
  | some j =>
    rw [e] at h
    show (xs.map f)[j]? = some (f x)
    rw [List.getElem?_map, (show xs[j]? = some x from h)]
    rfl
theorem k_ixL {x : α} (hs : SqL K H a (xs.map f)) (h : atI xs i = some x) (k : Q (f x) H) : rIxL K (.ref a) (.int i) H Q := ⟨a, _, i, _, rfl, rfl, hs, at_map h f, k⟩
theorem map_snoc (xs : List α) (x : α) (f : α → V) : xs.map f ++ [f x] = (xs ++ [x]).map f := by rw [List.map_append]; rfl
theorem k_app {x : α} {g : HO → List Cell} (hl : H a = some (.lst (xs.map f))) (hp : ∀ o', Own R (upd H a o') (g o')) (h : appG xs x = some ys) (k : ∀ H', Own R H' (g (.lst (ys.map f))) → Q .non H') : rAppend (.ref a) [f x] H Q := by
  obtain ⟨c, rfl⟩ := grdE h
  refine ⟨a, _, _, rfl, rfl, hl, by rw [List.length_map]; exact c, ?_⟩
  rw [map_snoc]
  exact k _ (hp _)
theorem map_cut (xs : List α) (lo hi : Option Int) (f : α → V) : cutV (xs.map f) lo hi = (cutL xs lo hi).map f := by
  unfold cutV cutL
  rw [List.length_map, ← List.map_drop, ← List.map_take]
theorem k_cut {lo hi : Option Int} (O : Own R H L) (hs : SqL K H a (xs.map f)) (k : ∀ p H', Own R H' ((p, .lst ((cutL xs lo hi).map f)) :: L) → Q (.ref p) H') : rSlL K (.ref a) lo hi H Q :=
  ⟨a, _, rfl, hs, fun p hp => by rw [map_cut]; exact k p _ (O.new hp)⟩
theorem k_cat {ys zs : List α} (O : Own R H L) (h1 : H a = some (.lst (xs.map f))) (h2 : H b = some (.lst (ys.map f))) (h : catG xs ys = some zs) (k : ∀ p H', Own R H' ((p, .lst (zs.map f)) :: L) → Q (.ref p) H') : rCat (.ref a) (.ref b) H Q := by
  obtain ⟨c, rfl⟩ := grdE h
  exact ⟨a, b, _, _, rfl, rfl, h1, h2, by rw [List.length_map, List.length_map]; exact c, fun p hp => by rw [← List.map_append]; exact k p _ (O.new hp)⟩
theorem k_setL {x : α} {g : HO → List Cell} {QH : Hp → Prop} (hl : H a = some (.lst (xs.map f))) (hp : ∀ o', Own R (upd H a o') (g o')) (h : setG xs i x = some ys) (k : ∀ H', Own R H' (g (.lst (ys.map f))) → QH H') : rSetL (.ref a) (.int i) (f x) H QH := by
  unfold setG at h
  cases e : ixN xs.length i with
  | none => rw [e] at h; cases h
  | some j =>
    rw [e] at h
    cases h
    refine ⟨a, _, i, j, rfl, rfl, hl, by rw [List.length_map]; exact e, ?_⟩
    have e2 : (xs.map f).set j (f x) = (xs.set j x).map f := by rw [List.map_set]
    rw [e2]
    exact k _ (hp _)
/-! tests with two sides: what the one is asked for, the other is not seen -/
theorem x_and {c d e : Bool} {tt uu : TT} {QB : Bool → Hp → Prop} (O : Own R H L) (h1 : ∀ Q1 : Bool → Hp → Prop, (∀ H', Own R H' L → Q1 c H') → tt σ H Q1) (h2 : c = true → e = d ∧ ∀ H', Own R H' L → ∀ Q2 : Bool → Hp → Prop, (∀ H'', Own R H'' L → Q2 e H'') → uu σ H' Q2)
    (h3 : c = false → false = d) (k : ∀ H', Own R H' L → QB d H') : tAnd tt uu σ H QB := by
  refine h1 _ fun H' O' => ?_
  cases c with
  | true =>
    obtain ⟨e1, g2⟩ := h2 rfl
    subst e1
    exact g2 H' O' QB k
  | false =>
    rw [← h3 rfl] at k
    exact k H' O'
theorem x_or {c d e : Bool} {tt uu : TT} {QB : Bool → Hp → Prop} (O : Own R H L) (h1 : ∀ Q1 : Bool → Hp → Prop, (∀ H', Own R H' L → Q1 c H') → tt σ H Q1) (h2 : c = false → e = d ∧ ∀ H', Own R H' L → ∀ Q2 : Bool → Hp → Prop, (∀ H'', Own R H'' L → Q2 e H'') → uu σ H' Q2)
    (h3 : c = true → true = d) (k : ∀ H', Own R H' L → QB d H') : tOr tt uu σ H QB := by
  refine h1 _ fun H' O' => ?_
  cases c with
  | false =>
    obtain ⟨e1, g2⟩ := h2 rfl
    subst e1
    exact g2 H' O' QB k
  | true =>
    rw [← h3 rfl] at k
    exact k H' O'
theorem x_andV {c d e : Bool} {tt uu : TE} (O : Own R H L) (h1 : ∀ Q1 : VK, (∀ H', Own R H' L → Q1 (.bl c) H') → tt σ H Q1) (h2 : c = true → e = d ∧ ∀ H', Own R H' L → ∀ Q2 : VK, (∀ H'', Own R H'' L → Q2 (.bl e) H'') → uu σ H' Q2)
    (h3 : c = false → false = d) (k : ∀ H', Own R H' L → Q (.bl d) H') : tAndV tt uu σ H Q := by
  refine h1 _ fun H' O' => ⟨_, rfl, ?_⟩
  cases c with
  | true =>
    obtain ⟨e1, g2⟩ := h2 rfl
    subst e1
    exact g2 H' O' Q k
  | false =>
    rw [← h3 rfl] at k
    exact k H' O'
theorem x_orV {c d e : Bool} {tt uu : TE} (O : Own R H L) (h1 : ∀ Q1 : VK, (∀ H', Own R H' L → Q1 (.bl c) H') → tt σ H Q1) (h2 : c = false → e = d ∧ ∀ H', Own R H' L → ∀ Q2 : VK, (∀ H'', Own R H'' L → Q2 (.bl e) H'') → uu σ H' Q2)
    (h3 : c = true → true = d) (k : ∀ H', Own R H' L → Q (.bl d) H') : tOrV tt uu σ H Q := by
  refine h1 _ fun H' O' => ⟨_, rfl, ?_⟩
  cases c with
  | false =>
    obtain ⟨e1, g2⟩ := h2 rfl
    subst e1
    exact g2 H' O' Q k
  | true =>
    rw [← h3 rfl] at k
    exact k H' O'
/-- a < b < c -/
theorem x_chain {r r' : R2} {c d e : Bool} {ta tb tc : TE} (O : Own R H L) (h1 : ∀ Q1 : VK, (∀ H', Own R H' L → Q1 x H') → ta σ H Q1) (h2 : ∀ H', Own R H' L → ∀ Q1 : VK, (∀ H', Own R H' L → Q1 y H') → tb σ H' Q1) (h3 : ∀ H' (Q1 : VK), Q1 (.bl c) H' → r x y H' Q1)
    (h4 : c = true → e = d ∧ ∀ H', Own R H' L → ∀ Q1 : VK, (∀ H', Own R H' L → Q1 z H') → tc σ H' Q1) (h5 : ∀ H' (Q1 : VK), Q1 (.bl e) H' → r' y z H' Q1) (h6 : c = false → false = d) (k : ∀ H', Own R H' L → Q (.bl d) H') : tChain r r' ta tb tc σ H Q := by
  refine h1 _ fun H1 O1 => h2 H1 O1 _ fun H2 O2 => h3 H2 _ ⟨c, rfl, ?_⟩
  cases c with
  | true =>
    obtain ⟨e1, g4⟩ := h4 rfl
    subst e1
    exact g4 H2 O2 _ fun H3 O3 => h5 H3 _ (k H3 O3)
  | false =>
    rw [← h6 rfl] at k
    exact k H2 O2
/-- a if c else b, a value -/
theorem x_if {c : Bool} {tt : TT} {ta tb : TE} (O : Own R H L) (h1 : ∀ Q1 : Bool → Hp → Prop, (∀ H', Own R H' L → Q1 c H') → tt σ H Q1) (h2 : c = true → x = v ∧ ∀ H', Own R H' L → ∀ Q2 : VK, (∀ H'', Own R H'' L → Q2 x H'') → ta σ H' Q2)
    (h3 : c = false → y = v ∧ ∀ H', Own R H' L → ∀ Q2 : VK, (∀ H'', Own R H'' L → Q2 y H'') → tb σ H' Q2) (k : ∀ H', Own R H' L → Q v H') : tIf tt ta tb σ H Q := by
  refine h1 _ fun H' O' => ?_
  cases c with
  | true =>
    obtain ⟨e1, g2⟩ := h2 rfl
    subst e1
    exact g2 H' O' Q k
  | false =>
    obtain ⟨e1, g3⟩ := h3 rfl
    subst e1
    exact g3 H' O' Q k
theorem iteS {c : Bool} {A B : Prop} (h1 : c = true → A) (h2 : c = false → B) : if c = true then A else B := by
  cases c with
  | true => rw [if_pos rfl]; exact h1 rfl
  | false => rw [if_neg Bool.false_ne_true]; exact h2 rfl
/-! loops -/
theorem k_forL {g : TG} {tb : TS} {D : Ends} (J : List α → St → Hp → Prop) (h0 : J xs σ H) (hl : ∀ r σ H, J r σ H → SqL K H a (xs.map f))
    (hs : ∀ x r σ H, J (x :: r) σ H → g (f x) σ H fun σ2 H2 => tb { D with nx := J r, ct := J r, bk := D.nx } σ2 H2) (hd : ∀ σ H, J [] σ H → D.nx σ H) :
    ∃ W : Nat → Nat → St → Hp → Prop, (∃ m, W 0 m σ H) ∧ ∀ i m σ H, W i m σ H →
      ((Itl K a).stop i H ∧ D.nx σ H) ∨ ((Itl K a).go i H ∧ ∃ N : St → Hp → Prop, (∀ σ' H', N σ' H' → ∃ m', m' < m ∧ W (i + 1) m' σ' H') ∧ ∀ x H', (Itl K a).yld i H x H' → g x σ H' fun σ2 H2 => tb { D with nx := N, ct := N, bk := D.nx } σ2 H2) := by
  refine for_list (xs := xs.map f) (fun i σ H => J (xs.drop i) σ H) h0 (fun i σ H _ => hl _ σ H) (fun i x σ H hi hJ => ?_) fun σ H hJ => ?_
  · rw [List.getElem?_map] at hi
    cases e : xs[i]? with
    | none => rw [e] at hi; cases hi
    | some y =>
      rw [e] at hi
      cases hi
      have e2 : xs.drop i = y :: xs.drop (i + 1) := by
        obtain ⟨h1, h2⟩ := List.getElem?_eq_some_iff.mp e
        rw [← h2]
        exact List.drop_eq_getElem_cons h1
      rw [e2] at hJ
      exact hs y _ σ H hJ
  · rw [List.length_map, List.drop_length] at hJ
    exact hd σ H hJ
theorem k_forR {lo : Int} {n : Nat} {g : TG} {tb : TS} {D : Ends} (J : List Int → St → Hp → Prop) (h0 : J ((List.range n).map fun (i : Nat) => lo + (i : Int)) σ H)
    (hs : ∀ x r σ H, J (x :: r) σ H → g (.int x) σ H fun σ2 H2 => tb { D with nx := J r, ct := J r, bk := D.nx } σ2 H2) (hd : ∀ σ H, J [] σ H → D.nx σ H) :
    ∃ W : Nat → Nat → St → Hp → Prop, (∃ m, W 0 m σ H) ∧ ∀ i m σ H, W i m σ H →
      ((Itr lo n).stop i H ∧ D.nx σ H) ∨ ((Itr lo n).go i H ∧ ∃ N : St → Hp → Prop, (∀ σ' H', N σ' H' → ∃ m', m' < m ∧ W (i + 1) m' σ' H') ∧ ∀ x H', (Itr lo n).yld i H x H' → g x σ H' fun σ2 H2 => tb { D with nx := N, ct := N, bk := D.nx } σ2 H2) := by
  refine for_range (fun i σ H => J (((List.range n).map fun (i : Nat) => lo + (i : Int)).drop i) σ H) h0 (fun i σ H hi hJ => ?_) fun σ H hJ => ?_
  · have e2 : ((List.range n).map fun (i : Nat) => lo + (i : Int)).drop i = (lo + (i : Int)) :: ((List.range n).map fun (i : Nat) => lo + (i : Int)).drop (i + 1) := by
      have h1 : i < ((List.range n).map fun (i : Nat) => lo + (i : Int)).length := by simpa using hi
      rw [List.drop_eq_getElem_cons h1]
      simp
    rw [e2] at hJ
    exact hs _ _ σ H hJ
  · have e : ((List.range n).map fun (i : Nat) => lo + (i : Int)).drop n = [] := List.drop_eq_nil_of_le (by simp)
    rw [e] at hJ
    exact hd σ H hJ
theorem k_rng1 {RJ : It → Hp → Prop} (h : rng1 j = some xs') (k : xs' = ((List.range j.toNat).map fun (i : Nat) => (0 : Int) + (i : Int)) → RJ (Itr 0 j.toNat) H) : ∃ j' : Int, [V.int j] = [V.int j'] ∧ -(2 ^ 62) ≤ j' ∧ j' < 2 ^ 62 ∧ RJ (Itr 0 j'.toNat) H := by
  obtain ⟨⟨c1, c2⟩, rfl⟩ := grdE h
  exact ⟨j, rfl, c1, c2, k (by unfold rangeI; rw [Int.sub_zero])⟩
theorem k_rng2 {RJ : It → Hp → Prop} (h : rng2 i j = some xs') (k : xs' = ((List.range (j - i).toNat).map fun (n : Nat) => i + (n : Int)) → RJ (Itr i (j - i).toNat) H) :
    ∃ i' j' : Int, [V.int i, V.int j] = [V.int i', V.int j'] ∧ (-(2 ^ 62) ≤ i' ∧ i' < 2 ^ 62 ∧ -(2 ^ 62) ≤ j' ∧ j' < 2 ^ 62) ∧ RJ (Itr i' (j' - i').toNat) H := by
  obtain ⟨c, rfl⟩ := grdE h
  exact ⟨i, j, rfl, c, k rfl⟩
/-- while: J, by the turns that the mirror still has -/
theorem k_while {tc : TT} {tb : TS} {D : Ends} (J : Nat → St → Hp → Prop) (n : Nat) (h0 : J n σ H)
    (hs : ∀ n σ H, J n σ H → tc σ H fun b H1 => if b = true then ∃ N : St → Hp → Prop, (∀ σ' H', N σ' H' → ∃ m', m' < n ∧ J m' σ' H') ∧ tb { D with nx := N, ct := N, bk := D.nx } σ H1 else D.nx σ H1) : tWhile tc tb D σ H :=
  ⟨J, ⟨n, h0⟩, hs⟩
/-! comprehensions -/
theorem k_lcL {g : TG} {te : TE} {vs : List Nat} {D : Addr} {Qd : Hp → Prop} (J : List α → Hp → Prop) (h0 : J xs (upd H D (.lst []))) (hl : ∀ r H, J r H → SqL K H a (xs.map f))
    (hs : ∀ x r H, J (x :: r) H → g (f x) (wipe σ vs) H fun σ2 H2 => wipe σ2 vs = wipe σ vs ∧ te σ2 H2 fun y H4 => ∃ acc, H4 D = some (.lst acc) ∧ acc.length < sizeLine ∧ J r (upd H4 D (.lst (acc ++ [y])))) (hd : ∀ H, J [] H → Qd H) :
    ∃ W : Nat → Nat → Hp → Prop, (∃ m, W 0 m (upd H D (.lst []))) ∧ ∀ i m H, W i m H →
      ((Itl K a).stop i H ∧ Qd H) ∨ ((Itl K a).go i H ∧ ∃ Nx : Hp → Prop, (∀ H', Nx H' → ∃ m', m' < m ∧ W (i + 1) m' H') ∧ ∀ x H', (Itl K a).yld i H x H' → g x (wipe σ vs) H' fun σ2 H2 => wipe σ2 vs = wipe σ vs ∧ tYes σ2 H2 fun b H3 =>
        if b = true then te σ2 H3 fun y H4 => ∃ acc, H4 D = some (.lst acc) ∧ acc.length < sizeLine ∧ Nx (upd H4 D (.lst (acc ++ [y]))) else Nx H3) := by
  refine lc_list (xs := xs.map f) (fun i H => J (xs.drop i) H) h0 (fun i H _ => hl _ H) (fun i x H hi hJ => ?_) fun H hJ => ?_
  · rw [List.getElem?_map] at hi
    cases e : xs[i]? with
    | none => rw [e] at hi; cases hi
    | some y =>
      rw [e] at hi
      cases hi
      have e2 : xs.drop i = y :: xs.drop (i + 1) := by
        obtain ⟨h1, h2⟩ := List.getElem?_eq_some_iff.mp e
        rw [← h2]
        exact List.drop_eq_getElem_cons h1
      rw [e2] at hJ
      exact hs y _ H hJ
  · rw [List.length_map, List.drop_length] at hJ
    exact hd H hJ
theorem k_lcR {lo : Int} {n : Nat} {g : TG} {te : TE} {vs : List Nat} {D : Addr} {Qd : Hp → Prop} (J : List Int → Hp → Prop) (h0 : J ((List.range n).map fun (i : Nat) => lo + (i : Int)) (upd H D (.lst [])))
    (hs : ∀ x r H, J (x :: r) H → g (.int x) (wipe σ vs) H fun σ2 H2 => wipe σ2 vs = wipe σ vs ∧ te σ2 H2 fun y H4 => ∃ acc, H4 D = some (.lst acc) ∧ acc.length < sizeLine ∧ J r (upd H4 D (.lst (acc ++ [y])))) (hd : ∀ H, J [] H → Qd H) :
    ∃ W : Nat → Nat → Hp → Prop, (∃ m, W 0 m (upd H D (.lst []))) ∧ ∀ i m H, W i m H →
      ((Itr lo n).stop i H ∧ Qd H) ∨ ((Itr lo n).go i H ∧ ∃ Nx : Hp → Prop, (∀ H', Nx H' → ∃ m', m' < m ∧ W (i + 1) m' H') ∧ ∀ x H', (Itr lo n).yld i H x H' → g x (wipe σ vs) H' fun σ2 H2 => wipe σ2 vs = wipe σ vs ∧ tYes σ2 H2 fun b H3 =>
        if b = true then te σ2 H3 fun y H4 => ∃ acc, H4 D = some (.lst acc) ∧ acc.length < sizeLine ∧ Nx (upd H4 D (.lst (acc ++ [y]))) else Nx H3) := by
  refine lc_range (fun i H => J (((List.range n).map fun (i : Nat) => lo + (i : Int)).drop i) H) h0 (fun i H hi hJ => ?_) fun H hJ => ?_
  · have e2 : ((List.range n).map fun (i : Nat) => lo + (i : Int)).drop i = (lo + (i : Int)) :: ((List.range n).map fun (i : Nat) => lo + (i : Int)).drop (i + 1) := by
      have h1 : i < ((List.range n).map fun (i : Nat) => lo + (i : Int)).length := by simpa using hi
      rw [List.drop_eq_getElem_cons h1]
      simp
    rw [e2] at hJ
    exact hs _ _ H hJ
  · have e : ((List.range n).map fun (i : Nat) => lo + (i : Int)).drop n = [] := List.drop_eq_nil_of_le (by simp)
    rw [e] at hJ
    exact hd H hJ
end
end Bt

set_option Elab.async false
set_option linter.all false
set_option maxRecDepth 100000
set_option maxHeartbeats 4000000
/-! More steps. -/
namespace Bt
open PySem L2
/-- a name of the module that holds a value -/
def Gv (mg : Str → Option Value) (x : Str) (v : V) : Prop := ∃ u, mg x = some u ∧ RelV v u
theorem pe_gv {X : Cx} {x : Str} {v : V} {pos : Pos} (hg : Gl X x) (h : Gv X.mg x v) (hd : (x == ("__debug__" : Str)) = false := by decide) : PE X (.Name x pos) (tC v) := by
  obtain ⟨u, h1, h2⟩ := h
  exact pe_glob hg h1 h2 hd
section
variable {α S T R' : Type}
theorem finNx {rest : S → Option R'} {s : S} {r : R'} (h : finK rest (.nx s) = some r) : rest s = some r := h
theorem floNx {rest : S → Option (Fl T R')} {s : S} {fl : Fl T R'} (h : floK rest (.nx s) = some fl) : rest s = some fl := h
end
section
variable {K : PySem.W.Frag} {σ : St} {H R : Hp} {L L' : List Cell} {Q : VK} {a b p : Addr} {α : Type} {f : α → V} {xs ys zs : List α}
/-- some of the cells, by their places -/
theorem Own.sel (O : Own R H L) (is : List Nat) (hd : is.Nodup) (e : is.map (fun i => L[i]?) = L'.map some) : Own R H L' := by
  have hm : ∀ c ∈ L', c ∈ L := fun c hc => by
    have h1 : some c ∈ is.map (fun i => L[i]?) := by rw [e]; exact List.mem_map_of_mem hc
    obtain ⟨i, _, h2⟩ := List.mem_map.mp h1
    exact List.mem_of_getElem? h2
  refine ⟨O.ex, fun c h => O.at_ c (hm c h), fun c h => O.fr c (hm c h), ?_⟩
  clear hm
  induction is generalizing L' with
  | nil =>
    cases L' with
    | nil => exact List.Pairwise.nil
    | cons c r => simp at e
  | cons i is ih =>
    cases L' with
    | nil => simp at e
    | cons c r =>
      simp only [List.map_cons, List.cons.injEq] at e
      obtain ⟨e1, e2⟩ := e
      obtain ⟨n1, n2⟩ := List.nodup_cons.mp hd
      refine List.nodup_cons.mpr ⟨fun m => ?_, ih n2 e2⟩
      obtain ⟨d, hdm, ed⟩ := List.mem_map.mp m
      have h1 : some d ∈ is.map (fun i => L[i]?) := by rw [e2]; exact List.mem_map_of_mem hdm
      obtain ⟨j, hj, h2⟩ := List.mem_map.mp h1
      have g1 : (L.map (·.1))[i]? = some c.1 := by rw [List.getElem?_map, e1]; rfl
      have g2 : (L.map (·.1))[j]? = some c.1 := by
        rw [List.getElem?_map, h2]
        exact congrArg some ed
      have : i = j := nd_ix O.nd g1 g2
      subst this
      exact n1 hj
/-- the same, told by what is left -/
def pickL (L : List Cell) (is : List Nat) : List Cell := is.filterMap fun i => L[i]?
theorem pick_some (L : List Cell) : ∀ is : List Nat, (∀ i ∈ is, i < L.length) → is.map (fun i => L[i]?) = (pickL L is).map some
  | [], _ => rfl
  | i :: r, h => by
    have h1 := h i (List.Mem.head _)
    have ih := pick_some L r fun j hj => h j (List.Mem.tail _ hj)
    unfold pickL at ih ⊢
    rw [List.map_cons, List.filterMap_cons, ih, List.getElem?_eq_getElem h1]
    rfl
theorem Own.pk (O : Own R H L) (is : List Nat) (hd : is.Nodup) (e : pickL L is = L') : Own R H L' := by
  subst e
  have hm : pickL L is = pickL L (is.filter fun i => decide (i < L.length)) := by
    unfold pickL
    clear hd
    induction is with
    | nil => rfl
    | cons i r ih =>
      rw [List.filterMap_cons, List.filter_cons, ih]
      by_cases h : i < L.length
      · rw [decide_eq_true h, if_pos rfl, List.filterMap_cons]
      · rw [decide_eq_false h, if_neg (by simp), List.getElem?_eq_none (by omega)]
  rw [hm]
  exact O.sel _ (hd.filter _) (pick_some L _ fun i hi => by
    obtain ⟨_, h⟩ := List.mem_filter.mp hi
    exact of_decide_eq_true h)
theorem a_set {v v' : V} {nx : St → Hp → Prop} {i : Nat} (e : v = v') (k : nx (σ.set i (some v')) H) : nx (σ.set i (some v)) H := by rw [e]; exact k
theorem k_newM {zs : List V} (O : Own R H L) (e : xs.map f = zs) (k : ∀ p H', Own R H' ((p, .lst (xs.map f)) :: L) → Q (.ref p) H') : ∀ p, H p = none → Q (.ref p) (upd H p (.lst zs)) := by
  subst e
  exact fun p hp => k p _ (O.new hp)
theorem k_rep {k : Int} (O : Own R H L) (h1 : H a = some (.lst (xs.map f))) (h : repG xs k = some zs) (q : ∀ p H', Own R H' ((p, .lst (zs.map f)) :: L) → Q (.ref p) H') : rRep (.ref a) (.int k) H Q := by
  obtain ⟨⟨c1, c2, c3⟩, rfl⟩ := grdE h
  refine ⟨a, k, _, rfl, rfl, h1, c1, c2, by rw [List.length_map]; exact c3, fun p hp => ?_⟩
  have e : ∀ n : Nat, (List.replicate n (xs.map f)).flatten = (List.replicate n xs).flatten.map f := fun n => by
    induction n with
    | zero => rfl
    | succ n ih => rw [List.replicate_succ, List.flatten_cons, ih, List.replicate_succ, List.flatten_cons, List.map_append]
  first
    | (rw [e]; exact q p _ (O.new hp))
    | (show Q (.ref p) _; simpa only [e] using q p _ (O.new hp))
end
end Bt
namespace Bt
open PySem L2
/-! readings under a name of their own, so that what follows stands as an argument -/
@[irreducible] def rNewL (xs : List V) (H : Hp) (Q : VK) : Prop := xs.length ≤ sizeLine ∧ ∀ p, H p = none → Q (.ref p) (upd H p (.lst xs))
@[irreducible] def rNewT (xs : List V) (H : Hp) (Q : VK) : Prop := xs.length ≤ sizeLine ∧ ∀ p, H p = none → Q (.ref p) (upd H p (.tup xs))
@[irreducible] def rLenQ (K : PySem.W.Frag) (xs : List V) (H : Hp) (Q : VK) : Prop := ∃ p ys, xs = [V.ref p] ∧ (SqL K H p ys ∨ SqT K H p ys) ∧ Q (.int ys.length) H
@[irreducible] def rListQ (K : PySem.W.Frag) (xs : List V) (H : Hp) (Q : VK) : Prop := ∃ p ys, xs = [V.ref p] ∧ (SqL K H p ys ∨ SqT K H p ys) ∧ ∀ l, H l = none → Q (.ref l) (upd H l (.lst ys))
section
variable {X : Cx}
theorem pe_lstQ {es : List Expr} {t : TA} {pos : Pos} (h : PE X (.List es pos) (tLst t)) : PE X (.List es pos) (fun σ H Q => t σ H fun xs H1 => rNewL xs H1 Q) := by
  unfold rNewL
  exact h
theorem pe_tupQ {es : List Expr} {k : Nat} {t : TA} {pos : Pos} (h : PE X (.Tuple es k pos) (tTup t)) : PE X (.Tuple es k pos) (fun σ H Q => t σ H fun xs H1 => rNewT xs H1 Q) := by
  unfold rNewT
  exact h
theorem call_lenQ : CallR X (.builtin "len") (rLenQ X.K) := by
  have e : rLenQ X.K = fun xs H Q => ∃ p ys, xs = [V.ref p] ∧ (SqL X.K H p ys ∨ SqT X.K H p ys) ∧ Q (.int ys.length) H := by
    funext xs H Q
    unfold rLenQ
    rfl
  rw [e]
  exact call_len_seq
theorem call_listQ : CallR X (.type "list") (rListQ X.K) := by
  have e : rListQ X.K = fun xs H Q => ∃ p ys, xs = [V.ref p] ∧ (SqL X.K H p ys ∨ SqT X.K H p ys) ∧ ∀ l, H l = none → Q (.ref l) (upd H l (.lst ys)) := by
    funext xs H Q
    unfold rListQ
    rfl
  rw [e]
  exact call_list_of
end
section
variable {K : PySem.W.Frag} {σ : St} {H R : Hp} {L L' : List Cell} {Q : VK} {a b p : Addr} {α : Type} {f : α → V} {xs ys zs : List α}
theorem x_nil {QA : List V → Hp → Prop} (h : QA [] H) : tNil σ H QA := h
theorem x_np {QO : Option Int → Hp → Prop} (h : QO none H) : tNoPart σ H QO := h
theorem n_lst {zs : List V} (O : Own R H L) (e : xs.map f = zs) (hz : zs.length ≤ sizeLine) (k : ∀ p H', Own R H' ((p, .lst (xs.map f)) :: L) → Q (.ref p) H') : rNewL zs H Q := by
  subst e
  unfold rNewL
  exact ⟨hz, fun p hp => k p _ (O.new hp)⟩
theorem n_lenT {K : PySem.W.Frag} {H : Hp} {Q : VK} {a : Addr} {ys : List V} {n : Nat} (hs : SqT K H a ys) (hn : ys.length = n) (q : Q (.int (n : Int)) H) : rLenQ K [.ref a] H Q := by
  unfold rLenQ
  exact ⟨a, ys, rfl, .inr hs, by rw [hn]; exact q⟩
theorem n_len (h : SqL K H a (xs.map f)) (k : Q (.int (xs.length : Int)) H) : rLenQ K [.ref a] H Q := by
  unfold rLenQ
  exact ⟨a, _, rfl, .inl h, by rw [List.length_map]; exact k⟩
theorem n_list {ys : List V} (O : Own R H L) (h : SqL K H a ys) (k : ∀ p H', Own R H' ((p, .lst ys) :: L) → Q (.ref p) H') : rListQ K [.ref a] H Q := by
  unfold rListQ
  exact ⟨a, _, rfl, .inl h, fun l hl => k l _ (O.new hl)⟩
theorem rng1E {j : Int} {xs : List Int} (h : rng1 j = some xs) : -(2 ^ 62) ≤ j ∧ j < 2 ^ 62 ∧ ((List.range j.toNat).map fun (i : Nat) => (0 : Int) + (i : Int)) = xs := by
  obtain ⟨⟨c1, c2⟩, rfl⟩ := grdE h
  exact ⟨c1, c2, by unfold rangeI; rw [Int.sub_zero]⟩
theorem rng2E {i j : Int} {xs : List Int} (h : rng2 i j = some xs) : (-(2 ^ 62) ≤ i ∧ i < 2 ^ 62 ∧ -(2 ^ 62) ≤ j ∧ j < 2 ^ 62) ∧ ((List.range (j - i).toNat).map fun (n : Nat) => i + (n : Int)) = xs := by
  obtain ⟨c, rfl⟩ := grdE h
  exact ⟨c, rfl⟩
end
end Bt
namespace Bt
open PySem L2
/-! a reading opened by one step, by its head -/
section
variable {K : PySem.W.Frag} {σ : St} {H : Hp} {Q : VK} {D : Ends} {t u ts : TS} {te ta tb tl : TE} {tr : TA} {c : TT} {v : V} {i : Nat} {r : R2} {QB : Bool → Hp → Prop} {QA : List V → Hp → Prop} {QO : Option Int → Hp → Prop} {R : It → Hp → Prop}
theorem o_seq {n b k : St → Hp → Prop} {w : VK} (h : t (Ends.mk (u (Ends.mk n w b k)) w b k) σ H) : tSeq t u (Ends.mk n w b k) σ H := h
theorem o_asg {n b k : St → Hp → Prop} {w : VK} (h : te σ H fun x H1 => n (σ.set i (some x)) H1) : tAsg te (gName i) (Ends.mk n w b k) σ H := h
theorem o_drop {n b k : St → Hp → Prop} {w : VK} (h : te σ H fun _ H1 => n σ H1) : tDrop te (Ends.mk n w b k) σ H := h
theorem o_ret {n b k : St → Hp → Prop} {w : VK} (h : te σ H w) : tRet te (Ends.mk n w b k) σ H := h
theorem o_ifs {n b k : St → Hp → Prop} {w : VK} (h : c σ H fun z H1 => if z = true then t (Ends.mk n w b k) σ H1 else u (Ends.mk n w b k) σ H1) : tIfS c t u (Ends.mk n w b k) σ H := h
theorem o_next {n b k : St → Hp → Prop} {w : VK} (h : n σ H) : tNext (Ends.mk n w b k) σ H := h
theorem o_brk {n b k : St → Hp → Prop} {w : VK} (h : b σ H) : tBreak (Ends.mk n w b k) σ H := h
theorem o_cont {n b k : St → Hp → Prop} {w : VK} (h : k σ H) : tCont (Ends.mk n w b k) σ H := h
theorem o_retN {n b k : St → Hp → Prop} {w : VK} (h : w .non H) : tRetN (Ends.mk n w b k) σ H := h
theorem o_cut {n b k : St → Hp → Prop} {w : VK} (Mid : St → Hp → Prop) (h1 : t (Ends.mk Mid w b k) σ H) (h2 : ∀ σ' H', Mid σ' H' → u (Ends.mk n w b k) σ' H') : Evl.tCut t u (Ends.mk n w b k) σ H := ⟨Mid, h1, h2⟩
theorem o_op (h : ta σ H fun x H1 => tb σ H1 fun y H2 => r x y H2 Q) : tOp r ta tb σ H Q := h
theorem o_un {r : V → Hp → VK → Prop} (h : ta σ H fun x H1 => r x H1 Q) : tUn r ta σ H Q := h
theorem o_c (h : Q v H) : tC v σ H Q := h
theorem o_test (h : te σ H fun x H' => ∃ k, x = .bl k ∧ QB k H') : tTest te σ H QB := h
theorem o_B (h : te σ H fun x H' => ∃ k, x = .bl k ∧ QB k H') : tB te σ H QB := h
theorem o_not (h : c σ H fun b H1 => QB (!b) H1) : tNot c σ H QB := h
theorem o_notV (h : te σ H fun x H1 => ∃ c, x = .bl c ∧ Q (.bl (!c)) H1) : tNotV te σ H Q := h
theorem o_cons (h : ta σ H fun x H1 => tr σ H1 fun xs H2 => QA (x :: xs) H2) : tCons ta tr σ H QA := h
theorem o_cb {r : List V → Hp → VK → Prop} (h : tr σ H fun vs H1 => r vs H1 Q) : tCB r tr σ H Q := h
theorem o_call {sp : Sp} {dvs : List V} {E : XK} (h : tr σ H fun vs H1 => sp (vs ++ dvs) H1 Q E) : tCall sp dvs E tr σ H Q := h
theorem o_bm {T : String} {r : V → List V → Hp → VK → Prop} (h : te σ H fun x H1 => tyV K T x H1 ∧ tr σ H1 fun xs H2 => r x xs H2 Q) : tBM K T r te tr σ H Q := h
theorem o_bm0 {T : String} {r : V → List V → Hp → VK → Prop} (h : te σ H fun x H1 => tyV K T x H1 ∧ r x [] H1 Q) : tBM0 K T r te σ H Q := h
theorem o_sl {r : V → Option Int → Option Int → Hp → VK → Prop} {t1 t2 : TO} (h : te σ H fun x H1 => t1 σ H1 fun l H2 => t2 σ H2 fun u H3 => r x l u H3 Q) : tSl r te t1 t2 σ H Q := h
theorem o_part (h : te σ H fun x H1 => ∃ i, x = .int i ∧ QO (some i) H1) : tPart te σ H QO := h
theorem o_for {wi : TI} {g : TG} {n b k : St → Hp → Prop} {w : VK} (h : wi σ H fun J H1 => ∃ W : Nat → Nat → St → Hp → Prop, (∃ m, W 0 m σ H1) ∧ ∀ i m σ H, W i m σ H →
    (J.stop i H ∧ n σ H) ∨ (J.go i H ∧ ∃ N : St → Hp → Prop, (∀ σ' H', N σ' H' → ∃ m', m' < m ∧ W (i + 1) m' σ' H') ∧ ∀ x H', J.yld i H x H' → g x σ H' fun σ2 H2 => ts (Ends.mk N w n N) σ2 H2)) : tFor wi g ts (Ends.mk n w b k) σ H := h
theorem o_il (h : tl σ H fun x H1 => ∃ a, x = .ref a ∧ (∃ xs, SqL K H1 a xs) ∧ R (Itl K a) H1) : iList K tl σ H R := h
theorem o_ir1 (h : tr σ H fun vs H1 => ∃ j : Int, vs = [.int j] ∧ -(2 ^ 62) ≤ j ∧ j < 2 ^ 62 ∧ R (Itr 0 j.toNat) H1) : iRng1 tr σ H R := h
theorem o_ir2 (h : tr σ H fun vs H1 => ∃ i j : Int, vs = [.int i, .int j] ∧ (-(2 ^ 62) ≤ i ∧ i < 2 ^ 62 ∧ -(2 ^ 62) ≤ j ∧ j < 2 ^ 62) ∧ R (Itr i (j - i).toNat) H1) : iRng2 tr σ H R := h
theorem o_sub {to ti : TE} {tset : TSet} {n b k : St → Hp → Prop} {w : VK} (h : te σ H fun x H1 => to σ H1 fun o H2 => ti σ H2 fun i H3 => tset o i x H3 fun H4 => n σ H4) : tAsg te (gSub to ti tset) (Ends.mk n w b k) σ H := h
/-! the loops once more, their ends apart -/
variable {α : Type} {f : α → V} {xs : List α} {a : Addr} {g : TG} {n b k : St → Hp → Prop} {w : VK}
theorem q_forL {j : Nat} (J : List α → St → Hp → Prop) (h0 : J xs σ H) (hl : ∀ r σ H, J r σ H → SqL K H a (xs.map f))
    (hs : ∀ x r σ H, J (x :: r) σ H → ts (Ends.mk (J r) w n (J r)) (σ.set j (some (f x))) H) (hd : ∀ σ H, J [] σ H → n σ H) :
    ∃ W : Nat → Nat → St → Hp → Prop, (∃ m, W 0 m σ H) ∧ ∀ i m σ H, W i m σ H →
      ((Itl K a).stop i H ∧ n σ H) ∨ ((Itl K a).go i H ∧ ∃ N : St → Hp → Prop, (∀ σ' H', N σ' H' → ∃ m', m' < m ∧ W (i + 1) m' σ' H') ∧ ∀ x H', (Itl K a).yld i H x H' → gName j x σ H' fun σ2 H2 => ts (Ends.mk N w n N) σ2 H2) :=
  k_forL (D := Ends.mk n w (fun _ _ => False) fun _ _ => False) (g := gName j) (tb := ts) J h0 hl hs hd
theorem q_forR {j : Nat} {lo : Int} {m : Nat} (J : List Int → St → Hp → Prop) (h0 : J ((List.range m).map fun (i : Nat) => lo + (i : Int)) σ H)
    (hs : ∀ x r σ H, J (x :: r) σ H → ts (Ends.mk (J r) w n (J r)) (σ.set j (some (.int x))) H) (hd : ∀ σ H, J [] σ H → n σ H) :
    ∃ W : Nat → Nat → St → Hp → Prop, (∃ m, W 0 m σ H) ∧ ∀ i m' σ H, W i m' σ H →
      ((Itr lo m).stop i H ∧ n σ H) ∨ ((Itr lo m).go i H ∧ ∃ N : St → Hp → Prop, (∀ σ' H', N σ' H' → ∃ m'', m'' < m' ∧ W (i + 1) m'' σ' H') ∧ ∀ x H', (Itr lo m).yld i H x H' → gName j x σ H' fun σ2 H2 => ts (Ends.mk N w n N) σ2 H2) :=
  k_forR (D := Ends.mk n w (fun _ _ => False) fun _ _ => False) (g := gName j) (tb := ts) J h0 hs hd
end
end Bt
namespace Bt
open PySem L2
/-! what the head tells of a def -/
theorem def_mk {K : PySem.W.Frag} {h : Heap} {mg : Str → Option Value} {name qual : Str} {st : Stmt} {f : Addr} {od an : Option Addr} {sl : Array (Option Value)} {oc kV dc pm cd ct : Value} (X : K.In h) (G : h.Ns mainGlobals mg)
    (a : PySem.W.nsIn K mainGlobals name = some (some (.ref f))) (l : K.lookup f = some ⟨oc, od, .func (PySem.W.fnOf name qual (defArgs st) (defBody st) (defScope st) .none kV dc pm an cd ct), sl⟩) (c : PySem.W.codeIn K cd qual = true) (k : PySem.W.keepIn K (.ref f) = true) :
    ∃ f fd, Fun K name qual st f fd ∧ mg name = some (.ref f) := ⟨f, _, fun_mk l c k, PySem.W.mg_of X G a⟩
theorem gv_int {K : PySem.W.Frag} {h : Heap} {mg : Str → Option Value} {x : Str} {i : Int} {t : Tok} (X : K.In h) (G : h.Ns mainGlobals mg) (a : PySem.W.nsIn K mainGlobals x = some (some (.int i t))) : Gv mg x (.int i) := ⟨_, PySem.W.mg_of X G a, _, rfl⟩
end Bt
namespace Bt
open PySem L2
section
variable {K : PySem.W.Frag} {σ : St} {H R : Hp} {L : List Cell} {Q : VK} {a p : Addr} {i : Int} {x v : V} {S R' : Type}
def FUEL : Nat := 100000
theorem whileM_end {c : Bool} {s out : S} {f : Option S} (h : ifB c f (some s) = some out) (hc : c = false) : out = s := (Option.some.inj (ifF h hc)).symm
theorem whileF_end {c : Bool} {s : S} {out : Fl S R'} {f : Option (Fl S R')} (h : ifB c f (some (.nx s)) = some out) (hc : c = false) : Fl.nx s = out := Option.some.inj (ifF h hc)
/-- while: J, by the turns that the mirror still has -/
theorem q_while {tc : TT} {ts : TS} {n b k : St → Hp → Prop} {w : VK} (J : Nat → St → Hp → Prop) (m : Nat) (h0 : J m σ H) (hz : ∀ σ H, J 0 σ H → False)
    (hs : ∀ m σ H, J (m + 1) σ H → tc σ H fun z H1 => if z = true then ts (Ends.mk (J m) w n (J m)) σ H1 else n σ H1) (mono : ∀ σ H (Q Q' : Bool → Hp → Prop), (∀ z H1, Q z H1 → Q' z H1) → tc σ H Q → tc σ H Q') : tWhile tc ts (Ends.mk n w b k) σ H := by
  refine ⟨J, ⟨m, h0⟩, fun m σ H hJ => ?_⟩
  cases m with
  | zero => exact (hz σ H hJ).elim
  | succ m =>
    refine mono σ H _ _ (fun z H1 q => ?_) (hs m σ H hJ)
    cases z with
    | true =>
      rw [if_pos rfl] at q ⊢
      exact ⟨J m, fun σ' H' hJ' => ⟨m, Nat.lt_succ_self m, hJ'⟩, q⟩
    | false =>
      rw [if_neg Bool.false_ne_true] at q ⊢
      exact q
theorem o_while {tc : TT} {ts : TS} {n b k : St → Hp → Prop} {w : VK} (J : Nat → St → Hp → Prop) (m : Nat) (h0 : J m σ H) (hz : ∀ σ H, J 0 σ H → False)
    (hs : ∀ m σ H, J (m + 1) σ H → tc σ H fun z H1 => if z = true then ∃ N : St → Hp → Prop, (∀ σ' H', N σ' H' → ∃ m', m' < m + 1 ∧ J m' σ' H') ∧ ts (Ends.mk N w n N) σ H1 else n σ H1) : tWhile tc ts (Ends.mk n w b k) σ H := by
  refine ⟨J, ⟨m, h0⟩, fun m σ H hJ => ?_⟩
  cases m with
  | zero => exact (hz σ H hJ).elim
  | succ m => exact hs m σ H hJ
theorem o_turn {J : Nat → St → Hp → Prop} {m : Nat} {ts : TS} {n : St → Hp → Prop} {w : VK} (h : ts (Ends.mk (J m) w n (J m)) σ H) :
    ∃ N : St → Hp → Prop, (∀ σ' H', N σ' H' → ∃ m', m' < m + 1 ∧ J m' σ' H') ∧ ts (Ends.mk N w n N) σ H := ⟨J m, fun _ _ hJ => ⟨m, Nat.lt_succ_self m, hJ⟩, h⟩
theorem n_tup {zs : List V} (O : Own R H L) (hz : zs.length ≤ sizeLine) (k : ∀ p H', Own R H' ((p, .tup zs) :: L) → Q (.ref p) H') : rNewT zs H Q := by
  unfold rNewT
  exact ⟨hz, fun p hp => k p _ (O.new hp)⟩
theorem k_ixT {xs : List V} (hs : SqT K H a xs) (h : atI xs i = some v) (k : Q v H) : rIxT K (.ref a) (.int i) H Q := ⟨a, xs, i, v, rfl, rfl, hs, h, k⟩
end
end Bt
namespace Bt
open PySem L2
section
variable {K : PySem.W.Frag} {σ : St} {H R : Hp} {L : List Cell} {Q : VK} {a p : Addr} {i : Int} {x v : V} {α : Type} {f : α → V} {xs : List α}
theorem inV_int (i : Int) : ∀ xs : List Int, inV (.int i) (xs.map V.int) = decide (i ∈ xs)
  | [] => rfl
  | y :: r => by
    have ih := inV_int i r
    have e : inV (.int i) ((y :: r).map V.int) = (eqV (.int y) (.int i) || inV (.int i) (r.map V.int)) := rfl
    rw [e, ih]
    have e2 : eqV (.int y) (.int i) = decide (i = y) := by
      by_cases h : i = y
      · subst h; simp [eqV]
      · have : ¬ y = i := fun q => h q.symm
        simp [eqV, h, this]
    rw [e2]
    simp
theorem flat_int : ∀ xs : List Int, (xs.map V.int).all flatV = true
  | [] => rfl
  | y :: r => by
    have ih := flat_int r
    show (flatV (.int y) && (r.map V.int).all flatV) = true
    rw [ih]
    rfl
theorem k_inL {ns : List Int} (hs : SqL K H a (ns.map V.int)) (k : Q (.bl (decide (i ∈ ns))) H) : rIn K false (.int i) (.ref a) H Q :=
  ⟨a, _, rfl, .inl hs, rfl, flat_int _, by rw [inV_int]; exact k⟩
theorem k_niL {ns : List Int} (hs : SqL K H a (ns.map V.int)) (k : Q (.bl (!decide (i ∈ ns))) H) : rIn K true (.int i) (.ref a) H Q :=
  ⟨a, _, rfl, .inl hs, rfl, flat_int _, by rw [inV_int]; exact k⟩
theorem k_inT {ns : List Int} (hs : SqT K H a (ns.map V.int)) (k : Q (.bl (decide (i ∈ ns))) H) : rIn K false (.int i) (.ref a) H Q :=
  ⟨a, _, rfl, .inr hs, rfl, flat_int _, by rw [inV_int]; exact k⟩
theorem k_niT {ns : List Int} (hs : SqT K H a (ns.map V.int)) (k : Q (.bl (!decide (i ∈ ns))) H) : rIn K true (.int i) (.ref a) H Q :=
  ⟨a, _, rfl, .inr hs, rfl, flat_int _, by rw [inV_int]; exact k⟩
/-! comprehensions with a test -/
theorem k_lcLt {g : TG} {tt : TT} {te : TE} {vs : List Nat} {D : Addr} {Qd : Hp → Prop} (J : List α → Hp → Prop) (h0 : J xs (upd H D (.lst []))) (hl : ∀ r H, J r H → SqL K H a (xs.map f))
    (hs : ∀ x r H, J (x :: r) H → g (f x) (wipe σ vs) H fun σ2 H2 => wipe σ2 vs = wipe σ vs ∧ tt σ2 H2 fun b H3 => if b = true then te σ2 H3 fun y H4 => ∃ acc, H4 D = some (.lst acc) ∧ acc.length < sizeLine ∧ J r (upd H4 D (.lst (acc ++ [y]))) else J r H3) (hd : ∀ H, J [] H → Qd H) :
    ∃ W : Nat → Nat → Hp → Prop, (∃ m, W 0 m (upd H D (.lst []))) ∧ ∀ i m H, W i m H →
      ((Itl K a).stop i H ∧ Qd H) ∨ ((Itl K a).go i H ∧ ∃ Nx : Hp → Prop, (∀ H', Nx H' → ∃ m', m' < m ∧ W (i + 1) m' H') ∧ ∀ x H', (Itl K a).yld i H x H' → g x (wipe σ vs) H' fun σ2 H2 => wipe σ2 vs = wipe σ vs ∧ tt σ2 H2 fun b H3 =>
        if b = true then te σ2 H3 fun y H4 => ∃ acc, H4 D = some (.lst acc) ∧ acc.length < sizeLine ∧ Nx (upd H4 D (.lst (acc ++ [y]))) else Nx H3) := by
  refine lc_list (xs := xs.map f) (fun i H => J (xs.drop i) H) h0 (fun i H _ => hl _ H) (fun i x H hi hJ => ?_) fun H hJ => ?_
  · rw [List.getElem?_map] at hi
    cases e : xs[i]? with
    | none => rw [e] at hi; cases hi
    | some y =>
      rw [e] at hi
      cases hi
      have e2 : xs.drop i = y :: xs.drop (i + 1) := by
        obtain ⟨h1, h2⟩ := List.getElem?_eq_some_iff.mp e
        rw [← h2]
        exact List.drop_eq_getElem_cons h1
      rw [e2] at hJ
      exact hs y _ H hJ
  · rw [List.length_map, List.drop_length] at hJ
    exact hd H hJ
theorem k_lcRt {lo : Int} {n : Nat} {g : TG} {tt : TT} {te : TE} {vs : List Nat} {D : Addr} {Qd : Hp → Prop} (J : List Int → Hp → Prop) (h0 : J ((List.range n).map fun (i : Nat) => lo + (i : Int)) (upd H D (.lst [])))
    (hs : ∀ x r H, J (x :: r) H → g (.int x) (wipe σ vs) H fun σ2 H2 => wipe σ2 vs = wipe σ vs ∧ tt σ2 H2 fun b H3 => if b = true then te σ2 H3 fun y H4 => ∃ acc, H4 D = some (.lst acc) ∧ acc.length < sizeLine ∧ J r (upd H4 D (.lst (acc ++ [y]))) else J r H3) (hd : ∀ H, J [] H → Qd H) :
    ∃ W : Nat → Nat → Hp → Prop, (∃ m, W 0 m (upd H D (.lst []))) ∧ ∀ i m H, W i m H →
      ((Itr lo n).stop i H ∧ Qd H) ∨ ((Itr lo n).go i H ∧ ∃ Nx : Hp → Prop, (∀ H', Nx H' → ∃ m', m' < m ∧ W (i + 1) m' H') ∧ ∀ x H', (Itr lo n).yld i H x H' → g x (wipe σ vs) H' fun σ2 H2 => wipe σ2 vs = wipe σ vs ∧ tt σ2 H2 fun b H3 =>
        if b = true then te σ2 H3 fun y H4 => ∃ acc, H4 D = some (.lst acc) ∧ acc.length < sizeLine ∧ Nx (upd H4 D (.lst (acc ++ [y]))) else Nx H3) := by
  refine lc_range (fun i H => J (((List.range n).map fun (i : Nat) => lo + (i : Int)).drop i) H) h0 (fun i H hi hJ => ?_) fun H hJ => ?_
  · have e2 : ((List.range n).map fun (i : Nat) => lo + (i : Int)).drop i = (lo + (i : Int)) :: ((List.range n).map fun (i : Nat) => lo + (i : Int)).drop (i + 1) := by
      have h1 : i < ((List.range n).map fun (i : Nat) => lo + (i : Int)).length := by simpa using hi
      rw [List.drop_eq_getElem_cons h1]
      simp
    rw [e2] at hJ
    exact hs _ _ H hJ
  · have e : ((List.range n).map fun (i : Nat) => lo + (i : Int)).drop n = [] := List.drop_eq_nil_of_le (by simp)
    rw [e] at hJ
    exact hd H hJ
/-! for i, x in enumerate(xs) -/
def enumI {α : Type} : Nat → List α → List (Int × α)
  | _, [] => []
  | n, x :: r => ((n : Int), x) :: enumI (n + 1) r
theorem enumI_drop {α : Type} : ∀ (xs : List α) (n i : Nat) (x : α), xs[i]? = some x → (enumI n xs).drop i = (((n + i : Nat) : Int), x) :: (enumI n xs).drop (i + 1)
  | [], _, _, _, h => by simp at h
  | y :: r, n, 0, x, h => by
    cases (Option.some.inj h)
    rfl
  | y :: r, n, i + 1, x, h => by
    have ih := enumI_drop r (n + 1) i x (by simpa using h)
    show (enumI (n + 1) r).drop i = _ :: (enumI (n + 1) r).drop (i + 1)
    rw [ih]
    have : n + 1 + i = n + (i + 1) := by omega
    rw [this]
theorem enumI_len {α : Type} : ∀ (xs : List α) (n : Nat), (enumI n xs).length = xs.length
  | [], _ => rfl
  | x :: r, n => by show (enumI (n + 1) r).length + 1 = r.length + 1; rw [enumI_len r]
theorem q_forE {i1 i2 : Nat} {ts : TS} {n b k : St → Hp → Prop} {w : VK} {KK : PySem.W.Frag} (J : List (Int × α) → St → Hp → Prop) (h0 : J (enumI 0 xs) σ H) (hl : ∀ r σ H, J r σ H → SqL K H a (xs.map f)) (hx : ∀ r σ H H', J r σ H → Ex H H' → J r σ H')
    (hs : ∀ j x r σ H, J ((j, x) :: r) σ H → ts (Ends.mk (J r) w n (J r)) ((σ.set i1 (some (.int j))).set i2 (some (f x))) H) (hd : ∀ σ H, J [] σ H → n σ H) :
    ∃ W : Nat → Nat → St → Hp → Prop, (∃ m, W 0 m σ H) ∧ ∀ i m σ H, W i m σ H →
      ((Ite K a).stop i H ∧ n σ H) ∨ ((Ite K a).go i H ∧ ∃ N : St → Hp → Prop, (∀ σ' H', N σ' H' → ∃ m', m' < m ∧ W (i + 1) m' σ' H') ∧ ∀ x H', (Ite K a).yld i H x H' → gTup KK 2 (gCons (gName i1) (gCons (gName i2) gNil)) x σ H' fun σ2 H2 => ts (Ends.mk N w n N) σ2 H2) := by
  refine ⟨fun i m σ H => m = xs.length - i ∧ i ≤ xs.length ∧ J ((enumI 0 xs).drop i) σ H, ⟨xs.length, by simp, Nat.zero_le _, h0⟩, ?_⟩
  rintro i m σ H ⟨rfl, hi, hJ⟩
  have hS := hl _ σ H hJ
  by_cases hlt : i < xs.length
  · have e : xs[i]? = some xs[i] := List.getElem?_eq_getElem hlt
    have e1 : (xs.map f)[i]? = some (f xs[i]) := by rw [List.getElem?_map, e]; rfl
    have e2 := enumI_drop xs 0 i xs[i] e
    rw [e2] at hJ
    refine .inr ⟨⟨_, _, hS, e1⟩, J ((enumI 0 xs).drop (i + 1)), fun σ' H' hJ' => ⟨_, by omega, rfl, hlt, hJ'⟩, fun y H' hy => ?_⟩
    obtain ⟨T, x, rfl, hT, rfl, hq⟩ := hy
    have hxx := hq _ hS
    rw [e1] at hxx
    cases hxx
    refine ⟨T, _, rfl, SqT.of upd_same, rfl, _, _, rfl, _, _, rfl, rfl, ?_⟩
    have hJ2 := hx _ _ _ (upd H T (.tup [.int ((i : Nat) : Int), f xs[i]])) hJ (Ex.new hT)
    have e3 : ((0 + i : Nat) : Int) = (i : Int) := by omega
    rw [e3] at hJ2
    exact hs _ _ _ _ _ hJ2
  · have e : (enumI 0 xs).drop i = [] := List.drop_eq_nil_of_le (by rw [enumI_len]; omega)
    rw [e] at hJ
    exact .inl ⟨⟨_, hS, by rw [List.length_map]; omega⟩, hd σ H hJ⟩
end
end Bt
namespace Bt
open PySem L2
/-! what is refused -/
inductive Er where
  | NoBits | NoName | NoKey | NoFrame | NoPost | NoThing | NoStrip | NoRail
  | NoWire (i : Int) | NoRow (i : Int)
  deriving DecidableEq
structure Eds where
  NoBits : Addr
  NoName : Addr
  NoKey : Addr
  NoFrame : Addr
  NoPost : Addr
  NoThing : Addr
  NoStrip : Addr
  NoRail : Addr
  NoWire : Addr
  NoRow : Addr
  RailError : Addr
def Eds.of (d : Eds) : Er → Addr
  | .NoBits => d.NoBits
  | .NoName => d.NoName
  | .NoKey => d.NoKey
  | .NoFrame => d.NoFrame
  | .NoPost => d.NoPost
  | .NoThing => d.NoThing
  | .NoStrip => d.NoStrip
  | .NoRail => d.NoRail
  | .NoWire _ => d.NoWire
  | .NoRow _ => d.NoRow
inductive Rs (R : Type) where
  | ok (r : R)
  | er (e : Er)
def RetE (d : Eds) (e : Er) (H : Hp) (E : XK) : Prop := match e with
  | .NoWire i => ∀ H' a, H a = none → Ex H H' → H' a = some (.xd [(("at" : Str), .int i)]) → E (.ref d.NoWire) (some a) H'
  | .NoRow i => ∀ H' a, H a = none → Ex H H' → H' a = some (.xd [(("word" : Str), .int i)]) → E (.ref d.NoRow) (some a) H'
  | e => ∀ H', Ex H H' → E (.ref (d.of e)) none H'
def RetR {R : Type} (P : R → Prop) (d : Eds) (r : Rs R) (H : Hp) (E : XK) : Prop := match r with
  | .ok r => P r
  | .er e => RetE d e H E
section
variable {α β S R' : Type} {d : Eds} {H H0 : Hp} {E : XK} {L : List Cell}
theorem RetE.go {e : Er} (k : RetE d e H0 E) (O : Own H0 H L) : RetE d e H E := by
  cases e <;> first
    | exact fun H' h => k H' (O.ex.trans h)
    | exact fun H' a ha h => k H' a (O.ex.back ha) (O.ex.trans h)
theorem RetR.ok {P : α → Prop} {y : α} (h : P y) : RetR P d (.ok y) H E := h
theorem RetR.split {P : α → Prop} {x : Rs α} (h2 : ∀ e, x = .er e → RetE d e H E) (h1 : ∀ y, x = .ok y → P y) : RetR P d x H E := by
  cases x with
  | ok y => exact h1 y rfl
  | er e => exact h2 e rfl
def contR (f : α → Option (Rs β)) : Rs α → Option (Rs β)
  | .ok x => f x
  | .er e => some (.er e)
def bndR (a : Option (Rs α)) (f : α → Option (Rs β)) : Option (Rs β) := bnd a (contR f)
def contRF (f : α → Option (Fl S (Rs β))) : Rs α → Option (Fl S (Rs β))
  | .ok x => f x
  | .er e => some (.rt (.er e))
def bndRF (a : Option (Rs α)) (f : α → Option (Fl S (Rs β))) : Option (Fl S (Rs β)) := bnd a (contRF f)
def contO (f : α → Option β) : Rs α → Option β
  | .ok x => f x
  | .er _ => none
def bndO (a : Option (Rs α)) (f : α → Option β) : Option β := bnd a (contO f)
theorem bndRE {a : Option (Rs α)} {f : α → Option (Rs β)} {r : Rs β} (h : bndR a f = some r) : ∃ x, a = some x ∧ contR f x = some r := bndE h
theorem bndRFE {a : Option (Rs α)} {f : α → Option (Fl S (Rs β))} {r : Fl S (Rs β)} (h : bndRF a f = some r) : ∃ x, a = some x ∧ contRF f x = some r := bndE h
theorem okR {f : α → Option (Rs β)} {y : α} {r : Rs β} (h : contR f (.ok y) = some r) : f y = some r := h
theorem okRF {f : α → Option (Fl S (Rs β))} {y : α} {r : Fl S (Rs β)} (h : contRF f (.ok y) = some r) : f y = some r := h
theorem erR {f : α → Option (Rs β)} {e : Er} {r : Rs β} (h : contR f (.er e) = some r) : Rs.er e = r := Option.some.inj h
theorem erRF {f : α → Option (Fl S (Rs β))} {e : Er} {r : Fl S (Rs β)} (h : contRF f (.er e) = some r) : Fl.rt (Rs.er e) = r := Option.some.inj h
theorem bndOE {a : Option (Rs α)} {f : α → Option β} {r : β} (h : bndO a f = some r) : ∃ y, a = some (.ok y) ∧ f y = some r := by
  obtain ⟨x, h1, h2⟩ := bndE h
  cases x with
  | ok y => exact ⟨y, h1, h2⟩
  | er e => cases h2
end
/-- a class of refusals, as the top has made it -/
structure ErrC (K : PySem.W.Frag) (mg : Str → Option Value) (x : Str) (C : Addr) : Prop where
  g : mg x = some (.ref C)
  ex : PySem.W.excIn K C [.type "ValueError", .type "Exception", .type "BaseException", .type "object"] "ValueError.__new__" = true
  kp : PySem.W.keepIn K (.ref C) = true
  b : PySem.W.subIn K (.ref C) (.type "BaseException") = some true
  t : PySem.W.typeIn K (.ref C) = some (.type "type")
theorem ps_err {X : Cx} {W : WX} {x m : Str} {j : Nat} {p p2 pos pos' : Pos} {C : Addr} (e : ErrC X.K X.mg x C) (tk : Takes X W) (hc : X.calm = true) (hg : Gl X x) (hdb : (x == ("__debug__" : Str)) = false := by decide) :
    PS X (.Raise (some (.Call (.Name x p) [.Constant (.str m) j p2] [] pos)) none pos') (fun _ σ H => W (.ref C) none σ H) :=
  ps_raise hc tk (pmk_own PySem.F.excBase_ValueError e.ex e.g e.kp (raises_own e.b e.t) hg hdb)
end Bt
namespace Bt
open PySem L2
theorem err_mk {K : PySem.W.Frag} {h : Heap} {mg : Str → Option Value} {x : Str} {C : Addr} (X : K.In h) (G : h.Ns mainGlobals mg) (a : PySem.W.nsIn K mainGlobals x = some (some (.ref C)))
    (e : PySem.W.excIn K C [.type "ValueError", .type "Exception", .type "BaseException", .type "object"] "ValueError.__new__" = true) (k : PySem.W.keepIn K (.ref C) = true) (b : PySem.W.subIn K (.ref C) (.type "BaseException") = some true) (t : PySem.W.typeIn K (.ref C) = some (.type "type")) :
    ∃ C, ErrC K mg x C := ⟨C, PySem.W.mg_of X G a, e, k, b, t⟩
end Bt
namespace Bt
open PySem L2
inductive Ek where
  | NoBits | NoName | NoKey | NoFrame | NoPost | NoThing | NoStrip | NoRail | NoWire | NoRow
  deriving DecidableEq
def Er.k : Er → Ek
  | .NoBits => .NoBits
  | .NoName => .NoName
  | .NoKey => .NoKey
  | .NoFrame => .NoFrame
  | .NoPost => .NoPost
  | .NoThing => .NoThing
  | .NoStrip => .NoStrip
  | .NoRail => .NoRail
  | .NoWire _ => .NoWire
  | .NoRow _ => .NoRow
def tryR {α β : Type} (x : Rs α) (f : α → β) (g : Er → β) : β := match x with
  | .ok y => f y
  | .er e => g e
theorem tryOk {α β : Type} {y : α} {f : α → β} {g : Er → β} {r : β} (h : tryR (.ok y) f g = r) : f y = r := h
theorem tryEr {α β : Type} {e : Er} {f : α → β} {g : Er → β} {r : β} (h : tryR (.er e) f g = r) : g e = r := h
theorem exm_mk {K : PySem.W.Frag} {C S : Addr} {r : Bool} (h1 : PySem.W.subIn K (.ref S) (.type "BaseException") = some true) (h2 : (PySem.W.clsIn K S).isSome = true) (h3 : PySem.W.typeIn K (.ref S) = some (.type "type")) (h4 : PySem.W.subIn K (.ref C) (.ref S) = some r) :
    PySem.W.exmOne K (.ref C) (.ref S) = some r := by
  have e1 : (PySem.W.subIn K (.ref S) (.type "BaseException") == some true) = true := by rw [h1] <;> rfl
  have e2 : ((PySem.W.clsIn K S).isSome && PySem.W.typeIn K (.ref S) == some (.type "type")) = true := by
    rw [h2, h3] <;> rfl
  unfold PySem.W.exmOne
  rw [if_pos e1]
  unfold PySem.W.kitCls
  dsimp only
  rw [if_pos e2]
  exact h4
end Bt
namespace Bt
open PySem L2
theorem o_callS {sp : Sp} {E : L2.St → XK} {tr : TA} {σ : L2.St} {H : Hp} {Q : VK} (h : tr σ H fun vs H1 => sp vs H1 Q (E σ)) : tCallS sp E tr σ H Q := h
end Bt
namespace Bt
open PySem L2
section
variable {α : Type} {R H : Hp} {Q : VK} {a : Addr} {xs ys : List α} {y : α} {f : α → V}
def popL (xs : List α) : Option (α × List α) := match xs[xs.length - 1]? with
  | some y => some (y, xs.dropLast)
  | none => none
theorem popE (h : popL xs = some (y, ys)) : xs[xs.length - 1]? = some y ∧ xs.dropLast = ys := by
  unfold popL at h
  split at h
  · rename_i e
    cases h
    exact ⟨e, rfl⟩
  · cases h
theorem popL_ok {xs : List α} {y : α} : popL (xs ++ [y]) = some (y, xs) := by
  unfold popL
  rw [List.length_append, List.length_singleton, Nat.add_sub_cancel, List.getElem?_append_right (Nat.le_refl _), Nat.sub_self]
  simp
theorem k_clr {g : HO → List Cell} (hl : H a = some (.lst (xs.map f))) (hp : ∀ o', Own R (upd H a o') (g o')) (k : ∀ H', Own R H' (g (.lst (([] : List α).map f))) → Q .non H') : rClear (.ref a) [] H Q :=
  ⟨a, _, rfl, rfl, hl, k _ (hp _)⟩
theorem k_pop {g : HO → List Cell} (hl : H a = some (.lst (xs.map f))) (hp : ∀ o', Own R (upd H a o') (g o')) (h : popL xs = some (y, ys)) (k : ∀ H', Own R H' (g (.lst (ys.map f))) → Q (f y) H') : rPop (.ref a) [] H Q := by
  obtain ⟨e, rfl⟩ := popE h
  refine ⟨a, _, f y, rfl, rfl, hl, ?_, ?_⟩
  · rw [List.length_map, List.getElem?_map, e]; rfl
  · rw [← List.map_dropLast]
    exact k _ (hp _)
theorem k_ext {b : Addr} {zs : List α} {g : HO → List Cell} (hl : H a = some (.lst (xs.map f))) (hb : H b = some (.lst (zs.map f))) (hp : ∀ o', Own R (upd H a o') (g o')) (h : catG xs zs = some ys) (k : ∀ H', Own R H' (g (.lst (ys.map f))) → Q .non H') : rExtend (.ref a) [.ref b] H Q := by
  obtain ⟨c, rfl⟩ := grdE h
  refine ⟨a, b, _, _, rfl, rfl, hl, hb, ?_, ?_⟩
  · rw [List.length_map, List.length_map]; exact c
  · rw [← List.map_append]
    exact k _ (hp _)
end
end Bt

set_option Elab.async false
set_option linter.all false
set_option maxRecDepth 100000
set_option maxHeartbeats 4000000
/-! Built-ins that the kit's rules do not name. -/
namespace Bt
open PySem L2 PyProof.Rows
section
variable {X : Cx}
def maxL (d : Int) : List Int → Int
  | [] => d
  | n :: ns => ns.foldl (fun a y => if a < y then y else a) n
def rMaxD (K : PySem.W.Frag) : List V → List V → Hp → VK → Prop := fun xs zs H Q => ∃ a ns d, xs = [.ref a] ∧ zs = [.int d] ∧ SqL K H a (ns.map V.int) ∧ Q (.int (maxL d ns)) H
theorem maxOf_int (x : Int) (xs : List Int) : PySem.W.maxOf x xs = xs.foldl (fun a y => if a < y then y else a) x := by
  unfold PySem.W.maxOf
  congr 1
  funext a y
  show (if decide (a < y) = true then y else a) = _
  by_cases h : a < y
  · rw [if_pos (decide_eq_true h), if_pos h]
  · rw [if_neg (by simpa using h), if_neg h]
theorem cr_maxD (hc : X.calm = true) (hu : X.A.units + 64 < cLine) : CallRK X (.builtin "max") [Str.ofString "default"] (rMaxD X.K) := by
  intro pins s σ H xs zs us ws Q I r1 r2 h
  obtain ⟨a, ns, d, rfl, rfl, hs, q⟩ := h
  obtain ⟨its, rv, hl, _⟩ := I.list hs
  rw [Vals.ref1 r1]
  obtain ⟨w, rfl, t, rfl⟩ := r2.one
  refine PySem.W.max_list_datum_default (α := Int) (I.ok.hd hc) hl.isList (PySem.W.HoldAll.of_ints rv.ints) (by show X.A.units + 1 + 0 < cLine; omega) (fun e h' tk k => ?_) fun y ys i v h' tk e _ hv k => ?_
  · subst e
    exact ⟨.int d, H, I.kept k, ⟨_, rfl⟩, q⟩
  · subst e
    obtain ⟨bs, hv⟩ := hv
    rw [maxOf_int] at hv
    cases hv
    exact ⟨.int _, H, I.kept k, ⟨_, rfl⟩, q⟩
variable {K : PySem.W.Frag} {H : Hp} {Q : VK} {a : Addr} {ns : List Int} {d : Int} {t tk : TA} {r : List V → List V → Hp → VK → Prop} {σ : L2.St}
theorem o_kw (h : t σ H fun vs H1 => tk σ H1 fun zs H2 => r vs zs H2 Q) : tCKw r t tk σ H Q := h
theorem k_maxD (hs : SqL K H a (ns.map V.int)) (q : Q (.int (maxL d ns)) H) : rMaxD K [.ref a] [.int d] H Q := ⟨a, ns, d, rfl, rfl, hs, q⟩
theorem o_en {ta : TA} {R : It → Hp → Prop} (h : ta σ H fun vs H1 => ∃ a xs, vs = [.ref a] ∧ SqL K H1 a xs ∧ R (Ite K a) H1) : iEnum K ta σ H R := h
end
end Bt

set_option Elab.async false
set_option linter.all false
set_option maxRecDepth 100000
set_option maxHeartbeats 4000000
/-! Data in data: what stands in a heap that only grows. -/
namespace Bt
open PySem L2
inductive All2 {α β : Type} (P : α → β → Prop) : List α → List β → Prop
  | nil : All2 P [] []
  | cons {a : α} {b : β} {as : List α} {bs : List β} : P a b → All2 P as bs → All2 P (a :: as) (b :: bs)
section
variable {α β : Type} {P Q : α → β → Prop} {as cs : List α} {bs ds : List β} {a : α} {b : β}
theorem All2.mp (f : ∀ a b, P a b → Q a b) (h : All2 P as bs) : All2 Q as bs := by
  induction h with
  | nil => exact .nil
  | cons h _ ih => exact .cons (f _ _ h) ih
theorem All2.app (h : All2 P as bs) (k : All2 P cs ds) : All2 P (as ++ cs) (bs ++ ds) := by
  induction h with
  | nil => exact k
  | cons h _ ih => exact .cons h ih
theorem All2.snoc (h : All2 P as bs) (k : P a b) : All2 P (as ++ [a]) (bs ++ [b]) := h.app (.cons k .nil)
theorem All2.len (h : All2 P as bs) : as.length = bs.length := by
  induction h with
  | nil => rfl
  | cons _ _ ih => simp [ih]
theorem All2.get (h : All2 P as bs) : ∀ {i : Nat} {b : β}, bs[i]? = some b → ∃ a, as[i]? = some a ∧ P a b := by
  induction h with
  | nil => intro i b e; simp at e
  | cons h _ ih =>
    intro i b e
    cases i with
    | zero => cases Option.some.inj e; exact ⟨_, rfl, h⟩
    | succ i => exact ih (by simpa using e)
theorem All2.drop (h : All2 P as bs) : ∀ n, All2 P (as.drop n) (bs.drop n) := by
  induction h with
  | nil => intro n; simp; exact .nil
  | cons h t ih =>
    intro n
    cases n with
    | zero => exact .cons h t
    | succ n => exact ih n
theorem All2.take (h : All2 P as bs) : ∀ n, All2 P (as.take n) (bs.take n) := by
  induction h with
  | nil => intro n; simp; exact .nil
  | cons h t ih =>
    intro n
    cases n with
    | zero => exact .nil
    | succ n => exact .cons h (ih n)
theorem All2.set (h : All2 P as bs) (k : P a b) : ∀ n, All2 P (as.set n a) (bs.set n b) := by
  induction h with
  | nil => intro n; exact .nil
  | cons h t ih =>
    intro n
    cases n with
    | zero => exact .cons k t
    | succ n => exact .cons h (ih n)
end
/-- what a value stands for, in a heap -/
abbrev Rp (α : Type) := Hp → V → α → Prop
def Mono {α : Type} (P : Rp α) : Prop := ∀ F F' v x, Ex F F' → P F v x → P F' v x
def rI : Rp Int := fun _ v a => v = .int a
def rB : Rp Bool := fun _ v a => v = .bl a
def rS : Rp Str := fun _ v a => v = .str a
def rL {α : Type} (P : Rp α) : Rp (List α) := fun F v xs => ∃ p vs, v = .ref p ∧ F p = some (.lst vs) ∧ All2 (P F) vs xs
def rT2 {α β : Type} (P : Rp α) (Q : Rp β) : Rp (α × β) := fun F v x => ∃ p a b, v = .ref p ∧ F p = some (.tup [a, b]) ∧ P F a x.1 ∧ Q F b x.2
def rT3 {α β γ : Type} (P : Rp α) (Q : Rp β) (R : Rp γ) : Rp (α × β × γ) := fun F v x => ∃ p a b c, v = .ref p ∧ F p = some (.tup [a, b, c]) ∧ P F a x.1 ∧ Q F b x.2.1 ∧ R F c x.2.2
def rT4 {α β γ δ : Type} (P : Rp α) (Q : Rp β) (R : Rp γ) (S : Rp δ) : Rp (α × β × γ × δ) := fun F v x => ∃ p a b c d, v = .ref p ∧ F p = some (.tup [a, b, c, d]) ∧ P F a x.1 ∧ Q F b x.2.1 ∧ R F c x.2.2.1 ∧ S F d x.2.2.2
def rO {α : Type} (P : Rp α) : Rp (Option α) := fun F v x => match x with
  | none => v = .non
  | some y => P F v y
theorem mI : Mono rI := fun _ _ _ _ _ h => h
theorem mB : Mono rB := fun _ _ _ _ _ h => h
theorem mS : Mono rS := fun _ _ _ _ _ h => h
theorem mL {α : Type} {P : Rp α} (m : Mono P) : Mono (rL P) := fun F F' v x e ⟨p, vs, h1, h2, h3⟩ => ⟨p, vs, h1, e _ _ h2, h3.mp fun a b h => m F F' a b e h⟩
theorem mA {α : Type} {P : Rp α} (m : Mono P) {F F' : Hp} {vs : List V} {xs : List α} (e : Ex F F') (h : All2 (P F) vs xs) : All2 (P F') vs xs := h.mp fun a b h => m F F' a b e h
theorem mT2 {α β : Type} {P : Rp α} {Q : Rp β} (m : Mono P) (n : Mono Q) : Mono (rT2 P Q) := fun F F' v x e ⟨p, a, b, h1, h2, h3, h4⟩ => ⟨p, a, b, h1, e _ _ h2, m _ _ _ _ e h3, n _ _ _ _ e h4⟩
theorem mT3 {α β γ : Type} {P : Rp α} {Q : Rp β} {R : Rp γ} (m : Mono P) (n : Mono Q) (o : Mono R) : Mono (rT3 P Q R) := fun F F' v x e ⟨p, a, b, c, h1, h2, h3, h4, h5⟩ => ⟨p, a, b, c, h1, e _ _ h2, m _ _ _ _ e h3, n _ _ _ _ e h4, o _ _ _ _ e h5⟩
theorem mT4 {α β γ δ : Type} {P : Rp α} {Q : Rp β} {R : Rp γ} {S : Rp δ} (m : Mono P) (n : Mono Q) (o : Mono R) (q : Mono S) : Mono (rT4 P Q R S) := fun F F' v x e ⟨p, a, b, c, d, h1, h2, h3, h4, h5, h6⟩ => ⟨p, a, b, c, d, h1, e _ _ h2, m _ _ _ _ e h3, n _ _ _ _ e h4, o _ _ _ _ e h5, q _ _ _ _ e h6⟩
theorem mO {α : Type} {P : Rp α} (m : Mono P) : Mono (rO P) := fun F F' v x e h => by
  cases x with
  | none => exact h
  | some y => exact m _ _ _ _ e h
/-! flat lists in a heap -/
theorem aI {F : Hp} : ∀ {vs : List V} {xs : List Int}, All2 (rI F) vs xs → vs = xs.map V.int
  | _, _, .nil => rfl
  | _, _, .cons h t => by rw [show _ = _ from h, aI t]; rfl
theorem aB {F : Hp} : ∀ {vs : List V} {xs : List Bool}, All2 (rB F) vs xs → vs = xs.map V.bl
  | _, _, .nil => rfl
  | _, _, .cons h t => by rw [show _ = _ from h, aB t]; rfl
theorem aS {F : Hp} : ∀ {vs : List V} {xs : List Str}, All2 (rS F) vs xs → vs = xs.map V.str
  | _, _, .nil => rfl
  | _, _, .cons h t => by rw [show _ = _ from h, aS t]; rfl
theorem iA {F : Hp} : ∀ (xs : List Int), All2 (rI F) (xs.map V.int) xs
  | [] => .nil
  | x :: r => .cons rfl (iA r)
theorem bA {F : Hp} : ∀ (xs : List Bool), All2 (rB F) (xs.map V.bl) xs
  | [] => .nil
  | x :: r => .cons rfl (bA r)
theorem sA {F : Hp} : ∀ (xs : List Str), All2 (rS F) (xs.map V.str) xs
  | [] => .nil
  | x :: r => .cons rfl (sA r)
theorem fI {F : Hp} {v : V} {xs : List Int} (h : rL rI F v xs) : ∃ p, v = .ref p ∧ F p = some (.lst (xs.map V.int)) := by
  obtain ⟨p, vs, h1, h2, h3⟩ := h
  rw [aI h3] at h2
  exact ⟨p, h1, h2⟩
theorem fB {F : Hp} {v : V} {xs : List Bool} (h : rL rB F v xs) : ∃ p, v = .ref p ∧ F p = some (.lst (xs.map V.bl)) := by
  obtain ⟨p, vs, h1, h2, h3⟩ := h
  rw [aB h3] at h2
  exact ⟨p, h1, h2⟩
theorem fS {F : Hp} {v : V} {xs : List Str} (h : rL rS F v xs) : ∃ p, v = .ref p ∧ F p = some (.lst (xs.map V.str)) := by
  obtain ⟨p, vs, h1, h2, h3⟩ := h
  rw [aS h3] at h2
  exact ⟨p, h1, h2⟩
theorem gI {F : Hp} {p : Addr} {xs : List Int} (h : F p = some (.lst (xs.map V.int))) : rL rI F (.ref p) xs := ⟨p, _, rfl, h, iA xs⟩
theorem gB {F : Hp} {p : Addr} {xs : List Bool} (h : F p = some (.lst (xs.map V.bl))) : rL rB F (.ref p) xs := ⟨p, _, rfl, h, bA xs⟩
theorem gS {F : Hp} {p : Addr} {xs : List Str} (h : F p = some (.lst (xs.map V.str))) : rL rS F (.ref p) xs := ⟨p, _, rfl, h, sA xs⟩
/-! the frame grows -/
/-- of X what R knows, or what H does not -/
def ovr (R H X : Hp) : Hp := fun a => if R a ≠ none ∨ H a = none then X a else none
theorem ovr_some {R H X : Hp} {a : Addr} {u : HO} (h : ovr R H X a = some u) : (R a ≠ none ∨ H a = none) ∧ X a = some u := by
  unfold ovr at h
  split at h
  · exact ⟨by assumption, h⟩
  · cases h
theorem ovr_mk {R H X : Hp} {a : Addr} {u : HO} (h : R a ≠ none ∨ H a = none) (k : X a = some u) : ovr R H X a = some u := by
  unfold ovr
  rw [if_pos h]
  exact k
theorem ovr_ex {R H X : Hp} : Ex (ovr R H X) X := fun a o h => by
  unfold ovr at h
  split at h
  · exact h
  · cases h
theorem ovr_mono {R H X Y : Hp} (e : Ex X Y) : Ex (ovr R H X) (ovr R H Y) := fun a o h => by
  unfold ovr at h ⊢
  split at h
  · rename_i c
    rw [if_pos c]
    exact e _ _ h
  · cases h
theorem ovr_start {R H : Hp} (e : Ex R H) : Ex R (ovr R H H) := fun a o h => by
  unfold ovr
  rw [if_pos (.inl (by rw [h]; simp))]
  exact e _ _ h
section
variable {R H H' F H0 R0 : Hp} {L : List Cell} {p : Addr} {o : HO}
theorem Own.freeze (O : Own R H ((p, o) :: L)) : Own (upd R p o) H L :=
  ⟨fun a u h => by
    by_cases e : a = p
    · subst e
      rw [upd_same] at h
      cases h
      exact O.at_ _ (List.Mem.head _)
    · rw [upd_ne e] at h
      exact O.ex _ _ h, fun c h => O.at_ c (List.Mem.tail _ h), fun c h => by
    have hne : c.1 ≠ p := fun e => (List.nodup_cons.mp O.nd).1 (by rw [← e]; exact List.mem_map_of_mem (f := (·.1)) h)
    rw [upd_ne hne]
    exact O.fr c (List.Mem.tail _ h), (List.nodup_cons.mp O.nd).2⟩
/-- R grows by a cell; what was known of it stays, the new cell is known -/
theorem Own.frz (O : Own R H ((p, o) :: L)) : ∃ R', Own R' H L ∧ Ex R R' ∧ R' p = some o := ⟨_, O.freeze, Ex.new (O.fr _ (List.Mem.head _)), upd_same⟩
theorem Own.frzO (O : Own R H ((p, o) :: L)) (e0 : Ex H0 R) : ∃ R', Own R' H L ∧ Ex R R' ∧ ovr R0 H0 R' p = some o := ⟨_, O.freeze, Ex.new (O.fr _ (List.Mem.head _)), by
  unfold ovr
  rw [if_pos (.inr (e0.back (O.fr _ (List.Mem.head _))))]
  exact upd_same⟩
/-- R grows by all that is new -/
theorem Own.grow (O : Own R H L) (e : Ex H H') : ∃ R', Own R' H' L ∧ Ex R R' ∧ ∀ F, Ex F R → Ex (ovr F H H') R' := by
  refine ⟨fun a => if H a = none then H' a else R a, ⟨fun a u h => ?_, fun c h => e _ _ (O.at_ c h), fun c h => ?_, O.nd⟩, fun a u h => ?_, fun F hF a u h => ?_⟩
  · by_cases c : H a = none
    · rw [if_pos c] at h; exact h
    · rw [if_neg c] at h; exact e _ _ (O.ex _ _ h)
  · rw [if_neg (by rw [O.at_ c h]; simp)]
    exact O.fr c h
  · show (if H a = none then H' a else R a) = some u
    rw [if_neg (by rw [O.ex _ _ h]; simp)]
    exact h
  · unfold ovr at h
    split at h
    · rename_i q
      rcases q with q | q
      · cases hf : F a with
        | none => exact absurd hf q
        | some w =>
          have h1 := O.ex _ _ (hF _ _ hf)
          have h2 := e _ _ h1
          rw [h] at h2
          cases h2
          show (if H a = none then H' a else R a) = some u
          rw [if_neg (by rw [h1]; simp)]
          exact hF _ _ hf
      · show (if H a = none then H' a else R a) = some u
        rw [if_pos q]
        exact h
    · cases h
theorem Own.growO (O : Own R H L) (e : Ex H H') (e0 : Ex H0 R) : ∃ R', Own R' H' L ∧ Ex R R' ∧ Ex (ovr (ovr R0 H0 R) H H') (ovr R0 H0 R') := by
  obtain ⟨R', O', e1, e2⟩ := O.grow e
  refine ⟨R', O', e1, fun a u h => ?_⟩
  have h1 := e2 (ovr R0 H0 R) ovr_ex _ _ h
  obtain ⟨q, _⟩ := ovr_some h
  refine ovr_mk ?_ h1
  rcases q with q | q
  · cases hq : ovr R0 H0 R a with
    | none => exact absurd hq q
    | some w => exact (ovr_some hq).1
  · exact .inr (Ex.back (e0.trans O.ex) q)
end
/-- a new thing is handed back, in what R knows or what is new -/
def RetG {α : Type} (P : Rp α) (R : Hp) (r : α) (H : Hp) (Q : VK) : Prop := ∀ v H', Ex H H' → P (ovr R H H') v r → Q v H'
section
variable {α : Type} {P : Rp α} {R H F H0 R0 : Hp} {L : List Cell} {r : α} {Q : VK} {v : V}
theorem Own.retG (O : Own R H L) (m : Mono P) (k : ∀ v H' R', Own R' H' L → Ex R R' → P R' v r → Q v H') : RetG P R r H Q := fun v H' e h => by
  obtain ⟨R', O', e1, e2⟩ := O.grow e
  exact k v H' R' O' e1 (m _ _ _ _ (e2 R (Ex.refl R)) h)
theorem Own.retGO (O : Own R H L) (m : Mono P) (e0 : Ex H0 R) (k : ∀ v H' R', Own R' H' L → Ex R R' → P (ovr R0 H0 R') v r → Q v H') : RetG P (ovr R0 H0 R) r H Q := fun v H' e h => by
  obtain ⟨R', O', e1, e2⟩ := O.growO (R0 := R0) e e0
  exact k v H' R' O' e1 (m _ _ _ _ e2 h)
theorem RetG.go (k : RetG P R0 r H0 Q) (m : Mono P) (O : Own R H L) (e0 : Ex H0 R) (h : P (ovr R0 H0 R) v r) : Q v H := k v H (e0.trans O.ex) (m _ _ _ _ (ovr_mono O.ex) h)
theorem RetV.goR {v : V} (k : RetV v H0 Q) (O : Own R H L) (e0 : Ex H0 R) : Q v H := k H (e0.trans O.ex)
theorem RetL.goR {xs : List V} {p : Addr} (k : RetL xs H0 Q) (O : Own R H L) (e0 : Ex H0 R) (h : (p, HO.lst xs) ∈ L) : Q (.ref p) H := k p H (e0.back (O.fr _ h)) (e0.trans O.ex) (O.at_ _ h)
theorem RetT.goR {xs : List V} {p : Addr} (k : RetT xs H0 Q) (O : Own R H L) (e0 : Ex H0 R) (h : (p, HO.tup xs) ∈ L) : Q (.ref p) H := k p H (e0.back (O.fr _ h)) (e0.trans O.ex) (O.at_ _ h)
end
/-! == of such data -/
structure De {α : Type} [DecidableEq α] (P : Rp α) where
  d : α → PyData
  dp : ∀ (K : PySem.W.Frag) F v a, P F v a → Dp K F v (d a)
  ok : ∀ a, PyData.canLay0 (d a) = true
  n : Nat
  dep : ∀ a, PyData.depth (d a) ≤ n
  eq : ∀ a b, PyData.eqv (d a) (d b) = decide (a = b)
def deI : De rI where
  d := PyData.int
  dp := fun K F v a h => by rw [show v = V.int a from h]; exact .int a
  ok := fun _ => rfl
  n := 0
  dep := fun _ => Nat.le_refl _
  eq := fun a b => by simp only [PyData.eqv]; rw [Bool.beq_eq_decide_eq]
def deB : De rB where
  d := PyData.bool
  dp := fun K F v a h => by rw [show v = V.bl a from h]; exact .bl a
  ok := fun _ => rfl
  n := 0
  dep := fun _ => Nat.le_refl _
  eq := fun a b => by simp only [PyData.eqv]; rw [Bool.beq_eq_decide_eq]
section
variable {α β γ : Type} [DecidableEq α] [DecidableEq β] [DecidableEq γ]
theorem de_all {P : Rp α} (e : De P) {K : PySem.W.Frag} {F : Hp} : ∀ {vs : List V} {xs : List α}, All2 (P F) vs xs → DpAll K F vs (xs.map e.d)
  | _, _, .nil => .nil
  | _, _, .cons h t => .cons (e.dp K F _ _ h) (de_all e t)
theorem ok_all {P : Rp α} (e : De P) : ∀ xs : List α, PyData.canLayAll0 (xs.map e.d) = true
  | [] => rfl
  | x :: r => by simp only [List.map_cons, PyData.canLayAll0, e.ok x, ok_all e r, Bool.and_self]
theorem dep_all {P : Rp α} (e : De P) : ∀ xs : List α, PyData.depthAll (xs.map e.d) ≤ e.n
  | [] => by simp [PyData.depthAll]
  | x :: r => by
    have h1 := e.dep x
    have h2 := dep_all e r
    simp only [List.map_cons, PyData.depthAll]
    omega
theorem eq_all {P : Rp α} (e : De P) : ∀ xs ys : List α, PyData.eqvAll (xs.map e.d) (ys.map e.d) = decide (xs = ys)
  | [], [] => by simp [PyData.eqvAll]
  | [], y :: s => by simp [PyData.eqvAll]
  | x :: r, [] => by simp [PyData.eqvAll]
  | x :: r, y :: s => by simp only [List.map_cons, PyData.eqvAll, e.eq x y, eq_all e r s, List.cons.injEq, Bool.decide_and]
def deL {P : Rp α} (e : De P) : De (rL P) where
  d := fun xs => .list (xs.map e.d)
  dp := fun K F v xs ⟨p, vs, h1, h2, h3⟩ => by
    subst h1
    exact .lst (SqL.of h2) (de_all e h3)
  ok := fun xs => by simp only [PyData.canLay0]; exact ok_all e xs
  n := e.n + 1
  dep := fun xs => by
    have := dep_all e xs
    simp only [PyData.depth]
    omega
  eq := fun xs ys => by simp only [PyData.eqv]; exact eq_all e xs ys
def deT2 {P : Rp α} {Q : Rp β} (e : De P) (f : De Q) : De (rT2 P Q) where
  d := fun x => .tuple [e.d x.1, f.d x.2]
  dp := fun K F v x ⟨p, a, b, h1, h2, h3, h4⟩ => by
    subst h1
    exact .tup (SqT.of h2) (.cons (e.dp K F _ _ h3) (.cons (f.dp K F _ _ h4) .nil))
  ok := fun x => by simp only [PyData.canLay0, PyData.canLayAll0, e.ok, f.ok, Bool.and_self]
  n := max e.n f.n + 1
  dep := fun x => by
    have h1 := e.dep x.1
    have h2 := f.dep x.2
    simp only [PyData.depth, PyData.depthAll]
    omega
  eq := fun x y => by
    obtain ⟨x1, x2⟩ := x
    obtain ⟨y1, y2⟩ := y
    simp only [PyData.eqv, PyData.eqvAll, e.eq, f.eq, Prod.mk.injEq, Bool.decide_and, Bool.and_true]
def deT3 {P : Rp α} {Q : Rp β} {R : Rp γ} (e : De P) (f : De Q) (g : De R) : De (rT3 P Q R) where
  d := fun x => .tuple [e.d x.1, f.d x.2.1, g.d x.2.2]
  dp := fun K F v x ⟨p, a, b, c, h1, h2, h3, h4, h5⟩ => by
    subst h1
    exact .tup (SqT.of h2) (.cons (e.dp K F _ _ h3) (.cons (f.dp K F _ _ h4) (.cons (g.dp K F _ _ h5) .nil)))
  ok := fun x => by simp only [PyData.canLay0, PyData.canLayAll0, e.ok, f.ok, g.ok, Bool.and_self]
  n := max e.n (max f.n g.n) + 1
  dep := fun x => by
    have h1 := e.dep x.1
    have h2 := f.dep x.2.1
    have h3 := g.dep x.2.2
    simp only [PyData.depth, PyData.depthAll]
    omega
  eq := fun x y => by
    obtain ⟨x1, x2, x3⟩ := x
    obtain ⟨y1, y2, y3⟩ := y
    simp only [PyData.eqv, PyData.eqvAll, e.eq, f.eq, g.eq, Prod.mk.injEq, Bool.decide_and, Bool.and_true, Bool.and_assoc]
end
section
variable {α : Type} [DecidableEq α] {P : Rp α} {K : PySem.W.Frag} {F F' H : Hp} {v w : V} {x y : α} {Q : VK}
theorem sh_de (e : De P) (h : e.n ≤ 64) (x : α) : SeqAt.shaped (e.d x) = true := by
  have h1 := e.dep x
  simp only [SeqAt.shaped, e.ok, Bool.true_and]
  exact decide_eq_true (by omega)
theorem k_eqN (e : De P) (m : Mono P) (h : e.n ≤ 64) (h1 : P F v x) (e1 : Ex F H) (h2 : P F' w y) (e2 : Ex F' H) (k : Q (.bl (decide (x = y))) H) : rEqD K v w H Q :=
  ⟨_, _, e.dp K H _ _ (m _ _ _ _ e1 h1), e.dp K H _ _ (m _ _ _ _ e2 h2), sh_de e h x, sh_de e h y, by rw [e.eq]; exact k⟩
theorem k_neN (e : De P) (m : Mono P) (h : e.n ≤ 64) (h1 : P F v x) (e1 : Ex F H) (h2 : P F' w y) (e2 : Ex F' H) (k : Q (.bl (!decide (x = y))) H) : rNeD K v w H Q :=
  ⟨_, _, e.dp K H _ _ (m _ _ _ _ e1 h1), e.dp K H _ _ (m _ _ _ _ e2 h2), sh_de e h x, sh_de e h y, by rw [e.eq]; exact k⟩
end
section
variable {α : Type} {P : Rp α} {K : PySem.W.Frag} {F H R : Hp} {L : List Cell} {p a : Addr} {i : Int} {xs : List α} {y : α} {Q : VK} {vs : List V} {σ : L2.St}
theorem All2.at {β : Type} {P : α → β → Prop} {as : List α} {bs : List β} (h : All2 P as bs) {i : Int} {b : β} (e : atI bs i = some b) : ∃ a, atI as i = some a ∧ P a b := by
  unfold atI at e ⊢
  rw [h.len]
  cases hj : ixN bs.length i with
  | none => rw [hj] at e; cases e
  | some j =>
    rw [hj] at e
    obtain ⟨a, h1, h2⟩ := h.get e
    exact ⟨a, h1, h2⟩
theorem k_ixN (hn : rL P F (.ref p) xs) (e : Ex F H) (h : atI xs i = some y) (k : ∀ v, P F v y → Q v H) : rIxL K (.ref p) (.int i) H Q := by
  obtain ⟨q, vs, h1, h2, h3⟩ := hn
  cases h1
  obtain ⟨v, e1, hv⟩ := h3.at h
  exact ⟨p, vs, i, v, rfl, rfl, SqL.of (e _ _ h2), e1, k v hv⟩
theorem n_lenN (hn : rL P F (.ref p) xs) (e : Ex F H) (k : Q (.int (xs.length : Int)) H) : rLenQ K [.ref p] H Q := by
  obtain ⟨q, vs, h1, h2, h3⟩ := hn
  cases h1
  unfold rLenQ
  exact ⟨p, vs, rfl, .inl (SqL.of (e _ _ h2)), by rw [h3.len]; exact k⟩
theorem n_lstV (O : Own R H L) (hz : vs.length ≤ sizeLine) (k : ∀ p H', Own R H' ((p, .lst vs) :: L) → Q (.ref p) H') : rNewL vs H Q := by
  unfold rNewL
  exact ⟨hz, fun p hp => k p _ (O.new hp)⟩
end
end Bt

set_option Elab.async false
set_option linter.all false
set_option maxRecDepth 100000
set_option maxHeartbeats 4000000
/-! What is refused, caught by a name, asked of its class. -/
namespace Bt
open PySem L2 PyProof.Rows
theorem passN {X : Cx} : Passes (L2N.CX X.prog X.w) X E0 := fun _ _ _ _ _ _ _ h => by
  obtain ⟨_, _, _, _, _, _, _, _, _, _, _, _, z⟩ := h
  exact z.elim
theorem takesN0 {X : Cx} : L2N.Takes X (fun _ _ _ _ => False) := fun _ _ x => by
  obtain ⟨_, _, _, _, _, _, _, _, _, _, _, _, _, _, _, _, z⟩ := x
  exact z.elim
theorem okN {P : Program} {w : World} {K : PySem.W.Frag} {mg : Str → Option Value} {base : Heap} {x qual : Str} {st : Stmt} {f : Addr} {fd : FuncData} {N ps : List Str} {k : Nat} {sp : Sp} (F : Fun K x qual st f fd) (S : FnScope N ps (defScope st)) (len : ∀ vs H Q E, sp vs H Q E → vs.length = ps.length)
    (hbody : ∀ (cdv : Value) (A : Around) (outer : List Env) (s : Shared) (H : Hp) (vs : List V) (Q : VK) (E : XK), Room k (A.deeper (envOfC qual (defScope st) s.heap.objs.size f cdv)) → sp vs H Q E →
      ∃ t, PSs (cxOf (L2N.CX P w) P w K mg base N qual (defScope st) f cdv A outer s H E) (defBody st) t ∧ t { nx := fun _ H' => Q .non H', rt := Q } (start N vs) H) : FnOk P w K mg base (L2N.CX P w) (k + 1) f fd ps sp := by
  obtain ⟨oc, od, kV, doc, pm, an, cdv, ct, osl, rfl, lk, hcd⟩ := F.ex
  exact fn_of lk hcd S len fun A outer s H vs Q E hr hsp => hbody cdv A outer s H vs Q E hr hsp
theorem ps_errN {X : Cx} {W : WX} {x m : Str} {j : Nat} {p p2 pos pos' : Pos} {C : Addr} (e : ErrC X.K X.mg x C) (tk : L2N.Takes X W) (hc : X.calm = true) (hg : Gl X x) (hdb : (x == ("__debug__" : Str)) = false := by decide) :
    PS X (.Raise (some (.Call (.Name x p) [.Constant (.str m) j p2] [] pos)) none pos') (fun _ σ H => W (.ref C) none σ H) :=
  L2N.ps_raise hc tk (L2N.pmk_own PySem.F.excBase_ValueError e.ex e.g e.kp (raises_own e.b e.t) hg hdb)
/-! classes by their letters -/
def Eds.at (d : Eds) : Ek → Addr
  | .NoBits => d.NoBits
  | .NoName => d.NoName
  | .NoKey => d.NoKey
  | .NoFrame => d.NoFrame
  | .NoPost => d.NoPost
  | .NoThing => d.NoThing
  | .NoStrip => d.NoStrip
  | .NoRail => d.NoRail
  | .NoWire => d.NoWire
  | .NoRow => d.NoRow
/-- what the walk knows of the classes ks -/
structure EcF (K : PySem.W.Frag) (d : Eds) (ks : List Ek) : Prop where
  ec : ∀ k ∈ ks, ExcC K (d.at k)
  kt : ∀ k ∈ ks, ∀ c ∈ ks, PySem.W.kitOne K (.ref (d.at k)) (.ref (d.at c)) = some (decide (k = c))
  kv : ∀ k ∈ ks, PySem.W.kitOne K (.ref (d.at k)) (.type "ValueError") = some true
  kr : ∀ k ∈ ks, PySem.W.kitOne K (.ref (d.at k)) (.ref d.RailError) = some true
  xr : ∀ k ∈ ks, PySem.W.exmOne K (.ref (d.at k)) (.ref d.RailError) = some true
  xx : ∀ k ∈ ks, ∀ c ∈ ks, PySem.W.exmOne K (.ref (d.at k)) (.ref (d.at c)) = some (decide (k = c))
/-- what an exception's own dict holds -/
def XFl (e : Er) (d : Option Addr) (H : Hp) : Prop := match e with
  | .NoWire i => ∃ x, d = some x ∧ H x = some (.xd [(("at" : Str), .int i)])
  | .NoRow i => ∃ x, d = some x ∧ H x = some (.xd [(("word" : Str), .int i)])
  | _ => d = none
theorem XFl.ext {e : Er} {d : Option Addr} {H H' : Hp} (h : XFl e d H) (x : Ex H H') : XFl e d H' := by
  cases e <;> first
    | exact h
    | (obtain ⟨a, h1, h2⟩ := h; exact ⟨a, h1, x _ _ h2⟩)
theorem RetE.by {d : Eds} {e : Er} {H : Hp} {E : XK} (h : ∀ H' dd, Ex H H' → XFl e dd H' → E (.ref (d.at e.k)) dd H') : RetE d e H E := by
  cases e <;> first
    | exact fun H' x => h H' none x rfl
    | exact fun H' a _ x q => h H' (some a) x ⟨a, rfl, q⟩
/-! isinstance of the exception in hand -/
section
variable {X : Cx} {p : Addr × Obj} {D : Addr} {ex : Er}
theorem inst_pin {pins : List (Addr × Obj)} {σ : L2.St} {H : Hp} {s : Shared} (I : Inv X pins σ H s) (hp : p ∈ X.pn) (hz : p.2.cls = .ref D) (hd : XFl ex p.2.dict H) (hf : ∃ vs, p.2.data = .fields vs) : ∃ od, PySem.W.InstAt s.heap p.1 p.2 D od := by
  obtain ⟨hget, _⟩ := I.pin p (List.mem_append.mpr (.inl hp))
  obtain ⟨a, oc, od, oda, osl⟩ := p
  obtain ⟨vs, hv⟩ := hf
  dsimp only at hz hd hv hget
  subst hz hv
  have hk : od = none ∨ ∃ x fs, od = some x ∧ H x = some (.xd fs) := by
    cases ex <;> first
      | exact .inl hd
      | (obtain ⟨x, h1, h2⟩ := hd; exact .inr ⟨x, _, h1, h2⟩)
  rcases hk with rfl | ⟨x, fs, rfl, hx⟩
  · exact ⟨none, hget, rfl, rfl, trivial⟩
  · obtain ⟨_, ⟨o, _, _, e, _⟩, _⟩ := (show ∃ mA, s.heap.Ns1 x mA ∧ ∀ f, RelO (fs.lookup f) (mA f) from I.hok x _ hx)
    exact ⟨some _, hget, rfl, rfl, e⟩
theorem exc_cls {K : PySem.W.Frag} {D : Addr} (C : ExcC K D) : (PySem.W.clsIn K D).isSome = true := by
  obtain ⟨cd, hc, _⟩ := PySem.W.any_some C.hd
  rw [hc]; rfl
/-- isinstance(e, c), e the exception in hand -/
def rIsX (K : PySem.W.Frag) (D a : Addr) (ex : Er) (d : Option Addr) : List V → Hp → VK → Prop := fun xs H Q => ∃ (c : V) (cv : Value) (b : Bool), xs = [.ref a, c] ∧ ClsV c cv ∧ XFl ex d H ∧ PySem.W.kitOne K (.ref D) cv = some b ∧ Q (.bl b) H
theorem call_isP (hp : p ∈ X.pn) (C : ExcC X.K D) (hz : p.2.cls = .ref D) {d : Option Addr} (hdd : p.2.dict = d) (hf : ∃ vs, p.2.data = .fields vs) : CallR X (.builtin "isinstance") (rIsX X.K D p.1 ex d) := by
  subst hdd
  intro pins s σ H xs us Q I r h
  obtain ⟨c, cv, b, rfl, hcv, hd, e, q⟩ := h
  obtain ⟨u1, u2, rfl, r1, r2⟩ := vals2 r
  cases (show u1 = Value.ref p.1 from r1)
  have ec := hcv.eq r2
  subst ec
  obtain ⟨od, J⟩ := inst_pin I hp hz hd hf
  exact PySem.W.kia_one (PySem.W.kitx_exc (exc_cls C) C.hg C.hk C.hs C.ha C.hn C.ht C.hm) I.kIn J e (fun z => nomatch z) fun tk => ⟨.bl b, H, I.kept (t' := tk) fun _ _ z => z, rfl, q⟩
/-- .. and of a row of classes -/
def rIsXt (K : PySem.W.Frag) (D a : Addr) (ex : Er) (d : Option Addr) : List V → Hp → VK → Prop := fun xs H Q => ∃ (tp : Addr) (cs : List V) (us : List Value) (b : Bool), xs = [.ref a, .ref tp] ∧ H tp = some (.tup cs) ∧ Paired ClsV cs us ∧ XFl ex d H ∧ PySem.W.kitAny K (.ref D) us = some b ∧ Q (.bl b) H
theorem call_isPt (hp : p ∈ X.pn) (C : ExcC X.K D) (hz : p.2.cls = .ref D) {d : Option Addr} (hdd : p.2.dict = d) (hf : ∃ vs, p.2.data = .fields vs) : CallR X (.builtin "isinstance") (rIsXt X.K D p.1 ex d) := by
  subst hdd
  intro pins s σ H xs us Q I r h
  obtain ⟨tp, cs, ws, b, rfl, hT, k, hd, e, q⟩ := h
  obtain ⟨u1, u2, rfl, r1, r2⟩ := vals2 r
  cases (show u1 = Value.ref p.1 from r1)
  cases (show u2 = Value.ref tp from r2)
  obtain ⟨_, its, rv, o, h1, h2, n, h3⟩ := (show ObjOk X.prog X.w H s.heap tp (.tup cs) from I.hok tp _ hT)
  have e3 := ClsV.all k rv
  subst e3
  obtain ⟨oc, od, dt, sl⟩ := o
  simp only at h2 h3
  subst h2 h3
  obtain ⟨od, J⟩ := inst_pin I hp hz hd hf
  exact PySem.W.kia_tup (PySem.W.kitx_exc (exc_cls C) C.hg C.hk C.hs C.ha C.hn C.ht C.hm) I.kIn J h1 e (fun z => nomatch z) fun tk => ⟨.bl b, H, I.kept (t' := tk) fun _ _ z => z, rfl, q⟩
end
/-- the classes of a row, asked -/
def inKs (k : Ek) : List Ek → Bool
  | [] => false
  | c :: r => decide (k = c) || inKs k r
theorem kit_any {K : PySem.W.Frag} {d : Eds} {ks : List Ek} (T : EcF K d ks) {k : Ek} (hk : k ∈ ks) : ∀ (cs : List Ek), (∀ c ∈ cs, c ∈ ks) → PySem.W.kitAny K (.ref (d.at k)) (cs.map fun c => .ref (d.at c)) = some (inKs k cs)
  | [], _ => rfl
  | c :: r, h => by
    refine kitAny_cons (T.kt k hk c (h c (List.Mem.head _))) (fun e => ?_) fun e => ?_
    · rw [kit_any T hk r fun z hz => h z (List.Mem.tail _ hz)]
      show some (inKs k r) = some (decide (k = c) || inKs k r)
      rw [e, Bool.false_or]
    · show (decide (k = c) || inKs k r) = true
      rw [e, Bool.true_or]
/-! a def of the exception in hand, called in the suite -/
structure FnE (P : Program) (w : World) (K : PySem.W.Frag) (mg : Str → Option Value) (base : Heap) (k : Nat) (f : Addr) (fd : FuncData) (x : Str) (D : Addr) (ex : Er) (R : Bool) : Prop where
  run : ∀ (A : Around) (outer : List Env) (s : Shared) (H : Hp) (args : Args) (p : Addr × Obj) (Q : VK), L2H.RoomH k A → L2H.Hot1 A p → L2H.PinOk outer H s p → p.2.cls = .ref D → XFl ex p.2.dict H → Env0 P w K mg base A outer s H → BindsTo s fd args ([x].zip [.ref p.1]) → RetV (.bl R) H Q →
    codeAny (model P w) A (.call (.ref f) args) (CR CX0 outer P w H s Q E0) s
theorem fnE_of {P : Program} {w : World} {K : PySem.W.Frag} {mg : Str → Option Value} {base : Heap} {x qual : Str} {st : Stmt} {f : Addr} {fd : FuncData} {N : List Str} {y : Str} {k : Nat} {D : Addr} {ex : Er} {R : Bool} (F : Fun K x qual st f fd) (S : FnScope N [y] (defScope st))
    (hbody : ∀ (cdv : Value) (A : Around) (outer : List Env) (s : Shared) (H : Hp) (p : Addr × Obj) (Q : VK), A.units + 64 < cLine → p.2.cls = .ref D → XFl ex p.2.dict H → (∃ vs, p.2.data = .fields vs) → RetV (.bl R) H Q →
      ∃ t, PSs (L2H.cxH CX0 P w K mg base N qual (defScope st) f cdv A outer s H E0 p) (defBody st) t ∧ t { nx := fun _ H' => Q .non H', rt := Q } (start N [.ref p.1]) H) : FnE P w K mg base (k + 1) f fd y D ex R := by
  obtain ⟨oc, od, kV, doc, pm, an, cdv, ct, osl, rfl, lk, hcd⟩ := F.ex
  refine ⟨fun A outer s H args p Q hr hot hpin hz hd e0 hb hq => ?_⟩
  have KX : K.In s.heap := e0.mod.kin.keeps fun b o e => (e0.bs b o e).1
  have lim : s.heap.NoLimit := e0.mod.nolimit.keeps fun b o e => (e0.bs b o e).1
  have hkind : ∀ z ∈ [y].zip [Value.ref p.1], (defScope st).names.lookup z.1 = some .local ∨ ((defScope st).names.lookup z.1 = some .cell ∧ ((cellsFrom (s.heap.objs.size + 1) (defScope st).names []).lookup z.1).isSome = true) := fun ⟨n, v⟩ hy =>
    (S.par n (List.of_mem_zip hy).1).imp id fun q => ⟨q, PySem.W.cellsFrom_some _ _ _ (.inl q)⟩
  refine codeAny_call_function hr.depth (KX _ _ lk) rfl S.co S.gen rfl (PySem.W.codeRec_of KX hcd) (hb _ _ _ _ (wpAny_newFunctionEnv_cells S.kind hkind fun env he s1 hx => ?_))
  subst he
  refine ⟨lim.keeps hx.toInCall.keep, codeAny_func ?_⟩
  obtain ⟨h1, vs, h2, _⟩ := hot
  obtain ⟨t, ht, h3⟩ := hbody cdv A outer s H p Q (by have := hr.un; omega) hz hd ⟨vs, h2⟩ hq
  have rv : Vals [V.ref p.1] [Value.ref p.1] := .cons rfl .nil
  have I := L2H.inv_startH (CX := CX0) (qual := qual) (f := f) (cd := cdv) (E := E0) S hpin e0 rfl rv hx
  refine wpAny_mono (ht.run [] s1 _ H _ I h3) (fun fl s' hs => ?_) fun e s' hs => hs
  cases fl with
  | ret u =>
    obtain ⟨v, σ', H', J, r, q⟩ := hs
    exact ⟨v, H', J.os, J.bare, J.base, J.hok, r, q⟩
  | next =>
    obtain ⟨σ', H', J, q⟩ := hs
    exact ⟨V.non, H', J.os, J.bare, J.base, J.hok, rfl, q⟩
  | brk =>
    obtain ⟨_, _, _, q⟩ := hs
    exact q.elim
  | cont =>
    obtain ⟨_, _, _, q⟩ := hs
    exact q.elim
def tCallE (a : Addr) (ex : Er) (d : Option Addr) (R : Bool) (t : TA) : TE := fun σ H Q => t σ H fun vs H1 => vs = [.ref a] ∧ XFl ex d H1 ∧ RetV (.bl R) H1 Q
theorem pe_callE {X : Cx} {k : Nat} {f : Addr} {fd : FuncData} {x y : Str} {q pos : Pos} {e : Expr} {t : TA} {D : Addr} {ex : Er} {R : Bool} {p : Addr × Obj} (F : FnE X.prog X.w X.K X.mg X.base k f fd y D ex R) (hp : p ∈ X.pn) (hot : L2H.Hot1 X.A p) (hz : p.2.cls = .ref D) {d : Option Addr} (hdd : p.2.dict = d)
    (hr : L2H.RoomH k X.A) (hg : Gl X x) (hm : X.mg x = some (.ref f)) (hk : PySem.W.keepIn X.K (.ref f) = true) (hb : Binds X.K fd [y] []) (ha : PA X [e] t) (hdb : (x == ("__debug__" : Str)) = false := by decide)
    (he : starEach [e] X.env = (false, eval e X.env) :: starEach [] X.env := by rfl) (hpl : (backTo pos (starEach [] X.env)).any (·.1) = false := by rfl) : PE X (.Call (.Name x q) [e] [] pos) (tCallE p.1 ex d R t) := by
  subst hdd
  refine ⟨fun pins s σ H Q I h => ?_⟩
  refine wpAny_Call_Name_kw (ld_glob I hg hm ?_ hdb)
  refine PySem.W.callWith_K (h₀ := X.base) I.ok.mod.kin hk (thn (ha.run pos pins s σ H _ I h) fun us s1 ⟨vs, H1, I1, r, e1, hd, hq⟩ => ⟨I1.kIn, ?_⟩) he hpl
  subst e1
  obtain ⟨u, rfl, r1⟩ := r.one
  cases (show u = Value.ref p.1 from r1)
  have b := hb s1 [.ref p.1] I1.kIn (by rw [List.append_nil]; rfl)
  rw [List.append_nil] at b
  obtain ⟨p1, p2, p3, p4, p5⟩ := I1.pin p (List.mem_append_left _ hp)
  have hpin : L2H.PinOk X.stack H1 s1 p := ⟨p1, p2, fun hm => (List.mem_cons.mp (I1.stkSub p.1 hm)).elim p3 p4, p5⟩
  refine wpAny_call (codeAny_mono (F.run X.A X.stack s1 H1 ⟨[.ref p.1], []⟩ p Q hr hot hpin hz hd I1.env0 b hq) fun r s' hq => ?_)
  cases r with
  | error e => exact (show False from hq).elim
  | ok fl =>
    cases fl with
    | ret u => exact I1.after hq
    | next => exact False.elim hq
    | brk => exact False.elim hq
    | cont => exact False.elim hq
/-! all of it, class by class -/
structure EcP (K : PySem.W.Frag) (C : Addr) : Prop where
  hg : PySem.W.findIn K (.ref C) "__getattribute__" = some (some (.builtin "BaseException.__getattribute__"))
  hk : PySem.W.findIn K (.ref C) "__getattr__" = some none
  hs : PySem.W.subIn K (.ref C) (.type "BaseException") = some true
  hd : PySem.W.hasDictIn K C = true
  ha : PySem.W.findIn K (.ref C) "__class__" = some (some (.builtin "object.__class__"))
  hm : PySem.W.mroIn K C (.type "object") = some true
  ct : PySem.W.typeIn K (.ref C) = some (.type "type")
  sv : PySem.W.subIn K (.ref C) (.type "ValueError") = some true
theorem all_nil {α : Type} {P : α → Prop} : ∀ x ∈ ([] : List α), P x := fun _ h => (nomatch h)
theorem all_cons {α : Type} {P : α → Prop} {a : α} {l : List α} (h : P a) (t : ∀ x ∈ l, P x) : ∀ x ∈ a :: l, P x := fun x hx => by
  rcases List.mem_cons.mp hx with rfl | hx
  · exact h
  · exact t x hx
theorem ecf_mk {K : PySem.W.Frag} {d : Eds} {ks : List Ek} (h : ∀ k ∈ ks, EcP K (d.at k)) (hp : ∀ k ∈ ks, ∀ c ∈ ks, PySem.W.subIn K (.ref (d.at k)) (.ref (d.at c)) = some (decide (k = c)))
    (hr : ∀ k ∈ ks, PySem.W.subIn K (.ref (d.at k)) (.ref d.RailError) = some true) (rr : EcP K d.RailError)
    (hn : PySem.W.specialIn K (.builtin "object.__class__") "__get__" = some (some (.builtin "getset_descriptor.__get__"))) (ht : PySem.W.takesIn K (.builtin "object.__class__") = some true) (hv : PySem.W.kitMeta "ValueError" = true) : EcF K d ks := by
  have ec : ∀ k ∈ ks, ExcC K (d.at k) := fun k hk => by
    obtain ⟨h1, h2, h3, h4, h5, h6, h7, h8⟩ := h k hk
    exact ⟨h1, h2, h3, h4, h5, hn, ht, h6⟩
  have cl : ∀ {C : Addr}, EcP K C → (PySem.W.clsIn K C).isSome = true := fun q => by
    obtain ⟨cd, hc, _⟩ := PySem.W.any_some q.hd
    rw [hc]; rfl
  have ko : ∀ {a b : Addr} {r : Bool}, EcP K b → PySem.W.subIn K (.ref a) (.ref b) = some r → (a = b → r = true) → PySem.W.kitOne K (.ref a) (.ref b) = some r := fun {a b r} q e1 e2 => by
    unfold PySem.W.kitOne
    by_cases e : a = b
    · subst e
      rw [if_pos (by simp), e2 rfl]
    · rw [if_neg (by simp [e])]
      unfold PySem.W.kitCls
      dsimp only
      rw [if_pos (by rw [cl q, q.ct]; rfl)]
      exact e1
  refine ⟨ec, fun k hk c hc => ko (h c hc) (hp k hk c hc) (fun e => ?_), fun k hk => ?_, fun k hk => ko rr (hr k hk) fun _ => rfl, fun k hk => exm_mk rr.hs (cl rr) rr.ct (hr k hk), fun k hk c hc => exm_mk (h c hc).hs (cl (h c hc)) (h c hc).ct (hp k hk c hc)⟩
  · have e1 := hp k hk c hc
    have e2 := hp c hc c hc
    rw [e] at e1
    rw [e2] at e1
    rw [decide_eq_true (rfl : c = c)] at e1
    exact (Option.some.inj e1).symm
  · unfold PySem.W.kitOne
    rw [if_neg (by simp)]
    unfold PySem.W.kitCls
    dsimp only
    rw [if_pos hv]
    exact (h k hk).sv
theorem gv_ref {K : PySem.W.Frag} {h : Heap} {mg : Str → Option Value} {x : Str} {C : Addr} (X : K.In h) (G : h.Ns mainGlobals mg) (a : PySem.W.nsIn K mainGlobals x = some (some (.ref C))) : Gv mg x (.ref C) := ⟨_, PySem.W.mg_of X G a, rfl⟩
theorem err_at {K : PySem.W.Frag} {h : Heap} {mg : Str → Option Value} {x : Str} {C : Addr} (X : K.In h) (G : h.Ns mainGlobals mg) (a : PySem.W.nsIn K mainGlobals x = some (some (.ref C)))
    (e : PySem.W.excIn K C [.type "ValueError", .type "Exception", .type "BaseException", .type "object"] "ValueError.__new__" = true) (k : PySem.W.keepIn K (.ref C) = true) (b : PySem.W.subIn K (.ref C) (.type "BaseException") = some true) (t : PySem.W.typeIn K (.ref C) = some (.type "type")) : ErrC K mg x C :=
  ⟨PySem.W.mg_of X G a, e, k, b, t⟩
def Er.plain : Er → Bool
  | .NoWire _ => false
  | .NoRow _ => false
  | _ => true
theorem XFl.of {e : Er} {H : Hp} (h : e.plain = true) : XFl e none H := by
  cases e <;> first
    | rfl
    | cases h
theorem RetE.byP {d : Eds} {e : Er} {H : Hp} {E : XK} (hp : e.plain = true) (h : ∀ H', Ex H H' → E (.ref (d.at e.k)) none H') : RetE d e H E := by
  cases e <;> first
    | exact fun H' x => h H' x
    | cases hp
theorem Ek.all (k : Ek) : k ∈ [Ek.NoBits, .NoName, .NoKey, .NoFrame, .NoPost, .NoThing, .NoStrip, .NoRail, .NoWire, .NoRow] := by
  cases k <;> decide
/-! the suite, its exception known -/
theorem pss_exc {X : Cx} {ss : List Stmt} {es : Eds} {ks : List Ek} {cls : Value} {t : Er → TS} (h : ∀ e, e.k ∈ ks → cls = .ref (es.at e.k) → PSs X ss (t e)) :
    PSs X ss (fun D σ H => ∃ e : Er, e.k ∈ ks ∧ cls = .ref (es.at e.k) ∧ t e D σ H) :=
  ⟨fun pins s σ H D I ⟨e, h1, h2, q⟩ => (h e h1 h2).run pins s σ H D I q⟩
theorem hot_suite {X : Cx} {a : Addr} {oe : Obj} {pn : List (Addr × Obj)} {cls : Value} {d : Option Addr} (hz : L2N.Zn cls d oe) (hf : ∃ vs, oe.data = .fields vs) : L2H.Hot1 (X.suite a ((a, oe) :: pn)).A (a, oe) := by
  obtain ⟨vs, hv⟩ := hf
  exact ⟨rfl, vs, hv, hz.2.2 vs hv⟩
theorem roomE {X : Cx} {k : Nat} {v : Option Value} (hr : Room k X.A) : L2H.RoomH k (X.A.mark v) := ⟨hr.dp, hr.un⟩
def Er.num : Er → Int
  | .NoWire i => i
  | .NoRow i => i
  | _ => 0
end Bt
namespace Bt
open PySem L2 PyProof.Rows
def okE (ks : List Ek) (e : Er) : Bool := e.plain && decide (e.k ∈ ks)
theorem okE_iff {ks : List Ek} {e : Er} (h : okE ks e = true) : e.plain = true ∧ e.k ∈ ks := by
  unfold okE at h
  rw [Bool.and_eq_true, decide_eq_true_eq] at h
  exact h
theorem ifN {α : Type} {c : Bool} {a : Option α} {r : α} (h : ifB c a none = some r) : c = true ∧ a = some r := by
  cases c with
  | true => exact ⟨rfl, h⟩
  | false => cases h
theorem o_cE {a : Addr} {ex : Er} {d : Option Addr} {R : Bool} {t : TA} {σ : L2.St} {H : Hp} {Q : VK} (h : t σ H fun vs H1 => vs = [.ref a] ∧ XFl ex d H1 ∧ RetV (.bl R) H1 Q) : tCallE a ex d R t σ H Q := h
end Bt
namespace Bt
open PySem L2 PyProof.Rows
theorem pe_gr {X : Cx} {x : Str} {C : Addr} {pos : Pos} (hg : Gl X x) (h : X.mg x = some (.ref C)) (hd : (x == ("__debug__" : Str)) = false := by decide) : PE X (.Name x pos) (tC (.ref C)) := pe_gv hg ⟨_, h, rfl⟩ hd
end Bt
namespace Bt
open PySem L2 PyProof.Rows
theorem pe_callEs {X : Cx} {a : Addr} {oe : Obj} {pn : List (Addr × Obj)} {cls : Value} {k : Nat} {f : Addr} {fd : FuncData} {x y : Str} {q pos : Pos} {e : Expr} {t : TA} {D : Addr} {ex : Er} {R : Bool} {d : Option Addr} (F : FnE X.prog X.w X.K X.mg X.base k f fd y D ex R) (hz : L2N.Zn cls d oe) (hf : ∃ vs, oe.data = .fields vs) (hc : cls = .ref D)
    (hr : Room k X.A) (hg : Gl X x) (hm : X.mg x = some (.ref f)) (hk : PySem.W.keepIn X.K (.ref f) = true) (hb : Binds X.K fd [y] []) (ha : PA (X.suite a ((a, oe) :: pn)) [e] t) (hdb : (x == ("__debug__" : Str)) = false := by decide)
    (he : starEach [e] X.env = (false, eval e X.env) :: starEach [] X.env := by rfl) (hpl : (backTo pos (starEach [] X.env)).any (·.1) = false := by rfl) : PE (X.suite a ((a, oe) :: pn)) (.Call (.Name x q) [e] [] pos) (tCallE a ex d R t) :=
  pe_callE (X := X.suite a ((a, oe) :: pn)) (p := (a, oe)) F (List.Mem.head _) (hot_suite hz hf) (hz.1.trans hc) hz.2.1 (roomE hr) hg hm hk hb ha hdb he hpl
end Bt
namespace Bt
open PySem L2
theorem o_dn {n b k : L2.St → Hp → Prop} {w : VK} {σ : L2.St} {H : Hp} (h : n σ H) : (Ends.mk n w b k).nx σ H := h
end Bt
namespace Bt
open PySem L2
theorem RetE.up {d : Eds} {e : Er} {H H' : Hp} {E : XK} (k : RetE d e H E) (x : Ex H H') : RetE d e H' E := by
  cases e <;> first
    | exact fun H2 h => k H2 (x.trans h)
    | exact fun H2 a ha h => k H2 a (x.back ha) (x.trans h)
end Bt
namespace Bt
open PySem L2
/-! a refusal with its own dict, caught: the dict is laid in the frame -/
theorem RetE.byX {d : Eds} {e : Er} {H : Hp} {E : XK} (h : ∀ H' dd, Ex H H' → XFl e dd H' → (∀ x, dd = some x → H x = none) → E (.ref (d.at e.k)) dd H') : RetE d e H E := by
  cases e <;> first
    | exact fun H' x => h H' none x rfl (fun _ z => nomatch z)
    | exact fun H' a ha x q => h H' (some a) x ⟨a, rfl, q⟩ (fun y z => by cases z; exact ha)
theorem Own.growX {R H H' : Hp} {L : List Cell} {e : Er} {dd : Option Addr} (O : Own R H L) (x : Ex H H') (hX : XFl e dd H') (hn : ∀ y, dd = some y → H y = none) : ∃ R', Own R' H' L ∧ Ex R R' ∧ XFl e dd R' := by
  obtain ⟨R', O', e1, e2⟩ := O.grow x
  refine ⟨R', O', e1, ?_⟩
  cases e <;> first
    | exact hX
    | (obtain ⟨a, h1, h2⟩ := hX
       exact ⟨a, h1, e2 R (Ex.refl R) _ _ (ovr_mk (.inr (hn a h1)) h2)⟩)
end Bt

set_option Elab.async false
set_option linter.all false
set_option maxRecDepth 100000
set_option maxHeartbeats 4000000
/-! Refusals that are made of a whole number: their own __init__, raised where nothing is handled. -/
namespace Bt
open PySem L2 PyProof.Rows
/-- R.__init__(self, ..), R an own class that takes it from ValueError -/
theorem pe_rinit {X : Cx} {x : Str} {R : Addr} {e : Expr} {es : List Expr} {ta : TA} {p1 p2 pos : Pos} {pl : Sem Bool} (hg : Gl X x) (hm : X.mg x = some (.ref R))
    (ga : PySem.W.specialIn X.K (.ref R) "__getattribute__" = some (some (.builtin "type.__getattribute__"))) (rd : PySem.W.readsIn X.K R (.type "type") = true)
    (vV : PySem.W.findCls X.K (.ref R) (.type "type") "__init__" = some (.val (.builtin "ValueError.__init__"))) (ha : PA X (e :: es) ta)
    (hc : eval (.Call (.Attribute (.Name x p1) "__init__" p2) (e :: es) [] pos) X.env = (do
      let ov ← eval (.Name x p1) X.env
      standAt p2.atName
      let (f, first) ← holding [ov] (getMethod ov "__init__" pl)
      callWith pos f first (backTo pos (starEach (e :: es) X.env)) (backToKw pos (keywordEach [] X.env))) := by rfl)
    (hdb : (x == ("__debug__" : Str)) = false := by decide)
    (he : starEach (e :: es) X.env = (false, eval e X.env) :: starEach es X.env := by rfl) (hpl : (backTo pos (starEach es X.env)).any (·.1) = false := by rfl) :
    PE X (.Call (.Attribute (.Name x p1) "__init__" p2) (e :: es) [] pos) (tVeI X.K ta) := by
  refine ⟨fun pins s σ H Q I h => ?_⟩
  refine PySem.W.methodCall_KW (ld_glob I hg hm ?_ hdb) hc
  refine PySem.W.method_cls I.kIn ga (PySem.W.cls_value I.kIn rd vV (by decide +kernel) ?_)
  refine PyProof.Rows.callWith_method1 (thn (ha.run pos pins _ σ H _ (I.tok _) h) fun us s1 ⟨vs, H1, I1, r1, a, C, ws, ev, hl, T, ea, q⟩ => ?_) he hpl
  subst ev
  cases r1 with
  | @cons _ u0 _ ur ra rw' =>
    obtain rfl : u0 = Value.ref a := ra
    have hlen : ur.length ≤ sizeLine := by
      rw [← Paired.length rw', sizeLine_eq]
      omega
    exact oinit_ok T I1 ea hlen fun s' J => ⟨.non, H1, J, rfl, q⟩
/-- C(e, ..) where nothing is handled, its context None -/
theorem pmk_initN {X : Cx} {CX : CXT} {x : Str} {e : Expr} {es : List Expr} {ta : TA} {p pos : Pos} {C fI : Addr} {k : Nat} {fd : FuncData} {ps : List Str} {sp : Sp} (T : OexC X.K C) (iC : PySem.W.findIn X.K (.ref C) "__init__" = some (some (.ref fI))) (tI : PySem.W.typeIn X.K (.ref fI) = some (.type "function"))
    (F1 : FnOk X.prog X.w X.K X.mg X.base CX k fI fd ps sp) (hr : Room (k + 1) X.A) (hb : Binds X.K fd ps []) (hx : Passes CX X (fun _ _ _ => False)) (hg : Gl X x) (hm : X.mg x = some (.ref C)) (ha : PA X (e :: es) ta)
    (hdb : (x == ("__debug__" : Str)) = false := by decide) (he : starEach (e :: es) X.env = (false, eval e X.env) :: starEach es X.env := by rfl) (hpl : (backTo pos (starEach es X.env)).any (·.1) = false := by rfl) :
    L2N.PMk X (.Call (.Name x p) (e :: es) [] pos) (tMkO C sp [] ta) := by
  intro pins s σ H Q I h
  obtain ⟨nm, q, N, bs, bm, sn, sub, ab, col, dd, k0, k1, k2, k3, k5, hC, hbm⟩ := T.cls
  refine wpAny_Call_Name_kw (ld_glob I hg hm ?_ hdb)
  refine PySem.W.callWith_K (h₀ := X.base) I.ok.mod.kin T.kC (thn (ha.run pos pins s σ H _ I h) fun us s1 ⟨vs, H1, I1, r1, hz, q1⟩ => ⟨I1.kIn, ?_⟩) he hpl
  obtain ⟨hp, g, dr, tk, os⟩ := s1
  have hsz : hp.objs.size ≤ hp.objs.size + 1 := Nat.le_succ _
  have hq := q1 (hp.objs.size + 1) (I1.hok.fresh hsz)
  rw [List.append_nil] at hq
  have kk : ∀ b o, hp.get? b = some o → ((hp.push (PySem.W.kdv_tup us)).push (PySem.HandSPX.excO C hp.objs.size)).get? b = some o := fun b o z => Heap.get?_push_of_some _ (Heap.get?_push_of_some _ z)
  have I2 : Inv X pins σ (upd H1 (hp.objs.size + 1) (exo (hp.objs.size + 1) C none)) ⟨(hp.push (PySem.W.kdv_tup us)).push (PySem.HandSPX.excO C hp.objs.size), g, dr, tk, os⟩ :=
    I1.laid (t' := tk) (a := hp.objs.size + 1) (o := exo (hp.objs.size + 1) C none) (h' := (hp.push (PySem.W.kdv_tup us)).push (PySem.HandSPX.excO C hp.objs.size)) kk hsz (exo_ok (by heap_get))
  have r2 : Vals (V.ref (hp.objs.size + 1) :: vs) (Value.ref (hp.objs.size + 1) :: us) := .cons rfl r1
  have hl : (Value.ref (hp.objs.size + 1) :: us ++ []).length = ps.length := by
    have z := r2.length
    rw [F1.len _ _ _ _ hq] at z
    rw [List.append_nil]
    exact z.symm
  have hus : us.length ≤ sizeLine := by
    rw [← Paired.length r1, sizeLine_eq]
    omega
  have b2 := hb _ (Value.ref (hp.objs.size + 1) :: us) I2.kIn hl
  rw [List.append_nil] at b2
  refine wpAny_call (PySem.HandSPX.call_own PySem.F.excBase_ValueError (fun Y => PySem.HandSPX.refsVE_contains Y bm hbm) (I1.kIn _ _ hC) (PySem.W.looks_findIn I1.kIn iC) (fun self => PySem.W.bind_fn I1.kIn self tI) hus
    (codeAny_mono (F1.run _ X.stack _ _ ⟨Value.ref (hp.objs.size + 1) :: us, []⟩ (Value.ref (hp.objs.size + 1) :: us) _ _ (fun _ _ _ => False) (hr.make C us []) (I2.env0.make C us []) b2 r2 hq) fun r s' hq' => ?_))
  cases r with
  | error er => exact hx pins σ _ _ er s' I2 hq'
  | ok fl =>
    cases fl with
    | ret u =>
      obtain ⟨v, H2, os2, bare2, un2, hok2, rv, ev, d, fs, ea, ed, hd1, q2⟩ := hq'
      subst ev
      obtain ⟨h2, g2, d2, t2, os'⟩ := s'
      obtain ⟨t0, G, J, kG, ge, hoe, na⟩ := mk_end0 (d2 := d2) (t2 := t2) I1 hsz kk un2 hok2 os2 bare2 ea ed hd1
      exact ⟨rv, _, _, _, ⟨G, g2, d2, t2, os'⟩, _, .ref C, some d, rfl, J, kG, ge, hoe, ⟨rfl, rfl, fun vs z => by cases z; rfl⟩, rfl, rfl, na, rfl, bare2, raises_own T.exC T.tyC, q2⟩
    | next => exact False.elim hq'
    | brk => exact False.elim hq'
    | cont => exact False.elim hq'
/-- what such an __init__ promises: the field laid -/
def spI (C : Addr) (fld : Str) : Sp := fun vs H Q _ => ∃ (a : Addr) (i : Int), vs = [.ref a, .int i] ∧ H a = some (exo a C none) ∧ ∀ dx, H dx = none → dx ≠ a → Q .non (upd (upd H dx (exd dx [(fld, .int i)])) a (exo a C (some dx)))
def rMkI (C : Addr) (fld : Str) (vs : List V) (H1 : Hp) (Q : XK) : Prop := vs.length ≤ 1000 ∧ ∀ a, H1 a = none → spI C fld (.ref a :: (vs ++ [])) (upd H1 a (exo a C none))
  (fun v H2 => v = .non ∧ ∃ (d : Addr) (fs : List (Str × V)), H2 a = some (exo a C (some d)) ∧ H2 d = some (exd d fs) ∧ H1 d = none ∧ Q (.ref C) (some d) (upd (del H2 a) d (.xd fs))) (fun _ _ _ => False)
theorem o_mkI {C : Addr} {fld : Str} {t : TA} {σ : L2.St} {H : Hp} {Q : XK} (h : t σ H fun vs H1 => rMkI C fld vs H1 Q) : tMkO C (spI C fld) [] t σ H Q := h
theorem k_mkI {C : Addr} {fld : Str} {H1 : Hp} {Q : XK} {i : Int} (k : ∀ H' dx, H1 dx = none → Ex H1 H' → H' dx = some (.xd [(fld, .int i)]) → Q (.ref C) (some dx) H') : rMkI C fld [.int i] H1 Q := by
  refine ⟨by show 1 ≤ 1000; decide, fun a ha => ⟨a, i, rfl, upd_same, fun dx h1 h2 => ?_⟩⟩
  rw [upd_ne h2] at h1
  refine ⟨rfl, dx, _, upd_same, ?_, h1, k _ dx h1 (fun b o hb => ?_) upd_same⟩
  · rw [upd_ne h2, upd_same]
  · have hba : b ≠ a := fun z => by rw [z, ha] at hb; cases hb
    have hbd : b ≠ dx := fun z => by rw [z, h1] at hb; cases hb
    rw [upd_ne hbd, del_ne hba, upd_ne hba, upd_ne hbd, upd_ne hba]
    exact hb
/-- the facts of such a class -/
structure InF (K : PySem.W.Frag) (mg : Str → Option Value) (C R f : Addr) (fld : Str) : Prop where
  o : OexC K C
  i : PySem.W.findIn K (.ref C) "__init__" = some (some (.ref f))
  t : PySem.W.typeIn K (.ref f) = some (.type "function")
  n : PySem.W.findIn K (.ref C) fld = some none
  ga : PySem.W.specialIn K (.ref R) "__getattribute__" = some (some (.builtin "type.__getattribute__"))
  rd : PySem.W.readsIn K R (.type "type") = true
  v : PySem.W.findCls K (.ref R) (.type "type") "__init__" = some (.val (.builtin "ValueError.__init__"))
  mr : mg "RailError" = some (.ref R)
end Bt
namespace Bt
open PySem
/-- the statements of a class -/
def clsB (s : Stmt) : List Stmt := match s with
  | .ClassDef _ _ _ b _ _ _ _ _ _ _ => b
  | _ => []
end Bt

set_option linter.all false
set_option maxRecDepth 100000
set_option maxHeartbeats 1000000
/-! Plain facts about the mirror's words. -/
namespace Bt
open PySem L2
section
variable {α β S R : Type}
theorem bnd_some {a : α} {f : α → Option β} : bnd (some a) f = f a := rfl
theorem bnd_of {a : Option α} {x : α} {f : α → Option β} (h : a = some x) : bnd a f = f x := by rw [h]; rfl
theorem ltv_eq {a : α} {f : α → Option β} : ltv a f = f a := rfl
theorem ifB_t {a b : α} : ifB true a b = a := rfl
theorem ifB_f {a b : α} : ifB false a b = b := rfl
theorem ifB_dec {c : Prop} [Decidable c] {a b : α} : ifB (decide c) a b = if c then a else b := by
  by_cases h : c
  · rw [if_pos h, decide_eq_true h]; rfl
  · rw [if_neg h, decide_eq_false h]; rfl
theorem ifB_ite {c : Bool} {a b : α} : ifB c a b = if c = true then a else b := by cases c <;> rfl
theorem fin_nx {s : S} {rest : S → Option R} : fin (some (.nx s)) rest = rest s := rfl
theorem fin_rt {r : R} {rest : S → Option R} : fin (some (.rt r)) rest = some r := rfl
theorem loopM_ok {f : α → S → Option S} (I : List α → S → Prop) (hs : ∀ x r s, I (x :: r) s → ∃ s', f x s = some s' ∧ I r s') : ∀ (xs : List α) (s : S), I xs s → ∃ out, loopM f xs s = some out ∧ I [] out
  | [], s, h => ⟨s, rfl, h⟩
  | x :: r, s, h => by
    obtain ⟨s', h1, h2⟩ := hs x r s h
    obtain ⟨out, h3, h4⟩ := loopM_ok I hs r s' h2
    exact ⟨out, by show bnd (f x s) (loopM f r) = some out; rw [h1]; exact h3, h4⟩
theorem loopF_ok {f : α → S → Option (Fl S R)} (I : List α → S → Prop) (hs : ∀ x r s, I (x :: r) s → ∃ s', f x s = some (.nx s') ∧ I r s') : ∀ (xs : List α) (s : S), I xs s → ∃ out, loopF f xs s = some (.nx out) ∧ I [] out
  | [], s, h => ⟨s, rfl, h⟩
  | x :: r, s, h => by
    obtain ⟨s', h1, h2⟩ := hs x r s h
    obtain ⟨out, h3, h4⟩ := loopF_ok I hs r s' h2
    exact ⟨out, by show bnd (f x s) (contF (loopF f r)) = some (.nx out); rw [h1]; exact h3, h4⟩
/-- a search that finds nothing -/
theorem loopF_unit {f : α → Unit → Option (Fl Unit R)} {xs : List α} (h : ∀ x ∈ xs, f x () = some (.nx ())) : loopF f xs () = some (.nx ()) := by
  induction xs with
  | nil => rfl
  | cons x r ih =>
    show bnd (f x ()) (contF (loopF f r)) = some (.nx ())
    rw [h x (List.Mem.head _)]
    exact ih fun y hy => h y (List.Mem.tail _ hy)
theorem compM_ok {f : α → Option β} {g : α → β} : ∀ (xs : List α) (acc : List β), (∀ x ∈ xs, f x = some (g x)) → acc.length + xs.length ≤ 16777216 → compM f xs acc = some (acc ++ xs.map g)
  | [], acc, _, _ => by simp [compM]
  | x :: r, acc, h, hz => by
    have hl : acc.length < 16777216 := by simp only [List.length_cons] at hz; omega
    have ih := compM_ok r (acc ++ [g x]) (fun y hy => h y (List.Mem.tail _ hy)) (by simp only [List.length_append, List.length_cons, List.length_nil] at hz ⊢; omega)
    show bnd (f x) (fun y => if acc.length < 16777216 then compM f r (acc ++ [y]) else none) = _
    rw [h x (List.Mem.head _), bnd_some, if_pos hl, ih]
    simp
/-- the elements' property alone -/
theorem compM_all {f : α → Option β} {P : β → Prop} : ∀ (xs : List α) (acc : List β), (∀ x ∈ xs, ∃ y, f x = some y ∧ P y) → acc.length + xs.length ≤ 16777216 → (∀ y ∈ acc, P y) → ∃ out, compM f xs acc = some out ∧ out.length = acc.length + xs.length ∧ ∀ y ∈ out, P y
  | [], acc, _, _, ha => ⟨acc, rfl, by simp, ha⟩
  | x :: r, acc, h, hz, ha => by
    obtain ⟨y, h1, h2⟩ := h x (List.Mem.head _)
    have hl : acc.length < 16777216 := by simp only [List.length_cons] at hz; omega
    obtain ⟨out, h3, h4, h5⟩ := compM_all r (acc ++ [y]) (fun y hy => h y (List.Mem.tail _ hy)) (by simp only [List.length_append, List.length_cons, List.length_nil] at hz ⊢; omega) (fun z hz => by
      rcases List.mem_append.mp hz with q | q
      · exact ha z q
      · rw [List.mem_singleton.mp q]; exact h2)
    refine ⟨out, ?_, by rw [h4]; simp only [List.length_append, List.length_cons, List.length_nil]; omega, h5⟩
    show bnd (f x) (fun y => if acc.length < 16777216 then compM f r (acc ++ [y]) else none) = _
    rw [h1, bnd_some, if_pos hl, h3]
theorem appG_ok {xs : List α} {y : α} (h : xs.length < 16777216) : appG xs y = some (xs ++ [y]) := grd_of h
theorem catG_ok {xs ys : List α} (h : xs.length + ys.length ≤ 16777216) : catG xs ys = some (xs ++ ys) := grd_of h
theorem ixN_nat' {n : Nat} {i : Int} (h0 : 0 ≤ i) (h1 : i < n) : ixN n i = some i.toNat := by
  unfold ixN
  rw [if_pos h0, if_pos h1]
theorem atI_ok {xs : List α} {i : Int} (h0 : 0 ≤ i) (h1 : i < xs.length) : atI xs i = xs[i.toNat]? := by
  unfold atI
  rw [ixN_nat' h0 h1]
  rfl
theorem atI_mem {xs : List α} {i : Int} (h0 : 0 ≤ i) (h1 : i < xs.length) : ∃ x, atI xs i = some x ∧ x ∈ xs := by
  have hn : i.toNat < xs.length := by omega
  exact ⟨xs[i.toNat], by rw [atI_ok h0 h1]; exact List.getElem?_eq_getElem hn, List.getElem_mem hn⟩
theorem setG_ok {xs : List α} {i : Int} {y : α} (h0 : 0 ≤ i) (h1 : i < xs.length) : setG xs i y = some (xs.set i.toNat y) := by
  unfold setG
  rw [ixN_nat' h0 h1]
theorem repG_ok {xs : List α} {k : Int} (h0 : 0 ≤ k) (h1 : k ≤ 1000000) (h2 : xs.length * k.toNat ≤ 16777216) : repG xs k = some (List.replicate k.toNat xs).flatten := grd_of ⟨by omega, by omega, h2⟩
end
theorem modG_ok {i j : Int} (h : 0 < j) : modG i j = some (i % j) := grd_of h
theorem log2_small {n k : Nat} (h : n < 2 ^ k) : n.log2 ≤ k := by
  by_cases h0 : n = 0
  · subst h0; rw [show Nat.log2 0 = 0 from by decide]; exact Nat.zero_le _
  · exact Nat.le_of_lt ((Nat.log2_lt h0).mpr h)
theorem mulG_ok {i j : Int} {a b : Nat} (h1 : i.natAbs < 2 ^ a) (h2 : j.natAbs < 2 ^ b) (h : a + b < 1000000) : mulG i j = some (i * j) := by
  refine grd_of ?_
  have := log2_small h1
  have := log2_small h2
  omega
theorem fdivG_ok {i j : Int} {b : Nat} (h : 0 < j) (h2 : j.natAbs < 2 ^ b) (hb : b < 9000) : fdivG i j = some (i / j) := by
  refine grd_of ⟨h, ?_⟩
  have := log2_small h2
  omega
theorem shrG_ok {i j : Int} (h : 0 ≤ j) : shrG i j = some (i / 2 ^ j.toNat) := grd_of h
theorem rng1_ok {j : Int} (h : j ≤ 1000000) (h0 : -1000000 ≤ j) : rng1 j = some (rangeI 0 j) := grd_of ⟨by omega, by omega⟩
theorem rng2_ok {i j : Int} (h : j ≤ 1000000) (h0 : -1000000 ≤ j) (h1 : -1000000 ≤ i) (h2 : i ≤ 1000000) : rng2 i j = some (rangeI i j) := grd_of ⟨by omega, by omega, by omega, by omega⟩
theorem mem_rangeI {i j x : Int} (h : x ∈ rangeI i j) : i ≤ x ∧ x < j := by
  unfold rangeI at h
  obtain ⟨n, hn, rfl⟩ := List.mem_map.mp h
  have := List.mem_range.mp hn
  omega
theorem rangeI_length (i j : Int) : (rangeI i j).length = (j - i).toNat := by simp [rangeI]
theorem rangeI_cons {i j : Int} (h : i < j) : rangeI i j = i :: rangeI (i + 1) j := by
  unfold rangeI
  have e : (j - i).toNat = (j - (i + 1)).toNat + 1 := by omega
  rw [e, List.range_succ_eq_map]
  simp only [List.map_cons, List.map_map]
  congr 1
  · simp
  · refine List.map_congr_left fun n _ => ?_
    simp only [Function.comp]
    omega
theorem rangeI_nil {i j : Int} (h : j ≤ i) : rangeI i j = [] := by
  unfold rangeI
  rw [show (j - i).toNat = 0 from by omega]
  rfl
/-- a loop over a range: the invariant by the number ahead -/
theorem loopM_rng {S : Type} {f : Int → S → Option S} (I : Int → S → Prop) {hi : Int} (hs : ∀ i s, i < hi → I i s → ∃ s', f i s = some s' ∧ I (i + 1) s') : ∀ (n : Nat) (lo : Int) (s : S), (hi - lo).toNat = n → lo ≤ hi → I lo s → ∃ out, loopM f (rangeI lo hi) s = some out ∧ I hi out
  | 0, lo, s, e, h, h0 => by
    have : lo = hi := by omega
    subst this
    rw [rangeI_nil (Int.le_refl _)]
    exact ⟨s, rfl, h0⟩
  | n + 1, lo, s, e, h, h0 => by
    rw [rangeI_cons (by omega)]
    obtain ⟨s', h1, h2⟩ := hs lo s (by omega) h0
    obtain ⟨out, h3, h4⟩ := loopM_rng I hs n (lo + 1) s' (by omega) (by omega) h2
    exact ⟨out, by show bnd (f lo s) _ = _; rw [h1]; exact h3, h4⟩
theorem loopF_rng {S R : Type} {f : Int → S → Option (Fl S R)} (I : Int → S → Prop) {hi : Int} (hs : ∀ i s, i < hi → I i s → ∃ s', f i s = some (.nx s') ∧ I (i + 1) s') : ∀ (n : Nat) (lo : Int) (s : S), (hi - lo).toNat = n → lo ≤ hi → I lo s → ∃ out, loopF f (rangeI lo hi) s = some (.nx out) ∧ I hi out
  | 0, lo, s, e, h, h0 => by
    have : lo = hi := by omega
    subst this
    rw [rangeI_nil (Int.le_refl _)]
    exact ⟨s, rfl, h0⟩
  | n + 1, lo, s, e, h, h0 => by
    rw [rangeI_cons (by omega)]
    obtain ⟨s', h1, h2⟩ := hs lo s (by omega) h0
    obtain ⟨out, h3, h4⟩ := loopF_rng I hs n (lo + 1) s' (by omega) (by omega) h2
    exact ⟨out, by show bnd (f lo s) _ = _; rw [h1]; exact h3, h4⟩
end Bt
namespace Bt
open PySem L2
theorem bits_le {i : Int} {n : Nat} (h : i.natAbs < 2 ^ n) : Builtin.Int.intBits i ≤ n := by
  unfold Builtin.Int.intBits
  split
  · exact Nat.zero_le _
  · rename_i h0
    have h1 : i.natAbs ≠ 0 := by simpa using h0
    have := (Nat.log2_lt h1).mpr h
    omega
theorem shlG_ok {i j : Int} {n : Nat} (h : i.natAbs < 2 ^ n) (h0 : 0 ≤ j) (h1 : (n : Int) + j ≤ 100000000) : shlG i j = some (i * 2 ^ j.toNat) := by
  refine grd_of ⟨h0, ?_⟩
  have := bits_le h
  omega
end Bt
namespace Bt
open PySem L2
theorem whileM_go {S : Type} {c : S → Option Bool} {f : S → Option S} {n : Nat} {s s' : S} (h1 : c s = some true) (h2 : f s = some s') : whileM c f (n + 1) s = whileM c f n s' := by
  show bnd (c s) (fun b => ifB b (bnd (f s) (whileM c f n)) (some s)) = _
  rw [h1, bnd_some, ifB_t, h2, bnd_some]
theorem whileM_stop {S : Type} {c : S → Option Bool} {f : S → Option S} {n : Nat} {s : S} (h1 : c s = some false) : whileM c f (n + 1) s = some s := by
  show bnd (c s) (fun b => ifB b (bnd (f s) (whileM c f n)) (some s)) = _
  rw [h1, bnd_some, ifB_f]
theorem loopM_go {α S : Type} {f : α → S → Option S} {x : α} {r : List α} {s s' : S} (h : f x s = some s') : loopM f (x :: r) s = loopM f r s' := by
  show bnd (f x s) (loopM f r) = _
  rw [h, bnd_some]
theorem loopF_go {α S R : Type} {f : α → S → Option (Fl S R)} {x : α} {r : List α} {s s' : S} (h : f x s = some (.nx s')) : loopF f (x :: r) s = loopF f r s' := by
  show bnd (f x s) (contF (loopF f r)) = _
  rw [h, bnd_some]
  rfl
end Bt
namespace Bt
open PySem L2
theorem compT_ok {α β : Type} {c : α → Option Bool} {f : α → Option β} {p : α → Bool} {g : α → β} : ∀ (xs : List α) (acc : List β), (∀ x ∈ xs, c x = some (p x)) → (∀ x ∈ xs, f x = some (g x)) → acc.length + xs.length ≤ 16777216 → compT c f xs acc = some (acc ++ (xs.filter p).map g)
  | [], acc, _, _, _ => by simp [compT]
  | x :: r, acc, h, k, hz => by
    simp only [List.length_cons] at hz
    show bnd (c x) (fun b => ifB b (bnd (f x) fun y => if acc.length < 16777216 then compT c f r (acc ++ [y]) else none) (compT c f r acc)) = _
    rw [h x (List.Mem.head _), bnd_some]
    cases e : p x with
    | true =>
      rw [ifB_t, k x (List.Mem.head _), bnd_some, if_pos (by omega), compT_ok r (acc ++ [g x]) (fun y hy => h y (List.Mem.tail _ hy)) (fun y hy => k y (List.Mem.tail _ hy)) (by simp; omega)]
      simp [e]
    | false =>
      rw [ifB_f, compT_ok r acc (fun y hy => h y (List.Mem.tail _ hy)) (fun y hy => k y (List.Mem.tail _ hy)) (by omega)]
      simp [e]
end Bt
namespace Bt
theorem bndO_ok {α β : Type} {y : α} {f : α → Option β} : bndO (some (.ok y)) f = f y := rfl
theorem bndR_ok {α β : Type} {y : α} {f : α → Option (Rs β)} : bndR (some (.ok y)) f = f y := rfl
theorem bndR_er {α β : Type} {e : Er} {f : α → Option (Rs β)} : bndR (some (.er e)) f = some (.er e) := rfl
theorem tryR_ok {α β : Type} {y : α} {f : α → β} {g : Er → β} : tryR (.ok y) f g = f y := rfl
theorem tryR_er {α β : Type} {e : Er} {f : α → β} {g : Er → β} : tryR (.er e) f g = g e := rfl
end Bt

set_option Elab.async false
set_option linter.all false
set_option maxRecDepth 100000
set_option maxHeartbeats 4000000
/-! Objects: what a def is handed to change, and gives back. -/
namespace Bt
open PySem L2
section
variable {R R' H H' H0 R0 Hb F : Hp} {L L' A B C : List Cell} {Bs Bs' Cs : List (List Cell)} {a p q : Addr} {o o' : HO} {Q : VK} {v : V} {D : Hp → V → List Cell → Prop} {α : Type}
/-- some of the blocks, by their places -/
theorem flat_mem {i : Nat} {b : List Cell} (h : Bs[i]? = some b) {c : Cell} (hc : c ∈ b) : c ∈ Bs.flatten := List.mem_flatten.mpr ⟨b, List.mem_of_getElem? h, hc⟩
theorem flat_nd : ∀ {Bs : List (List Cell)}, (Bs.flatten.map (·.1)).Nodup → ∀ {i j : Nat} {b b' : List Cell}, Bs[i]? = some b → Bs[j]? = some b' → i ≠ j → ∀ c ∈ b, ∀ d ∈ b', c.1 ≠ d.1
  | [], _, i, j, b, b', h, _, _ => by simp at h
  | x :: r, nd, i, j, b, b', h, h', n => by
    rw [List.flatten_cons, List.map_append] at nd
    obtain ⟨_, n2, n3⟩ := List.nodup_append.mp nd
    intro c hc d hd e
    cases i with
    | zero =>
      cases j with
      | zero => exact n rfl
      | succ j =>
        cases Option.some.inj h
        exact n3 _ (List.mem_map_of_mem (f := (·.1)) hc) _ (List.mem_map_of_mem (f := (·.1)) (flat_mem (by simpa using h') hd)) e
    | succ i =>
      cases j with
      | zero =>
        cases Option.some.inj h'
        exact n3 _ (List.mem_map_of_mem (f := (·.1)) hd) _ (List.mem_map_of_mem (f := (·.1)) (flat_mem (by simpa using h) hc)) e.symm
      | succ j => exact flat_nd n2 (by simpa using h) (by simpa using h') (fun z => n (by rw [z])) c hc d hd e
theorem flat_nd1 : ∀ {Bs : List (List Cell)}, (Bs.flatten.map (·.1)).Nodup → ∀ {i : Nat} {b : List Cell}, Bs[i]? = some b → (b.map (·.1)).Nodup
  | [], _, i, b, h => by simp at h
  | x :: r, nd, i, b, h => by
    rw [List.flatten_cons, List.map_append] at nd
    obtain ⟨n1, n2, _⟩ := List.nodup_append.mp nd
    cases i with
    | zero => cases Option.some.inj h; exact n1
    | succ i => exact flat_nd1 n2 (by simpa using h)
theorem Own.selB (O : Own R H Bs.flatten) (is : List Nat) (hd : is.Nodup) (e : is.map (fun i => Bs[i]?) = Bs'.map some) : Own R H Bs'.flatten := by
  have hm : ∀ c ∈ Bs'.flatten, c ∈ Bs.flatten := fun c hc => by
    obtain ⟨b, hb, hc⟩ := List.mem_flatten.mp hc
    have h1 : some b ∈ is.map (fun i => Bs[i]?) := by rw [e]; exact List.mem_map_of_mem hb
    obtain ⟨i, _, h2⟩ := List.mem_map.mp h1
    exact flat_mem h2 hc
  refine ⟨O.ex, fun c h => O.at_ c (hm c h), fun c h => O.fr c (hm c h), ?_⟩
  clear hm
  induction is generalizing Bs' with
  | nil =>
    cases Bs' with
    | nil => exact List.Pairwise.nil
    | cons c r => simp at e
  | cons i is ih =>
    cases Bs' with
    | nil => simp at e
    | cons b r =>
      simp only [List.map_cons, List.cons.injEq] at e
      obtain ⟨e1, e2⟩ := e
      obtain ⟨n1, n2⟩ := List.nodup_cons.mp hd
      rw [List.flatten_cons, List.map_append]
      refine List.nodup_append.mpr ⟨flat_nd1 O.nd e1, ih n2 e2, fun x hx y hy exy => ?_⟩
      obtain ⟨c, hc, rfl⟩ := List.mem_map.mp hx
      obtain ⟨d, hd', rfl⟩ := List.mem_map.mp hy
      obtain ⟨b', hb', hd'⟩ := List.mem_flatten.mp hd'
      have h1 : some b' ∈ is.map (fun i => Bs[i]?) := by rw [e2]; exact List.mem_map_of_mem hb'
      obtain ⟨j, hj, h2⟩ := List.mem_map.mp h1
      exact flat_nd O.nd e1 h2 (fun z => n1 (by rw [z]; exact hj)) c hc d hd' exy
/-- the same, told by what is left -/
def nthB : List (List Cell) → Nat → List Cell
  | [], _ => []
  | b :: _, 0 => b
  | _ :: r, n + 1 => nthB r n
def pickG (Bs : List (List Cell)) : List Nat → List (List Cell)
  | [] => []
  | i :: r => nthB Bs i :: pickG Bs r
theorem g1 {Bs : List (List Cell)} : pickG Bs [] = [] := rfl
theorem g2 {Bs : List (List Cell)} {i : Nat} {r : List Nat} : pickG Bs (i :: r) = nthB Bs i :: pickG Bs r := rfl
theorem g3 {b : List Cell} {r : List (List Cell)} : nthB (b :: r) 0 = b := rfl
theorem g4 {b : List Cell} {r : List (List Cell)} {n : Nat} : nthB (b :: r) (n + 1) = nthB r n := rfl
theorem nth_some : ∀ {Bs : List (List Cell)} {i : Nat}, i < Bs.length → Bs[i]? = some (nthB Bs i)
  | [], i, h => by simp at h
  | b :: r, 0, _ => rfl
  | b :: r, i + 1, h => by
    rw [List.getElem?_cons_succ]
    exact nth_some (by simpa using h)
theorem nth_none : ∀ {Bs : List (List Cell)} {i : Nat}, ¬ i < Bs.length → nthB Bs i = []
  | [], i, h => rfl
  | b :: r, 0, h => by simp at h
  | b :: r, i + 1, h => nth_none (Bs := r) (by simpa using h)
theorem pick_flat (Bs : List (List Cell)) : ∀ is : List Nat, (pickG Bs is).flatten = (pickG Bs (is.filter fun i => decide (i < Bs.length))).flatten
  | [] => rfl
  | i :: r => by
    rw [g2, List.flatten_cons, pick_flat Bs r, List.filter_cons]
    by_cases h : i < Bs.length
    · rw [decide_eq_true h, if_pos rfl, g2, List.flatten_cons]
    · rw [decide_eq_false h, if_neg (by simp), nth_none h, List.nil_append]
theorem pick_ok (Bs : List (List Cell)) : ∀ is : List Nat, (∀ i ∈ is, i < Bs.length) → is.map (fun i => Bs[i]?) = (pickG Bs is).map some
  | [], _ => rfl
  | i :: r, h => by
    rw [g2, List.map_cons, List.map_cons, nth_some (h i (List.Mem.head _)), pick_ok Bs r fun j hj => h j (List.Mem.tail _ hj)]
theorem Own.pkB (O : Own R H L) (Bs : List (List Cell)) (hB : L = Bs.flatten) (is : List Nat) (hd : is.Nodup) (e : (pickG Bs is).flatten = L') : Own R H L' := by
  subst hB
  subst e
  rw [pick_flat]
  exact O.selB _ (hd.filter _) (pick_ok Bs _ fun i hi => by
    obtain ⟨_, h⟩ := List.mem_filter.mp hi
    exact of_decide_eq_true h)
theorem Own.split (O : Own R H (Bs ++ Cs).flatten) : Own R H (Bs.flatten ++ Cs.flatten) := by
  rw [List.flatten_append] at O
  exact O
/-- blocks to the front, apart -/
theorem Own.cutB (O : Own R H Bs.flatten) (is : List Nat) (hd : is.Nodup) (e : is.map (fun i => Bs[i]?) = (Bs' ++ Cs).map some) : Own R H (Bs'.flatten ++ Cs.flatten) := (O.selB is hd e).split
theorem Own.asc (O : Own R H ((A ++ B) ++ C)) : Own R H (A ++ (B ++ C)) := by
  rw [List.append_assoc] at O
  exact O
/-- H without the cells -/
def hsub (H : Hp) (L : List Cell) : Hp := fun a => if a ∈ L.map (·.1) then none else H a
theorem hsub_nil : hsub H [] = H := rfl
theorem hsub_in {c : Cell} (h : c ∈ L) : hsub H L c.1 = none := by
  unfold hsub
  exact if_pos (List.mem_map_of_mem (f := (·.1)) h)
theorem hsub_ex : Ex (hsub H L) H := fun a u e => by
  unfold hsub at e
  split at e
  · cases e
  · exact e
theorem Own.subR (O : Own R H L) : Ex R (hsub H L) := fun a u e => by
  unfold hsub
  rw [if_neg (fun m => by
    obtain ⟨c, hc, e1⟩ := List.mem_map.mp m
    have := O.fr c hc
    rw [e1, e] at this
    cases this)]
  exact O.ex _ _ e
theorem Own.startX (O : Own R H L) : Own (hsub H L) H L := ⟨hsub_ex, O.at_, fun c h => hsub_in h, O.nd⟩
theorem Own.shrink (O : Own R H L) (e : Ex R' R) : Own R' H L := ⟨e.trans O.ex, O.at_, fun c h => e.back (O.fr c h), O.nd⟩
theorem Own.left (O : Own R H (A ++ B)) : Own R H A := O.sub (List.sublist_append_left A B)
theorem Own.right (O : Own R H (A ++ B)) : Own R H B := O.sub (List.sublist_append_right A B)
/-- what a def that changes things hands back: in what R0 knows or what is new; the cells L are its own to give back -/
def RetX (R0 Hb : Hp) (D : Hp → V → List Cell → Prop) (Q : VK) : Prop := ∀ v H' R' L', Ex Hb R' → Own R' H' L' → D (ovr R0 Hb R') v L' → Q v H'
abbrev DT := Hp → V → List Cell → Prop
def MonoD (D : DT) : Prop := ∀ F F' v L, Ex F F' → D F v L → D F' v L
/-- back from the call: the other cells are still there -/
theorem Own.back (O : Own R H (B ++ C)) (e : Ex (hsub H B) R') (O' : Own R' H' L') : ∃ R'', Own R'' H' (L' ++ C) ∧ Ex R R'' ∧ ∀ F, Ex F R → Ex (ovr F (hsub H B) R') R'' := by
  have nd := O.nd
  rw [List.map_append] at nd
  obtain ⟨ndB, ndC, dis⟩ := List.nodup_append.mp nd
  have hC : ∀ c ∈ C, R' c.1 = some c.2 := fun c hc => e _ _ (by
    unfold hsub
    rw [if_neg (fun m => dis _ m _ (List.mem_map_of_mem (f := (·.1)) hc) rfl)]
    exact O.at_ c (List.mem_append.mpr (.inr hc)))
  have hR : ∀ b u, R b = some u → R' b = some u := fun b u h => e _ _ (O.left.subR b u h)
  refine ⟨hsub R' C, ⟨hsub_ex.trans O'.ex, fun c hc => ?_, fun c hc => ?_, ?_⟩, fun b u h => ?_, fun F hF b u h => ?_⟩
  · rcases List.mem_append.mp hc with hc | hc
    · exact O'.at_ c hc
    · exact O'.ex _ _ (hC c hc)
  · rcases List.mem_append.mp hc with hc | hc
    · exact hsub_ex.back (O'.fr c hc)
    · exact hsub_in hc
  · rw [List.map_append]
    refine List.nodup_append.mpr ⟨O'.nd, ndC, fun x hx y hy exy => ?_⟩
    subst exy
    obtain ⟨c, hc, e1⟩ := List.mem_map.mp hx
    obtain ⟨d, hd, e2⟩ := List.mem_map.mp hy
    have h1 := O'.fr c hc
    have h2 := hC d hd
    rw [e2, ← e1, h1] at h2
    cases h2
  · unfold hsub
    rw [if_neg (fun m => by
      obtain ⟨c, hc, e1⟩ := List.mem_map.mp m
      have := O.fr c (List.mem_append.mpr (.inr hc))
      rw [e1, h] at this
      cases this)]
    exact hR b u h
  · obtain ⟨hq, h1⟩ := ovr_some h
    unfold hsub
    rw [if_neg (fun m => ?_)]
    · exact h1
    · obtain ⟨c, hc, e1⟩ := List.mem_map.mp m
      rcases hq with hq | hq
      · cases hf : F b with
        | none => exact hq hf
        | some w =>
          have := O.fr c (List.mem_append.mpr (.inr hc))
          rw [e1, hF _ _ hf] at this
          cases this
      · have : hsub H B c.1 = some c.2 := by
          unfold hsub
          rw [if_neg (fun m => dis _ m _ (List.mem_map_of_mem (f := (·.1)) hc) rfl)]
          exact O.at_ c (List.mem_append.mpr (.inr hc))
        rw [e1, hq] at this
        cases this
theorem Own.retX (O : Own R H (B ++ C)) (m : MonoD D) (k : ∀ v H' R' L', Own R' H' (L' ++ C) → Ex R R' → D R' v L' → Q v H') : RetX R (hsub H B) D Q := fun v H' R' L' e O' d => by
  obtain ⟨R'', O'', e1, e2⟩ := O.back e O'
  exact k v H' R'' L' O'' e1 (m _ _ _ _ (e2 R (Ex.refl R)) d)
theorem Own.retXO (O : Own R H (B ++ C)) (m : MonoD D) (e0 : Ex H0 R) (k : ∀ v H' R' L', Own R' H' (L' ++ C) → Ex R R' → D (ovr R0 H0 R') v L' → Q v H') : RetX (ovr R0 H0 R) (hsub H B) D Q := fun v H' R' L' e O' d => by
  obtain ⟨R'', O'', e1, e2⟩ := O.back e O'
  refine k v H' R'' L' O'' e1 (m _ _ _ _ (fun b u h => ?_) d)
  have h1 := e2 (ovr R0 H0 R) ovr_ex _ _ h
  obtain ⟨hq, _⟩ := ovr_some h
  refine ovr_mk ?_ h1
  rcases hq with hq | hq
  · cases hz : ovr R0 H0 R b with
    | none => exact absurd hz hq
    | some w => exact (ovr_some hz).1
  · refine .inr ?_
    cases hz : H0 b with
    | none => rfl
    | some w =>
      have h3 := O.left.subR _ _ (e0 _ _ hz)
      rw [hq] at h3
      cases h3
theorem Own.inC {B C : List Cell} {c : Cell} (O : Own R H (B ++ C)) (h : c ∈ C) : hsub H B c.1 = some c.2 := by
  have nd := O.nd
  rw [List.map_append] at nd
  unfold hsub
  rw [if_neg (fun m => (List.nodup_append.mp nd).2.2 _ m _ (List.mem_map_of_mem (f := (·.1)) h) rfl)]
  exact O.at_ c (List.mem_append_right _ h)
/-! what is handed back -/
abbrev Ob (α : Type) := Hp → Addr → List Cell → α → Prop
def MonoO {α : Type} (B : Ob α) : Prop := ∀ F F' a L x, Ex F F' → B F a L x → B F' a L x
def dV (w : V) : DT := fun _ v L => L = [] ∧ v = w
def dLs (xs : List V) : DT := fun _ v L => ∃ p, v = .ref p ∧ L = [(p, .lst xs)]
def dTp (xs : List V) : DT := fun _ v L => ∃ p, v = .ref p ∧ L = [(p, .tup xs)]
def dP {α : Type} (P : Rp α) (x : α) : DT := fun F v L => L = [] ∧ P F v x
def dOb {α : Type} (B : Ob α) (x : α) : DT := fun F v L => ∃ a, v = .ref a ∧ B F a L x
def dX {α : Type} (B : Ob α) (a : Addr) (x : α) (D : DT) : DT := fun F v L => ∃ L1 L2, L = L1 ++ L2 ∧ B F a L1 x ∧ D F v L2
def dI {α : Type} (B : Ob α) (a : Addr) (x : α) : DT := fun F v L => v = .non ∧ B F a L x
theorem mdI {α : Type} {B : Ob α} {a : Addr} {x : α} (m : MonoO B) : MonoD (dI B a x) := fun _ _ _ _ e h => ⟨h.1, m _ _ _ _ _ e h.2⟩
def dK (L : List Cell) (D : DT) : DT := fun F v L' => ∃ L2, L' = L ++ L2 ∧ D F v L2
theorem mdK {L : List Cell} {D : DT} (n : MonoD D) : MonoD (dK L D) := fun _ _ _ _ e ⟨L2, h1, h3⟩ => ⟨L2, h1, n _ _ _ _ e h3⟩
theorem Own.whole {R0 Hs Hb H0 H : Hp} {L X : List Cell} (O0 : Own R0 Hs L) (hb : Hb = hsub Hs L) (eB : Ex Hb H0) (O : Own H0 H (L ++ X)) : Ex Hs H := fun a u h => by
  by_cases c : a ∈ L.map (·.1)
  · obtain ⟨d, hd, e⟩ := List.mem_map.mp c
    have h1 := O0.at_ d hd
    have h2 := O.at_ d (List.mem_append_left _ hd)
    subst e
    rw [h1] at h
    rw [h2, ← h]
  · refine O.ex _ _ (eB _ _ ?_)
    rw [hb]
    unfold hsub
    rw [if_neg c]
    exact h
theorem mdV {w : V} : MonoD (dV w) := fun _ _ _ _ _ h => h
theorem mdLs {xs : List V} : MonoD (dLs xs) := fun _ _ _ _ _ h => h
theorem mdTp {xs : List V} : MonoD (dTp xs) := fun _ _ _ _ _ h => h
theorem mdP {α : Type} {P : Rp α} {x : α} (m : Mono P) : MonoD (dP P x) := fun _ _ _ _ e h => ⟨h.1, m _ _ _ _ e h.2⟩
theorem mdOb {α : Type} {B : Ob α} {x : α} (m : MonoO B) : MonoD (dOb B x) := fun _ _ _ _ e ⟨a, h1, h2⟩ => ⟨a, h1, m _ _ _ _ _ e h2⟩
theorem mdX {α : Type} {B : Ob α} {a : Addr} {x : α} {D : DT} (m : MonoO B) (n : MonoD D) : MonoD (dX B a x D) := fun _ _ _ _ e ⟨L1, L2, h1, h2, h3⟩ => ⟨L1, L2, h1, m _ _ _ _ _ e h2, n _ _ _ _ e h3⟩
/-! a list of such -/
inductive All3 {α β γ : Type} (P : α → β → γ → Prop) : List α → List β → List γ → Prop
  | nil : All3 P [] [] []
  | cons {a : α} {b : β} {c : γ} {as : List α} {bs : List β} {cs : List γ} : P a b c → All3 P as bs cs → All3 P (a :: as) (b :: bs) (c :: cs)
theorem All3.mp {α β γ : Type} {P P' : α → β → γ → Prop} {as : List α} {bs : List β} {cs : List γ} (f : ∀ a b c, P a b c → P' a b c) (h : All3 P as bs cs) : All3 P' as bs cs := by
  induction h with
  | nil => exact .nil
  | cons h _ ih => exact .cons (f _ _ _ h) ih
theorem All3.len {α β γ : Type} {P : α → β → γ → Prop} {as : List α} {bs : List β} {cs : List γ} (h : All3 P as bs cs) : as.length = cs.length := by
  induction h with
  | nil => rfl
  | cons _ _ ih => simp [ih]
/-- the j-th of them, apart -/
theorem All3.at {α γ : Type} {P : α → List Cell → γ → Prop} {as : List α} {bs : List (List Cell)} {cs : List γ} (h : All3 P as bs cs) : ∀ {j : Nat} {c : γ}, cs[j]? = some c → ∃ a b bs1 bs2, as[j]? = some a ∧ P a b c ∧ bs = bs1 ++ b :: bs2 ∧ ∀ (P' : α → List Cell → γ → Prop) (b' : List Cell) (c' : γ), (∀ a b c, P a b c → P' a b c) → P' a b' c' → All3 P' as (bs1 ++ b' :: bs2) (cs.set j c') := by
  induction h with
  | nil => intro j c e; simp at e
  | @cons a b c as bs cs h t ih =>
    intro j d e
    cases j with
    | zero =>
      cases Option.some.inj e
      exact ⟨a, b, [], bs, rfl, h, rfl, fun P' b' c' m k => .cons k (t.mp m)⟩
    | succ j =>
      obtain ⟨a1, b1, bs1, bs2, h1, h2, h3, h4⟩ := ih (by simpa using e)
      exact ⟨a1, b1, b :: bs1, bs2, by simpa using h1, h2, by rw [h3]; rfl, fun P' b' c' m k => .cons (m _ _ _ h) (h4 P' b' c' m k)⟩
def oLs {α : Type} (B : Ob α) : Ob (List α) := fun F a L xs => ∃ as Ls, L.Perm ((a, HO.lst (as.map V.ref)) :: Ls.flatten) ∧ All3 (B F) as Ls xs
theorem moLs {α : Type} {B : Ob α} (m : MonoO B) : MonoO (oLs B) := fun _ _ _ _ _ e ⟨as, Ls, h1, h2⟩ => ⟨as, Ls, h1, h2.mp fun _ _ _ h => m _ _ _ _ _ e h⟩
theorem Own.lsAt {α : Type} {B : Ob α} {F : Hp} {a : Addr} {A L C : List Cell} {xs : List α} {i : Int} {x : α} (m : MonoO B) (O : Own R H (A ++ (L ++ C))) (h : oLs B F a L xs) (e : atI xs i = some x) :
    ∃ (vs : List V) (b : Addr) (L1 L2 : List Cell), H a = some (.lst vs) ∧ atI vs i = some (.ref b) ∧ vs.length = xs.length ∧ B F b L1 x ∧ (L1 ++ L2).Perm L ∧ Own R H (A ++ (L1 ++ (L2 ++ C))) ∧ (∀ F' L1' x', Ex F F' → B F' b L1' x' → ∀ ys, setG xs i x' = some ys → oLs B F' a (L1' ++ L2) ys) ∧ ∀ F' L1', Ex F F' → B F' b L1' x → oLs B F' a (L1' ++ L2) xs := by
  obtain ⟨as, Ls, hp, h3⟩ := h
  unfold atI at e
  cases ej : ixN xs.length i with
  | none => rw [ej] at e; cases e
  | some j =>
    rw [ej] at e
    obtain ⟨b, L1, bs1, bs2, h4, h5, h6, h7⟩ := h3.at e
    subst h6
    have hp2 : L.Perm (L1 ++ ((a, HO.lst (as.map V.ref)) :: (bs1.flatten ++ bs2.flatten))) := by
      refine hp.trans ?_
      rw [List.flatten_append, List.flatten_cons]
      refine List.Perm.trans ?_ (List.perm_middle.symm)
      refine List.Perm.cons _ ?_
      rw [← List.append_assoc, ← List.append_assoc]
      exact List.Perm.append_right _ List.perm_append_comm
    have cl : ∀ F' L1' x', Ex F F' → B F' b L1' x' → oLs B F' a (L1' ++ ((a, HO.lst (as.map V.ref)) :: (bs1.flatten ++ bs2.flatten))) (xs.set j x') := fun F' L1' x' ex hb => by
      refine ⟨as, bs1 ++ L1' :: bs2, ?_, h7 _ L1' x' (fun _ _ _ h => m _ _ _ _ _ ex h) hb⟩
      rw [List.flatten_append, List.flatten_cons]
      refine List.perm_middle.trans ?_
      refine List.Perm.cons _ ?_
      rw [← List.append_assoc, ← List.append_assoc]
      exact List.Perm.append_right _ List.perm_append_comm
    refine ⟨as.map V.ref, b, L1, (a, HO.lst (as.map V.ref)) :: (bs1.flatten ++ bs2.flatten), O.mem (List.mem_append_right _ (List.mem_append_left _ (hp.mem_iff.mpr (List.Mem.head _)))), ?_, by rw [List.length_map, h3.len], h5, hp2.symm, O.perm ?_, fun F' L1' x' ex hb ys hy => ?_, fun F' L1' ex hb => ?_⟩
    · unfold atI
      rw [List.length_map, h3.len, ej]
      show (as.map V.ref)[j]? = _
      rw [List.getElem?_map, h4]
      rfl
    · refine List.Perm.append_left _ ?_
      rw [← List.append_assoc]
      exact List.Perm.append_right _ hp2
    · unfold setG at hy
      rw [ej] at hy
      cases hy
      exact cl F' L1' x' ex hb
    · have := cl F' L1' x ex hb
      have e2 : xs.set j x = xs := by
        obtain ⟨h8, h9⟩ := List.getElem?_eq_some_iff.mp (show xs[j]? = some x from e)
        rw [← h9]
        exact List.set_getElem_self h8
      rw [e2] at this
      exact this
end
/-! tests with two sides, over any state -/
section
variable {J : Hp → Prop} {Q : VK} {σ : St} {H : Hp} {v x y : V}
theorem x_andJ {c d e : Bool} {tt uu : TT} {QB : Bool → Hp → Prop} (J : Hp → Prop) (h1 : ∀ Q1 : Bool → Hp → Prop, (∀ H', J H' → Q1 c H') → tt σ H Q1) (h2 : c = true → e = d ∧ ∀ H', J H' → ∀ Q2 : Bool → Hp → Prop, (∀ H'', J H'' → Q2 e H'') → uu σ H' Q2)
    (h3 : c = false → false = d) (k : ∀ H', J H' → QB d H') : tAnd tt uu σ H QB := by
  refine h1 _ fun H' O' => ?_
  cases c with
  | true =>
    obtain ⟨e1, g2⟩ := h2 rfl
    subst e1
    exact g2 H' O' QB k
  | false =>
    rw [← h3 rfl] at k
    exact k H' O'
theorem x_orJ {c d e : Bool} {tt uu : TT} {QB : Bool → Hp → Prop} (J : Hp → Prop) (h1 : ∀ Q1 : Bool → Hp → Prop, (∀ H', J H' → Q1 c H') → tt σ H Q1) (h2 : c = false → e = d ∧ ∀ H', J H' → ∀ Q2 : Bool → Hp → Prop, (∀ H'', J H'' → Q2 e H'') → uu σ H' Q2)
    (h3 : c = true → true = d) (k : ∀ H', J H' → QB d H') : tOr tt uu σ H QB := by
  refine h1 _ fun H' O' => ?_
  cases c with
  | false =>
    obtain ⟨e1, g2⟩ := h2 rfl
    subst e1
    exact g2 H' O' QB k
  | true =>
    rw [← h3 rfl] at k
    exact k H' O'
theorem x_andVJ {c d e : Bool} {tt uu : TE} (J : Hp → Prop) (h1 : ∀ Q1 : VK, (∀ H', J H' → Q1 (.bl c) H') → tt σ H Q1) (h2 : c = true → e = d ∧ ∀ H', J H' → ∀ Q2 : VK, (∀ H'', J H'' → Q2 (.bl e) H'') → uu σ H' Q2)
    (h3 : c = false → false = d) (k : ∀ H', J H' → Q (.bl d) H') : tAndV tt uu σ H Q := by
  refine h1 _ fun H' O' => ⟨_, rfl, ?_⟩
  cases c with
  | true =>
    obtain ⟨e1, g2⟩ := h2 rfl
    subst e1
    exact g2 H' O' Q k
  | false =>
    rw [← h3 rfl] at k
    exact k H' O'
theorem x_orVJ {c d e : Bool} {tt uu : TE} (J : Hp → Prop) (h1 : ∀ Q1 : VK, (∀ H', J H' → Q1 (.bl c) H') → tt σ H Q1) (h2 : c = false → e = d ∧ ∀ H', J H' → ∀ Q2 : VK, (∀ H'', J H'' → Q2 (.bl e) H'') → uu σ H' Q2)
    (h3 : c = true → true = d) (k : ∀ H', J H' → Q (.bl d) H') : tOrV tt uu σ H Q := by
  refine h1 _ fun H' O' => ⟨_, rfl, ?_⟩
  cases c with
  | false =>
    obtain ⟨e1, g2⟩ := h2 rfl
    subst e1
    exact g2 H' O' Q k
  | true =>
    rw [← h3 rfl] at k
    exact k H' O'
theorem x_ifJ {c : Bool} {tt : TT} {ta tb : TE} (J : Hp → Prop) (h1 : ∀ Q1 : Bool → Hp → Prop, (∀ H', J H' → Q1 c H') → tt σ H Q1) (h2 : c = true → x = v ∧ ∀ H', J H' → ∀ Q2 : VK, (∀ H'', J H'' → Q2 x H'') → ta σ H' Q2)
    (h3 : c = false → y = v ∧ ∀ H', J H' → ∀ Q2 : VK, (∀ H'', J H'' → Q2 y H'') → tb σ H' Q2) (k : ∀ H', J H' → Q v H') : tIf tt ta tb σ H Q := by
  refine h1 _ fun H' O' => ?_
  cases c with
  | true =>
    obtain ⟨e1, g2⟩ := h2 rfl
    subst e1
    exact g2 H' O' Q k
  | false =>
    obtain ⟨e1, g3⟩ := h3 rfl
    subst e1
    exact g3 H' O' Q k
end
theorem Own.unls {R H : Hp} {A L1 L2 L C : List Cell} (O : Own R H (A ++ (L1 ++ (L2 ++ C)))) (h : (L1 ++ L2).Perm L) : Own R H (A ++ (L ++ C)) := by
  refine O.perm (List.Perm.append_left _ ?_)
  rw [← List.append_assoc]
  exact List.Perm.append_right _ h
/-! fields -/
section
variable {K : PySem.W.Frag} {σ : St} {H R : Hp} {L : List Cell} {Q : VK} {a dx C : Addr} {fs : List (Str × V)} {v : V} {f : Str} {te tv : TE}
theorem o_fld (h : te σ H fun x H1 => ∃ a C dx fs v, x = .ref a ∧ H1 a = some (.ins C dx fs) ∧ Cls K C ∧ NoAttr K C f ∧ fs.lookup f = some v ∧ Q v H1) : tFld K te f σ H Q := h
def rSFld (K : PySem.W.Frag) (f : Str) (y x : V) (H : Hp) (QH : Hp → Prop) : Prop := ∃ a C dx fs, x = .ref a ∧ H a = some (.ins C dx fs) ∧ Cls K C ∧ NoAttr K C f ∧ fs.length < 1000 ∧ QH (upd H a (.ins C dx (putF f y fs)))
theorem o_sfld {n b k : St → Hp → Prop} {w : VK} (h : tv σ H fun y H1 => te σ H1 fun x H2 => rSFld K f y x H2 (n σ)) : sFld K te tv f (Ends.mk n w b k) σ H := h
theorem o_meth {m : Str} {sp : Sp} {dvs : List V} {E : XK} {t : TA} (h : te σ H fun x H1 => ∃ a dx fs, x = .ref a ∧ H1 a = some (.ins C dx fs) ∧ fs.lookup m = none ∧ t σ H1 fun vs H2 => sp (x :: (vs ++ dvs)) H2 Q E) : tMeth C m sp dvs E te t σ H Q := h
theorem o_make {sp : Sp} {dvs : List V} {E : XK} {t : TA} (h : t σ H fun vs H1 => ∀ x dx, H1 x = none → H1 dx = none → dx ≠ x → sp (.ref x :: (vs ++ dvs)) (upd (upd H1 dx (.own x)) x (.ins C dx [])) (fun v H2 => v = .non ∧ Q (.ref x) H2) E) : tMake C sp dvs E t σ H Q := h
theorem Own.mk2 (O : Own R H L) {x : Addr} (h1 : H x = none) (h2 : H dx = none) (h3 : dx ≠ x) : Own R (upd (upd H dx (.own x)) x (.ins C dx fs)) ((x, .ins C dx fs) :: (dx, .own x) :: L) :=
  Own.new (O.new h2) (by rw [upd_ne (Ne.symm h3)]; exact h1)
theorem k_make {sp : Sp} {vs : List V} {E : XK} {Q2 : Addr → Hp → Prop} (O : Own R H L) (k : ∀ x dx H', Own R H' ((x, .ins C dx []) :: (dx, .own x) :: L) → sp (.ref x :: vs) H' (fun v H2 => v = .non ∧ Q2 x H2) E) : ∀ x dx, H x = none → H dx = none → dx ≠ x → sp (.ref x :: vs) (upd (upd H dx (.own x)) x (.ins C dx [])) (fun v H2 => v = .non ∧ Q2 x H2) E := fun x dx h1 h2 h3 => k x dx _ (O.mk2 h1 h2 h3)
theorem putF_nil : putF f v [] = [(f, v)] := rfl
theorem putF_hit {x : V} {r : List (Str × V)} : putF f v ((f, x) :: r) = (f, v) :: r := by simp [putF]
theorem putF_skip {g : Str} {x : V} {r r' : List (Str × V)} (h : (g == f) = false) (e : putF f v r = r') : putF f v ((g, x) :: r) = (g, x) :: r' := by
  have : g ≠ f := by simpa using h
  simp [putF, this, e]
theorem lk_hit {r : List (Str × V)} : List.lookup f ((f, v) :: r) = some v := by simp [List.lookup]
theorem lk_skip {g : Str} {x : V} {r : List (Str × V)} {o : Option V} (h : (f == g) = false) (e : List.lookup f r = o) : List.lookup f ((g, x) :: r) = o := by simp [List.lookup, h, e]
theorem lk_nil : List.lookup f ([] : List (Str × V)) = none := rfl
theorem k_sfld {v' : V} {fs' : List (Str × V)} {QH : Hp → Prop} {g : HO → List Cell} (hl : H a = some (.ins C dx fs)) (c : Cls K C) (n : NoAttr K C f) (hz : fs.length < 1000) (ev : v = v') (e : putF f v' fs = fs') (hp : ∀ o', Own R (upd H a o') (g o')) (k : ∀ H', Own R H' (g (.ins C dx fs')) → QH H') :
    rSFld K f v (.ref a) H QH := by
  subst ev
  refine ⟨a, C, dx, fs, rfl, hl, c, n, hz, ?_⟩
  rw [e]
  exact k _ (hp _)
theorem Own.cv {L' : List Cell} (O : Own R H L) (e : L = L') : Own R H L' := e ▸ O
theorem Own.putB {A B : List Cell} {o o' : HO} (O : Own R H L) (e : L = A ++ (a, o) :: B) : Own R (upd H a o') (A ++ (a, o') :: B) := by
  subst e
  exact Own.put O
theorem cls_at {K : PySem.W.Frag} {C : Addr} (h1 : PySem.W.plainGet K C Str.empty = true) (h2 : PySem.W.hasDictIn K C = true) (h3 : PySem.W.plainOver K C = true) (h4 : PySem.W.findIn K (.ref C) "__setattr__" = some (some (.builtin "object.__setattr__"))) : Cls K C := ⟨h1, h2, h3, h4⟩
end
end Bt

set_option Elab.async false
set_option linter.all false
set_option maxRecDepth 100000
set_option maxHeartbeats 4000000
/-! Data of any form: lists and tuples of such, None, one of two kinds. -/
namespace Bt
open PySem L2
section
variable {α β γ δ : Type} {P : Rp α} {P' : Rp β} {P3 : Rp γ} {P4 : Rp δ} {F H R : Hp} {L : List Cell} {v w : V} {a p : Addr} {K : PySem.W.Frag} {Q : VK} {i : Int}
def rN : Rp Unit := fun _ v _ => v = .non
def rU (P : Rp α) (P' : Rp β) : Rp (α ⊕ β) := fun F v x => match x with
  | .inl a => P F v a
  | .inr b => P' F v b
theorem mN : Mono rN := fun _ _ _ _ _ h => h
theorem mU (m : Mono P) (n : Mono P') : Mono (rU P P') := fun F F' v x e h => by
  cases x with
  | inl a => exact m _ _ _ _ e h
  | inr b => exact n _ _ _ _ e h
theorem rO_some {x : Option α} {y : α} (h : rO P F v x) (e : x = some y) : P F v y := by subst e; exact h
theorem rO_mk {y : α} (h : P F v y) : rO P F v (some y) := h
def prL : α ⊕ β → Option α
  | .inl a => some a
  | .inr _ => none
def prR : α ⊕ β → Option β
  | .inl _ => none
  | .inr b => some b
theorem rU_l {x : α ⊕ β} {y : α} (h : rU P P' F v x) (e : prL x = some y) : P F v y := by
  cases x with
  | inl a => cases e; exact h
  | inr b => cases e
theorem rU_r {x : α ⊕ β} {y : β} (h : rU P P' F v x) (e : prR x = some y) : P' F v y := by
  cases x with
  | inl a => cases e
  | inr b => cases e; exact h
theorem rL_ref {x : List α} (h : rL P F v x) : ∃ p, v = .ref p := by obtain ⟨p, _, e, _⟩ := h; exact ⟨p, e⟩
theorem rT2_ref {x : α × β} (h : rT2 P P' F v x) : ∃ p, v = .ref p := by obtain ⟨p, _, _, e, _⟩ := h; exact ⟨p, e⟩
theorem rT3_ref {x : α × β × γ} (h : rT3 P P' P3 F v x) : ∃ p, v = .ref p := by obtain ⟨p, _, _, _, e, _⟩ := h; exact ⟨p, e⟩
theorem rT4_ref {x : α × β × γ × δ} (h : rT4 P P' P3 P4 F v x) : ∃ p, v = .ref p := by obtain ⟨p, _, _, _, _, e, _⟩ := h; exact ⟨p, e⟩
theorem rL_at {x : List α} (h : rL P F (.ref p) x) : ∃ vs, F p = some (.lst vs) ∧ All2 (P F) vs x := by
  obtain ⟨q, vs, e, h1, h2⟩ := h
  cases e
  exact ⟨vs, h1, h2⟩
theorem rT2_at {x : α × β} (h : rT2 P P' F (.ref p) x) : ∃ a b, F p = some (.tup [a, b]) ∧ P F a x.1 ∧ P' F b x.2 := by
  obtain ⟨q, a, b, e, h1, h2⟩ := h
  cases e
  exact ⟨a, b, h1, h2⟩
theorem rT3_at {x : α × β × γ} (h : rT3 P P' P3 F (.ref p) x) : ∃ a b c, F p = some (.tup [a, b, c]) ∧ P F a x.1 ∧ P' F b x.2.1 ∧ P3 F c x.2.2 := by
  obtain ⟨q, a, b, c, e, h1, h2⟩ := h
  cases e
  exact ⟨a, b, c, h1, h2⟩
theorem rT4_at {x : α × β × γ × δ} (h : rT4 P P' P3 P4 F (.ref p) x) : ∃ a b c d, F p = some (.tup [a, b, c, d]) ∧ P F a x.1 ∧ P' F b x.2.1 ∧ P3 F c x.2.2.1 ∧ P4 F d x.2.2.2 := by
  obtain ⟨q, a, b, c, d, e, h1, h2⟩ := h
  cases e
  exact ⟨a, b, c, d, h1, h2⟩
theorem fIr {F : Hp} {p : Addr} {xs : List Int} (h : rL rI F (.ref p) xs) : F p = some (.lst (xs.map V.int)) := by
  obtain ⟨q, e, h⟩ := fI h
  cases e
  exact h
theorem fBr {F : Hp} {p : Addr} {xs : List Bool} (h : rL rB F (.ref p) xs) : F p = some (.lst (xs.map V.bl)) := by
  obtain ⟨q, e, h⟩ := fB h
  cases e
  exact h
theorem fSr {F : Hp} {p : Addr} {xs : List Str} (h : rL rS F (.ref p) xs) : F p = some (.lst (xs.map V.str)) := by
  obtain ⟨q, e, h⟩ := fS h
  cases e
  exact h
/-! never None -/
def NN (P : Rp α) : Prop := ∀ F v x, P F v x → v ≠ .non
theorem nnI : NN rI := fun _ _ _ h => by rw [show _ = _ from h]; simp
theorem nnB : NN rB := fun _ _ _ h => by rw [show _ = _ from h]; simp
theorem nnS : NN rS := fun _ _ _ h => by rw [show _ = _ from h]; simp
theorem nnL : NN (rL P) := fun _ _ _ h => by obtain ⟨p, rfl⟩ := rL_ref h; simp
theorem nnT2 : NN (rT2 P P') := fun _ _ _ h => by obtain ⟨p, rfl⟩ := rT2_ref h; simp
theorem nnT3 : NN (rT3 P P' P3) := fun _ _ _ h => by obtain ⟨p, rfl⟩ := rT3_ref h; simp
theorem nnT4 : NN (rT4 P P' P3 P4) := fun _ _ _ h => by obtain ⟨p, rfl⟩ := rT4_ref h; simp
theorem nnU (m : NN P) (n : NN P') : NN (rU P P') := fun _ _ x h => by
  cases x with
  | inl a => exact m _ _ _ h
  | inr b => exact n _ _ _ h
theorem dec_non {x : Option α} (n : NN P) (h : rO P F v x) : decide (v = V.non) = x.isNone := by
  cases x with
  | none => rw [show v = _ from h]; rfl
  | some y => rw [decide_eq_false (n _ _ _ h)]; rfl
def rIsN : R2 := fun x y H Q => y = .non ∧ Q (.bl (decide (x = .non))) H
def rNotN : R2 := fun x y H Q => y = .non ∧ Q (.bl (!decide (x = .non))) H
theorem op_isNq {X : Cx} : OpR X (compareOp .Is) rIsN := op_isN
theorem op_notNq {X : Cx} : OpR X (compareOp .IsNot) rNotN := op_notN
theorem k_isN {x : Option α} (n : NN P) (h : rO P F v x) (q : Q (.bl x.isNone) H) : rIsN v .non H Q := ⟨rfl, by rw [dec_non n h]; exact q⟩
theorem k_notN {x : Option α} (n : NN P) (h : rO P F v x) (q : Q (.bl (!x.isNone)) H) : rNotN v .non H Q := ⟨rfl, by rw [dec_non n h]; exact q⟩
end
theorem k_isT {H : Hp} {Q : VK} (q : Q (.bl true) H) : rIsN .non .non H Q := ⟨rfl, by rw [decide_eq_true rfl]; exact q⟩
theorem k_isTn {H : Hp} {Q : VK} (q : Q (.bl (!true)) H) : rNotN .non .non H Q := ⟨rfl, by rw [decide_eq_true rfl]; exact q⟩
theorem k_isF {v : V} {H : Hp} {Q : VK} (q : Q (.bl false) H) (h : v ≠ .non := by simp) : rIsN v .non H Q := ⟨rfl, by rw [decide_eq_false h]; exact q⟩
theorem k_isFn {v : V} {H : Hp} {Q : VK} (q : Q (.bl (!false)) H) (h : v ≠ .non := by simp) : rNotN v .non H Q := ⟨rfl, by rw [decide_eq_false h]; exact q⟩
theorem room65 {k : Nat} {A : Around} (r : Room k A) : A.units + 65 < cLine := by have := r.un; omega
/-! lists of such, one's own or not -/
section
variable {α : Type} {P : V → α → Prop} {F H R : Hp} {L : List Cell} {v w : V} {a b p : Addr} {K : PySem.W.Frag} {Q : VK} {i : Int} {vs ws : List V} {xs ys zs : List α} {y : α} {σ : St}
theorem n_lenA (hs : SqL K H a vs) (ha : All2 P vs xs) (k : Q (.int (xs.length : Int)) H) : rLenQ K [.ref a] H Q := by
  unfold rLenQ
  exact ⟨a, vs, rfl, .inl hs, by rw [ha.len]; exact k⟩
theorem k_ixA (hs : SqL K H a vs) (ha : All2 P vs xs) (h : atI xs i = some y) (k : ∀ v, P v y → Q v H) : rIxL K (.ref a) (.int i) H Q := by
  obtain ⟨v, e1, hv⟩ := ha.at h
  exact ⟨a, vs, i, v, rfl, rfl, hs, e1, k v hv⟩
theorem k_appA {g : HO → List Cell} (hl : H a = some (.lst vs)) (ha : All2 P vs xs) (hp : ∀ o', Own R (upd H a o') (g o')) (h : appG xs y = some ys) (hv : P v y) (k : ∀ H', Own R H' (g (.lst (vs ++ [v]))) → All2 P (vs ++ [v]) ys → Q .non H') : rAppend (.ref a) [v] H Q := by
  obtain ⟨c, rfl⟩ := grdE h
  exact ⟨a, _, _, rfl, rfl, hl, by rw [ha.len]; exact c, k _ (hp _) (ha.snoc hv)⟩
theorem k_setA {g : HO → List Cell} {QH : Hp → Prop} (hl : H a = some (.lst vs)) (ha : All2 P vs xs) (hp : ∀ o', Own R (upd H a o') (g o')) (h : setG xs i y = some ys) (hv : P v y) (k : ∀ H' ws, Own R H' (g (.lst ws)) → All2 P ws ys → QH H') : rSetL (.ref a) (.int i) v H QH := by
  unfold setG at h
  cases e : ixN xs.length i with
  | none => rw [e] at h; cases h
  | some j =>
    rw [e] at h
    cases h
    exact ⟨a, _, i, j, rfl, rfl, hl, by rw [ha.len]; exact e, k _ _ (hp _) (ha.set hv j)⟩
theorem All2.cut (ha : All2 P vs xs) (lo hi : Option Int) : All2 P (cutV vs lo hi) (cutL xs lo hi) := by
  unfold cutV cutL
  rw [ha.len]
  exact (ha.drop _).take _
theorem k_cutA {lo hi : Option Int} (O : Own R H L) (hs : SqL K H a vs) (ha : All2 P vs xs) (k : ∀ p H' ws, Own R H' ((p, .lst ws) :: L) → All2 P ws (cutL xs lo hi) → Q (.ref p) H') : rSlL K (.ref a) lo hi H Q :=
  ⟨a, vs, rfl, hs, fun p hp => k p _ _ (O.new hp) (ha.cut lo hi)⟩
theorem k_catA (O : Own R H L) (h1 : H a = some (.lst vs)) (ha : All2 P vs xs) (h2 : H b = some (.lst ws)) (hb : All2 P ws ys) (h : catG xs ys = some zs) (k : ∀ p H' us, Own R H' ((p, .lst us) :: L) → All2 P us zs → Q (.ref p) H') : rCat (.ref a) (.ref b) H Q := by
  obtain ⟨c, rfl⟩ := grdE h
  exact ⟨a, b, _, _, rfl, rfl, h1, h2, by rw [ha.len, hb.len]; exact c, fun p hp => k p _ _ (O.new hp) (ha.app hb)⟩
theorem n_listA (O : Own R H L) (h : SqL K H a vs) (k : ∀ p H', Own R H' ((p, .lst vs) :: L) → Q (.ref p) H') : rListQ K [.ref a] H Q := n_list O h k
theorem k_forA {g : TG} {tb : TS} {D : Ends} (ha : All2 P vs xs) (J : List α → St → Hp → Prop) (h0 : J xs σ H) (hl : ∀ r σ H, J r σ H → SqL K H a vs)
    (hs : ∀ x v r σ H, P v x → J (x :: r) σ H → g v σ H fun σ2 H2 => tb { D with nx := J r, ct := J r, bk := D.nx } σ2 H2) (hd : ∀ σ H, J [] σ H → D.nx σ H) :
    ∃ W : Nat → Nat → St → Hp → Prop, (∃ m, W 0 m σ H) ∧ ∀ i m σ H, W i m σ H →
      ((Itl K a).stop i H ∧ D.nx σ H) ∨ ((Itl K a).go i H ∧ ∃ N : St → Hp → Prop, (∀ σ' H', N σ' H' → ∃ m', m' < m ∧ W (i + 1) m' σ' H') ∧ ∀ x H', (Itl K a).yld i H x H' → g x σ H' fun σ2 H2 => tb { D with nx := N, ct := N, bk := D.nx } σ2 H2) := by
  refine for_list (xs := vs) (fun i σ H => J (xs.drop i) σ H) h0 (fun i σ H _ => hl _ σ H) (fun i v σ H hi hJ => ?_) fun σ H hJ => ?_
  · have hlt : i < xs.length := by
      rw [← ha.len]
      exact (List.getElem?_eq_some_iff.mp hi).1
    obtain ⟨v', e1, e2⟩ := ha.get (List.getElem?_eq_getElem hlt)
    rw [hi] at e1
    cases e1
    rw [List.drop_eq_getElem_cons hlt] at hJ
    exact hs _ v _ σ H e2 hJ
  · rw [ha.len, List.drop_length] at hJ
    exact hd σ H hJ
theorem q_forA {j : Nat} {ts : TS} {n b k : St → Hp → Prop} {w : VK} (ha : All2 P vs xs) (J : List α → St → Hp → Prop) (h0 : J xs σ H) (hl : ∀ r σ H, J r σ H → SqL K H a vs)
    (hs : ∀ x v r σ H, P v x → J (x :: r) σ H → ts (Ends.mk (J r) w n (J r)) (σ.set j (some v)) H) (hd : ∀ σ H, J [] σ H → n σ H) :
    ∃ W : Nat → Nat → St → Hp → Prop, (∃ m, W 0 m σ H) ∧ ∀ i m σ H, W i m σ H →
      ((Itl K a).stop i H ∧ n σ H) ∨ ((Itl K a).go i H ∧ ∃ N : St → Hp → Prop, (∀ σ' H', N σ' H' → ∃ m', m' < m ∧ W (i + 1) m' σ' H') ∧ ∀ x H', (Itl K a).yld i H x H' → gName j x σ H' fun σ2 H2 => ts (Ends.mk N w n N) σ2 H2) :=
  k_forA (D := Ends.mk n w (fun _ _ => False) fun _ _ => False) (g := gName j) (tb := ts) ha J h0 hl hs hd
/-- for a, b in xs, its items pairs -/
theorem q_forA2 {α β : Type} {P : Rp α} {P' : Rp β} {F : Hp} {xs : List (α × β)} {i1 i2 : Nat} {ts : TS} {n b k : St → Hp → Prop} {w : VK} {KK : PySem.W.Frag} (ha : All2 (rT2 P P' F) vs xs) (J : List (α × β) → St → Hp → Prop) (h0 : J xs σ H) (hl : ∀ r σ H, J r σ H → SqL K H a vs) (hx : ∀ r σ H, J r σ H → Ex F H)
    (hs : ∀ x y u v r σ H, P F u x → P' F v y → J ((x, y) :: r) σ H → ts (Ends.mk (J r) w n (J r)) ((σ.set i1 (some u)).set i2 (some v)) H) (hd : ∀ σ H, J [] σ H → n σ H) :
    ∃ W : Nat → Nat → St → Hp → Prop, (∃ m, W 0 m σ H) ∧ ∀ i m σ H, W i m σ H →
      ((Itl K a).stop i H ∧ n σ H) ∨ ((Itl K a).go i H ∧ ∃ N : St → Hp → Prop, (∀ σ' H', N σ' H' → ∃ m', m' < m ∧ W (i + 1) m' σ' H') ∧ ∀ x H', (Itl K a).yld i H x H' → gTup KK 2 (gCons (gName i1) (gCons (gName i2) gNil)) x σ H' fun σ2 H2 => ts (Ends.mk N w n N) σ2 H2) :=
  k_forA (D := Ends.mk n w (fun _ _ => False) fun _ _ => False) (g := gTup KK 2 (gCons (gName i1) (gCons (gName i2) gNil))) (tb := ts) ha J h0 hl (fun x v r σ H hv hJ => by
    obtain ⟨q, u1, u2, rfl, h1, h2, h3⟩ := hv
    exact ⟨q, _, rfl, SqT.of (hx _ _ _ hJ _ _ h1), rfl, u1, _, rfl, u2, _, rfl, rfl, hs x.1 x.2 u1 u2 r σ H h2 h3 hJ⟩) hd
theorem q_forEA {i1 i2 : Nat} {ts : TS} {n b k : St → Hp → Prop} {w : VK} {KK : PySem.W.Frag} (ha : All2 P vs xs) (J : List (Int × α) → St → Hp → Prop) (h0 : J (enumI 0 xs) σ H) (hl : ∀ r σ H, J r σ H → SqL K H a vs) (hx : ∀ r σ H H', J r σ H → Ex H H' → J r σ H')
    (hs : ∀ j x v r σ H, P v x → J ((j, x) :: r) σ H → ts (Ends.mk (J r) w n (J r)) ((σ.set i1 (some (.int j))).set i2 (some v)) H) (hd : ∀ σ H, J [] σ H → n σ H) :
    ∃ W : Nat → Nat → St → Hp → Prop, (∃ m, W 0 m σ H) ∧ ∀ i m σ H, W i m σ H →
      ((Ite K a).stop i H ∧ n σ H) ∨ ((Ite K a).go i H ∧ ∃ N : St → Hp → Prop, (∀ σ' H', N σ' H' → ∃ m', m' < m ∧ W (i + 1) m' σ' H') ∧ ∀ x H', (Ite K a).yld i H x H' → gTup KK 2 (gCons (gName i1) (gCons (gName i2) gNil)) x σ H' fun σ2 H2 => ts (Ends.mk N w n N) σ2 H2) := by
  refine ⟨fun i m σ H => m = xs.length - i ∧ i ≤ xs.length ∧ J ((enumI 0 xs).drop i) σ H, ⟨xs.length, by simp, Nat.zero_le _, h0⟩, ?_⟩
  rintro i m σ H ⟨rfl, hi, hJ⟩
  have hS := hl _ σ H hJ
  by_cases hlt : i < xs.length
  · have e : xs[i]? = some xs[i] := List.getElem?_eq_getElem hlt
    obtain ⟨v', e1, hv⟩ := ha.get e
    have e2 := enumI_drop xs 0 i xs[i] e
    rw [e2] at hJ
    refine .inr ⟨⟨_, _, hS, e1⟩, J ((enumI 0 xs).drop (i + 1)), fun σ' H' hJ' => ⟨_, by omega, rfl, hlt, hJ'⟩, fun y H' hy => ?_⟩
    obtain ⟨T, x, rfl, hT, rfl, hq⟩ := hy
    have hxx := hq _ hS
    rw [e1] at hxx
    cases hxx
    refine ⟨T, _, rfl, SqT.of upd_same, rfl, _, _, rfl, _, _, rfl, rfl, ?_⟩
    have hJ2 := hx _ _ _ (upd H T (.tup [.int ((i : Nat) : Int), v'])) hJ (Ex.new hT)
    have e3 : ((0 + i : Nat) : Int) = (i : Int) := by omega
    rw [e3] at hJ2
    exact hs _ _ _ _ _ _ hv hJ2
  · have e : (enumI 0 xs).drop i = [] := List.drop_eq_nil_of_le (by rw [enumI_len]; omega)
    rw [e] at hJ
    exact .inl ⟨⟨_, hS, by rw [ha.len]; omega⟩, hd σ H hJ⟩
/-! comprehensions over such -/
theorem k_lcA {g : TG} {tt : TT} {te : TE} {us : List Nat} {D : Addr} {Qd : Hp → Prop} (ha : All2 P vs xs) (J : List α → Hp → Prop) (h0 : J xs (upd H D (.lst []))) (hl : ∀ r H, J r H → SqL K H a vs)
    (hs : ∀ x v r H, P v x → J (x :: r) H → g v (wipe σ us) H fun σ2 H2 => wipe σ2 us = wipe σ us ∧ tt σ2 H2 fun b H3 => if b = true then te σ2 H3 fun y H4 => ∃ acc, H4 D = some (.lst acc) ∧ acc.length < sizeLine ∧ J r (upd H4 D (.lst (acc ++ [y]))) else J r H3) (hd : ∀ H, J [] H → Qd H) :
    ∃ W : Nat → Nat → Hp → Prop, (∃ m, W 0 m (upd H D (.lst []))) ∧ ∀ i m H, W i m H →
      ((Itl K a).stop i H ∧ Qd H) ∨ ((Itl K a).go i H ∧ ∃ Nx : Hp → Prop, (∀ H', Nx H' → ∃ m', m' < m ∧ W (i + 1) m' H') ∧ ∀ x H', (Itl K a).yld i H x H' → g x (wipe σ us) H' fun σ2 H2 => wipe σ2 us = wipe σ us ∧ tt σ2 H2 fun b H3 =>
        if b = true then te σ2 H3 fun y H4 => ∃ acc, H4 D = some (.lst acc) ∧ acc.length < sizeLine ∧ Nx (upd H4 D (.lst (acc ++ [y]))) else Nx H3) := by
  refine lc_list (xs := vs) (fun i H => J (xs.drop i) H) h0 (fun i H _ => hl _ H) (fun i v H hi hJ => ?_) fun H hJ => ?_
  · have hlt : i < xs.length := by
      rw [← ha.len]
      exact (List.getElem?_eq_some_iff.mp hi).1
    obtain ⟨v', e1, e2⟩ := ha.get (List.getElem?_eq_getElem hlt)
    rw [hi] at e1
    cases e1
    rw [List.drop_eq_getElem_cons hlt] at hJ
    exact hs _ v _ H e2 hJ
  · rw [ha.len, List.drop_length] at hJ
    exact hd H hJ
end
section
variable {α β : Type} [DecidableEq α] [DecidableEq β]
def optD (d : α → PyData) : Option α → PyData
  | none => .none
  | some x => d x
def deO {P : Rp α} (e : De P) (hn : ∀ a, PyData.eqv .none (e.d a) = false ∧ PyData.eqv (e.d a) .none = false) : De (rO P) where
  d := optD e.d
  dp := fun K F v x h => by
    cases x with
    | none => rw [show v = V.non from h]; exact .non
    | some y => exact e.dp K F v y h
  ok := fun x => by
    cases x with
    | none => rfl
    | some y => exact e.ok y
  n := e.n
  dep := fun x => by
    cases x with
    | none => exact Nat.zero_le _
    | some y => exact e.dep y
  eq := fun x y => by
    cases x with
    | none =>
      cases y with
      | none => simp [optD, PyData.eqv]
      | some b => simp only [optD]; rw [(hn b).1]; simp
    | some a =>
      cases y with
      | none => simp only [optD]; rw [(hn a).2]; simp
      | some b => simp only [optD]; rw [e.eq a b]; simp
def sumD (d : α → PyData) (f : β → PyData) : α ⊕ β → PyData
  | .inl x => d x
  | .inr x => f x
def deU {P : Rp α} {Q : Rp β} (e : De P) (f : De Q) (hn : ∀ a b, PyData.eqv (e.d a) (f.d b) = false ∧ PyData.eqv (f.d b) (e.d a) = false) : De (rU P Q) where
  d := sumD e.d f.d
  dp := fun K F v x h => by
    cases x with
    | inl y => exact e.dp K F v y h
    | inr y => exact f.dp K F v y h
  ok := fun x => by
    cases x with
    | inl y => exact e.ok y
    | inr y => exact f.ok y
  n := max e.n f.n
  dep := fun x => by
    cases x with
    | inl y => have := e.dep y; simp only [sumD]; omega
    | inr y => have := f.dep y; simp only [sumD]; omega
  eq := fun x y => by
    cases x with
    | inl a =>
      cases y with
      | inl b => simp only [sumD]; rw [e.eq a b]; simp
      | inr b => simp only [sumD]; rw [(hn a b).1]; simp
    | inr a =>
      cases y with
      | inl b => simp only [sumD]; rw [(hn b a).2]; simp
      | inr b => simp only [sumD]; rw [f.eq a b]; simp
end
section
variable {α : Type} [DecidableEq α] {P : Rp α} {K : PySem.W.Frag} {F F' H : Hp} {v : V} {x : α} {a : Addr} {vs : List V} {xs : List α} {Q : VK}
theorem any_mem (e : De P) (x : α) : ∀ xs : List α, ((xs.map e.d).any fun z => PyData.eqv z (e.d x)) = decide (x ∈ xs)
  | [] => rfl
  | y :: r => by
    rw [List.map_cons, List.any_cons, any_mem e x r, e.eq y x]
    by_cases h : y = x
    · subst h; simp
    · have h2 : ¬ x = y := fun q => h q.symm
      simp [h, h2]
theorem k_inN (e : De P) (m : Mono P) (h : e.n ≤ 60) (h1 : P F v x) (e1 : Ex F H) (hs : SqL K H a vs) (ha : All2 (P F') vs xs) (e2 : Ex F' H) (k : Q (.bl (decide (x ∈ xs))) H) : rInD K v (.ref a) H Q :=
  ⟨_, xs.map e.d, e.dp K H _ _ (m _ _ _ _ e1 h1), .lst hs (de_all e (mA m e2 ha)), sh_de e (by omega) x, sh_de (deL e) (by show e.n + 1 ≤ 64; omega) xs, by rw [any_mem]; exact k⟩
theorem k_niN (e : De P) (m : Mono P) (h : e.n ≤ 60) (h1 : P F v x) (e1 : Ex F H) (hs : SqL K H a vs) (ha : All2 (P F') vs xs) (e2 : Ex F' H) (k : Q (.bl (!decide (x ∈ xs))) H) : rNotInD K v (.ref a) H Q :=
  ⟨_, xs.map e.d, e.dp K H _ _ (m _ _ _ _ e1 h1), .lst hs (de_all e (mA m e2 ha)), sh_de e (by omega) x, sh_de (deL e) (by show e.n + 1 ≤ 64; omega) xs, by rw [any_mem]; exact k⟩
end
/-! the same where there are texts: whether they may be laid is asked -/
structure Dq {α : Type} [DecidableEq α] (P : Rp α) where
  d : α → PyData
  dp : ∀ (K : PySem.W.Frag) F v a, P F v a → Dp K F v (d a)
  n : Nat
  dep : ∀ a, PyData.depth (d a) ≤ n
  eq : ∀ a b, PyData.eqv (d a) (d b) = decide (a = b)
def okD {α : Type} (d : α → PyData) (x : α) : Option Unit := grd (PyData.canLay0 (d x) = true) ()
theorem okDE {α : Type} {d : α → PyData} {x : α} {u : Unit} (h : okD d x = some u) : PyData.canLay0 (d x) = true := (grdE h).1
section
variable {α β γ δ : Type} [DecidableEq α] [DecidableEq β] [DecidableEq γ] [DecidableEq δ]
def De.q {P : Rp α} (e : De P) : Dq P := ⟨e.d, e.dp, e.n, e.dep, e.eq⟩
def dqS : Dq rS where
  d := PyData.str
  dp := fun K F v a h => by rw [show v = V.str a from h]; exact .str a
  n := 0
  dep := fun _ => Nat.le_refl _
  eq := fun a b => by
    simp only [PyData.eqv]
    by_cases h : a = b
    · subst h; simp
    · rw [decide_eq_false h]; simpa using h
theorem dq_all {P : Rp α} (e : Dq P) {K : PySem.W.Frag} {F : Hp} : ∀ {vs : List V} {xs : List α}, All2 (P F) vs xs → DpAll K F vs (xs.map e.d)
  | _, _, .nil => .nil
  | _, _, .cons h t => .cons (e.dp K F _ _ h) (dq_all e t)
theorem dqdep_all {P : Rp α} (e : Dq P) : ∀ xs : List α, PyData.depthAll (xs.map e.d) ≤ e.n
  | [] => by simp [PyData.depthAll]
  | x :: r => by
    have h1 := e.dep x
    have h2 := dqdep_all e r
    simp only [List.map_cons, PyData.depthAll]
    omega
theorem dqeq_all {P : Rp α} (e : Dq P) : ∀ xs ys : List α, PyData.eqvAll (xs.map e.d) (ys.map e.d) = decide (xs = ys)
  | [], [] => by simp [PyData.eqvAll]
  | [], y :: s => by simp [PyData.eqvAll]
  | x :: r, [] => by simp [PyData.eqvAll]
  | x :: r, y :: s => by simp only [List.map_cons, PyData.eqvAll, e.eq x y, dqeq_all e r s, List.cons.injEq, Bool.decide_and]
def dqL {P : Rp α} (e : Dq P) : Dq (rL P) where
  d := fun xs => .list (xs.map e.d)
  dp := fun K F v xs ⟨p, vs, h1, h2, h3⟩ => by
    subst h1
    exact .lst (SqL.of h2) (dq_all e h3)
  n := e.n + 1
  dep := fun xs => by
    have := dqdep_all e xs
    simp only [PyData.depth]
    omega
  eq := fun xs ys => by simp only [PyData.eqv]; exact dqeq_all e xs ys
def dqT2 {P : Rp α} {Q : Rp β} (e : Dq P) (f : Dq Q) : Dq (rT2 P Q) where
  d := fun x => .tuple [e.d x.1, f.d x.2]
  dp := fun K F v x ⟨p, a, b, h1, h2, h3, h4⟩ => by
    subst h1
    exact .tup (SqT.of h2) (.cons (e.dp K F _ _ h3) (.cons (f.dp K F _ _ h4) .nil))
  n := max e.n f.n + 1
  dep := fun x => by
    have h1 := e.dep x.1
    have h2 := f.dep x.2
    simp only [PyData.depth, PyData.depthAll]
    omega
  eq := fun x y => by
    obtain ⟨x1, x2⟩ := x
    obtain ⟨y1, y2⟩ := y
    simp only [PyData.eqv, PyData.eqvAll, e.eq, f.eq, Prod.mk.injEq, Bool.decide_and, Bool.and_true]
def dqT3 {P : Rp α} {Q : Rp β} {R : Rp γ} (e : Dq P) (f : Dq Q) (g : Dq R) : Dq (rT3 P Q R) where
  d := fun x => .tuple [e.d x.1, f.d x.2.1, g.d x.2.2]
  dp := fun K F v x ⟨p, a, b, c, h1, h2, h3, h4, h5⟩ => by
    subst h1
    exact .tup (SqT.of h2) (.cons (e.dp K F _ _ h3) (.cons (f.dp K F _ _ h4) (.cons (g.dp K F _ _ h5) .nil)))
  n := max e.n (max f.n g.n) + 1
  dep := fun x => by
    have h1 := e.dep x.1
    have h2 := f.dep x.2.1
    have h3 := g.dep x.2.2
    simp only [PyData.depth, PyData.depthAll]
    omega
  eq := fun x y => by
    obtain ⟨x1, x2, x3⟩ := x
    obtain ⟨y1, y2, y3⟩ := y
    simp only [PyData.eqv, PyData.eqvAll, e.eq, f.eq, g.eq, Prod.mk.injEq, Bool.decide_and, Bool.and_true, Bool.and_assoc]
def dqO {P : Rp α} (e : Dq P) (hn : ∀ a, PyData.eqv .none (e.d a) = false ∧ PyData.eqv (e.d a) .none = false) : Dq (rO P) where
  d := optD e.d
  dp := fun K F v x h => by
    cases x with
    | none => rw [show v = V.non from h]; exact .non
    | some y => exact e.dp K F v y h
  n := e.n
  dep := fun x => by
    cases x with
    | none => exact Nat.zero_le _
    | some y => exact e.dep y
  eq := fun x y => by
    cases x with
    | none =>
      cases y with
      | none => simp [optD, PyData.eqv]
      | some b => simp only [optD]; rw [(hn b).1]; simp
    | some a =>
      cases y with
      | none => simp only [optD]; rw [(hn a).2]; simp
      | some b => simp only [optD]; rw [e.eq a b]; simp
def dqU {P : Rp α} {Q : Rp β} (e : Dq P) (f : Dq Q) (hn : ∀ a b, PyData.eqv (e.d a) (f.d b) = false ∧ PyData.eqv (f.d b) (e.d a) = false) : Dq (rU P Q) where
  d := sumD e.d f.d
  dp := fun K F v x h => by
    cases x with
    | inl y => exact e.dp K F v y h
    | inr y => exact f.dp K F v y h
  n := max e.n f.n
  dep := fun x => by
    cases x with
    | inl y => have := e.dep y; simp only [sumD]; omega
    | inr y => have := f.dep y; simp only [sumD]; omega
  eq := fun x y => by
    cases x with
    | inl a =>
      cases y with
      | inl b => simp only [sumD]; rw [e.eq a b]; simp
      | inr b => simp only [sumD]; rw [(hn a b).1]; simp
    | inr a =>
      cases y with
      | inl b => simp only [sumD]; rw [(hn b a).2]; simp
      | inr b => simp only [sumD]; rw [f.eq a b]; simp
end
section
variable {α : Type} [DecidableEq α] {P : Rp α} {K : PySem.W.Frag} {F F' H : Hp} {v w : V} {x y : α} {a : Addr} {vs : List V} {xs : List α} {Q : VK}
theorem sh_dq (e : Dq P) (h : e.n ≤ 64) {x : α} (hx : PyData.canLay0 (e.d x) = true) : SeqAt.shaped (e.d x) = true := by
  have h1 := e.dep x
  simp only [SeqAt.shaped, hx, Bool.true_and]
  exact decide_eq_true (by omega)
theorem k_eqQ (e : Dq P) (m : Mono P) (h : e.n ≤ 64) (hx : PyData.canLay0 (e.d x) = true) (hy : PyData.canLay0 (e.d y) = true) (h1 : P F v x) (e1 : Ex F H) (h2 : P F' w y) (e2 : Ex F' H) (k : Q (.bl (decide (x = y))) H) : rEqD K v w H Q :=
  ⟨_, _, e.dp K H _ _ (m _ _ _ _ e1 h1), e.dp K H _ _ (m _ _ _ _ e2 h2), sh_dq e h hx, sh_dq e h hy, by rw [e.eq]; exact k⟩
theorem k_neQ (e : Dq P) (m : Mono P) (h : e.n ≤ 64) (hx : PyData.canLay0 (e.d x) = true) (hy : PyData.canLay0 (e.d y) = true) (h1 : P F v x) (e1 : Ex F H) (h2 : P F' w y) (e2 : Ex F' H) (k : Q (.bl (!decide (x = y))) H) : rNeD K v w H Q :=
  ⟨_, _, e.dp K H _ _ (m _ _ _ _ e1 h1), e.dp K H _ _ (m _ _ _ _ e2 h2), sh_dq e h hx, sh_dq e h hy, by rw [e.eq]; exact k⟩
end
/-! what was told, changed by its asker -/
theorem exE {R : Hp} : Ex (fun _ => none) R := fun _ _ h => nomatch h
theorem ovr_fr {R0 Hb Hc R : Hp} (e : Ex Hb Hc) : Ex (ovr (fun _ => none) Hc R) (ovr R0 Hb R) := fun a o h => by
  obtain ⟨q, h1⟩ := ovr_some h
  refine ovr_mk (.inr ?_) h1
  rcases q with q | q
  · exact absurd rfl q
  · exact e.back q
theorem Own.poke {Rs R Hc H : Hp} {L : List Cell} {q : Addr} {o o' : HO} (O : Own R H L) (e : Ex Rs R) (hc : Ex Rs Hc) (hq : ovr (fun _ => none) Hc R q = some o) : Own Rs (upd H q o') L := by
  obtain ⟨c, h1⟩ := ovr_some hq
  have hcq : Hc q = none := by
    rcases c with c | c
    · exact absurd rfl c
    · exact c
  have hs : Rs q = none := hc.back hcq
  refine ⟨fun a u h => ?_, fun c hc' => ?_, fun c hc' => e.back (O.fr c hc'), O.nd⟩
  · rw [upd_ne (ne_of_none h hs)]
    exact O.ex _ _ (e _ _ h)
  · have : c.1 ≠ q := fun z => by
      have := O.fr c hc'
      rw [z, h1] at this
      cases this
    rw [upd_ne this]
    exact O.at_ c hc'
theorem Own.drop1 {R H : Hp} {c : Cell} {L : List Cell} (O : Own R H (c :: L)) : Own R H L := ⟨O.ex, fun d h => O.at_ d (List.Mem.tail _ h), fun d h => O.fr d (List.Mem.tail _ h), (List.nodup_cons.mp O.nd).2⟩
/-- the same, a second told cell kept in hand -/
theorem Own.pokeX {Rs R Hc H : Hp} {L : List Cell} {q a : Addr} {o o' : HO} {vs : List V} (O : Own R H L) (e : Ex Rs R) (hc : Ex Rs Hc) (hq : ovr (fun _ => none) Hc R q = some o) (ha : ovr (fun _ => none) Hc R a = some (.lst vs)) (hne : q ≠ a) : Own Rs (upd H q o') ((a, .lst vs) :: L) := by
  have O2 := O.poke (o' := o') e hc hq
  obtain ⟨c, h1⟩ := ovr_some ha
  have hca : Hc a = none := by
    rcases c with c | c
    · exact absurd rfl c
    · exact c
  have hz : Rs a = none := hc.back hca
  refine ⟨O2.ex, fun d h => ?_, fun d h => ?_, List.nodup_cons.mpr ⟨fun h => ?_, O2.nd⟩⟩
  · rcases List.mem_cons.mp h with rfl | h
    · show upd H q o' a = some (.lst vs)
      rw [upd_ne (fun z => hne z.symm)]
      exact O.ex _ _ h1
    · exact O2.at_ d h
  · rcases List.mem_cons.mp h with rfl | h
    · exact hz
    · exact O2.fr d h
  · obtain ⟨d, hd, e1⟩ := List.mem_map.mp h
    have := O.fr d hd
    rw [show d.1 = a from e1, h1] at this
    cases this
theorem rL_atP {α : Type} {P : Rp α} {F : Hp} {a q : Addr} {xs : List (Int × α)} {ys : List Int} {i : Int} {y : Int × α} (h : rL (rT2 rI P) F (.ref a) xs) (hq : F q = some (.lst (ys.map V.int))) (hi : atI xs i = some y) : ∃ vs, F a = some (.lst vs) ∧ All2 ((rT2 rI P) F) vs xs ∧ q ≠ a := by
  obtain ⟨p, vs, e1, h2, h3⟩ := h
  cases e1
  refine ⟨vs, h2, h3, fun z => ?_⟩
  subst z
  rw [hq] at h2
  have e := HO.lst.inj (Option.some.inj h2)
  cases xs with
  | nil =>
    unfold atI at hi
    cases hx : ixN ([] : List (Int × α)).length i with
    | none => rw [hx] at hi; cases hi
    | some j => rw [hx] at hi; cases hi
  | cons x r =>
    cases vs with
    | nil => cases h3
    | cons v vs =>
      cases h3 with
      | cons hv _ =>
        obtain ⟨p, _, _, rfl, _⟩ := hv
        cases ys with
        | nil => cases e
        | cons z ys => cases e
theorem Own.retX0 {R H Hc : Hp} {B C : List Cell} {D : DT} {Q : VK} (O : Own R H (B ++ C)) (m : MonoD D) (hc : Hc = hsub H B) (k : ∀ v H' R' L', Own R' H' (L' ++ C) → Ex R R' → D (ovr (fun _ => none) Hc R') v L' → Q v H') : RetX (fun _ => none) (hsub H B) D Q := fun v H' R' L' e O' d => by
  obtain ⟨R'', O'', e1, e2⟩ := O.back e O'
  subst hc
  refine k v H' R'' L' O'' e1 (m _ _ _ _ (fun a u h => ?_) d)
  obtain ⟨q, _⟩ := ovr_some h
  exact ovr_mk q (e2 _ exE _ _ h)
/-! isinstance of what is of one of several kinds -/
section
variable {α β γ δ : Type} {P : Rp α} {P' : Rp β} {P3 : Rp γ} {P4 : Rp δ} {K : PySem.W.Frag} {H : Hp} {v : V} {Q : VK} {u : Value}
def TyP (P : Rp α) (K : PySem.W.Frag) (u : Value) (f : α → Bool) : Prop := ∀ H v x, P H v x → ∃ t, TyX K H v t ∧ PySem.W.kitOne K t u = some (f x)
def sumB (f : α → Bool) (g : β → Bool) : α ⊕ β → Bool
  | .inl a => f a
  | .inr b => g b
theorem tyI {b : String} {r : Bool} (h : kitB "int" b = some r) : TyP rI K (.type b) (fun _ => r) := fun H v x hx => ⟨_, .base (by rw [show v = _ from hx]; exact .int _), kit_ty h⟩
theorem tyB {b : String} {r : Bool} (h : kitB "bool" b = some r) : TyP rB K (.type b) (fun _ => r) := fun H v x hx => ⟨_, .base (by rw [show v = _ from hx]; exact .bl _), kit_ty h⟩
theorem tyS {b : String} {r : Bool} (h : kitB "str" b = some r) : TyP rS K (.type b) (fun _ => r) := fun H v x hx => ⟨_, .base (by rw [show v = _ from hx]; exact .str _), kit_ty h⟩
theorem tyL {b : String} {r : Bool} (h : kitB "list" b = some r) : TyP (rL P) K (.type b) (fun _ => r) := fun H v x hx => by
  obtain ⟨p, vs, rfl, h1, _⟩ := hx
  exact ⟨_, .base (.lst h1), kit_ty h⟩
theorem tyT2 {b : String} {r : Bool} (h : kitB "tuple" b = some r) : TyP (rT2 P P') K (.type b) (fun _ => r) := fun H v x hx => by
  obtain ⟨p, _, _, rfl, h1, _⟩ := hx
  exact ⟨_, .base (.tup h1), kit_ty h⟩
theorem tyT3 {b : String} {r : Bool} (h : kitB "tuple" b = some r) : TyP (rT3 P P' P3) K (.type b) (fun _ => r) := fun H v x hx => by
  obtain ⟨p, _, _, _, rfl, h1, _⟩ := hx
  exact ⟨_, .base (.tup h1), kit_ty h⟩
theorem tyU {f : α → Bool} {g : β → Bool} (h1 : TyP P K u f) (h2 : TyP P' K u g) : TyP (rU P P') K u (sumB f g) := fun H v x hx => by
  cases x with
  | inl a => exact h1 H v a hx
  | inr b => exact h2 H v b hx
theorem k_isU {b : String} {f : α → Bool} (h : TyP P K u f) {x : α} (hx : P H v x) (q : Q (.bl (f x)) H) (hu : u = .type b := by rfl) : rIsi K [v, .ty b] H Q := by
  obtain ⟨t, h1, h2⟩ := h H v x hx
  subst hu
  exact ⟨v, _, t, _, _, rfl, .ty _, h1, h2, q⟩
end
/-! the number of a refusal in hand -/
def atE (k : Ek) (e : Er) : Option Int := match k, e with
  | .NoWire, .NoWire i => some i
  | .NoRow, .NoRow i => some i
  | _, _ => none
theorem o_xf {a : Addr} {cls : Value} {d : Option Addr} {C : Addr} {f : Str} {te : TE} {σ : St} {H : Hp} {Q : VK} (h : te σ H fun x H1 => x = .ref a ∧ cls = .ref C ∧ ∃ (dd : Addr) (fs : List (Str × V)) (v : V), d = some dd ∧ H1 dd = some (.xd fs) ∧ fs.lookup f = some v ∧ Q v H1) : tXf a cls d C f te σ H Q := h
theorem k_xfNoWire {es : Eds} {e : Er} {n : Int} {a : Addr} {cls : Value} {d : Option Addr} {H : Hp} {Q : VK} (h : atE .NoWire e = some n) (hx : XFl e d H) (hc : cls = .ref (es.at e.k)) (q : Q (.int n) H) :
    V.ref a = .ref a ∧ cls = .ref es.NoWire ∧ ∃ (dd : Addr) (fs : List (Str × V)) (v : V), d = some dd ∧ H dd = some (.xd fs) ∧ fs.lookup ("at" : Str) = some v ∧ Q v H := by
  cases e with
  | NoWire i =>
    cases h
    obtain ⟨x, h1, h2⟩ := hx
    exact ⟨rfl, hc, x, _, _, h1, h2, lk_hit, q⟩
  | _ => cases h
theorem k_xfNoRow {es : Eds} {e : Er} {n : Int} {a : Addr} {cls : Value} {d : Option Addr} {H : Hp} {Q : VK} (h : atE .NoRow e = some n) (hx : XFl e d H) (hc : cls = .ref (es.at e.k)) (q : Q (.int n) H) :
    V.ref a = .ref a ∧ cls = .ref es.NoRow ∧ ∃ (dd : Addr) (fs : List (Str × V)) (v : V), d = some dd ∧ H dd = some (.xd fs) ∧ fs.lookup ("word" : Str) = some v ∧ Q v H := by
  cases e with
  | NoRow i =>
    cases h
    obtain ⟨x, h1, h2⟩ := hx
    exact ⟨rfl, hc, x, _, _, h1, h2, lk_hit, q⟩
  | _ => cases h
theorem o_yes {A B : Hp → Prop} {σ : St} {H : Hp} (h : A H) : tYes σ H (fun b H3 => if b = true then A H3 else B H3) := by
  show if true = true then A H else B H
  rw [if_pos rfl]
  exact h
/-! a if c else b, any value -/
theorem x_ifP {c : Bool} {tt : TT} {ta tb : TE} {σ : St} {H : Hp} {Q : VK} (J0 : Hp → Prop) (J : V → Hp → Prop) (h1 : ∀ Q1 : Bool → Hp → Prop, (∀ H', J0 H' → Q1 c H') → tt σ H Q1) (h2 : c = true → ∀ H', J0 H' → ∀ Q2 : VK, (∀ v H'', J v H'' → Q2 v H'') → ta σ H' Q2)
    (h3 : c = false → ∀ H', J0 H' → ∀ Q2 : VK, (∀ v H'', J v H'' → Q2 v H'') → tb σ H' Q2) (k : ∀ v H', J v H' → Q v H') : tIf tt ta tb σ H Q := by
  refine h1 _ fun H' O' => ?_
  cases c with
  | true => exact h2 rfl H' O' Q k
  | false => exact h3 rfl H' O' Q k
end Bt

namespace Bt
open PySem L2
/-! a list of objects whose items stay these -/
section
variable {α : Type} {B : Ob α} {F R H : Hp} {vs : List V} {a b : Addr} {A L L1 C : List Cell} {xs ys : List α} {x : α} {i : Int} {w : V} {K : PySem.W.Frag} {Q : VK}
def oLv {α : Type} (vs : List V) (B : Ob α) : Ob (List α) := fun F a L xs => ∃ as Ls, vs = as.map V.ref ∧ L.Perm ((a, HO.lst vs) :: Ls.flatten) ∧ All3 (B F) as Ls xs
theorem moLv (m : MonoO B) : MonoO (oLv vs B) := fun _ _ _ _ _ e ⟨as, Ls, h0, h1, h2⟩ => ⟨as, Ls, h0, h1, h2.mp fun _ _ _ h => m _ _ _ _ _ e h⟩
theorem oLs.fix (h : oLs B F a L xs) : ∃ vs, oLv vs B F a L xs := by
  obtain ⟨as, Ls, h1, h2⟩ := h
  exact ⟨_, as, Ls, rfl, h1, h2⟩
theorem oLv.un (h : oLv vs B F a L xs) : oLs B F a L xs := by
  obtain ⟨as, Ls, rfl, h1, h2⟩ := h
  exact ⟨as, Ls, h1, h2⟩
theorem oLv.len (h : oLv vs B F a L xs) : vs.length = xs.length := by
  obtain ⟨as, Ls, rfl, h1, h2⟩ := h
  rw [List.length_map, h2.len]
theorem oLv.at (O : Own R H C) (h : oLv vs B F a L xs) (hs : ∀ c ∈ L, c ∈ C) : H a = some (.lst vs) := by
  obtain ⟨as, Ls, _, h1, _⟩ := h
  exact O.mem (hs _ (h1.mem_iff.mpr (List.Mem.head _)))
theorem oLv.isref (h : oLv vs B F a L xs) (hw : atI vs i = some w) : ∃ b, w = .ref b := by
  obtain ⟨as, Ls, rfl, _, _⟩ := h
  unfold atI at hw
  cases e : ixN (as.map V.ref).length i with
  | none => rw [e] at hw; cases hw
  | some j =>
    rw [e] at hw
    have hw : (as.map V.ref)[j]? = some w := hw
    rw [List.getElem?_map] at hw
    cases e2 : as[j]? with
    | none => rw [e2] at hw; cases hw
    | some b => rw [e2] at hw; exact ⟨b, (Option.some.inj hw).symm⟩
theorem All2.of_get {α β : Type} {P : α → β → Prop} : ∀ {as : List α} {bs : List β}, as.length = bs.length → (∀ (i : Nat) (a : α) (b : β), as[i]? = some a → bs[i]? = some b → P a b) → All2 P as bs
  | [], [], _, _ => .nil
  | a :: as, b :: bs, h, k => .cons (k 0 a b rfl rfl) (All2.of_get (by simpa using h) fun i x y hx hy => k (i + 1) x y (by simpa using hx) (by simpa using hy))
theorem ixs_of (vs : List V) {n : Nat} (h : vs.length = n) : All2 (fun v (i : Int) => atI vs i = some v) vs (rangeI 0 (n : Int)) := by
  subst h
  refine All2.of_get (by simp [rangeI]) fun j v i hv hi => ?_
  have hj : j < vs.length := (List.getElem?_eq_some_iff.mp hv).1
  have : (rangeI 0 (vs.length : Int))[j]? = some (j : Int) := by
    unfold rangeI
    rw [List.getElem?_map, show ((vs.length : Int) - 0).toNat = vs.length by omega, List.getElem?_range hj]
    simp
  rw [this] at hi
  cases hi
  unfold atI ixN
  rw [if_pos (by omega), if_pos (by omega)]
  simpa using hv
theorem Own.lsAtV (m : MonoO B) (O : Own R H (A ++ (L ++ C))) (h : oLv vs B F a L xs) (e : atI xs i = some x) (hw : atI vs i = some (.ref b)) :
    ∃ (L1 L2 : List Cell), B F b L1 x ∧ (L1 ++ L2).Perm L ∧ Own R H (A ++ (L1 ++ (L2 ++ C))) ∧ (∀ F' L1' x', Ex F F' → B F' b L1' x' → ∀ ys, setG xs i x' = some ys → oLv vs B F' a (L1' ++ L2) ys) ∧ ∀ F' L1', Ex F F' → B F' b L1' x → oLv vs B F' a (L1' ++ L2) xs := by
  obtain ⟨as, Ls, rfl, hp, h3⟩ := h
  unfold atI at e
  cases ej : ixN xs.length i with
  | none => rw [ej] at e; cases e
  | some j =>
    rw [ej] at e
    obtain ⟨b', L1, bs1, bs2, h4, h5, h6, h7⟩ := h3.at e
    subst h6
    have hbb : b' = b := by
      unfold atI at hw
      rw [List.length_map, h3.len, ej] at hw
      have hw : (as.map V.ref)[j]? = some (.ref b) := hw
      rw [List.getElem?_map, h4] at hw
      exact V.ref.inj (Option.some.inj hw)
    subst hbb
    have hp2 : L.Perm (L1 ++ ((a, HO.lst (as.map V.ref)) :: (bs1.flatten ++ bs2.flatten))) := by
      refine hp.trans ?_
      rw [List.flatten_append, List.flatten_cons]
      refine List.Perm.trans ?_ (List.perm_middle.symm)
      refine List.Perm.cons _ ?_
      rw [← List.append_assoc, ← List.append_assoc]
      exact List.Perm.append_right _ List.perm_append_comm
    have cl : ∀ F' L1' x', Ex F F' → B F' b' L1' x' → oLv (as.map V.ref) B F' a (L1' ++ ((a, HO.lst (as.map V.ref)) :: (bs1.flatten ++ bs2.flatten))) (xs.set j x') := fun F' L1' x' ex hb => by
      refine ⟨as, bs1 ++ L1' :: bs2, rfl, ?_, h7 _ L1' x' (fun _ _ _ h => m _ _ _ _ _ ex h) hb⟩
      rw [List.flatten_append, List.flatten_cons]
      refine List.perm_middle.trans ?_
      refine List.Perm.cons _ ?_
      rw [← List.append_assoc, ← List.append_assoc]
      exact List.Perm.append_right _ List.perm_append_comm
    refine ⟨L1, (a, HO.lst (as.map V.ref)) :: (bs1.flatten ++ bs2.flatten), h5, hp2.symm, O.perm ?_, fun F' L1' x' ex hb ys hy => ?_, fun F' L1' ex hb => ?_⟩
    · refine List.Perm.append_left _ ?_
      rw [← List.append_assoc]
      exact List.Perm.append_right _ hp2
    · unfold setG at hy
      rw [ej] at hy
      cases hy
      exact cl F' L1' x' ex hb
    · have := cl F' L1' x ex hb
      have e2 : xs.set j x = xs := by
        obtain ⟨h8, h9⟩ := List.getElem?_eq_some_iff.mp (show xs[j]? = some x from e)
        rw [← h9]
        exact List.set_getElem_self h8
      rw [e2] at this
      exact this
def inL {α : Type} [DecidableEq α] (x : α) (xs : List α) : Bool := decide (x ∈ xs)
section
variable {α : Type} [DecidableEq α] {P : Rp α} {F F' H : Hp} {K : PySem.W.Frag} {v : V} {x : α} {xs : List α} {vs : List V} {a : Addr} {Q : VK}
theorem k_inJ (e : De P) (m : Mono P) (h : e.n ≤ 60) (h1 : P F v x) (e1 : Ex F H) (hs : SqL K H a vs) (ha : All2 (P F') vs xs) (e2 : Ex F' H) (k : Q (.bl (inL x xs)) H) : rInD K v (.ref a) H Q := k_inN e m h h1 e1 hs ha e2 k
theorem k_niJ (e : De P) (m : Mono P) (h : e.n ≤ 60) (h1 : P F v x) (e1 : Ex F H) (hs : SqL K H a vs) (ha : All2 (P F') vs xs) (e2 : Ex F' H) (k : Q (.bl (!inL x xs)) H) : rNotInD K v (.ref a) H Q := k_niN e m h h1 e1 hs ha e2 k
end
theorem pe_fld2 {X : Cx} {K : PySem.W.Frag} {e : PySem.Expr} {f : Str} {pos : PySem.Pos} {ta : TE} (hK : X.K = K) (he : PE X e ta) (hb : attributeBase e f X.env (eval e X.env) = eval e X.env) : PE X (.Attribute e f pos) (tFld K ta f) := by
  subst hK
  exact pe_fld he hb
theorem pe_bm2 {X : Cx} {K : PySem.W.Frag} {o e : PySem.Expr} {es : List PySem.Expr} {to : TE} {t : TA} {name : Str} {apos cpos : PySem.Pos} {T id : String} {r : V → List V → Hp → VK → Prop} (hK : X.K = K) (pa : PlainAttrs T) (slot : Slot T name id) (hty : typeOf (.builtin id) = pure (.type "method_descriptor")) (hm : MtR X id r) (ho : PE X o to) (ha : PA X (e :: es) t)
    (hbase : attributeBase o name X.env (eval o X.env) = eval o X.env := by rfl)
    (hfew : ((backTo cpos (starEach (e :: es) X.env)).all (fun x => !x.1) && (backToKw cpos (keywordEach [] X.env)).all (fun x => x.1.isSome)
      && decide ((e :: es).length + ([] : List PySem.Keyword).length + (if ([] : List PySem.Keyword).isEmpty then 0 else 1) < 30)) = true := by rfl)
    (hline : (apos.endLine == cpos.line) = true := by rfl) (hs : starEach (e :: es) X.env = (false, eval e X.env) :: starEach es X.env := by rfl) (hplain : (backTo cpos (starEach es X.env)).any (·.1) = false := by rfl) :
    PE X (.Call (.Attribute o name apos) (e :: es) [] cpos) (tBM K T r to t) := by
  subst hK
  exact pe_bm pa slot hty hm ho ha hbase hfew hline hs hplain
theorem k_clrA {g : HO → List Cell} (hl : H a = some (.lst vs)) (hp : ∀ o', Own R (upd H a o') (g o')) (k : ∀ H', Own R H' (g (.lst [])) → Q .non H') : rClear (.ref a) [] H Q :=
  ⟨a, _, rfl, rfl, hl, k _ (hp _)⟩
abbrev tLs (t : TA) : TE := fun σ H Q => t σ H fun xs H1 => rNewL xs H1 Q
theorem pe_lst2 {X : Cx} {es : List PySem.Expr} {t : TA} {pos : PySem.Pos} (h : PE X (.List es pos) (tLst t)) : PE X (.List es pos) (tLs t) := pe_lstQ h
abbrev tTs (t : TA) : TE := fun σ H Q => t σ H fun xs H1 => rNewT xs H1 Q
theorem pe_tup2 {X : Cx} {es : List PySem.Expr} {k : Nat} {t : TA} {pos : PySem.Pos} (h : PE X (.Tuple es k pos) (tTup t)) : PE X (.Tuple es k pos) (tTs t) := pe_tupQ h
/-! len and append -/
theorem oLs.sq (O : Own R H C) (h : oLs B F a L xs) (hs : ∀ c ∈ L, c ∈ C) : ∃ vs, SqL K H a vs ∧ vs.length = xs.length := by
  obtain ⟨vs, hv⟩ := h.fix
  exact ⟨vs, SqL.of (hv.at O hs), hv.len⟩
theorem n_lenO (h : ∃ vs, SqL K H a vs ∧ vs.length = xs.length) (k : Q (.int (xs.length : Int)) H) : rLenQ K [.ref a] H Q := by
  obtain ⟨vs, hs, hl⟩ := h
  unfold rLenQ
  exact ⟨a, vs, rfl, .inl hs, by rw [hl]; exact k⟩
theorem All3.snoc {α β γ : Type} {P : α → β → γ → Prop} {as : List α} {bs : List β} {cs : List γ} {a : α} {b : β} {c : γ} (h : All3 P as bs cs) (k : P a b c) : All3 P (as ++ [a]) (bs ++ [b]) (cs ++ [c]) := by
  induction h with
  | nil => exact .cons k .nil
  | cons h _ ih => exact .cons h ih
theorem k_appO (O : Own R H (L ++ (L1 ++ C))) (h : oLs B F a L xs) (hb : B F b L1 x) (e : appG xs x = some ys) (k : ∀ H' L', Own R H' (L' ++ C) → oLs B F a L' ys → Q .non H') : rAppend (.ref a) [.ref b] H Q := by
  obtain ⟨c, rfl⟩ := grdE e
  obtain ⟨as, Ls, hp, h3⟩ := h
  have O1 : Own R H ((a, HO.lst (as.map V.ref)) :: (Ls.flatten ++ (L1 ++ C))) := O.perm (List.Perm.append_right _ hp)
  refine ⟨a, _, _, rfl, rfl, O1.mem (List.Mem.head _), by rw [List.length_map, h3.len]; exact c, k _ ((a, HO.lst (as.map V.ref ++ [.ref b])) :: (Ls.flatten ++ L1)) ?_ ?_⟩
  · have O2 := O1.put0 (o' := HO.lst (as.map V.ref ++ [.ref b]))
    refine O2.perm ?_
    rw [List.cons_append, List.append_assoc]
  · refine ⟨as ++ [b], Ls ++ [L1], ?_, h3.snoc hb⟩
    rw [List.map_append, List.flatten_append, List.flatten_singleton]
    exact List.Perm.refl _
end
end Bt

set_option Elab.async false
set_option linter.all false
set_option maxRecDepth 100000
set_option maxHeartbeats 4000000
/-! What is refused, kept beyond its suite. -/
namespace Bt
open PySem L2 PyProof.Rows
/-- an exception that stays: its class and its dict are known -/
def ExH (a : Addr) (cls : Value) (d : Option Addr) : HO := .ext fun h => ∃ (oe : Obj) (vs : Array Value), h.get? a = some oe ∧ L2N.Zn cls d oe ∧ oe.data = .fields vs
section
variable {X : Cx} {pins : List (Addr × Obj)} {σ : L2.St} {H : Hp} {s : Shared} {a : Addr} {oe : Obj} {cls : Value} {d : Option Addr}
theorem inv_layX (I : Inv X pins σ H s) (he : s.heap.get? a = some oe) (hz : L2N.Zn cls d oe) (hd : ∃ vs, oe.data = .fields vs) (na : H a = none) (n0 : X.s_0.heap.get? a = none) (np : ∀ p ∈ X.pn ++ pins, p.1 ≠ a) (nL : a ≠ X.env.locals) : Inv X pins σ (upd H a (ExH a cls d)) s := by
  obtain ⟨vs, hv⟩ := hd
  have nb : ∀ b o, X.s_0.heap.get? b = some o → b ≠ a := fun b o e z => by
    rw [z, n0] at e
    cases e
  have nh : ∀ b o, H b = some o → b ≠ a := fun b o e z => by
    rw [z, na] at e
    cases e
  refine ⟨I.ok, I.os, I.bare, ⟨I.base.keep, I.base.slot, fun b o e n hx => ?_, I.base.there, fun b xs e => ?_, fun b o u e => ?_, fun b ps e => ?_⟩, I.loc, I.cell, ?_, fun x c e => ?_, fun p hp => ?_, fun b o e => ?_, I.len⟩
  · rw [upd_ne (nb b o e)]
    exact I.base.free b o e n hx
  · have q := I.base.tups b xs e
    rw [upd_ne (nh _ _ q)]
    exact q
  · have q := I.base.frzs b o u e
    rw [upd_ne (nh _ _ q)]
    exact q
  · obtain ⟨more, q⟩ := I.base.tbls b ps e
    refine ⟨more, ?_⟩
    rw [upd_ne (nh _ _ q)]
    exact q
  · rw [upd_ne (Ne.symm nL)]
    exact I.free
  · have : c ≠ a := fun z => by
      obtain ⟨v, o, ho, hdd⟩ := I.cell x c e
      rw [z, he] at ho
      cases ho
      rw [hv] at hdd
      cases hdd
    rw [upd_ne this]
    exact I.freeC x c e
  · obtain ⟨p1, p2, p3⟩ := I.pin p hp
    refine ⟨p1, ?_, p3⟩
    rw [upd_ne (np p hp)]
    exact p2
  · by_cases z : b = a
    · subst z
      rw [upd_same] at e
      cases e
      refine ⟨⟨oe, vs, he, hz, hv⟩, ⟨oe, he⟩, fun h1 h2 ⟨o', vs', e1, e2, e3⟩ hk => ⟨o', vs', hk _ e1, e2, e3⟩⟩
    · rw [upd_ne z] at e
      refine (I.hok b o e).stay (fun _ _ _ h => h) (fun c h => ?_) fun c xs h => ?_
      · rw [upd_ne (nh _ _ h)]
        exact h
      · rw [upd_ne (nh _ _ h)]
        exact h
end
/-! ### try with clauses of all three sorts: without a name, with one, with one whose exception stays -/
/-- an exception in hand, the clauses ahead of it -/
structure Grip (X : Cx) (pins : List (Addr × Obj)) (σ : L2.St) (H : Hp) (a : Addr) (cls : Value) (d : Option Addr) (B : Heap) (t s : Shared) : Prop where
  src : Inv X pins σ H t
  nb : ∀ b o, t.heap.get? b = some o → b ∉ frs X.stack → B.get? b = some o
  up : t.heap.UpToSlots s.heap
  os : s.os = t.os
  ag : AllBare s.gens
  fl : HandSPX.FlyingZ B X.stack a (L2N.Zn cls d) s.heap
  na : H a = none
section
variable {X : Cx} {pins : List (Addr × Obj)} {σ : L2.St} {H : Hp} {a : Addr} {cls : Value} {d : Option Addr} {B : Heap} {t s : Shared}
theorem Grip.on (g : Grip X pins σ H a cls d B t s) {h : Heap} (f : HandSPX.FlyingZ B X.stack a (L2N.Zn cls d) h) (u : s.heap.UpToSlots h) : Grip X pins σ H a cls d B t { s with heap := h } :=
  ⟨g.src, g.nb, g.up.trans u, g.os, g.ag, f, g.na⟩
theorem Grip.inv (g : Grip X pins σ H a cls d B t s) : Inv X pins σ H s := g.src.landed g.nb g.fl.1 g.up g.os g.ag
theorem Grip.off (g : Grip X pins σ H a cls d B t s) : a ∉ frs X.stack := fun m => by
  obtain ⟨oe, vs, e1, _, e2⟩ := g.fl.there
  obtain ⟨_, o, e3, nf⟩ := g.fl.2.2.1.mem m
  rw [e1] at e3
  exact nf vs (by cases e3; exact e2)
theorem Grip.new (g : Grip X pins σ H a cls d B t s) : t.heap.get? a = none := by
  have z := g.fl.2.1
  cases q : t.heap.get? a with
  | none => rfl
  | some o =>
    rw [g.nb a o q g.off] at z
    cases z
theorem Grip.new0 (g : Grip X pins σ H a cls d B t s) (hex : X.ex = []) : X.s_0.heap.get? a = none := by
  cases q : X.s_0.heap.get? a with
  | none => rfl
  | some o =>
    have hx : a ∉ X.ex := by
      rw [hex]
      exact List.not_mem_nil
    obtain ⟨o2, q2⟩ := g.src.base.there a o q hx
    rw [g.new] at q2
    cases q2
theorem Grip.nopin (g : Grip X pins σ H a cls d B t s) : ∀ p ∈ X.pn ++ pins, p.1 ≠ a := fun p m z => by
  have q := (g.src.pin p m).1
  rw [z, g.new] at q
  cases q
theorem Grip.nL (g : Grip X pins σ H a cls d B t s) (hs : X.stack = X.env :: X.outer) (hf : X.env.frame = some X.env.locals) : a ≠ X.env.locals := fun z =>
  g.off (by rw [hs]; exact List.mem_filterMap.mpr ⟨_, List.Mem.head _, by rw [hf, z]⟩)
theorem Grip.nF (g : Grip X pins σ H a cls d B t s) (hs : X.stack = X.env :: X.outer) : a ∉ X.fs := fun m => by
  obtain ⟨e, m1, m2⟩ := List.mem_filterMap.mp m
  exact g.off (by rw [hs]; exact List.mem_filterMap.mpr ⟨e, List.Mem.tail _ m1, m2⟩)
/-- the suite's own state -/
theorem Grip.within (g : Grip X pins σ H a cls d B t s) (hs : X.stack = X.env :: X.outer) (hf : X.env.frame = some X.env.locals) : ∃ oe, L2N.Zn cls d oe ∧ (∃ vs, oe.data = .fields vs) ∧ s.heap.get? a = some oe ∧ Inv (X.suite a ((a, oe) :: (X.pn ++ pins))) [] σ H s := by
  obtain ⟨oe, vs, e1, e2, e3⟩ := g.fl.there
  exact ⟨oe, e2, ⟨vs, e3⟩, e1, g.inv.suite e1 e3 g.na (g.nL hs hf) (g.nF hs)⟩
/-- no clause takes it -/
theorem Grip.out (g : Grip X pins σ H a cls d B t s) (hf : X.env.frame = some X.env.locals) {W : WX} (tk : L2N.Takes X W) (w : W cls d σ H) {Q : Flow → Shared → Prop} : wpAny (model X.prog X.w) X.A (handleBy (.ref a) X.env []) Q X.xe s := by
  obtain ⟨_, _, _, oe, vs, T, oT, ts, e1, _, e3, e4, _⟩ := id g.fl
  refine wpAny_handleBy_nil ?_
  unfold PySem.passOn
  refine wpAny_bind (wpAny_field e1 e3 e4 ?_)
  rw [if_neg (by simp)]
  have last : wpAny (model X.prog X.w) X.A (setFlight (.ref a) X.env.frame) (fun _ s2 => wpAny (model X.prog X.w) X.A (throw (.ref a) : Sem Flow) Q X.xe s2) X.xe s := by
    rw [hf]
    exact HandSPX.setFlight_upZ g.fl fun h1 k1 k2 => wpAny_throw (tk _ _ ⟨a, B, t, pins, σ, H, cls, d, rfl, g.src, g.nb, g.up.trans k2, .inr (.inr k1), g.na, g.os, g.ag, w⟩)
  first
    | exact wpAny_bind (wpAny_pure (wpAny_bind last))
    | exact wpAny_bind last
/-- is it of a clause's class? -/
theorem Grip.ask (g : Grip X pins σ H a cls d B t s) (hs : X.stack = X.env :: X.outer) (hf : X.env.frame = some X.env.locals) {x : Str} {c : Value} {np pos : Pos} {b : Bool} (hc : Names X x c) (hb : PySem.W.exmOne X.K cls c = some b) {R : Except Value Flow → Shared → Prop} (q : R (.ok (if b then .brk else .next)) s) :
    codeAny (model X.prog X.w) (X.A.mark (some (.ref a))) (.handlers (.ref a) [.ExceptHandler (some (.Name x np)) none [] pos] X.env) R s := by
  obtain ⟨oe, z, _, e1, S⟩ := g.within hs hf
  have what : PySem.W.Looks (model X.prog X.w) s.heap (typeOf (.ref a)) cls := fun A Q E s' k q' => wpAny_typeOf_ref (k _ _ e1) (by rw [z.1]; exact q')
  have hit := PySem.W.exm_one (M := model X.prog X.w) g.inv.kIn what hb
  refine codeAny_handlers_test ?_
  obtain ⟨h1, h2, h3⟩ := hc
  rcases h3 with h3 | ⟨h3, h4, h5⟩
  · exact ld_glob (X := X.suite a ((a, oe) :: (X.pn ++ pins))) S h1 h3 (hit.here q) h2
  · exact ld_blt (X := X.suite a ((a, oe) :: (X.pn ++ pins))) S h1 h3 h4 (hit.here q) h5 h2
end
/-- what stands behind a clause's suite; m: its name's slot, and whether the exception stays -/
abbrev behindC (D : Ends) : Option (Nat × Bool) → Addr → Value → Option Addr → Ends
  | none, _, _, _ => D
  | some (i, false), _, _, _ => { nx := fun σ H => D.nx (σ.set i none) H, rt := D.rt, bk := fun σ H => D.bk (σ.set i none) H, ct := fun σ H => D.ct (σ.set i none) H }
  | some (i, true), a, cls, d => { nx := fun σ H => H a = none → D.nx (σ.set i none) (upd H a (ExH a cls d)), rt := D.rt, bk := fun σ H => D.bk (σ.set i none) H, ct := fun σ H => D.ct (σ.set i none) H }
abbrev slotC (σ : L2.St) : Option (Nat × Bool) → Addr → L2.St
  | none, _ => σ
  | some (i, _), a => σ.set i (some (.ref a))
abbrev Clauses := List (Value × Option (Nat × Bool) × (Addr → Value → Option Addr → TS))
def wCl (K : PySem.W.Frag) (Wout : WX) (D : Ends) : Clauses → WX
  | [] => Wout
  | (c, m, ts) :: r => fun cls d σ H => ∃ b, PySem.W.exmOne K cls c = some b ∧ (b = true → ∀ a, H a = none → ts a cls d (behindC D m a cls d) (slotC σ m a) H) ∧ (b = false → wCl K Wout D r cls d σ H)
abbrev SuiteOk (X : Cx) (ss : List Stmt) (ts : Addr → Value → Option Addr → TS) : Prop :=
  ∀ (a : Addr) (oe : Obj) (cls : Value) (d : Option Addr) (pn : List (Addr × Obj)), L2N.Zn cls d oe → (∃ vs, oe.data = .fields vs) → PSs (X.suite a ((a, oe) :: pn)) ss (ts a cls d)
inductive ClOk (X : Cx) : List ExceptHandler → Clauses → Prop
  | nil : ClOk X [] []
  | bare {x : Str} {c : Value} {ts : Addr → Value → Option Addr → TS} {b₀ : Stmt} {ss : List Stmt} {np pos : Pos} {hs : List ExceptHandler} {l : Clauses} (hc : Names X x c) (su : SuiteOk X (b₀ :: ss) ts) (r : ClOk X hs l) : ClOk X (.ExceptHandler (some (.Name x np)) none (b₀ :: ss) pos :: hs) ((c, none, ts) :: l)
  | named {x n : Str} {c : Value} {i : Nat} (k : Bool) {ts : Addr → Value → Option Addr → TS} {b₀ : Stmt} {ss : List Stmt} {np pos : Pos} {hs : List ExceptHandler} {l : Clauses} (hc : Names X x c) (hi : X.N[i]? = some n) (hl : X.env.kindOf n = some .local) (su : SuiteOk X (b₀ :: ss) ts) (r : ClOk X hs l) :
      ClOk X (.ExceptHandler (some (.Name x np)) (some n) (b₀ :: ss) pos :: hs) ((c, some (i, k), ts) :: l)
section
variable {X : Cx} {pins : List (Addr × Obj)} {σ : L2.St} {H : Hp} {a : Addr} {cls : Value} {d : Option Addr} {B : Heap} {t s : Shared} {D : Ends} {W : WX}
theorem clauses_run (hs : X.stack = X.env :: X.outer) (hf : X.env.frame = some X.env.locals) (hN : X.N.Nodup) (hex : X.ex = []) (tk : L2N.Takes X W) {hds : List ExceptHandler} {l : Clauses} (h : ClOk X hds l) :
    ∀ s, Grip X pins σ H a cls d B t s → wCl X.K W D l cls d σ H → wpAny (model X.prog X.w) X.A (handleBy (.ref a) X.env hds) (SP X pins D) X.xe s := by
  induction h with
  | nil => exact fun s g w => g.out hf tk w
  | bare hc su r ih =>
    rintro s g ⟨b, h1, h2, h3⟩
    refine wpAny_handleBy_cons (g.ask hs hf hc h1 ?_) (by intro z; cases z)
    cases b with
    | false => exact ih s g (h3 rfl)
    | true =>
      refine codeAny_handlers_suite (HandSPX.lands_againZ g.fl fun h4 f4 u4 => ?_)
      have g := g.on f4 u4
      obtain ⟨oe, z1, z2, _, S⟩ := g.within hs hf
      refine wpAny_mono ((su a oe cls d (X.pn ++ pins) z1 z2).run [] _ _ H _ S (h2 rfl a g.na)) (fun f s6 e => ?_) (fun _ _ z => False.elim z)
      cases f with
      | ret u => exact (fun ⟨v, σ6, H6, S6, r6, q6⟩ => ⟨v, σ6, H6, S6.unsuite g.src.ok, r6, q6⟩) e
      | _ => exact (fun ⟨σ6, H6, S6, q6⟩ => ⟨σ6, H6, S6.unsuite g.src.ok, q6⟩) e
  | named k hc hi hl su r ih =>
    rintro s g ⟨b, h1, h2, h3⟩
    refine wpAny_handleBy_cons (g.ask hs hf hc h1 ?_) (by intro z; cases z)
    cases b with
    | false => exact ih s g (h3 rfl)
    | true =>
      refine codeAny_handlers_suite_as (HandSPX.lands_againZ g.fl fun h4 f4 u4 => ?_)
      have g := g.on f4 u4
      obtain ⟨oe, z1, z2, _, S⟩ := g.within hs hf
      refine store_ok (X := X.suite a ((a, oe) :: (X.pn ++ pins))) (v := .ref a) S hN hi (.inl hl) rfl (fun s5 S5 => ?_) (.inr hl)
      have q0 := h2 rfl a g.na
      have ok := g.src.ok
      cases k with
      | false =>
        refine wpAny_mono ((su a oe cls d (X.pn ++ pins) z1 z2).run [] s5 _ H _ S5 q0) (fun f s6 e => ?_) (fun _ _ z => False.elim z)
        cases f with
        | ret u => exact (fun ⟨v, σ6, H6, S6, r6, q6⟩ => gone_ok (S6.unsuite ok) hN hi hl fun s7 J => ⟨v, _, H6, J, r6, q6⟩) e
        | _ => exact (fun ⟨σ6, H6, S6, q6⟩ => gone_ok (S6.unsuite ok) hN hi hl fun s7 J => ⟨_, H6, J, q6⟩) e
      | true =>
        refine wpAny_mono ((su a oe cls d (X.pn ++ pins) z1 z2).run [] s5 _ H _ S5 q0) (fun f s6 e => ?_) (fun _ _ z => False.elim z)
        cases f with
        | next =>
          obtain ⟨σ6, H6, S6, q6⟩ := e
          obtain ⟨p1, p2, _⟩ := S6.pin (a, oe) (List.mem_append_left _ (List.Mem.head _))
          exact gone_ok (inv_layX (S6.unsuite ok) p1 z1 z2 p2 (g.new0 hex) g.nopin (g.nL hs hf)) hN hi hl fun s7 J => ⟨_, _, J, q6 p2⟩
        | ret u => exact (fun ⟨v, σ6, H6, S6, r6, q6⟩ => gone_ok (S6.unsuite ok) hN hi hl fun s7 J => ⟨v, _, H6, J, r6, q6⟩) e
        | brk => exact (fun ⟨σ6, H6, S6, q6⟩ => gone_ok (S6.unsuite ok) hN hi hl fun s7 J => ⟨_, H6, J, q6⟩) e
        | cont => exact (fun ⟨σ6, H6, S6, q6⟩ => gone_ok (S6.unsuite ok) hN hi hl fun s7 J => ⟨_, H6, J, q6⟩) e
/-- try: .. except ..: .. -/
theorem ps_tryC {body : List Stmt} {h₀ : ExceptHandler} {hds : List ExceptHandler} {l : Clauses} {pos : Pos} {tb : WX → TS} (hs : X.stack = X.env :: X.outer) (hf : X.env.frame = some X.env.locals) (hN : X.N.Nodup) (hex : X.ex = []) (tk : L2N.Takes X W)
    (hb : ∀ (W : WX) (pn : List (Addr × Obj)) (xe : Value → Shared → Prop), L2N.Takes (X.tr pn xe) W → PassesOwn (model X.prog X.w) X.A X.env xe → PSs (X.tr pn xe) body (tb W))
    (hh : ClOk X (h₀ :: hds) l) : PS X (.Try body (h₀ :: hds) [] [] pos) (fun D σ H => tb (wCl X.K W D l) D σ H) := by
  refine ⟨fun pins s σ H D I h => wpAny_Try_except (wpAny_mono ((hb (wCl X.K W D l) (X.pn ++ pins) _ (fun u s2 x => ?_) PassesOwn.looking).run [] s σ H D (I.toTry _) h) (fun f s2 e => ?_) fun _ _ z => z)⟩
  · obtain ⟨a, B, t, pins', σ', H', cls, d, rfl, J, nb, up, sky, na, os, ag, w⟩ := x
    have fr : X.A.frames = some (X.env :: X.outer) := by rw [I.ok.frames, hs]
    have sky2 : Sky B (X.env :: X.outer) a (L2N.Zn cls d) X.env.locals s2.heap := by rw [← hs]; exact sky
    exact L2N.Sky.land L2N.Zn.steady fr hf sky2 fun h3 f3 u3 => clauses_run hs hf hN hex tk hh _ ⟨J.ofTry I.ok, nb, up.trans u3, os, ag, by rw [hs]; exact f3, na⟩ w
  · cases f with
    | ret u => exact (fun ⟨v, σ1, H1, J, r, q⟩ => ⟨v, σ1, H1, J.ofTry I.ok, r, q⟩) e
    | next => exact (fun ⟨σ1, H1, J, q⟩ => wpAny_execs_nil ⟨σ1, H1, J.ofTry I.ok, q⟩) e
    | _ => exact (fun ⟨σ1, H1, J, q⟩ => ⟨σ1, H1, J.ofTry I.ok, q⟩) e
end
/-! the exception as data -/
def rX (es : Eds) (ks : List Ek) : Rp Er := fun F v e => ∃ a : Addr, v = .ref a ∧ F a = some (ExH a (.ref (es.at e.k)) none) ∧ e.plain = true ∧ e.k ∈ ks
theorem mX (es : Eds) (ks : List Ek) : Mono (rX es ks) := fun F F' v e x h => by
  obtain ⟨a, h1, h2, h3⟩ := h
  exact ⟨a, h1, x _ _ h2, h3⟩
theorem nnX {es : Eds} {ks : List Ek} : NN (rX es ks) := fun F v e h => by
  obtain ⟨a, rfl, _⟩ := h
  simp
theorem rX_ref {es : Eds} {ks : List Ek} {F : Hp} {v : V} {e : Er} (h : rX es ks F v e) : ∃ p, v = .ref p := by
  obtain ⟨a, h1, _⟩ := h
  exact ⟨a, h1⟩
theorem rX_k {es : Eds} {ks : List Ek} {F : Hp} {v : V} {e : Er} (h : rX es ks F v e) : e.k ∈ ks := by
  obtain ⟨_, _, _, _, h1⟩ := h
  exact h1
theorem Own.layE {es : Eds} {ks : List Ek} {R H : Hp} {L : List Cell} {a : Addr} {e : Er} (O : Own R H L) (hn : H a = none) (hp : e.plain = true) (hk : e.k ∈ ks) : ∃ R', Own R' (upd H a (ExH a (.ref (es.at e.k)) none)) L ∧ Ex R R' ∧ ∀ R0 Hb, Ex Hb R → rX es ks (ovr R0 Hb R') (.ref a) e := by
  refine ⟨upd R a (ExH a (.ref (es.at e.k)) none), (O.new hn).freeze, Ex.new (O.ex.back hn), fun R0 Hb eB => ⟨a, rfl, ovr_mk (.inr (eB.back (O.ex.back hn))) upd_same, hp, hk⟩⟩
theorem rX_up {es : Eds} {ks : List Ek} {R0 Hb R : Hp} {v : V} {e : Er} (h : rX es ks (ovr R0 Hb R) v e) : rX es ks R v e := mX es ks _ _ _ _ ovr_ex h
/-! isinstance of it -/
def rIsH (K : PySem.W.Frag) (es : Eds) (ks : List Ek) : List V → Hp → VK → Prop := fun xs H Q => ∃ (x c : V) (e : Er) (cv : Value) (b : Bool), xs = [x, c] ∧ ClsV c cv ∧ rX es ks H x e ∧ PySem.W.kitOne K (.ref (es.at e.k)) cv = some b ∧ Q (.bl b) H
theorem inst_h {X : Cx} {pins : List (Addr × Obj)} {σ : L2.St} {H : Hp} {s : Shared} {a D : Addr} (I : Inv X pins σ H s) (h : H a = some (ExH a (.ref D) none)) : ∃ oe od, PySem.W.InstAt s.heap a oe D od := by
  obtain ⟨⟨oe, vs, he, hz, hd⟩, _⟩ := (show ObjOk X.prog X.w H s.heap a (ExH a (.ref D) none) from I.hok a _ h)
  obtain ⟨oc, od, oda, osl⟩ := oe
  obtain ⟨h1, h2, _⟩ := hz
  dsimp only at h1 h2 hd
  subst h1 h2 hd
  exact ⟨_, none, he, rfl, rfl, trivial⟩
theorem call_isH {X : Cx} {es : Eds} {ks : List Ek} (T : EcF X.K es ks) : CallR X (.builtin "isinstance") (rIsH X.K es ks) := by
  intro pins s σ H xs us Q I r h
  obtain ⟨x, c, ex, cv, b, rfl, hcv, ⟨a, rfl, hd, _, hk⟩, e, q⟩ := h
  obtain ⟨u1, u2, rfl, r1, r2⟩ := vals2 r
  cases (show u1 = Value.ref a from r1)
  have ec := hcv.eq r2
  subst ec
  have C := T.ec _ hk
  obtain ⟨oe, od, J⟩ := inst_h I hd
  exact PySem.W.kia_one (PySem.W.kitx_exc (exc_cls C) C.hg C.hk C.hs C.ha C.hn C.ht C.hm) I.kIn J e (fun z => nomatch z) fun tk => ⟨.bl b, H, I.kept (t' := tk) fun _ _ z => z, rfl, q⟩
def rIsHt (K : PySem.W.Frag) (es : Eds) (ks : List Ek) : List V → Hp → VK → Prop := fun xs H Q => ∃ (x : V) (tp : Addr) (ex : Er) (cs : List V) (us : List Value) (b : Bool), xs = [x, .ref tp] ∧ rX es ks H x ex ∧ H tp = some (.tup cs) ∧ Paired ClsV cs us ∧ PySem.W.kitAny K (.ref (es.at ex.k)) us = some b ∧ Q (.bl b) H
theorem call_isHt {X : Cx} {es : Eds} {ks : List Ek} (T : EcF X.K es ks) : CallR X (.builtin "isinstance") (rIsHt X.K es ks) := by
  intro pins s σ H xs us Q I r h
  obtain ⟨x, tp, ex, cs, ws, b, rfl, ⟨a, rfl, hd, _, hk⟩, hT, k, e, q⟩ := h
  obtain ⟨u1, u2, rfl, r1, r2⟩ := vals2 r
  cases (show u1 = Value.ref a from r1)
  cases (show u2 = Value.ref tp from r2)
  obtain ⟨_, its, rv, o, h1, h2, n, h3⟩ := (show ObjOk X.prog X.w H s.heap tp (.tup cs) from I.hok tp _ hT)
  have e3 := ClsV.all k rv
  subst e3
  obtain ⟨oc, od, dt, sl⟩ := o
  simp only at h2 h3
  subst h2 h3
  have C := T.ec _ hk
  obtain ⟨oe, od, J⟩ := inst_h I hd
  exact PySem.W.kia_tup (PySem.W.kitx_exc (exc_cls C) C.hg C.hk C.hs C.ha C.hn C.ht C.hm) I.kIn J h1 e (fun z => nomatch z) fun tk => ⟨.bl b, H, I.kept (t' := tk) fun _ _ z => z, rfl, q⟩
theorem exE2 {es : Eds} {ks : List Ek} {cls : Value} {dd : Option Addr} {H H' : Hp} {t : Er → TS} {D : Ends} {σ : L2.St} {e : Er} (hX : XFl e dd H') (hk : e.k ∈ ks) (hc : cls = .ref (es.at e.k)) (q : t e D σ H) : ∃ e : Er, e.k ∈ ks ∧ cls = .ref (es.at e.k) ∧ t e D σ H := ⟨e, hk, hc, q⟩
end Bt

set_option linter.all false
set_option maxRecDepth 100000
set_option maxHeartbeats 1000000
/-! What was told, its inner lists changed by its asker: a loop over them all. -/
namespace Bt
open PySem L2
def NoL {α : Type} (P : Rp α) : Prop := ∀ F v x, P F v x → ∀ p ws, v = .ref p → F p = some (.lst ws) → False
theorem noI : NoL rI := fun F v x h p ws e _ => by
  rw [show v = V.int x from h] at e
  cases e
theorem noB : NoL rB := fun F v x h p ws e _ => by
  rw [show v = V.bl x from h] at e
  cases e
theorem noS : NoL rS := fun F v x h p ws e _ => by
  rw [show v = V.str x from h] at e
  cases e
theorem noT2 {α β : Type} {P : Rp α} {P' : Rp β} : NoL (rT2 P P') := fun F v x h p ws e k => by
  obtain ⟨q, _, _, rfl, h1, _⟩ := h
  cases e
  rw [h1] at k
  cases k
theorem noT3 {α β γ : Type} {P : Rp α} {P' : Rp β} {P3 : Rp γ} : NoL (rT3 P P' P3) := fun F v x h p ws e k => by
  obtain ⟨q, _, _, _, rfl, h1, _⟩ := h
  cases e
  rw [h1] at k
  cases k
def pokeG {α : Type} (xs : List (List α)) : Option Unit := grd (∀ r ∈ xs, r.length + xs.length ≤ 16777216) ()
def PkR (Rs : Hp) (a : Addr) (vs : List V) (B : Nat) (R : Hp) : Prop :=
  Ex Rs R ∧ R a = some (.lst vs) ∧ ∀ v ∈ vs, ∃ p ws, v = .ref p ∧ p ≠ a ∧ Rs p = none ∧ R p = some (.lst ws) ∧ ws.length ≤ B
def PkJ (Rs : Hp) (L : List Cell) (a : Addr) (vs : List V) (n : Nat) (H : Hp) : Prop := ∃ B R, B + n ≤ 16777216 ∧ Own R H L ∧ PkR Rs a vs B R
theorem All2.memL {α β : Type} {P : α → β → Prop} {as : List α} {bs : List β} (h : All2 P as bs) : ∀ a ∈ as, ∃ b ∈ bs, P a b := by
  induction h with
  | nil => exact fun _ h => nomatch h
  | cons k _ ih =>
    intro a ha
    rcases List.mem_cons.mp ha with rfl | ha
    · exact ⟨_, List.Mem.head _, k⟩
    · obtain ⟨b, hb, hp⟩ := ih a ha
      exact ⟨b, List.Mem.tail _ hb, hp⟩
theorem pk_start1 {α : Type} {P : Rp α} {Rs X R H : Hp} {L : List Cell} {a : Addr} {vs : List V} {xs : List (List α)} {u : Unit} (O : Own R H L) (e : Ex Rs R) (hX : ∀ p ws, X p = some (.lst ws) → Rs p = none) (eX : Ex X R) (h1 : X a = some (.lst vs)) (h2 : All2 (rL P X) vs xs) (nl : NoL P) (hb : pokeG xs = some u) : PkJ Rs L a vs xs.length H := by
  obtain ⟨hb, _⟩ := grdE hb
  have hle : ∀ v ∈ vs, ∃ p ws, v = .ref p ∧ p ≠ a ∧ Rs p = none ∧ R p = some (.lst ws) ∧ ws.length + xs.length ≤ 16777216 := fun v hv => by
    obtain ⟨r, hr, p, ws, rfl, k1, k2⟩ := h2.memL v hv
    refine ⟨p, ws, rfl, fun z => ?_, hX _ _ k1, eX _ _ k1, by rw [k2.len]; exact hb r hr⟩
    subst z
    rw [h1] at k1
    cases k1
    obtain ⟨y, _, hy⟩ := k2.memL _ hv
    exact nl _ _ _ hy _ _ rfl h1
  by_cases hx : xs.length ≤ 16777216
  · refine ⟨16777216 - xs.length, R, by omega, O, e, eX _ _ h1, fun v hv => ?_⟩
    obtain ⟨p, ws, a1, a2, a3, a4, a5⟩ := hle v hv
    exact ⟨p, ws, a1, a2, a3, a4, by omega⟩
  · exfalso
    cases xs with
    | nil => simp at hx
    | cons r q =>
      have := hb r (List.Mem.head _)
      omega
theorem pk_start {α : Type} {P : Rp α} {Rs Hc R H : Hp} {L : List Cell} {a : Addr} {vs : List V} {xs : List (List α)} {u : Unit} (O : Own R H L) (e : Ex Rs R) (hc : Ex Rs Hc) (h1 : ovr (fun _ => none) Hc R a = some (.lst vs)) (h2 : All2 (rL P (ovr (fun _ => none) Hc R)) vs xs) (nl : NoL P) (hb : pokeG xs = some u) : PkJ Rs L a vs xs.length H :=
  pk_start1 O e (fun p ws h => by
    obtain ⟨c, _⟩ := ovr_some h
    rcases c with c | c
    · exact absurd rfl c
    · exact hc.back c) ovr_ex h1 h2 nl hb
theorem pk_as {Rs Fr Hc R : Hp} (eF : Ex Fr R) (hF : ∀ p o, Fr p = some o → Rs p = none ∨ ∃ t, o = .tup t) (hc : Ex Rs Hc) : ∀ p ws, ovr Fr Hc R p = some (.lst ws) → Rs p = none := fun p ws h => by
  obtain ⟨c, k⟩ := ovr_some h
  rcases c with c | c
  · cases e : Fr p with
    | none => exact absurd e c
    | some o =>
      rcases hF p o e with q | ⟨t, rfl⟩
      · exact q
      · rw [eF _ _ e] at k
        cases k
  · exact hc.back c
/-! the frame that a call needs to know: some cells, and all tuples -/
def lonR (as : List Addr) (F : Hp) : Hp := fun x => if x ∈ as then F x else match F x with
  | some (.tup t) => some (.tup t)
  | _ => none
theorem lonR_ex {as : List Addr} {F : Hp} : Ex (lonR as F) F := fun x o h => by
  unfold lonR at h
  split at h
  · exact h
  · split at h
    · rename_i t e
      rw [e, ← h]
    · cases h
theorem lonR_tup {as : List Addr} {F : Hp} {x : Addr} {t : List V} (h : F x = some (.tup t)) : lonR as F x = some (.tup t) := by
  unfold lonR
  split
  · exact h
  · rw [h]
theorem lonR_or {as : List Addr} {F Hs : Hp} (h : ∀ p, p ∈ as → Hs p = none) : ∀ p o, lonR as F p = some o → Hs p = none ∨ ∃ t, o = .tup t := fun p o e => by
  unfold lonR at e
  split at e
  · exact .inl (h p (by assumption))
  · split at e
    · exact .inr ⟨_, (Option.some.inj e).symm⟩
    · cases e
def TpO {α : Type} (P : Rp α) : Prop := ∀ as F v x, P F v x → P (lonR as F) v x
theorem tpI : TpO rI := fun _ _ _ _ h => h
theorem tpB : TpO rB := fun _ _ _ _ h => h
theorem tpS : TpO rS := fun _ _ _ _ h => h
theorem tpT2 {α β : Type} {P : Rp α} {P' : Rp β} (m : TpO P) (n : TpO P') : TpO (rT2 P P') := fun as F v x h => by
  obtain ⟨p, a, b, rfl, h1, h2, h3⟩ := h
  exact ⟨p, a, b, rfl, lonR_tup h1, m _ _ _ _ h2, n _ _ _ _ h3⟩
theorem tpT3 {α β γ : Type} {P : Rp α} {P' : Rp β} {P3 : Rp γ} (m : TpO P) (n : TpO P') (o : TpO P3) : TpO (rT3 P P' P3) := fun as F v x h => by
  obtain ⟨p, a, b, c, rfl, h1, h2, h3, h4⟩ := h
  exact ⟨p, a, b, c, rfl, lonR_tup h1, m _ _ _ _ h2, n _ _ _ _ h3, o _ _ _ _ h4⟩
theorem lonL {α : Type} {P : Rp α} {as : List Addr} {F : Hp} {a : Addr} {xs : List α} (h : rL P F (.ref a) xs) (hm : a ∈ as) (tp : TpO P) : rL P (lonR as F) (.ref a) xs := by
  obtain ⟨p, vs, e, h1, h2⟩ := h
  cases e
  refine ⟨_, vs, rfl, ?_, h2.mp fun v x h => tp _ _ _ _ h⟩
  unfold lonR
  rw [if_pos hm]
  exact h1
theorem ovr_lo {as : List Addr} {R0 Hb Hc H0 R Fr : Hp} (hF : Fr = lonR as (ovr R0 Hb H0)) (e : Ex Hb Hc) : Ex (ovr Fr Hc R) (ovr R0 Hb R) := fun a o h => by
  obtain ⟨q, h1⟩ := ovr_some h
  refine ovr_mk ?_ h1
  rcases q with q | q
  · cases z : Fr a with
    | none => exact absurd z q
    | some u =>
      rw [hF] at z
      exact (ovr_some (lonR_ex _ _ z)).1
  · exact .inr (e.back q)
theorem Own.retX1 {A R H Hc : Hp} {B C : List Cell} {D : DT} {Q : VK} (O : Own R H (B ++ C)) (m : MonoD D) (hc : Hc = hsub H B) (hA : Ex A R) (k : ∀ v H' R' L', Own R' H' (L' ++ C) → Ex R R' → D (ovr A Hc R') v L' → Q v H') : RetX A (hsub H B) D Q := fun v H' R' L' e O' d => by
  obtain ⟨R'', O'', e1, e2⟩ := O.back e O'
  subst hc
  refine k v H' R'' L' O'' e1 (m _ _ _ _ (fun a u h => ?_) d)
  obtain ⟨q, _⟩ := ovr_some h
  exact ovr_mk q (e2 _ hA _ _ h)
theorem k_pokeP {Rs R H : Hp} {L E : List Cell} {a q : Addr} {v : V} {vs : List V} {B n : Nat} {Q : VK} (O : Own R H (E ++ L)) (hP : PkR Rs a vs B R) (hm : V.ref q ∈ vs) (hB : B + (n + 1) ≤ 16777216) (k : ∀ H', PkJ Rs L a vs n H' → Q .non H') : rAppend (.ref q) [v] H Q := by
  obtain ⟨e, h1, h2⟩ := hP
  obtain ⟨p, ws, a1, a2, a3, b1, a4⟩ := h2 _ hm
  cases a1
  refine ⟨q, ws, v, rfl, rfl, O.ex _ _ b1, by show _ < 16777216; omega, k _ ⟨B + 1, upd R q (.lst (ws ++ [v])), by omega, ?_, ?_, ?_, ?_⟩⟩
  · have O := O.right
    have hne : ∀ c ∈ L, c.1 ≠ q := fun c hc z => by
      have := O.fr c hc
      rw [z, b1] at this
      cases this
    refine ⟨fun x u h => ?_, fun c hc => ?_, fun c hc => ?_, O.nd⟩
    · by_cases z : x = q
      · subst z
        rw [upd_same] at h ⊢
        exact h
      · rw [upd_ne z] at h ⊢
        exact O.ex _ _ h
    · rw [upd_ne (hne c hc)]
      exact O.at_ c hc
    · rw [upd_ne (hne c hc)]
      exact O.fr c hc
  · intro x u h
    rw [upd_ne (ne_of_none h a3)]
    exact e _ _ h
  · rw [upd_ne (Ne.symm a2)]
    exact h1
  · intro w hw
    obtain ⟨p, us, c1, c2, c3, c4, c5⟩ := h2 w hw
    by_cases z : p = q
    · subst z
      rw [b1] at c4
      cases c4
      exact ⟨p, _, c1, c2, c3, upd_same, by simp; omega⟩
    · exact ⟨p, us, c1, c2, c3, by rw [upd_ne z]; exact c4, by omega⟩
theorem q_forP {α : Type} {K : PySem.W.Frag} {Rs H : Hp} {L : List Cell} {a : Addr} {vs : List V} {xs : List α} {j : Nat} {ts : TS} {n : St → Hp → Prop} {w : VK} {σ : St} (σ1 : Option V → St) (hl : vs.length = xs.length) (hP : PkJ Rs L a vs xs.length H) (h0 : ∃ u, σ = σ1 u) (hj : ∀ u v, (σ1 u).set j (some v) = σ1 (some v))
    (hs : ∀ q m B R H, Own R H L → PkR Rs a vs B R → V.ref q ∈ vs → B + (m + 1) ≤ 16777216 → (∃ ws, H q = some (.lst ws)) → ts (Ends.mk (fun σ H => (∃ u, σ = σ1 u) ∧ PkJ Rs L a vs m H) w n (fun σ H => (∃ u, σ = σ1 u) ∧ PkJ Rs L a vs m H)) (σ1 (some (.ref q))) H)
    (hd : ∀ u H, Own Rs H L → n (σ1 u) H) :
    ∃ W : Nat → Nat → St → Hp → Prop, (∃ m, W 0 m σ H) ∧ ∀ i m σ H, W i m σ H →
      ((Itl K a).stop i H ∧ n σ H) ∨ ((Itl K a).go i H ∧ ∃ N : St → Hp → Prop, (∀ σ' H', N σ' H' → ∃ m', m' < m ∧ W (i + 1) m' σ' H') ∧ ∀ x H', (Itl K a).yld i H x H' → gName j x σ H' fun σ2 H2 => ts (Ends.mk N w n N) σ2 H2) := by
  refine q_forA (P := fun v (_ : α) => v ∈ vs) (b := fun _ _ => False) (k := fun _ _ => False) (xs := xs) (All2.of_get hl fun i x y e _ => List.mem_of_getElem? e) (fun r σ H => (∃ u, σ = σ1 u) ∧ PkJ Rs L a vs r.length H) ⟨h0, hP⟩ (fun r σ H h => ?_) (fun x v r σ H hv h => ?_) (fun σ H h => ?_)
  · obtain ⟨_, B, R, _, O, _, h1, _⟩ := h
    exact SqL.of (O.ex _ _ h1)
  · obtain ⟨⟨u, rfl⟩, B, R, h1, O, h2⟩ := h
    obtain ⟨p, ws, rfl, _, _, h3, _⟩ := h2.2.2 v hv
    rw [hj]
    exact hs p r.length B R H O h2 hv h1 ⟨ws, O.ex _ _ h3⟩
  · obtain ⟨⟨u, rfl⟩, B, R, h1, O, h2⟩ := h
    exact hd u H (O.shrink h2.1)
theorem pk_none {Rs Hc R : Hp} {a : Addr} {o : HO} (hc : Ex Rs Hc) (h1 : ovr (fun _ => none) Hc R a = some o) : Rs a = none := by
  obtain ⟨c, _⟩ := ovr_some h1
  rcases c with c | c
  · exact absurd rfl c
  · exact hc.back c
def pokeO {α : Type} (xs : List α) : Option Unit := grd (xs.length < 16777216) ()
theorem k_pokeO {α : Type} {P : Rp α} {F Rs R H : Hp} {L E : List Cell} {a : Addr} {v : V} {vs : List V} {xs : List α} {B : Nat} {u : Unit} {Q : VK} (O : Own R H (E ++ L)) (hP : PkR Rs a vs B R) (hz : Rs a = none) (h2 : All2 (P F) vs xs) (hb : pokeO xs = some u) (k : ∀ H', Own Rs H' L → Q .non H') : rAppend (.ref a) [v] H Q := by
  obtain ⟨hb, _⟩ := grdE hb
  obtain ⟨e, h1, _⟩ := hP
  refine ⟨a, vs, v, rfl, rfl, O.ex _ _ h1, by show _ < 16777216; rw [h2.len]; exact hb, k _ ?_⟩
  have O := O.right
  have hne : ∀ c ∈ L, c.1 ≠ a := fun c hc z => by
    have := O.fr c hc
    rw [z, h1] at this
    cases this
  refine ⟨fun x u h => ?_, fun c hc => ?_, fun c hc => ?_, O.nd⟩
  · by_cases z : x = a
    · subst z
      rw [hz] at h
      cases h
    · rw [upd_ne z]
      exact O.ex _ _ (e _ _ h)
  · rw [upd_ne (hne c hc)]
    exact O.at_ c hc
  · cases q : Rs c.1 with
    | none => rfl
    | some o =>
      have := e _ _ q
      rw [O.fr c hc] at this
      cases this
theorem q_forP2 {α : Type} {K : PySem.W.Frag} {Rs H : Hp} {L : List Cell} {a : Addr} {vs : List V} {xs : List α} {j : Nat} {ts : TS} {n : St → Hp → Prop} {w : VK} {σ : St} (σ1 : Option V → St) (hl : vs.length = xs.length) (hP : PkJ Rs L a vs xs.length H) (h0 : ∃ u, σ = σ1 u) (hj : ∀ u v, (σ1 u).set j (some v) = σ1 (some v))
    (hs : ∀ q m B R H, Own R H L → PkR Rs a vs B R → V.ref q ∈ vs → B + (m + 1) ≤ 16777216 → (∃ ws, H q = some (.lst ws)) → ts (Ends.mk (fun σ H => (∃ u, σ = σ1 u) ∧ PkJ Rs L a vs m H) w n (fun σ H => (∃ u, σ = σ1 u) ∧ PkJ Rs L a vs m H)) (σ1 (some (.ref q))) H)
    (hd : ∀ u H B R, Own R H L → PkR Rs a vs B R → n (σ1 u) H) :
    ∃ W : Nat → Nat → St → Hp → Prop, (∃ m, W 0 m σ H) ∧ ∀ i m σ H, W i m σ H →
      ((Itl K a).stop i H ∧ n σ H) ∨ ((Itl K a).go i H ∧ ∃ N : St → Hp → Prop, (∀ σ' H', N σ' H' → ∃ m', m' < m ∧ W (i + 1) m' σ' H') ∧ ∀ x H', (Itl K a).yld i H x H' → gName j x σ H' fun σ2 H2 => ts (Ends.mk N w n N) σ2 H2) := by
  refine q_forA (P := fun v (_ : α) => v ∈ vs) (b := fun _ _ => False) (k := fun _ _ => False) (xs := xs) (All2.of_get hl fun i x y e _ => List.mem_of_getElem? e) (fun r σ H => (∃ u, σ = σ1 u) ∧ PkJ Rs L a vs r.length H) ⟨h0, hP⟩ (fun r σ H h => ?_) (fun x v r σ H hv h => ?_) (fun σ H h => ?_)
  · obtain ⟨_, B, R, _, O, _, h1, _⟩ := h
    exact SqL.of (O.ex _ _ h1)
  · obtain ⟨⟨u, rfl⟩, B, R, h1, O, h2⟩ := h
    obtain ⟨p, ws, rfl, _, _, h3, _⟩ := h2.2.2 v hv
    rw [hj]
    exact hs p r.length B R H O h2 hv h1 ⟨ws, O.ex _ _ h3⟩
  · obtain ⟨⟨u, rfl⟩, B, R, h1, O, h2⟩ := h
    exact hd u H B R O h2
end Bt

set_option linter.all false
set_option maxRecDepth 100000
set_option maxHeartbeats 1000000
/-! Pairs of a number and a list, the lists all apart: one of them changed, the others stay. -/
namespace Bt
open PySem L2
def IQ (F : Hp) (v : V) (q : Addr) : Prop := ∃ p x ws, v = .ref p ∧ F p = some (.tup [x, .ref q]) ∧ F q = some (.lst ws)
theorem IQ.mono {F F' : Hp} {v : V} {q : Addr} (e : Ex F F') (h : IQ F v q) : IQ F' v q := by
  obtain ⟨p, x, ws, h1, h2, h3⟩ := h
  exact ⟨p, x, ws, h1, e _ _ h2, e _ _ h3⟩
theorem ex_some {F F' : Hp} {a : Addr} (e : Ex F F') (h : F a ≠ none) : F' a ≠ none := by
  cases z : F a with
  | none => exact absurd z h
  | some o => rw [e _ _ z]; simp
/-- the lists apart, from one another and from those told, and new to Z -/
def DN (F Z : Hp) (as : List Addr) (vs : List V) : Prop := ∃ qs : List Addr, All2 (IQ F) vs qs ∧ qs.Nodup ∧ (∀ a ∈ as, a ∉ qs ∧ F a ≠ none) ∧ ∀ q ∈ qs, Z q = none
/-- and a list to come -/
def DNx (F Z : Hp) (as : List Addr) (vs : List V) (q : Addr) : Prop := ∃ qs : List Addr, All2 (IQ F) vs qs ∧ (q :: qs).Nodup ∧ (∀ a ∈ as, a ∉ q :: qs ∧ F a ≠ none) ∧ ∀ p ∈ q :: qs, Z p = none
abbrev hp0 : Hp := fun _ => none
theorem DN.mono {F F' Z : Hp} {as : List Addr} {vs : List V} (e : Ex F F') (h : DN F Z as vs) : DN F' Z as vs := by
  obtain ⟨qs, h1, h2, h3, h4⟩ := h
  exact ⟨qs, h1.mp fun _ _ k => k.mono e, h2, fun a ha => ⟨(h3 a ha).1, ex_some e (h3 a ha).2⟩, h4⟩
theorem DNx.mono {F F' Z : Hp} {as : List Addr} {vs : List V} {q : Addr} (e : Ex F F') (h : DNx F Z as vs q) : DNx F' Z as vs q := by
  obtain ⟨qs, h1, h2, h3, h4⟩ := h
  exact ⟨qs, h1.mp fun _ _ k => k.mono e, h2, fun a ha => ⟨(h3 a ha).1, ex_some e (h3 a ha).2⟩, h4⟩
theorem DN.nil {F Z : Hp} : DN F Z [] [] := ⟨[], .nil, List.Pairwise.nil, (fun _ h => nomatch h), fun _ h => nomatch h⟩
theorem DN.app0 {F Z : Hp} {as : List Addr} {vs : List V} (h : DN F Z as vs) : DN F Z as (vs ++ []) := by rw [List.append_nil]; exact h
theorem all2_memR {α β : Type} {P : α → β → Prop} {as : List α} {bs : List β} (h : All2 P as bs) : ∀ b ∈ bs, ∃ a ∈ as, P a b := by
  induction h with
  | nil => exact fun _ h => nomatch h
  | cons k _ ih =>
    intro b hb
    rcases List.mem_cons.mp hb with rfl | hb
    · exact ⟨_, List.Mem.head _, k⟩
    · obtain ⟨a, ha, hp⟩ := ih b hb
      exact ⟨a, List.Mem.tail _ ha, hp⟩
theorem ovr_no {R H X : Hp} {a : Addr} (h : X a = none) : ovr R H X a = none := by
  cases z : ovr R H X a with
  | none => rfl
  | some o =>
    have := (ovr_some z).2
    rw [h] at this
    cases this
theorem DN.pre {F Z : Hp} {as : List Addr} {vs : List V} {q : Addr} (h : DN F Z as vs) (hq : F q = none) (hz : Z q = none) : DNx F Z as vs q := by
  obtain ⟨qs, h1, h2, h3, h4⟩ := h
  refine ⟨qs, h1, List.nodup_cons.mpr ⟨fun z => ?_, h2⟩, fun a ha => ⟨fun z => ?_, (h3 a ha).2⟩, fun p hp => ?_⟩
  · obtain ⟨_, _, p, x, ws, _, _, k⟩ := all2_memR h1 q z
    rw [hq] at k
    cases k
  · rcases List.mem_cons.mp z with rfl | z
    · exact (h3 _ ha).2 hq
    · exact (h3 a ha).1 z
  · rcases List.mem_cons.mp hp with rfl | hp
    · exact hz
    · exact h4 p hp
theorem DNx.snoc {F Z : Hp} {as : List Addr} {vs ws : List V} {p q : Addr} {x : V} (h : DNx F Z as vs q) (h1 : F p = some (.tup [x, .ref q])) (h2 : F q = some (.lst ws)) : DN F Z as (vs ++ [.ref p]) := by
  obtain ⟨qs, k1, k2, k3, k4⟩ := h
  obtain ⟨n1, n2⟩ := List.nodup_cons.mp k2
  refine ⟨qs ++ [q], k1.snoc ⟨p, x, ws, rfl, h1, h2⟩, List.nodup_append.mpr ⟨n2, List.nodup_cons.mpr ⟨List.not_mem_nil, List.Pairwise.nil⟩, fun a ha b hb z => ?_⟩, fun a ha => ⟨fun z => ?_, (k3 a ha).2⟩, fun p hp => ?_⟩
  · rw [List.mem_singleton.mp hb] at z
    subst z
    exact n1 ha
  · refine (k3 a ha).1 ?_
    rcases List.mem_append.mp z with z | z
    · exact List.Mem.tail _ z
    · rw [List.mem_singleton.mp z]; exact List.Mem.head _
  · rcases List.mem_append.mp hp with z | z
    · exact k4 p (List.Mem.tail _ z)
    · rw [List.mem_singleton.mp z]; exact k4 q (List.Mem.head _)
theorem DNx.snocP {F Z : Hp} {as : List Addr} {A vs ws : List V} {p q : Addr} {x : V} (h : DNx F Z as (A ++ vs) q) (h1 : F p = some (.tup [x, .ref q])) (h2 : F q = some (.lst ws)) : DN F Z as (A ++ (vs ++ [.ref p])) := by
  rw [← List.append_assoc]
  exact h.snoc h1 h2
/-- the list itself told apart from them too -/
theorem DNx.own {F Z : Hp} {vs : List V} {as : List Addr} {a : Addr} {o : HO} (h : DNx F Z as vs a) (h1 : F a = some o) : DN F Z (a :: as) vs := by
  obtain ⟨qs, k1, k2, k3, k4⟩ := h
  obtain ⟨n1, n2⟩ := List.nodup_cons.mp k2
  refine ⟨qs, k1, n2, fun b hb => ?_, fun q hq => k4 q (List.Mem.tail _ hq)⟩
  rcases List.mem_cons.mp hb with rfl | hb
  · exact ⟨n1, by rw [h1]; simp⟩
  · exact ⟨fun z => (k3 b hb).1 (List.Mem.tail _ z), (k3 b hb).2⟩
/-- what is told: such a list -/
def DNv (F : Hp) (v : V) : Prop := ∃ a vs, v = .ref a ∧ F a = some (.lst vs) ∧ DN F hp0 [a] vs
theorem DNv.mono {F F' : Hp} {v : V} (e : Ex F F') (h : DNv F v) : DNv F' v := by
  obtain ⟨a, vs, h1, h2, h3⟩ := h
  exact ⟨a, vs, h1, e _ _ h2, h3.mono e⟩
def dPD {α : Type} (P : Rp α) (x : α) : DT := fun F v L => L = [] ∧ P F v x ∧ DNv F v
theorem mdPD {α : Type} {P : Rp α} {x : α} (m : Mono P) : MonoD (dPD P x) := fun _ _ _ _ e h => ⟨h.1, m _ _ _ _ e h.2.1, h.2.2.mono e⟩
/-- told by a call: new to all that stood ahead of it -/
theorem DNv.at {α : Type} {P : Rp α} {Z Hc R F : Hp} {a : Addr} {xs : List α} (h : DNv (ovr hp0 Hc R) (.ref a)) (eH : Ex Z Hc) (e : Ex (ovr hp0 Hc R) F) (hn : rL P F (.ref a) xs) : ∃ vs, F a = some (.lst vs) ∧ DN F Z [a] vs ∧ All2 (P F) vs xs ∧ Z a = none := by
  obtain ⟨a', vs, h1, h2, qs, k1, k2, k3, _⟩ := h
  cases h1
  obtain ⟨us, j1, j2⟩ := rL_at hn
  have j3 := e _ _ h2
  rw [j1] at j3
  have j4 : us = vs := HO.lst.inj (Option.some.inj j3)
  subst j4
  have new : ∀ q, ovr hp0 Hc R q ≠ none → Z q = none := fun q hq => by
    cases z : ovr hp0 Hc R q with
    | none => exact absurd z hq
    | some o =>
      obtain ⟨c, _⟩ := ovr_some z
      rcases c with c | c
      · exact absurd rfl c
      · exact eH.back c
  refine ⟨us, j1, ⟨qs, k1.mp fun _ _ k => k.mono e, k2, fun b hb => ⟨(k3 b hb).1, ex_some e (k3 b hb).2⟩, fun q hq => ?_⟩, j2, new a (by rw [h2]; simp)⟩
  obtain ⟨_, _, p, x, ws, _, _, k⟩ := all2_memR k1 q hq
  exact new q (by rw [k]; simp)
theorem All2.split2 {α β : Type} {P : α → β → Prop} : ∀ (as : List α) (bs : List β) {cs : List α} {ds : List β}, as.length = bs.length → All2 P (as ++ cs) (bs ++ ds) → All2 P as bs ∧ All2 P cs ds
  | [], [], _, _, _, h => ⟨.nil, h⟩
  | [], _ :: _, _, _, e, _ => by simp at e
  | _ :: _, [], _, _, e, _ => by simp at e
  | a :: as, b :: bs, _, _, e, h => by
    cases h with
    | cons k t =>
      obtain ⟨h1, h2⟩ := All2.split2 as bs (by simpa using e) t
      exact ⟨.cons k h1, h2⟩
/-! one of the lists changed -/
theorem All2.ixs {α β : Type} {P : α → β → Prop} : ∀ {as : List α} {bs : List β} (i : Nat) (b : β), All2 P as bs → bs[i]? = some b → ∃ a, as[i]? = some a ∧ P a b := fun i b h e => by
  induction h generalizing i with
  | nil => simp at e
  | cons k t ih =>
    cases i with
    | zero => cases e; exact ⟨_, rfl, k⟩
    | succ i => exact ih i (by simpa using e)
abbrev rIL : Rp (Int × List Int) := rT2 rI (rL rI)
theorem dn_step {F F' : Hp} {q : Addr} {o : HO} {vs : List V} {xs : List (Int × List Int)} {qs : List Addr} (hq : ∀ a, a ≠ q → F' a = F a) (hF : ∃ ws, F q = some (.lst ws)) (h : All2 (rIL F) vs xs) (k : All2 (IQ F) vs qs) (n : q ∉ qs) : All2 (rIL F') vs xs := by
  obtain ⟨us, hF⟩ := hF
  induction h generalizing qs with
  | nil => exact .nil
  | cons h1 _ ih =>
    cases k with
    | @cons _ q0 _ qs0 k1 k2 =>
      refine .cons ?_ (ih k2 fun z => n (List.Mem.tail _ z))
      obtain ⟨p, a, b, e1, e2, e3, e4⟩ := h1
      obtain ⟨p', x, ws, c1, c2, c3⟩ := k1
      rw [e1] at c1
      cases c1
      rw [e2] at c2
      cases c2
      obtain ⟨q', vs', d1, d2, d3⟩ := e4
      have d1 : q0 = q' := by injection d1
      rw [← d1] at d2
      exact ⟨p, _, .ref q0, e1, (hq p (fun z => by
          subst z
          rw [e2] at hF
          cases hF)).trans e2, e3, q0, vs', rfl, (hq q0 (fun z => n (by rw [← z]; exact List.Mem.head _))).trans d2, d3⟩
theorem dn_all {F : Hp} {q : Addr} {c : Int} : ∀ {vs : List V} {xs : List (Int × List Int)} {qs : List Addr} (i : Nat) (x : Int) (ys : List Int), All2 (rIL F) vs xs → All2 (IQ F) vs qs → qs.Nodup → qs[i]? = some q → xs[i]? = some (x, ys) →
    All2 (rIL (upd F q (.lst ((ys ++ [c]).map V.int)))) vs (xs.set i (x, ys ++ [c])) := fun {vs} {xs} {qs} i x ys h => by
  have hq : ∀ a, a ≠ q → upd F q (.lst ((ys ++ [c]).map V.int)) a = F a := fun a h => upd_ne h
  induction h generalizing qs i with
  | nil => intro _ _ _ e; simp at e
  | @cons v y vs' xs' h1 t ih =>
    intro k n e1 e2
    cases k with
    | @cons _ q0 _ qs' k1 k2 =>
      obtain ⟨n1, n2⟩ := List.nodup_cons.mp n
      obtain ⟨p, a, b, c1, c2, c3, c4⟩ := h1
      obtain ⟨p', x', ws, d1, d2, d3⟩ := k1
      rw [c1] at d1
      cases d1
      rw [c2] at d2
      cases d2
      cases i with
      | zero =>
        cases e1
        cases e2
        refine .cons ⟨p, _, _, c1, ?_, c3, ⟨_, _, rfl, upd_same, ?_⟩⟩ ?_
        · rw [upd_ne (fun z => by
            subst z
            rw [c2] at d3
            cases d3)]
          exact c2
        · exact iA (ys ++ [c])
        · exact dn_step (o := .lst []) hq ⟨ws, d3⟩ t k2 n1
      | succ i =>
        have e1' : qs'[i]? = some q := by simpa using e1
        have hm : q ∈ qs' := List.mem_of_getElem? e1'
        have hF : ∃ us, F q = some (.lst us) := by
          obtain ⟨_, _, _, _, us, _, _, z⟩ := all2_memR k2 q hm
          exact ⟨us, z⟩
        have hne : q ∉ [q0] := fun z => by
          rw [List.mem_singleton.mp z] at hm
          exact n1 hm
        have hh := dn_step (F := F) (o := .lst []) (vs := [v]) (xs := [y]) (qs := [q0]) hq hF (.cons ⟨p, _, _, c1, c2, c3, c4⟩ .nil) (.cons ⟨p, _, _, c1, c2, d3⟩ .nil) hne
        cases hh with
        | cons hh _ =>
          rw [List.set_cons_succ]
          exact .cons hh (ih i k2 n2 e1' (by simpa using e2))
theorem dn_keep {F Z : Hp} {q : Addr} {o : HO} {as : List Addr} {vs : List V} (hF : ∃ ws, F q = some (.lst ws)) (ho : ∃ us, o = .lst us) (h : DN F Z as vs) : DN (upd F q o) Z as vs := by
  obtain ⟨us, hF⟩ := hF
  obtain ⟨ws', rfl⟩ := ho
  obtain ⟨qs, k1, k2, k3, k4⟩ := h
  refine ⟨qs, k1.mp fun v q' ⟨p, x, ws, h1, h2, h3⟩ => ?_, k2, (fun a ha => ⟨(k3 a ha).1, fun z => (k3 a ha).2 (by
    unfold upd at z
    split at z
    · cases z
    · exact z)⟩), k4⟩
  have hp : p ≠ q := fun z => by
    subst z
    rw [h2] at hF
    cases hF
  by_cases z : q' = q
  · subst z
    exact ⟨p, x, _, h1, by rw [upd_ne hp]; exact h2, upd_same⟩
  · exact ⟨p, x, ws, h1, by rw [upd_ne hp]; exact h2, by rw [upd_ne z]; exact h3⟩
theorem ovr_upd {R0 Hb R : Hp} {q : Addr} {o o' : HO} (h : ovr R0 Hb R q = some o) : ovr R0 Hb (upd R q o') = upd (ovr R0 Hb R) q o' := by
  obtain ⟨c, _⟩ := ovr_some h
  funext a
  by_cases z : a = q
  · subst z
    rw [upd_same]
    exact ovr_mk c upd_same
  · rw [upd_ne z]
    unfold ovr
    rw [upd_ne z]
theorem Own.updR {R H : Hp} {L : List Cell} {q : Addr} {o o' : HO} (O : Own R H L) (h : R q = some o) : Own (upd R q o') (upd H q o') L := by
  have hne : ∀ c ∈ L, c.1 ≠ q := fun c hc z => by
    have := O.fr c hc
    rw [z, h] at this
    cases this
  refine ⟨fun x u e => ?_, fun c hc => ?_, fun c hc => ?_, O.nd⟩
  · by_cases z : x = q
    · subst z
      rw [upd_same] at e ⊢
      exact e
    · rw [upd_ne z] at e ⊢
      exact O.ex _ _ e
  · rw [upd_ne (hne c hc)]
    exact O.at_ c hc
  · rw [upd_ne (hne c hc)]
    exact O.fr c hc
/-- xs[i][1].append(c), the lists apart: those ahead (A) and behind (B) stay as they are -/
theorem pokeF {F Z : Hp} {as : List Addr} {A vs B : List V} {xa xs xb : List (Int × List Int)} {n : Nat} {c : Int} {e : Int × List Int} {w : V} {p q : Addr} (hA : All2 (rIL F) A xa) (hs : All2 (rIL F) vs xs) (hB : All2 (rIL F) B xb) (d : DN F Z as (A ++ (vs ++ B)))
    (hi : xs[n]? = some e) (e1 : vs[n]? = some (.ref p)) (e2 : F p = some (.tup [w, .ref q])) (hcell : F q = some (.lst (e.2.map V.int))) :
    All2 (rIL (upd F q (.lst ((e.2 ++ [c]).map V.int)))) A xa ∧ All2 (rIL (upd F q (.lst ((e.2 ++ [c]).map V.int)))) vs (xs.set n (e.1, e.2 ++ [c])) ∧ All2 (rIL (upd F q (.lst ((e.2 ++ [c]).map V.int)))) B xb ∧ DN (upd F q (.lst ((e.2 ++ [c]).map V.int))) Z as (A ++ (vs ++ B)) ∧ (∀ a ∈ as, a ≠ q) ∧ Z q = none := by
  obtain ⟨qs, k1, k2, k3, k4⟩ := d
  have hall : All2 (rIL F) (A ++ (vs ++ B)) (xa ++ (xs ++ xb)) := hA.app (hs.app hB)
  have lA := hA.len
  have ls := hs.len
  have hn : n < xs.length := (List.getElem?_eq_some_iff.mp hi).1
  have ev : (A ++ (vs ++ B))[A.length + n]? = some (.ref p) := by
    rw [List.getElem?_append_right (by omega), Nat.add_sub_cancel_left, List.getElem?_append_left (by omega)]
    exact e1
  have ex_ : (xa ++ (xs ++ xb))[A.length + n]? = some (e.1, e.2) := by
    rw [lA, List.getElem?_append_right (by omega), Nat.add_sub_cancel_left, List.getElem?_append_left hn]
    exact hi
  have hlen := k1.len
  have hlt : A.length + n < qs.length := by
    rw [← hlen]
    exact (List.getElem?_eq_some_iff.mp ev).1
  have eq0 : qs[A.length + n]? = some qs[A.length + n] := List.getElem?_eq_getElem hlt
  obtain ⟨v0, ev0, p0, x0, ws0, c1, c2, c3⟩ := All2.ixs _ _ k1 eq0
  rw [ev] at ev0
  cases ev0
  cases c1
  rw [e2] at c2
  injection c2 with c2
  injection c2 with c2
  injection c2 with c2 c4
  injection c4 with c4 _
  injection c4 with c4
  rw [← c4] at eq0 c3
  have hm : q ∈ qs := List.mem_of_getElem? eq0
  have hnew := dn_all (c := c) _ e.1 e.2 hall k1 k2 eq0 ex_
  have hset : (xa ++ (xs ++ xb)).set (A.length + n) (e.1, e.2 ++ [c]) = xa ++ (xs.set n (e.1, e.2 ++ [c]) ++ xb) := by
    rw [lA, List.set_append_right _ _ (by omega), Nat.add_sub_cancel_left, List.set_append_left _ _ hn]
  rw [hset] at hnew
  obtain ⟨hA', h1⟩ := All2.split2 A xa lA hnew
  obtain ⟨hs', hB'⟩ := All2.split2 vs (xs.set n (e.1, e.2 ++ [c])) (by simp; omega) h1
  exact ⟨hA', hs', hB', dn_keep ⟨_, hcell⟩ ⟨_, rfl⟩ ⟨qs, k1, k2, k3, k4⟩, fun a ha z => (k3 a ha).1 (by rw [z]; exact hm), k4 q hm⟩
/-- what is known behind such a change -/
def PkD (Z : Hp) (as : List Addr) (A B vs : List V) (xa xb xs' : List (Int × List Int)) (F F' : Hp) : Prop :=
  All2 (rIL F') A xa ∧ All2 (rIL F') vs xs' ∧ All2 (rIL F') B xb ∧ DN F' Z as (A ++ (vs ++ B)) ∧ ∀ a ∈ as, F' a = F a
theorem k_pokeD {R Z H : Hp} {L : List Cell} {as : List Addr} {A vs B : List V} {xa xs xb xs' : List (Int × List Int)} {n : Nat} {i c : Int} {e : Int × List Int} {l : List Int} {w : V} {p q : Addr} {Q : VK} (O : Own R H L) (eZ : Ex Z R) (hA : All2 (rIL R) A xa) (hs : All2 (rIL R) vs xs) (hB : All2 (rIL R) B xb) (d : DN R Z as (A ++ (vs ++ B)))
    (hn : ixN xs.length i = some n) (hi : xs[n]? = some e) (e1 : vs[n]? = some (.ref p)) (e2 : R p = some (.tup [w, .ref q])) (hcell : R q = some (.lst (e.2.map V.int))) (ha : appG e.2 c = some l) (hset : setG xs i (e.1, l) = some xs')
    (k : ∀ H' R', Own R' H' L → Ex Z R' → PkD Z as A B vs xa xb xs' R R' → Q .non H') : rAppend (.ref q) [.int c] H Q := by
  obtain ⟨hl, rfl⟩ := grdE ha
  obtain ⟨a1, a2, a3, a4, a5, a6⟩ := pokeF (c := c) hA hs hB d hi e1 e2 hcell
  have hx : xs' = xs.set n (e.1, e.2 ++ [c]) := by
    unfold setG at hset
    rw [hn] at hset
    cases hset
    rfl
  subst hx
  have O2 := O.updR (o' := .lst ((e.2 ++ [c]).map V.int)) hcell
  refine ⟨q, _, _, rfl, rfl, O.ex _ _ hcell, by rw [List.length_map]; exact hl, ?_⟩
  rw [show (e.2.map V.int) ++ [V.int c] = (e.2 ++ [c]).map V.int by simp]
  refine k _ _ O2 (fun a o h => ?_) ⟨a1, a2, a3, a4, fun a ha => upd_ne (a5 a ha)⟩
  rw [upd_ne (ne_of_none h a6)]
  exact eZ _ _ h
theorem k_pokeDO {R0 Hb R Z H : Hp} {L : List Cell} {as : List Addr} {A vs B : List V} {xa xs xb xs' : List (Int × List Int)} {n : Nat} {i c : Int} {e : Int × List Int} {l : List Int} {w : V} {p q : Addr} {Q : VK} (O : Own R H L) (eZ : Ex Z R) (hA : All2 (rIL (ovr R0 Hb R)) A xa) (hs : All2 (rIL (ovr R0 Hb R)) vs xs) (hB : All2 (rIL (ovr R0 Hb R)) B xb) (d : DN (ovr R0 Hb R) Z as (A ++ (vs ++ B)))
    (hn : ixN xs.length i = some n) (hi : xs[n]? = some e) (e1 : vs[n]? = some (.ref p)) (e2 : ovr R0 Hb R p = some (.tup [w, .ref q])) (hcell : ovr R0 Hb R q = some (.lst (e.2.map V.int))) (ha : appG e.2 c = some l) (hset : setG xs i (e.1, l) = some xs')
    (k : ∀ H' R', Own R' H' L → Ex Z R' → PkD Z as A B vs xa xb xs' (ovr R0 Hb R) (ovr R0 Hb R') → Q .non H') : rAppend (.ref q) [.int c] H Q := by
  obtain ⟨hl, rfl⟩ := grdE ha
  obtain ⟨a1, a2, a3, a4, a5, a6⟩ := pokeF (c := c) hA hs hB d hi e1 e2 hcell
  have hx : xs' = xs.set n (e.1, e.2 ++ [c]) := by
    unfold setG at hset
    rw [hn] at hset
    cases hset
    rfl
  subst hx
  have hR := ovr_ex _ _ hcell
  have O2 := O.updR (o' := .lst ((e.2 ++ [c]).map V.int)) hR
  refine ⟨q, _, _, rfl, rfl, O.ex _ _ hR, by rw [List.length_map]; exact hl, ?_⟩
  rw [show (e.2.map V.int) ++ [V.int c] = (e.2 ++ [c]).map V.int by simp]
  rw [← ovr_upd hcell] at a1 a2 a3 a4
  refine k _ _ O2 (fun a o h => ?_) ⟨a1, a2, a3, a4, fun a ha => ?_⟩
  · rw [upd_ne (ne_of_none h a6)]
    exact eZ _ _ h
  · rw [ovr_upd hcell]
    exact upd_ne (a5 a ha)
theorem k_ixAn {α : Type} {K : PySem.W.Frag} {P : V → α → Prop} {H : Hp} {a : Addr} {vs : List V} {xs : List α} {i : Int} {y : α} {Q : VK} (hs : SqL K H a vs) (ha : All2 P vs xs) (h : atI xs i = some y) (k : ∀ n v, ixN xs.length i = some n → xs[n]? = some y → vs[n]? = some v → P v y → Q v H) : rIxL K (.ref a) (.int i) H Q := by
  have h' := h
  unfold atI at h'
  cases hx : ixN xs.length i with
  | none => rw [hx] at h'; cases h'
  | some n =>
    rw [hx] at h'
    have hy : xs[n]? = some y := h'
    obtain ⟨v, e1, hv⟩ := ha.get hy
    refine ⟨a, vs, i, v, rfl, rfl, hs, ?_, k n v hx hy e1 hv⟩
    have hl := ha.len
    unfold atI
    rw [hl, hx]
    exact e1
/-- back to an older frame, one cell kept in hand -/
theorem Own.pick {Rs R H : Hp} {L : List Cell} {a : Addr} {o : HO} (O : Own R H L) (e : Ex Rs R) (hz : Rs a = none) (h : R a = some o) : Own Rs H ((a, o) :: L) := by
  refine ⟨fun x u k => O.ex _ _ (e _ _ k), fun c hc => ?_, fun c hc => ?_, List.nodup_cons.mpr ⟨fun z => ?_, O.nd⟩⟩
  · rcases List.mem_cons.mp hc with rfl | hc
    · exact O.ex _ _ h
    · exact O.at_ c hc
  · rcases List.mem_cons.mp hc with rfl | hc
    · exact hz
    · cases q : Rs c.1 with
      | none => rfl
      | some u =>
        have := e _ _ q
        rw [O.fr c hc] at this
        cases this
  · obtain ⟨c, hc, z⟩ := List.mem_map.mp z
    have := O.fr c hc
    rw [z] at this
    rw [h] at this
    cases this
theorem k_popD {α : Type} {P : V → α → Prop} {R H : Hp} {a : Addr} {vs : List V} {xs ys : List α} {y : α} {g : HO → List Cell} {Q : VK} (hl : H a = some (.lst vs)) (ha : All2 P vs xs) (hp : ∀ o', Own R (upd H a o') (g o')) (h : popL xs = some (y, ys)) (k : ∀ H' ws w, Own R H' (g (.lst ws)) → Q w H') : rPop (.ref a) [] H Q := by
  obtain ⟨e, rfl⟩ := popE h
  obtain ⟨w, w1, w2⟩ := ha.get e
  rw [← ha.len] at w1
  exact ⟨a, _, w, rfl, rfl, hl, w1, k _ _ w (hp _)⟩
theorem Ex.of_eq {A B C : Hp} (h : A = B) (e : Ex B C) : Ex A C := by subst h; exact e
/-! told slips: read and changed, one by one; which numbers they bear is not asked -/
abbrev SLt := List Int × Option (Int × List Int)
abbrev rSL : Rp SLt := rT2 (rL rI) (rO rIL)
def slB (B : Nat) (x : SLt) : Prop := ∃ f, x.2 = some f ∧ x.1.length ≤ B ∧ f.2.length ≤ B
def slOk (x : SLt) : Bool := match x.2 with
  | none => false
  | some f => decide (x.1.length ≤ 1000) && decide (f.2.length ≤ 1000)
def slG (xs : List SLt) : Option Unit := grd (xs.all slOk = true ∧ xs.length ≤ 100000) ()
theorem slOk_b {x : SLt} (h : slOk x = true) : slB 1000 x := by
  obtain ⟨l, f⟩ := x
  cases f with
  | none => cases h
  | some f =>
    have h' : (decide (l.length ≤ 1000) && decide (f.2.length ≤ 1000)) = true := h
    rw [Bool.and_eq_true, decide_eq_true_eq, decide_eq_true_eq] at h'
    exact ⟨f, rfl, h'.1, h'.2⟩
def SlR (Rs : Hp) (a : Addr) (vs : List V) (B : Nat) (R : Hp) : Prop :=
  Ex Rs R ∧ ovr hp0 Rs R a = some (.lst vs) ∧ ∀ v ∈ vs, ∃ x, rSL (ovr hp0 Rs R) v x ∧ slB B x
def SlJ (Rs : Hp) (L : List Cell) (a : Addr) (vs : List V) (n : Nat) (H : Hp) : Prop := ∃ B R, B + 2 * n ≤ 300000 ∧ Own R H L ∧ SlR Rs a vs B R
theorem mSL : Mono rSL := mT2 (mL mI) (mO (mT2 mI (mL mI)))
theorem SlR.mono {Rs R R' : Hp} {a : Addr} {vs : List V} {B : Nat} (e : Ex R R') (h : SlR Rs a vs B R) : SlR Rs a vs B R' :=
  ⟨h.1.trans e, ovr_mono e _ _ h.2.1, fun v hv => by
    obtain ⟨x, h1, h2⟩ := h.2.2 v hv
    exact ⟨x, mSL _ _ _ _ (ovr_mono e) h1, h2⟩⟩
theorem sl_start {Rs Hc R H : Hp} {L : List Cell} {a : Addr} {vs : List V} {xs : List SLt} {u : Unit} (O : Own R H L) (e : Ex Rs R) (hc : Ex Rs Hc) (h1 : ovr hp0 Hc R a = some (.lst vs)) (h2 : All2 (rSL (ovr hp0 Hc R)) vs xs) (hg : slG xs = some u) : SlJ Rs L a vs xs.length H := by
  obtain ⟨⟨g1, g2⟩, _⟩ := grdE hg
  have eF : Ex (ovr hp0 Hc R) (ovr hp0 Rs R) := ovr_fr (R0 := hp0) hc
  refine ⟨1000, R, by omega, O, e, eF _ _ h1, fun v hv => ?_⟩
  obtain ⟨x, hx, hr⟩ := h2.memL v hv
  exact ⟨x, mSL _ _ _ _ eF hr, slOk_b (List.all_eq_true.mp g1 x hx)⟩
theorem sl_poke {Rs R : Hp} {a q : Addr} {v0 : V} {vs : List V} {B : Nat} {ys : List Int} {c : Int} (h : SlR Rs a vs B R) (hm : v0 ∈ vs) (hq : ovr hp0 Rs R q = some (.lst (ys.map V.int))) (hl : ys.length ≤ B) : SlR Rs a vs (B + 1) (upd R q (.lst ((ys ++ [c]).map V.int))) := by
  obtain ⟨e, h1, h2⟩ := h
  have hz : Rs q = none := by
    obtain ⟨k, _⟩ := ovr_some hq
    rcases k with k | k
    · exact absurd rfl k
    · exact k
  have ha : a ≠ q := fun z => by
    subst z
    rw [hq] at h1
    have e1 : ys.map V.int = vs := HO.lst.inj (Option.some.inj h1)
    obtain ⟨x, ⟨p, _, _, r1, _⟩, _⟩ := h2 v0 hm
    rw [← e1] at hm
    obtain ⟨y, _, hy⟩ := List.mem_map.mp hm
    rw [← hy] at r1
    cases r1
  refine ⟨fun x o k => ?_, ?_, fun v hv => ?_⟩
  · rw [upd_ne (ne_of_none k hz)]
    exact e _ _ k
  · rw [ovr_upd hq, upd_ne ha]
    exact h1
  · obtain ⟨⟨l, o⟩, ⟨t, p, w, r1, r2, r3, r4⟩, f, rfl, b1, b2⟩ := h2 v hv
    obtain ⟨t2, nn, w2, s1, s2, s3, s4⟩ := r4
    obtain ⟨p1, j1, j2⟩ := fI r3
    obtain ⟨p2, k1, k2⟩ := fI s4
    subst s1
    have ht : t ≠ q := fun z => by
      subst z
      rw [r2] at hq
      cases hq
    have ht2 : t2 ≠ q := fun z => by
      subst z
      rw [s2] at hq
      cases hq
    have new : ∀ (x : Addr) (zs : List Int), ovr hp0 Rs R x = some (.lst (zs.map V.int)) → zs.length ≤ B → ∃ zs' : List Int, upd (ovr hp0 Rs R) q (.lst ((ys ++ [c]).map V.int)) x = some (.lst (zs'.map V.int)) ∧ zs'.length ≤ B + 1 := fun x zs hx hzs => by
      by_cases z : x = q
      · subst z
        exact ⟨ys ++ [c], upd_same, by simp; omega⟩
      · exact ⟨zs, by rw [upd_ne z]; exact hx, by omega⟩
    obtain ⟨l', m1, m2⟩ := new p1 _ j2 b1
    obtain ⟨f', n1, n2⟩ := new p2 _ k2 b2
    rw [ovr_upd hq]
    refine ⟨(l', some (f.1, f')), ⟨t, p, .ref t2, r1, by rw [upd_ne ht]; exact r2, ?_, ⟨t2, nn, w2, rfl, by rw [upd_ne ht2]; exact s2, s3, ?_⟩⟩, (f.1, f'), rfl, m2, n2⟩
    · rw [j1]; exact gI m1
    · rw [k1]; exact gI n1
theorem k_slapp {Rs R H : Hp} {L : List Cell} {a q : Addr} {v0 : V} {vs : List V} {B : Nat} {ys : List Int} {c : Int} {Q : VK} (O : Own R H L) (h : SlR Rs a vs B R) (hm : v0 ∈ vs) (hq : ovr hp0 Rs R q = some (.lst (ys.map V.int))) (hl : ys.length ≤ B) (hB : B ≤ 300000) (k : ∀ H' R', Own R' H' L → SlR Rs a vs (B + 1) R' → Q .non H') : rAppend (.ref q) [.int c] H Q := by
  have hR := ovr_ex _ _ hq
  refine ⟨q, _, _, rfl, rfl, O.ex _ _ hR, by rw [List.length_map]; show _ < 16777216; omega, ?_⟩
  rw [show (ys.map V.int) ++ [V.int c] = (ys ++ [c]).map V.int by simp]
  exact k _ _ (O.updR hR) (sl_poke h hm hq hl)
theorem q_forSl {α : Type} {K : PySem.W.Frag} {Rs H : Hp} {L : List Cell} {a : Addr} {vs : List V} {xs : List α} {j : Nat} {ts : TS} {n : St → Hp → Prop} {w : VK} {σ : St} (T : St → Prop) (hl : vs.length = xs.length) (hP : SlJ Rs L a vs xs.length H) (h0 : T σ)
    (hs : ∀ σ v m B R H, T σ → Own R H L → SlR Rs a vs B R → v ∈ vs → B + 2 * (m + 1) ≤ 300000 → ts (Ends.mk (fun σ H => T σ ∧ SlJ Rs L a vs m H) w n (fun σ H => T σ ∧ SlJ Rs L a vs m H)) (σ.set j (some v)) H)
    (hd : ∀ σ H, T σ → Own Rs H L → n σ H) :
    ∃ W : Nat → Nat → St → Hp → Prop, (∃ m, W 0 m σ H) ∧ ∀ i m σ H, W i m σ H →
      ((Itl K a).stop i H ∧ n σ H) ∨ ((Itl K a).go i H ∧ ∃ N : St → Hp → Prop, (∀ σ' H', N σ' H' → ∃ m', m' < m ∧ W (i + 1) m' σ' H') ∧ ∀ x H', (Itl K a).yld i H x H' → gName j x σ H' fun σ2 H2 => ts (Ends.mk N w n N) σ2 H2) := by
  refine q_forA (P := fun v (_ : α) => v ∈ vs) (b := fun _ _ => False) (k := fun _ _ => False) (xs := xs) (All2.of_get hl fun i x y e _ => List.mem_of_getElem? e) (fun r σ H => T σ ∧ SlJ Rs L a vs r.length H) ⟨h0, hP⟩ (fun r σ H h => ?_) (fun x v r σ H hv h => ?_) (fun σ H h => ?_)
  · obtain ⟨_, B, R, _, O, _, h1, _⟩ := h
    exact SqL.of (O.ex _ _ (ovr_ex _ _ h1))
  · obtain ⟨h0, B, R, h1, O, h2⟩ := h
    exact hs σ v r.length B R H h0 O h2 hv h1
  · obtain ⟨h0, B, R, h1, O, h2⟩ := h
    exact hd σ H h0 (O.shrink h2.1)
theorem slB.le {B C : Nat} {x : SLt} (h : slB B x) (k : B ≤ C) : slB C x := by
  obtain ⟨f, h1, h2, h3⟩ := h
  exact ⟨f, h1, Nat.le_trans h2 k, Nat.le_trans h3 k⟩
theorem SlR.at {Rs R : Hp} {a : Addr} {v : V} {vs : List V} {B : Nat} (h : SlR Rs a vs B R) (hm : v ∈ vs) : ∃ (l : List Int) (f : Int × List Int), rT2 (rL rI) rIL (ovr hp0 Rs R) v (l, f) ∧ l.length ≤ B ∧ f.2.length ≤ B := by
  obtain ⟨⟨l, o⟩, ⟨t, p, w, r1, r2, r3, r4⟩, f, e, b1, b2⟩ := h.2.2 v hm
  have e : o = some f := e
  subst e
  exact ⟨l, f, ⟨t, p, w, r1, r2, r3, r4⟩, b1, b2⟩
end Bt

set_option linter.all false
set_option maxRecDepth 100000
set_option maxHeartbeats 1000000
/-! Texts. -/
namespace Bt
open PySem L2
def sg (c : Nat) : Str := ⟨#[c]⟩
/-- the signs of a text -/
def sgs (z : Str) : List Str := z.cps.toList.map sg
def ixS (z : Str) (i : Int) : Option Str := bnd (grd (z.length ≤ 16777216) (sgs z)) fun l => atI l i
def slS (z : Str) (lo hi : Option Int) : Option Str := grd (z.length ≤ 16777216) (cutS z lo hi)
def addS (x y : Str) : Option Str := grd (x.length + y.length ≤ 16777216) (x ++ y)
def lenS (z : Str) : Option Int := grd (z.length ≤ 16777216) (z.length : Int)
def joinS (a : Str) (ys : List Str) : Option Str := grd ((ys.map (·.length)).sum + ys.length * a.length ≤ 16777216) (Txt.join a ys)
section
variable {K : PySem.W.Frag} {σ : St} {H R : Hp} {L : List Cell} {Q : VK} {i : Int} {x y z : Str} {lo hi : Option Int} {p : Addr} {ys : List Str} {n : Int}
theorem atI_map {α β : Type} {f : α → β} {xs : List α} {i : Int} {v : β} (h : atI (xs.map f) i = some v) : ∃ u, atI xs i = some u ∧ v = f u := by
  unfold atI at h ⊢
  rw [List.length_map] at h
  cases e : ixN xs.length i with
  | none => rw [e] at h; cases h
  | some j =>
    rw [e] at h
    have h : (xs.map f)[j]? = some v := h
    rw [List.getElem?_map] at h
    cases e2 : xs[j]? with
    | none => rw [e2] at h; cases h
    | some u =>
      rw [e2] at h
      exact ⟨u, e2, (Option.some.inj h).symm⟩
theorem k_ixS (h : ixS z i = some y) (k : Q (.str y) H) : rIxS (.str z) (.int i) H Q := by
  obtain ⟨l, h1, h2⟩ := bndE h
  obtain ⟨c, rfl⟩ := grdE h1
  obtain ⟨u, e1, rfl⟩ := atI_map h2
  exact ⟨z, i, u, rfl, rfl, c, e1, k⟩
theorem k_slS (h : slS z lo hi = some y) (k : Q (.str y) H) : rSlS (.str z) lo hi H Q := by
  obtain ⟨c, rfl⟩ := grdE h
  exact ⟨z, rfl, c, k⟩
def rAddZ : R2 := fun x y H Q => ∃ i j, x = .str i ∧ y = .str j ∧ i.length + j.length ≤ sizeLine ∧ Q (.str (i ++ j)) H
theorem op_addZ {X : Cx} : OpR X (binaryOp .Add) rAddZ := op_add_str
theorem k_addS (h : addS x y = some z) (k : Q (.str z) H) : rAddZ (.str x) (.str y) H Q := by
  obtain ⟨c, rfl⟩ := grdE h
  exact ⟨x, y, rfl, rfl, c, k⟩
def rLenZ : List V → Hp → VK → Prop := fun xs H Q => ∃ z : Str, xs = [.str z] ∧ z.length ≤ sizeLine ∧ Q (.int (z.length : Int)) H
theorem call_lenZ {X : Cx} : CallR X (.builtin "len") rLenZ := call_len_str
theorem n_lenZ (h : lenS z = some n) (k : Q (.int n) H) : rLenZ [.str z] H Q := by
  obtain ⟨c, rfl⟩ := grdE h
  exact ⟨z, rfl, c, k⟩
theorem o_m1 {to te : TE} {r : V → List V → Hp → VK → Prop} (h : to σ H fun x H1 => (∃ a, x = .str a) ∧ te σ H1 fun y H2 => r x [y] H2 Q) : tM1 r to te σ H Q := h
def rJoin (K : PySem.W.Frag) : V → List V → Hp → VK → Prop := fun x xs H Q => ∃ a p, ∃ ys : List Str, x = .str a ∧ xs = [.ref p] ∧ (SqL K H p (ys.map V.str) ∨ SqT K H p (ys.map V.str)) ∧ (ys.map (·.length)).sum + ys.length * a.length ≤ 16777216 ∧ Q (.str (Txt.join a ys)) H
theorem mt_joinZ {X : Cx} : MtR X "str.join" (rJoin X.K) := mt_join
theorem k_join (hs : SqL K H p (ys.map V.str)) (h : joinS x ys = some z) (k : Q (.str z) H) : rJoin K (.str x) [.ref p] H Q := by
  obtain ⟨c, rfl⟩ := grdE h
  exact ⟨x, p, ys, rfl, rfl, .inl hs, c, k⟩
theorem o_is {te : TE} {Rr : It → Hp → Prop} (h : te σ H fun v H1 => ∃ x, v = .str x ∧ Rr (Its x) H1) : iStr te σ H Rr := h
theorem q_forS {j : Nat} {z : Str} {ts : TS} {n b k : St → Hp → Prop} {w : VK} (J : List Str → St → Hp → Prop) (h0 : J (sgs z) σ H)
    (hs : ∀ x r σ H, J (x :: r) σ H → ts (Ends.mk (J r) w n (J r)) (σ.set j (some (.str x))) H) (hd : ∀ σ H, J [] σ H → n σ H) :
    ∃ W : Nat → Nat → St → Hp → Prop, (∃ m, W 0 m σ H) ∧ ∀ i m σ H, W i m σ H →
      ((Its z).stop i H ∧ n σ H) ∨ ((Its z).go i H ∧ ∃ N : St → Hp → Prop, (∀ σ' H', N σ' H' → ∃ m', m' < m ∧ W (i + 1) m' σ' H') ∧ ∀ x H', (Its z).yld i H x H' → gName j x σ H' fun σ2 H2 => ts (Ends.mk N w n N) σ2 H2) := by
  have hz : (sgs z).length = z.cps.size := by unfold sgs; simp
  refine ⟨fun i m σ H => m = z.cps.size - i ∧ i ≤ z.cps.size ∧ J ((sgs z).drop i) σ H, ⟨z.cps.size, by simp, Nat.zero_le _, h0⟩, ?_⟩
  rintro i m σ H ⟨rfl, hi, hJ⟩
  by_cases hlt : i < z.cps.size
  · have e : z.cps[i]? = some z.cps[i] := Array.getElem?_eq_getElem hlt
    have e2 : (sgs z).drop i = sg z.cps[i] :: (sgs z).drop (i + 1) := by
      rw [List.drop_eq_getElem_cons (by omega)]
      congr 1
      unfold sgs
      simp
    rw [e2] at hJ
    refine .inr ⟨hlt, J ((sgs z).drop (i + 1)), fun σ' H' hJ' => ⟨_, by omega, rfl, hlt, hJ'⟩, fun v H' hv => ?_⟩
    obtain ⟨rfl, c, hc, rfl⟩ := hv
    rw [e] at hc
    cases hc
    exact hs _ _ σ H' hJ
  · have : i = z.cps.size := by omega
    subst this
    rw [List.drop_of_length_le (by omega)] at hJ
    exact .inl ⟨Nat.le_refl _, hd σ H hJ⟩
def inS (x y : Str) : Bool := !(Builtin.Str.occurrences y x 0 y.length 1).isEmpty
def rInZ : R2 := fun x y H Q => ∃ i j, x = .str i ∧ y = .str j ∧ Q (.bl (inS i j)) H
theorem op_inZ {X : Cx} : OpR X (compareOp .In) rInZ := op_in_str
def rNiZ : R2 := fun x y H Q => ∃ i j, x = .str i ∧ y = .str j ∧ Q (.bl (!inS i j)) H
theorem op_niZ {X : Cx} : OpR X (compareOp .NotIn) rNiZ := op_notin_str
def strI (i : Int) : Option Str := grd (i.natAbs.log2 < 1920) (Str.ofString (toString i))
def rStrZ : List V → Hp → VK → Prop := fun xs H Q => ∃ i : Int, xs = [.int i] ∧ i.natAbs.log2 < 1920 ∧ Q (.str (Str.ofString (toString i))) H
theorem call_strZ {X : Cx} : CallR X (.type "str") rStrZ := call_str_int
theorem n_strZ (h : strI i = some z) (k : Q (.str z) H) : rStrZ [.int i] H Q := by
  obtain ⟨c, rfl⟩ := grdE h
  exact ⟨i, rfl, c, k⟩
def intS (z : Str) : Option Int := bnd (grd (z.length ≤ 640) ()) fun _ => intText? z
def rIntZ : List V → Hp → VK → Prop := fun xs H Q => ∃ (a : Str) (n : Int), xs = [.str a] ∧ PySem.intText? a = some n ∧ a.length ≤ 640 ∧ Q (.int n) H
theorem call_intZ {X : Cx} : CallR X (.type "int") rIntZ := call_int_str
theorem n_intZ (h : intS z = some n) (k : Q (.int n) H) : rIntZ [.str z] H Q := by
  obtain ⟨u, h1, h2⟩ := bndE h
  obtain ⟨c, _⟩ := grdE h1
  exact ⟨z, n, rfl, h2, c, k⟩
def zfS (z : Str) (i : Int) : Option Str := grd (PySem.PadOk i = true) (Txt.zfill z i)
def rZf : V → List V → Hp → VK → Prop := fun x xs H Q => ∃ (a : Str) (i : Int), x = .str a ∧ xs = [.int i] ∧ PySem.PadOk i = true ∧ Q (.str (Txt.zfill a i)) H
theorem mt_zfZ {X : Cx} : MtR X "str.zfill" rZf := mt_zfill
theorem k_zf (h : zfS x i = some z) (k : Q (.str z) H) : rZf (.str x) [.int i] H Q := by
  obtain ⟨c, rfl⟩ := grdE h
  exact ⟨x, i, rfl, rfl, c, k⟩
/-! range with a step -/
def rng3 (i j c : Int) : Option (List Int) := grd (0 < c ∧ c < 1000000 ∧ -(2 ^ 60) ≤ i ∧ i < 2 ^ 60 ∧ -(2 ^ 60) ≤ j ∧ j < 2 ^ 60) ((List.range (Builtin.Range.rangeSize i j c).toNat).map fun (k : Nat) => i + (k : Int) * c)
theorem rng3E {i j c : Int} {xs : List Int} (h : rng3 i j c = some xs) : RgC i j c (Builtin.Range.rangeSize i j c).toNat ∧ ((List.range (Builtin.Range.rangeSize i j c).toNat).map fun (k : Nat) => i + (k : Int) * c) = xs := by
  obtain ⟨⟨c0, c1, i0, i1, j0, j1⟩, rfl⟩ := grdE h
  have hs : 0 ≤ Builtin.Range.rangeSize i j c ∧ Builtin.Range.rangeSize i j c ≤ 2 ^ 62 := by
    unfold Builtin.Range.rangeSize
    rw [if_pos c0]
    split
    · rename_i hlt
      have h1 := Int.ediv_nonneg (show 0 ≤ j - i - 1 by omega) (show 0 ≤ c by omega)
      have h2 := Int.ediv_le_self c (show 0 ≤ j - i - 1 by omega)
      omega
    · omega
  refine ⟨⟨by omega, by omega, ?_, by omega⟩, rfl⟩
  unfold Builtin.Range.small
  generalize Builtin.Range.rangeSize i j c = z at hs
  simp only [Builtin.Range.rangeFitsLong, Bool.and_eq_true, Bool.or_eq_true, decide_eq_true_eq, beq_iff_eq, if_pos (show c > 0 from c0)]
  omega
theorem o_ir3 {tr : TA} {Rr : It → Hp → Prop} (h : tr σ H fun vs H1 => ∃ (i j c : Int) (n : Nat), vs = [.int i, .int j, .int c] ∧ RgC i j c n ∧ Rr (Itc i c n) H1) : iRng3 tr σ H Rr := h
theorem q_forC {j : Nat} {lo c : Int} {n : Nat} {ts : TS} {nx : St → Hp → Prop} {w : VK} (J : List Int → St → Hp → Prop) (h0 : J ((List.range n).map fun (i : Nat) => lo + (i : Int) * c) σ H)
    (hs : ∀ x r σ H, J (x :: r) σ H → ts (Ends.mk (J r) w nx (J r)) (σ.set j (some (.int x))) H) (hd : ∀ σ H, J [] σ H → nx σ H) :
    ∃ W : Nat → Nat → St → Hp → Prop, (∃ m, W 0 m σ H) ∧ ∀ i m σ H, W i m σ H →
      ((Itc lo c n).stop i H ∧ nx σ H) ∨ ((Itc lo c n).go i H ∧ ∃ N : St → Hp → Prop, (∀ σ' H', N σ' H' → ∃ m', m' < m ∧ W (i + 1) m' σ' H') ∧ ∀ x H', (Itc lo c n).yld i H x H' → gName j x σ H' fun σ2 H2 => ts (Ends.mk N w nx N) σ2 H2) := by
  have hz : ((List.range n).map fun (i : Nat) => lo + (i : Int) * c).length = n := by simp
  generalize hL : ((List.range n).map fun (i : Nat) => lo + (i : Int) * c) = L at h0 hz
  refine ⟨fun i m σ H => m = n - i ∧ i ≤ n ∧ J (L.drop i) σ H, ⟨n, by simp, Nat.zero_le _, h0⟩, ?_⟩
  rintro i m σ H ⟨rfl, hi, hJ⟩
  by_cases hlt : i < n
  · have e2 : L.drop i = (lo + (i : Int) * c) :: L.drop (i + 1) := by
      rw [List.drop_eq_getElem_cons (by omega)]
      congr 1
      subst hL
      simp
    rw [e2] at hJ
    refine .inr ⟨hlt, J (L.drop (i + 1)), fun σ' H' hJ' => ⟨_, by omega, rfl, hlt, hJ'⟩, fun v H' hv => ?_⟩
    obtain ⟨rfl, rfl⟩ := hv
    exact hs _ _ σ H' hJ
  · have : i = n := by omega
    subst this
    rw [List.drop_of_length_le (by omega)] at hJ
    exact .inl ⟨Nat.le_refl _, hd σ H hJ⟩
theorem k_inZ (q : Q (.bl (inS x y)) H) : rInZ (.str x) (.str y) H Q := ⟨x, y, rfl, rfl, q⟩
theorem k_niZ (q : Q (.bl (!inS x y)) H) : rNiZ (.str x) (.str y) H Q := ⟨x, y, rfl, rfl, q⟩
theorem gv_str {K : PySem.W.Frag} {h : Heap} {mg : Str → Option Value} {x s : Str} {t : Tok} (X : K.In h) (G : h.Ns mainGlobals mg) (a : PySem.W.nsIn K mainGlobals x = some (some (.str s t))) : Gv mg x (.str s) := ⟨_, PySem.W.mg_of X G a, _, rfl⟩
/-! text.index(sign), found -/
def idxS (x y : Str) : Option Int := match Builtin.Str.occurrences x y 0 x.length 1 with
  | i :: _ => some ((i : Nat) : Int)
  | [] => none
def rIndexZ : V → List V → Hp → VK → Prop := fun x xs H Q => ∃ a b i rest, x = .str a ∧ xs = [.str b] ∧ Builtin.Str.occurrences a b 0 a.length 1 = i :: rest ∧ Q (.int (i : Nat)) H
theorem mt_indexZ {X : Cx} : MtR X "str.index" rIndexZ := mt_sindex
theorem k_indexZ (h : idxS x y = some n) (k : Q (.int n) H) : rIndexZ (.str x) [.str y] H Q := by
  unfold idxS at h
  split at h
  · rename_i i r e
    cases h
    exact ⟨x, y, i, r, rfl, rfl, e, k⟩
  · cases h
/-! text * number -/
def repZ (x : Str) (n : Int) : Str := if n < 1 then Str.empty else if (n == 1 || x.length == 0) = true then x else ⟨(List.replicate n.toNat x.cps).foldl (· ++ ·) #[]⟩
def mulZ (x : Str) (n : Int) : Option Str := grd (0 ≤ n ∧ n ≤ 1000000 ∧ x.length * n.toNat ≤ 16777216 ∧ (repZ x n).length ≤ 16777216) (repZ x n)
def rMulZ : R2 := fun x y H Q => ∃ a n, x = .str a ∧ y = .int n ∧ 0 ≤ n ∧ n ≤ 1000000 ∧ a.length * n.toNat ≤ 16777216 ∧ (repZ a n).length ≤ 16777216 ∧ Q (.str (repZ a n)) H
theorem op_mulZ {X : Cx} : OpR X (binaryOp .Mult) rMulZ := by
  intro pins s σ H x y v u Q I rx ry h
  obtain ⟨a, n, rfl, rfl, h0, h1, h2, h3, q⟩ := h
  obtain ⟨t, rfl⟩ := rx
  obtain ⟨t', rfl⟩ := ry
  refine PySem.P.mul_str ?_ ?_ ?_ ?_
  · rw [decide_eq_false (by omega), decide_eq_false (by omega)]
    rfl
  · intro g1 g2 g3
    have e : (2 ^ 63 - 1 : Int) / n * n ≤ 2 ^ 63 - 1 := Int.ediv_mul_le _ (by omega)
    have e2 : ((a.length * n.toNat : Nat) : Int) = (a.length : Int) * n := by
      rw [Int.natCast_mul, Int.toNat_of_nonneg h0]
    have e3 : ((2 ^ 63 - 1 : Int) / n + 1) * n ≤ (a.length : Int) * n := Int.mul_le_mul_of_nonneg_right (by omega) h0
    have e4 : (2 ^ 63 - 1 : Int) < ((2 ^ 63 - 1 : Int) / n + 1) * n := by
      have := Int.lt_ediv_add_one_mul_self (2 ^ 63 - 1) (show 0 < n by omega)
      exact this
    omega
  · intro _ _
    unfold Builtin.Str.tooLong
    rw [sizeLine_eq]
    exact decide_eq_false (by omega)
  · unfold repZ at h3 q
    by_cases g1 : n < 1
    · rw [if_pos g1] at h3 q ⊢
      exact ⟨by decide, ⟨.str Str.empty, H, I.tok _, ⟨_, rfl⟩, q⟩⟩
    · rw [if_neg g1] at h3 q ⊢
      by_cases g2 : (n == 1 || a.length == 0) = true
      · rw [if_pos g2] at h3 q ⊢
        exact ⟨.str a, H, I, ⟨_, rfl⟩, q⟩
      · rw [if_neg g2] at h3 q ⊢
        exact ⟨h3, ⟨.str _, H, I.tok _, ⟨_, rfl⟩, q⟩⟩
theorem k_mulZ (h : mulZ x n = some z) (k : Q (.str z) H) : rMulZ (.str x) (.int n) H Q := by
  obtain ⟨⟨c1, c2, c3, c4⟩, rfl⟩ := grdE h
  exact ⟨x, n, rfl, rfl, c1, c2, c3, c4, k⟩
end
/-! xs.pop(i) -/
section
variable {α : Type} {f : α → V} {R H : Hp} {L : List Cell} {a : Addr} {xs ys : List α} {y : α} {i : Int} {Q : VK} {P : V → α → Prop} {vs : List V}
def popA (xs : List α) (i : Int) : Option (α × List α) := bnd (grd (xs.length ≤ 1000000000) ()) fun _ => bnd (ixN xs.length i) fun k => bnd xs[k]? fun y => some (y, xs.eraseIdx k)
def rPopI : V → List V → Hp → VK → Prop := fun x vs H Q => ∃ l xs i k y, x = .ref l ∧ vs = [.int i] ∧ H l = some (.lst xs) ∧ -(2 ^ 63) ≤ i ∧ i < 2 ^ 63 ∧ seqIndex? i xs.length = some k ∧ xs[k]? = some y ∧ Q y (upd H l (.lst (xs.eraseIdx k)))
theorem mt_popI {X : Cx} : MtM X "list.pop" rPopI := mt_popAt
theorem erase_map (f : α → V) : ∀ (xs : List α) (k : Nat), (xs.map f).eraseIdx k = (xs.eraseIdx k).map f
  | [], _ => rfl
  | _ :: _, 0 => rfl
  | x :: r, k + 1 => by
    show f x :: (r.map f).eraseIdx k = f x :: (r.eraseIdx k).map f
    rw [erase_map f r k]
theorem k_popI {g : HO → List Cell} (hl : H a = some (.lst (xs.map f))) (hp : ∀ o', Own R (upd H a o') (g o')) (h : popA xs i = some (y, ys)) (k : ∀ H', Own R H' (g (.lst (ys.map f))) → Q (f y) H') : rPopI (.ref a) [.int i] H Q := by
  obtain ⟨_, h1, h2⟩ := bndE h
  obtain ⟨c, _⟩ := grdE h1
  obtain ⟨j, h3, h4⟩ := bndE h2
  obtain ⟨z, h5, h6⟩ := bndE h4
  cases h6
  obtain ⟨s1, s2, s3, s4⟩ := ixN_seq h3
  refine ⟨a, _, i, j, f y, rfl, rfl, hl, by omega, by omega, by rw [List.length_map]; exact s1, by rw [List.getElem?_map, h5]; rfl, ?_⟩
  rw [erase_map]
  exact k _ (hp _)
end
end Bt

set_option linter.all false
set_option maxRecDepth 100000
set_option maxHeartbeats 1000000
/-! Lists that are handed to be changed, and lists of one's own lists. -/
namespace Bt
open PySem L2
section
variable {α : Type} {f : α → V} {F R R0 Hb H : Hp} {a : Addr} {L C : List Cell} {xs : List α}
/-- a list of plain things -/
def oRow (f : α → V) : Ob (List α) := fun _ a L xs => L = [(a, HO.lst (xs.map f))]
theorem moRow : MonoO (oRow f) := fun _ _ _ _ _ _ h => h
theorem oRow_mk : oRow f F a [(a, HO.lst (xs.map f))] xs := rfl
/-- a list of data that is to stay -/
def oRowD (P : Rp α) : Ob (List α) := fun F a L xs => ∃ vs, L = [(a, HO.lst vs)] ∧ All2 (P F) vs xs
theorem moRowD {P : Rp α} (m : Mono P) : MonoO (oRowD P) := fun _ _ _ _ _ e ⟨vs, h1, h2⟩ => ⟨vs, h1, mA m e h2⟩
theorem Own.frzAll : ∀ (L : List Cell) {R : Hp}, Own R H (L ++ C) → Ex Hb R → ∃ R', Own R' H C ∧ Ex R R' ∧ ∀ c ∈ L, ovr R0 Hb R' c.1 = some c.2
  | [], R, O, _ => ⟨R, O, Ex.refl _, fun _ h => nomatch h⟩
  | (p, o) :: r, R, O, e => by
    obtain ⟨R1, O1, e1, h1⟩ := Own.frzO (R0 := R0) O e
    obtain ⟨R2, O2, e2, h2⟩ := Own.frzAll r O1 (e.trans e1)
    refine ⟨R2, O2, e1.trans e2, fun c hc => ?_⟩
    rcases List.mem_cons.mp hc with rfl | hc
    · exact ovr_mono e2 _ _ h1
    · exact h2 c hc
theorem all_map {P : Rp α} (hP : ∀ F x, P F (f x) x) (G : Hp) : ∀ ys : List α, All2 (P G) (ys.map f) ys
  | [] => .nil
  | y :: r => .cons (hP G y) (all_map hP G r)
theorem rows_all {P : Rp α} (hP : ∀ F x, P F (f x) x) {G : Hp} {as : List Addr} {Ls : List (List Cell)} {xss : List (List α)} (h : All3 (oRow f F) as Ls xss) (hg : ∀ c ∈ Ls.flatten, G c.1 = some c.2) : All2 (rL P G) (as.map V.ref) xss := by
  induction h with
  | nil => exact .nil
  | @cons b L1 ys as Ls xss h t ih =>
    refine .cons ⟨b, ys.map f, rfl, ?_, ?_⟩ (ih fun c hc => hg c (by rw [List.flatten_cons]; exact List.mem_append_right _ hc))
    · have := hg (b, .lst (ys.map f)) (by rw [List.flatten_cons, show L1 = _ from h]; exact List.Mem.head _)
      exact this
    · exact all_map hP G ys
/-- laid in the frame -/
theorem Own.frzRows {P : Rp α} {xss : List (List α)} (hP : ∀ F x, P F (f x) x) (O : Own R H (L ++ C)) (h : oLs (oRow f) F a L xss) (e : Ex Hb R) : ∃ R', Own R' H C ∧ Ex R R' ∧ rL (rL P) (ovr R0 Hb R') (.ref a) xss := by
  obtain ⟨as, Ls, hp, h3⟩ := h
  obtain ⟨R', O', e1, h1⟩ := Own.frzAll (R0 := R0) L O e
  have hm : ∀ c ∈ (a, HO.lst (as.map V.ref)) :: Ls.flatten, ovr R0 Hb R' c.1 = some c.2 := fun c hc => h1 c (hp.mem_iff.mpr hc)
  exact ⟨R', O', e1, a, as.map V.ref, rfl, hm _ (List.Mem.head _), rows_all hP h3 fun c hc => hm c (List.Mem.tail _ hc)⟩
end
/-! fields that may be None -/
section
variable {α : Type} {f : α → V} {P : Rp α} {F : Hp} {v : V} {m : Option α}
def ov (f : α → V) : Option α → V
  | none => .non
  | some x => f x
theorem ov_r (hP : ∀ F x, P F (f x) x) : rO P F (ov f m) m := by
  cases m with
  | none => rfl
  | some x => exact hP F x
theorem rO_ov (hP : ∀ F v x, P F v x → v = f x) (h : rO P F v m) : v = ov f m := by
  cases m with
  | none => exact h
  | some x => exact hP F v x h
end
/-! a tuple's slice -/
section
variable {K : PySem.W.Frag} {R H : Hp} {L : List Cell} {a : Addr} {xs : List V} {lo hi : Option Int} {Q : VK}
theorem k_cutT (O : Own R H L) (h : H a = some (.tup xs)) (c : ¬ (HT.sIx xs.length 0 lo = 0 ∧ HT.sIx xs.length xs.length hi = xs.length)) (k : ∀ p H', Own R H' ((p, .tup (cutV xs lo hi)) :: L) → Q (.ref p) H') : rSlT K (.ref a) lo hi H Q :=
  ⟨a, xs, rfl, SqT.of h, c, fun p hp => k p _ (O.new hp)⟩
end
/-! o.m(e, ..) in a try's suite -/
section
variable {X : Cx} {CX : CXT} {k : Nat} {f C : Addr} {fd : FuncData} {ps : List Str} {sp : Sp} {E : L2.St → XK} {m : Str} {pos apos : Pos} {e o : Expr} {es : List Expr} {ta : TE} {t : TA}
def tMethE (C : Addr) (m : Str) (sp : Sp) (E : L2.St → XK) (ta : TE) (t : TA) : TE := fun σ H Q => ta σ H fun x H1 => ∃ a dx fs, x = .ref a ∧ H1 a = some (.ins C dx fs) ∧ fs.lookup m = none ∧ t σ H1 fun vs H2 => sp (x :: vs) H2 Q (E σ)
theorem o_methE {σ : L2.St} {H : Hp} {Q : VK} (h : ta σ H fun x H1 => ∃ a dx fs, x = .ref a ∧ H1 a = some (.ins C dx fs) ∧ fs.lookup m = none ∧ t σ H1 fun vs H2 => sp (x :: vs) H2 Q (E σ)) : tMethE C m sp E ta t σ H Q := h
def tMakeE (C : Addr) (sp : Sp) (dvs : List V) (E : L2.St → XK) (t : TA) : TE := fun σ H Q => t σ H fun vs H1 => ∀ x dx, H1 x = none → H1 dx = none → dx ≠ x → sp (.ref x :: (vs ++ dvs)) (upd (upd H1 dx (.own x)) x (.ins C dx [])) (fun v H2 => v = .non ∧ Q (.ref x) H2) (E σ)
theorem o_makeE {dvs : List V} {σ : L2.St} {H : Hp} {Q : VK} (h : t σ H fun vs H1 => ∀ x dx, H1 x = none → H1 dx = none → dx ≠ x → sp (.ref x :: (vs ++ dvs)) (upd (upd H1 dx (.own x)) x (.ins C dx [])) (fun v H2 => v = .non ∧ Q (.ref x) H2) (E σ)) : tMakeE C sp dvs E t σ H Q := h
theorem pe_makeE {x : Str} {p : Pos} {dvs : List V} {ds : List Value} (M : Mk X.K C f) (F : FnOk X.prog X.w X.K X.mg X.base CX k f fd ps sp) (hr : Room (k + 1) X.A) (hg : Gl X x) (hm : X.mg x = some (.ref C)) (hb : Binds X.K fd ps ds) (hd : Vals dvs ds) (hx : ∀ σ, PassesAt CX X σ (E σ))
    (ha : PA X (e :: es) t) (hdb : (x == ("__debug__" : Str)) = false := by decide) (he : starEach (e :: es) X.env = (false, eval e X.env) :: starEach es X.env := by rfl) (hpl : (backTo pos (starEach es X.env)).any (·.1) = false := by rfl) :
    PE X (.Call (.Name x p) (e :: es) [] pos) (tMakeE C sp dvs E t) := by
  refine ⟨fun pins s σ H Q I h => ?_⟩
  refine wpAny_Call_Name_kw (ld_glob I hg hm ?_ hdb)
  refine PySem.W.callWith_K (h₀ := X.base) I.ok.mod.kin M.kp (thn (ha.run pos pins s σ H _ I h) fun us s1 ⟨vs, H1, I1, r, q⟩ => ⟨I1.kIn, ?_⟩) he hpl
  have hq := q (s1.heap.objs.size + 1) s1.heap.objs.size (I1.hok.fresh (Nat.le_succ _)) (I1.hok.fresh (Nat.le_refl _)) (Nat.ne_of_lt (Nat.lt_succ_self _))
  have I2 := Inv.made (C := C) I1
  have r2 : Vals (V.ref (s1.heap.objs.size + 1) :: (vs ++ dvs)) (Value.ref (s1.heap.objs.size + 1) :: (us ++ ds)) := .cons rfl (r.append hd)
  have hl : (Value.ref (s1.heap.objs.size + 1) :: us ++ ds).length = ps.length := by
    have e := r2.length
    rw [F.len _ _ _ _ hq] at e
    exact e.symm
  refine wpAny_call (make_map (f := f) I1.kIn M.makes M.init (beq_iff_eq.mp M.fn) (codeAny_mono (F.run _ X.stack _ _ ⟨Value.ref (s1.heap.objs.size + 1) :: us, []⟩ (Value.ref (s1.heap.objs.size + 1) :: (us ++ ds)) _ _ (E σ) (hr.make C us [])
    (I2.env0.make C us []) (hb _ (Value.ref (s1.heap.objs.size + 1) :: us) I2.kIn hl) r2 hq) fun r s' hq' => ?_))
  cases r with
  | error e => exact hx σ pins _ _ e s' I2 hq'
  | ok fl =>
    cases fl with
    | ret u =>
      obtain ⟨v, H', I3, rv, ev, q3⟩ := I2.after hq'
      subst ev
      exact ⟨rv, ⟨V.ref (s1.heap.objs.size + 1), H', I3, rfl, q3⟩⟩
    | next => exact False.elim hq'
    | brk => exact False.elim hq'
    | cont => exact False.elim hq'
theorem pe_methE {pl : Sem Bool} (he : PE X o ta) (c : Cls X.K C) (hm : Meth X.K C m f) (F : FnOk X.prog X.w X.K X.mg X.base CX k f fd ps sp) (hr : Room k X.A) (hb : Binds X.K fd ps []) (hx : ∀ σ, PassesAt CX X σ (E σ)) (ha : PA X (e :: es) t)
    (hst : starEach (e :: es) X.env = (false, eval e X.env) :: starEach es X.env := by rfl) (hpl : (backTo pos (starEach es X.env)).any (·.1) = false := by rfl)
    (ht : eval (.Call (.Attribute o m apos) (e :: es) [] pos) X.env = (do
      let ov ← eval o X.env
      standAt apos.atName
      let (f, first) ← holding [ov] (getMethod ov m pl)
      callWith pos f first (backTo pos (starEach (e :: es) X.env)) (backToKw pos (keywordEach [] X.env))) := by rfl) :
    PE X (.Call (.Attribute o m apos) (e :: es) [] pos) (tMethE C m sp E ta t) := by
  refine ⟨fun pins s σ H Q I h => ?_⟩
  refine PySem.W.methodCall_KW (pl := pl) (thn (he.run pins s σ H _ I h) fun u s1 ⟨x, H1, I1, rx, a, dx, fs, ex, ea, l, q⟩ => ?_) ht
  subst ex
  obtain rfl : u = Value.ref a := rx
  refine getmeth_ok I1 ea c hm l ?_
  refine PySem.W.callWith_K (first := [.ref a]) (h₀ := X.base) I.ok.mod.kin hm.kp (thn (ha.run pos pins s1 σ H1 _ I1 q) fun us s2 ⟨vs, H2, I2, r, q2⟩ => ⟨I2.kIn, ?_⟩) hst hpl
  exact run_fnS (us := .ref a :: us) (vs := .ref a :: vs) F hr hb (hx σ) I2 (.cons rfl r) q2
end
/-! a, b = x, y -/
theorem o_par {i j : Nat} {ta : TA} {n b k : L2.St → Hp → Prop} {w : VK} {σ : L2.St} {H : Hp} (h : ta σ H fun vs H1 => ∃ x y, vs = [x, y] ∧ n ((σ.set i (some x)).set j (some y)) H1) : tPar i j ta (Ends.mk n w b k) σ H := h
/-! a list of data that is to stay, repeated -/
section
variable {α : Type} {P : V → α → Prop} {vs : List V} {xs zs : List α} {k : Int} {R H : Hp} {L : List Cell} {a : Addr} {Q : VK}
theorem All2.rep (h : All2 P vs xs) : ∀ n : Nat, All2 P (List.replicate n vs).flatten (List.replicate n xs).flatten
  | 0 => .nil
  | n + 1 => by
    rw [List.replicate_succ, List.replicate_succ, List.flatten_cons, List.flatten_cons]
    exact h.app (All2.rep h n)
theorem k_repA (O : Own R H L) (h1 : H a = some (.lst vs)) (ha : All2 P vs xs) (h : repG xs k = some zs) (q : ∀ p H' ws, Own R H' ((p, .lst ws) :: L) → All2 P ws zs → Q (.ref p) H') : rRep (.ref a) (.int k) H Q := by
  obtain ⟨⟨c1, c2, c3⟩, rfl⟩ := grdE h
  exact ⟨a, k, vs, rfl, rfl, h1, c1, c2, by rw [ha.len]; exact c3, fun p hp => q p _ _ (O.new hp) (ha.rep _)⟩
end
/-! a list of data, each seen as one of several kinds -/
theorem All2.mapR {α β : Type} {P : V → α → Prop} {P' : V → β → Prop} {g : α → β} (h : ∀ v x, P v x → P' v (g x)) {vs : List V} {xs : List α} (k : All2 P vs xs) : All2 P' vs (xs.map g) := by
  induction k with
  | nil => exact .nil
  | cons a _ ih => exact .cons (h _ _ a) ih
theorem rL_map {α β : Type} {P : Rp α} {P' : Rp β} {F : Hp} {g : α → β} (h : ∀ F v x, P F v x → P' F v (g x)) {v : V} {xs : List α} (k : rL P F v xs) : rL P' F v (xs.map g) := by
  obtain ⟨p, vs, e, h1, h2⟩ := k
  exact ⟨p, vs, e, h1, h2.mapR (h F)⟩
/-! a and b, where b changes what is read no more -/
theorem x_andVJ2 {c d e : Bool} {tt uu : TE} {σ : L2.St} {H : Hp} {Q : VK} (J J2 : Hp → Prop) (hJ : ∀ H', J H' → J2 H') (h1 : ∀ Q1 : VK, (∀ H', J H' → Q1 (.bl c) H') → tt σ H Q1) (h2 : c = true → e = d ∧ ∀ H', J H' → ∀ Q2 : VK, (∀ H'', J2 H'' → Q2 (.bl e) H'') → uu σ H' Q2)
    (h3 : c = false → false = d) (k : ∀ H', J2 H' → Q (.bl d) H') : tAndV tt uu σ H Q := by
  refine h1 _ fun H' O' => ⟨_, rfl, ?_⟩
  cases c with
  | true =>
    obtain ⟨e1, g2⟩ := h2 rfl
    subst e1
    exact g2 H' O' Q k
  | false =>
    rw [← h3 rfl] at k
    exact k H' (hJ H' O')
end Bt

set_option linter.all false
set_option maxRecDepth 100000
set_option maxHeartbeats 1000000
/-! sorted, len(set(..)), the order of (int, list). -/
namespace Bt
open PySem L2
/-! len(set(xs)) -/
def setL (xs : List Int) : List Int := xs.foldl PyProof.Rows.step_dedup []
theorem firstMet_all : ∀ (xs : List Int), PyProof.Rows.firstMet (fun j => xs.getD j 0) xs.length = setL xs := fun xs => by
  unfold PyProof.Rows.firstMet setL
  congr 1
  refine List.ext_getElem? fun i => ?_
  rw [List.getElem?_map]
  by_cases h : i < xs.length
  · rw [List.getElem?_range h, List.getElem?_eq_getElem h]
    simp [List.getD_eq_getElem?_getD, h]
  · rw [List.getElem?_eq_none (by simpa using h), List.getElem?_eq_none (by simpa using h)]
    rfl
def lenSet (xs : List Int) : Option Int := grd (xs.length ≤ 4000) ((setL xs).length : Int)
open PySem.Spec PyProof.Rows RZ in
def rLset (K : PySem.W.Frag) (x : V) (H1 : Hp) (Q : VK) : Prop := ∃ (l : Addr) (ns : List Int), x = .ref l ∧ SqL K H1 l (ns.map V.int) ∧ ns.length ≤ 4000 ∧ Q (.int ((setL ns).length : Nat)) H1
def tLenSetN (K : PySem.W.Frag) (ta : TE) : TE := fun σ H Q => ta σ H fun x H1 => rLset K x H1 Q
open PySem.Spec PyProof.Rows RZ in
theorem pe_lenSetN {X : Cx} {a : Expr} {ta : TE} {p p2 q pos : Pos} (hg : Gl X "len") (hm : X.mg "len" = none) (hg2 : Gl X "set") (hm2 : X.mg "set" = none) (ha : PE X a ta) (hc : X.calm = true := by rfl)
    (na : starEach [a] X.env = (false, eval a X.env) :: starEach [] X.env := by rfl) : PE X (.Call (.Name "len" p) [.Call (.Name "set" p2) [a] [] q] [] pos) (tLenSetN X.K ta) := by
  refine ⟨fun pins s σ H Q I h => ?_⟩
  refine PyProof.Rows.Call_ (ld_blt I hg hm boot_len ?_)
  refine PyProof.Rows.callWith_builtin1 (PyProof.Rows.args_cons ?_ rfl) rfl rfl
  refine PyProof.Rows.Call_ (ld_blt I hg2 hm2 boot_set ?_)
  refine PyProof.Rows.callWith_type1 (PyProof.Rows.args_cons (thn (ha.run pins s σ H _ I h) fun v s1 ⟨x, H1, I1, r1, q1⟩ => PyProof.Rows.args_nil ?_) na) na rfl
  obtain ⟨l, ns, rfl, hq, hl, q1⟩ := q1
  cases r1
  obtain ⟨its, r, pl, hz⟩ := I1.list hq
  have hlen : its.toArray.size = ns.length := by rw [List.size_toArray, ← r.length, List.length_map]
  refine call_set_list (I1.ok.hd hc) pl.isList (by simpa using intsAre_vals r) (by rw [hlen]; unfold scanBound; omega) fun h' tk hS hk => ?_
  refine PyProof.Rows.args_nil ?_
  rw [hlen, firstMet_all] at hS
  have hsz : (setL ns).length ≤ ns.length := by rw [← firstMet_all]; exact PyProof.Rows.firstMet_length_le _ _
  obtain ⟨o, es, ep, t, ho, hex, hd, _, _, _, hf, hn⟩ := hS
  have I2 : Inv X pins σ H1 { s1 with heap := h', toks := tk } := I1.kept fun b o e => hk b o (Heap.lt_size e) e
  exact call_len_set ho hex hd hf (by rw [hn] <;> omega) ⟨.int (setL ns).length, H1, I2.tok _, ⟨_, by rw [hn]⟩, q1⟩
section
variable {K : PySem.W.Frag} {H R : Hp} {L : List Cell} {Q : VK} {a : Addr} {xs : List Int} {n : Int} {ta : TE} {σ : L2.St}
theorem o_lset (h : ta σ H fun x H1 => rLset K x H1 Q) : tLenSetN K ta σ H Q := h
theorem k_lset (hs : SqL K H a (xs.map V.int)) (h : lenSet xs = some n) (q : Q (.int n) H) : rLset K (.ref a) H Q := by
  obtain ⟨c, rfl⟩ := grdE h
  exact ⟨a, xs, rfl, hs, c, q⟩
end
/-! sorted(xs) -/
def insI (x : Int) : List Int → List Int
  | [] => [x]
  | y :: r => if x ≤ y then x :: y :: r else y :: insI x r
def srtI : List Int → List Int
  | [] => []
  | x :: r => insI x (srtI r)
theorem insI_perm (x : Int) : ∀ r : List Int, (insI x r).Perm (x :: r)
  | [] => List.Perm.refl _
  | y :: r => by
    unfold insI
    split
    · exact List.Perm.refl _
    · exact ((insI_perm x r).cons y).trans (List.Perm.swap x y r)
theorem srtI_perm : ∀ r : List Int, (srtI r).Perm r
  | [] => List.Perm.refl _
  | x :: r => (insI_perm x _).trans ((srtI_perm r).cons x)
theorem insI_srt (x : Int) : ∀ {r : List Int}, r.Pairwise (· ≤ ·) → (insI x r).Pairwise (· ≤ ·)
  | [], _ => by simp [insI]
  | y :: r, h => by
    obtain ⟨h1, h2⟩ := List.pairwise_cons.mp h
    unfold insI
    split
    · rename_i c
      refine List.pairwise_cons.mpr ⟨fun z hz => ?_, h⟩
      rcases List.mem_cons.mp hz with rfl | hz
      · exact c
      · exact Int.le_trans c (h1 z hz)
    · rename_i c
      refine List.pairwise_cons.mpr ⟨fun z hz => ?_, insI_srt x h2⟩
      rcases List.mem_cons.mp ((insI_perm x r).mem_iff.mp hz) with rfl | hz
      · omega
      · exact h1 z hz
theorem srtI_srt : ∀ r : List Int, (srtI r).Pairwise (· ≤ ·)
  | [] => List.Pairwise.nil
  | x :: r => insI_srt x (srtI_srt r)
theorem srt_uniq : ∀ {xs ys : List Int}, xs.Perm ys → xs.Pairwise (· ≤ ·) → ys.Pairwise (· ≤ ·) → xs = ys
  | [], ys, p, _, _ => (List.nil_perm.mp p).symm
  | x :: xs, [], p, _, _ => absurd (List.perm_nil.mp p) (by simp)
  | x :: xs, y :: ys, p, hx, hy => by
    obtain ⟨hx1, hx2⟩ := List.pairwise_cons.mp hx
    obtain ⟨hy1, hy2⟩ := List.pairwise_cons.mp hy
    have e : x = y := by
      have m1 : x ∈ y :: ys := p.mem_iff.mp (List.Mem.head _)
      have m2 : y ∈ x :: xs := p.mem_iff.mpr (List.Mem.head _)
      rcases List.mem_cons.mp m1 with e | m1
      · exact e
      · rcases List.mem_cons.mp m2 with e | m2
        · exact e.symm
        · have := hx1 y m2
          have := hy1 x m1
          omega
    subst e
    rw [srt_uniq (List.Perm.cons_inv p) hx2 hy2]
section
variable {K : PySem.W.Frag} {H R : Hp} {L : List Cell} {Q : VK} {a : Addr} {xs : List Int}
theorem k_sorted (O : Own R H L) (hs : SqL K H a (xs.map V.int)) (k : ∀ p H', Own R H' ((p, .lst ((srtI xs).map V.int)) :: L) → Q (.ref p) H') : rSortedI K [.ref a] H Q :=
  ⟨a, xs, rfl, hs, fun ns' p h1 h2 hp => by
    have e : ns' = srtI xs := srt_uniq (h1.trans (srtI_perm xs).symm) h2 (srtI_srt xs)
    subst e
    exact k p _ (O.new hp)⟩
end
/-! (int, list of ints) >= such -/
def ltIs : List Int → List Int → Bool
  | [], [] => false
  | [], _ :: _ => true
  | _ :: _, [] => false
  | x :: xs, y :: ys => if x = y then ltIs xs ys else decide (x < y)
def ltIL (x y : Int × List Int) : Bool := if x.1 = y.1 then ltIs x.2 y.2 else decide (x.1 < y.1)
open PySem.W PySem.SeqAt in
theorem alike_ints : ∀ xs ys : List Int, alikeAll (xs.map PyData.int) (ys.map PyData.int) = true
  | [], _ => by simp [alikeAll]
  | _ :: _, [] => by simp [alikeAll]
  | x :: xs, y :: ys => by simp only [List.map_cons, alikeAll, alike, alike_ints xs ys, Bool.and_self]
open PySem.W PySem.SeqAt in
theorem lt_ints : ∀ xs ys : List Int, dataLt (.list (xs.map PyData.int)) (.list (ys.map PyData.int)) = ltIs xs ys
  | [], [] => by rw [dataLt_list]; rfl
  | [], y :: ys => by rw [dataLt_list]; rfl
  | x :: xs, [] => by rw [dataLt_list]; rfl
  | x :: xs, y :: ys => by
    have ih := lt_ints xs ys
    rw [dataLt_list] at ih ⊢
    rw [List.map_cons, List.map_cons]
    by_cases h : x = y
    · rw [dataLt_all_yes (by simp [alike]) (by simp [PyData.eqv, h]), ih]
      show _ = if x = y then _ else _
      rw [if_pos h]
    · rw [dataLt_all_no (by simp [alike]) (by simpa [PyData.eqv] using h), dataLt_int]
      show _ = if x = y then _ else _
      rw [if_neg h]
open PySem.W PySem.SeqAt in
theorem lt_il (x y : Int × List Int) : dataLt ((deT2 deI (deL deI)).d x) ((deT2 deI (deL deI)).d y) = ltIL x y := by
  obtain ⟨i, xs⟩ := x
  obtain ⟨j, ys⟩ := y
  show dataLt (.tuple [.int i, .list (xs.map PyData.int)]) (.tuple [.int j, .list (ys.map PyData.int)]) = _
  rw [dataLt_tuple]
  show _ = if i = j then ltIs xs ys else decide (i < j)
  by_cases h : i = j
  · rw [dataLt_all_yes (by simp [alike]) (by simp [PyData.eqv, h]), if_pos h]
    by_cases h2 : xs = ys
    · subst h2
      rw [dataLt_all_yes (by simp only [alike]; exact alike_ints _ _) (by simp only [PyData.eqv]; rw [show PyData.eqvAll (xs.map PyData.int) (xs.map PyData.int) = decide (xs = xs) from eq_all deI xs xs]; simp)]
      have e : ltIs xs xs = false := by
        induction xs with
        | nil => rfl
        | cons a r ih => show (if a = a then ltIs r r else _) = false; rw [if_pos rfl]; exact ih
      rw [e]
      rfl
    · rw [dataLt_all_no (by simp only [alike]; exact alike_ints _ _) (by simp only [PyData.eqv]; rw [show PyData.eqvAll (xs.map PyData.int) (ys.map PyData.int) = decide (xs = ys) from eq_all deI xs ys]; simpa using h2), lt_ints]
  · rw [dataLt_all_no (by simp [alike]) (by simpa [PyData.eqv] using h), dataLt_int, if_neg h]
def rGeIL (K : PySem.W.Frag) : R2 := fun x y H Q => ∃ d e : Int × List Int, rT2 rI (rL rI) H x d ∧ rT2 rI (rL rI) H y e ∧ Q (.bl (!ltIL d e)) H
theorem k_geIL {K : PySem.W.Frag} {H : Hp} {Q : VK} {x y : V} {d e : Int × List Int} (h1 : rT2 rI (rL rI) H x d) (h2 : rT2 rI (rL rI) H y e) (q : Q (.bl (!ltIL d e)) H) : rGeIL K x y H Q := ⟨d, e, h1, h2, q⟩
open PySem.W PySem.SeqAt in
theorem op_geIL {X : Cx} (hu : X.A.units + 65 < cLine) : OpR X (compareOp .GtE) (rGeIL X.K) := by
  intro pins s σ H x y v u Q I rx ry h
  obtain ⟨d, e, h1, h2, q⟩ := h
  obtain ⟨as, r1⟩ := Dp.reads I _ x v ((deT2 deI (deL deI)).dp X.K H x d h1) rx
  obtain ⟨bs, r2⟩ := Dp.reads I _ y u ((deT2 deI (deL deI)).dp X.K H y e h2) ry
  have hd := (deT2 deI (deL deI)).dep d
  have hn : (deT2 deI (deL deI)).n = 2 := rfl
  rw [hn] at hd
  refine PySem.W.ge_data r1 r2 ?_ ?_ ?_ ⟨.bl _, H, I, rfl, ?_⟩
  · obtain ⟨i, xs⟩ := d
    obtain ⟨j, ys⟩ := e
    show alike (.tuple [.int i, .list (xs.map PyData.int)]) (.tuple [.int j, .list (ys.map PyData.int)]) = true
    simp only [alike, alikeAll, alike_ints, Bool.and_self]
  · obtain ⟨i, xs⟩ := d
    intro z
    cases z
  · omega
  · rw [lt_il]
    exact q
end Bt

set_option linter.all false
set_option maxRecDepth 100000
set_option maxHeartbeats 1000000
/-! Posts: a tuple that holds an object, the base's own __init__, constants that are tuples, five things in a tuple. -/
namespace Bt
open PySem L2
section
variable {α β : Type} {f : α → V} {o : Ob β}
/-- (a plain thing, an object) -/
def oTS (f : α → V) (o : Ob β) : Ob (α × β) := fun F a L x => ∃ b Lb, L = (a, HO.tup [f x.1, .ref b]) :: Lb ∧ o F b Lb x.2
theorem moTS (m : MonoO o) : MonoO (oTS f o) := fun _ _ _ _ _ e ⟨b, Lb, h1, h2⟩ => ⟨b, Lb, h1, m _ _ _ _ _ e h2⟩
end
/-- a method, as it is found in its class -/
structure MF (K : PySem.W.Frag) (C q : Addr) (nm qual : Str) (st : Stmt) : Prop where
  at_ : PySem.W.findIn K (.ref C) nm = some (some (.ref q))
  fi : PySem.W.isFn K (.ref q) = true
  lo : ∃ oc od kV doc pm an cdv ct osl, K.lookup q = some ⟨oc, od, .func (PySem.W.fnOf nm qual (defArgs st) (defBody st) (defScope st) .none kV doc pm an cdv ct), osl⟩ ∧ PySem.W.codeIn K cdv qual = true
  ik : PySem.W.keepIn K (.ref q) = true
theorem MF.fn {K : PySem.W.Frag} {C q : Addr} {nm qual : Str} {st : Stmt} (m : MF K C q nm qual st) : ∃ fd, Fun K nm qual st q fd := by
  obtain ⟨oc, od, kV, doc, pm, an, cdv, ct, osl, h1, h2⟩ := m.lo
  exact ⟨_, fun_mk h1 h2 m.ik⟩
/-- a class as the base of another one: its __init__ read off the class -/
structure ClB (K : PySem.W.Frag) (R f : Addr) : Prop where
  ga : PySem.W.specialIn K (.ref R) "__getattribute__" = some (some (.builtin "type.__getattribute__"))
  rd : PySem.W.readsIn K R (.type "type") = true
  at_ : PySem.W.findCls K (.ref R) (.type "type") "__init__" = some (.val (.ref f))
  kp : PySem.W.keepIn K (.ref f) = true
section
variable {X : Cx} {CX : CXT} {k : Nat} {f R : Addr} {fd : FuncData} {ps : List Str} {sp : Sp} {E : XK} {x : Str} {p1 p2 pos : Pos} {e : Expr} {es : List Expr} {ta : TA} {pl : Sem Bool}
theorem pe_base (hm : X.mg x = some (.ref R)) (B : ClB X.K R f) (F : FnOk X.prog X.w X.K X.mg X.base CX k f fd ps sp) (hr : Room k X.A) (hb : Binds X.K fd ps []) (hx : Passes CX X E) (ha : PA X (e :: es) ta) (hg : Gl X x := by rfl)
    (hc : eval (.Call (.Attribute (.Name x p1) "__init__" p2) (e :: es) [] pos) X.env = (do
      let ov ← eval (.Name x p1) X.env
      standAt p2.atName
      let (f, first) ← holding [ov] (getMethod ov "__init__" pl)
      callWith pos f first (backTo pos (starEach (e :: es) X.env)) (backToKw pos (keywordEach [] X.env))) := by rfl)
    (hdb : (x == ("__debug__" : Str)) = false := by decide)
    (he : starEach (e :: es) X.env = (false, eval e X.env) :: starEach es X.env := by rfl) (hpl : (backTo pos (starEach es X.env)).any (·.1) = false := by rfl) :
    PE X (.Call (.Attribute (.Name x p1) "__init__" p2) (e :: es) [] pos) (tCall sp [] E ta) := by
  refine ⟨fun pins s σ H Q I h => ?_⟩
  refine PySem.W.methodCall_KW (ld_glob I hg hm ?_ hdb) hc
  refine PySem.W.method_cls I.kIn B.ga (PySem.W.cls_value I.kIn B.rd B.at_ rfl ?_)
  refine PySem.W.callWith_K (h₀ := X.base) I.ok.mod.kin B.kp (thn (ha.run pos pins _ σ H _ (I.tok _) h) fun us s1 ⟨vs, H1, I1, r, q⟩ => ⟨I1.kIn, ?_⟩) he hpl
  exact run_fn (us := us) (vs := vs) F hr hb .nil hx I1 r q
end
/-! a constant of the module that is a tuple of whole numbers -/
theorem gv_tup {K : PySem.W.Frag} {h : Heap} {mg : Str → Option Value} {x : Str} {A : Addr} {od : Option Addr} {its : Array Value} {n : Nat} {sl : Array (Option Value)} {ns : List Int} (X : K.In h) (G : h.Ns mainGlobals mg)
    (a : PySem.W.nsIn K mainGlobals x = some (some (.ref A))) (l : K.lookup A = some ⟨.type "tuple", od, .seq its n, sl⟩) (s : its.size ≤ sizeLine) (v : Vals (ns.map V.int) its.toList) : ∃ a, Gv mg x (.ref a) ∧ ∀ H, SqT K H a (ns.map V.int) :=
  ⟨A, ⟨_, PySem.W.mg_of X G a, rfl⟩, fun _ => .inr ⟨_, its, n, l, rfl, rfl, s, v⟩⟩
/-! tests with two sides, the second of which changes an object -/
section
variable {σ : L2.St} {H : Hp} {Q : VK} {c d : Bool} {QB : Bool → Hp → Prop}
theorem x_andJ3 {tt uu : TT} (J J2 : Hp → Prop) (h1 : ∀ Q1 : Bool → Hp → Prop, (∀ H', J H' → Q1 c H') → tt σ H Q1) (h2 : c = true → ∀ H', J H' → ∀ Q2 : Bool → Hp → Prop, (∀ H'', J2 H'' → Q2 d H'') → uu σ H' Q2)
    (h3 : c = false → false = d ∧ ∀ H', J H' → J2 H') (k : ∀ H', J2 H' → QB d H') : tAnd tt uu σ H QB := by
  refine h1 _ fun H' O' => ?_
  cases c with
  | true => exact h2 rfl H' O' QB k
  | false =>
    obtain ⟨e, g⟩ := h3 rfl
    rw [← e] at k
    exact k H' (g H' O')
theorem x_orJ3 {tt uu : TT} (J J2 : Hp → Prop) (h1 : ∀ Q1 : Bool → Hp → Prop, (∀ H', J H' → Q1 c H') → tt σ H Q1) (h2 : c = false → ∀ H', J H' → ∀ Q2 : Bool → Hp → Prop, (∀ H'', J2 H'' → Q2 d H'') → uu σ H' Q2)
    (h3 : c = true → true = d ∧ ∀ H', J H' → J2 H') (k : ∀ H', J2 H' → QB d H') : tOr tt uu σ H QB := by
  refine h1 _ fun H' O' => ?_
  cases c with
  | false => exact h2 rfl H' O' QB k
  | true =>
    obtain ⟨e, g⟩ := h3 rfl
    rw [← e] at k
    exact k H' (g H' O')
theorem x_andVJ3 {tt uu : TE} (J J2 : Hp → Prop) (h1 : ∀ Q1 : VK, (∀ H', J H' → Q1 (.bl c) H') → tt σ H Q1) (h2 : c = true → ∀ H', J H' → ∀ Q2 : VK, (∀ H'', J2 H'' → Q2 (.bl d) H'') → uu σ H' Q2)
    (h3 : c = false → false = d ∧ ∀ H', J H' → J2 H') (k : ∀ H', J2 H' → Q (.bl d) H') : tAndV tt uu σ H Q := by
  refine h1 _ fun H' O' => ⟨_, rfl, ?_⟩
  cases c with
  | true => exact h2 rfl H' O' Q k
  | false =>
    obtain ⟨e, g⟩ := h3 rfl
    rw [← e] at k
    exact k H' (g H' O')
theorem x_orVJ3 {tt uu : TE} (J J2 : Hp → Prop) (h1 : ∀ Q1 : VK, (∀ H', J H' → Q1 (.bl c) H') → tt σ H Q1) (h2 : c = false → ∀ H', J H' → ∀ Q2 : VK, (∀ H'', J2 H'' → Q2 (.bl d) H'') → uu σ H' Q2)
    (h3 : c = true → true = d ∧ ∀ H', J H' → J2 H') (k : ∀ H', J2 H' → Q (.bl d) H') : tOrV tt uu σ H Q := by
  refine h1 _ fun H' O' => ⟨_, rfl, ?_⟩
  cases c with
  | false => exact h2 rfl H' O' Q k
  | true =>
    obtain ⟨e, g⟩ := h3 rfl
    rw [← e] at k
    exact k H' (g H' O')
end
/-- out of a loop by break: the loop is over -/
theorem brkJ {α S R : Type} {f : α → S → Option (Fl S R)} {go : S → Option (Fl S R)} {s : S} {out : Fl S R} (h : contF go (.bk s) = some out) : loopF f [] s = some out := h
/-! five things -/
def rT5 {α β γ δ ε : Type} (P : Rp α) (Q : Rp β) (R : Rp γ) (S : Rp δ) (T : Rp ε) : Rp (α × β × γ × δ × ε) := fun F v x => ∃ p a b c d e, v = .ref p ∧ F p = some (.tup [a, b, c, d, e]) ∧ P F a x.1 ∧ Q F b x.2.1 ∧ R F c x.2.2.1 ∧ S F d x.2.2.2.1 ∧ T F e x.2.2.2.2
section
variable {α β γ δ ε : Type} {P : Rp α} {Q : Rp β} {R : Rp γ} {S : Rp δ} {T : Rp ε}
theorem mT5 (m : Mono P) (n : Mono Q) (o : Mono R) (q : Mono S) (t : Mono T) : Mono (rT5 P Q R S T) := fun F F' v x e ⟨p, a, b, c, d, z, h1, h2, h3, h4, h5, h6, h7⟩ => ⟨p, a, b, c, d, z, h1, e _ _ h2, m _ _ _ _ e h3, n _ _ _ _ e h4, o _ _ _ _ e h5, q _ _ _ _ e h6, t _ _ _ _ e h7⟩
theorem rT5_at {F : Hp} {a : Addr} {x : α × β × γ × δ × ε} (h : rT5 P Q R S T F (.ref a) x) : ∃ u v w y z, F a = some (.tup [u, v, w, y, z]) ∧ P F u x.1 ∧ Q F v x.2.1 ∧ R F w x.2.2.1 ∧ S F y x.2.2.2.1 ∧ T F z x.2.2.2.2 := by
  obtain ⟨p, u, v, w, y, z, h1, h2⟩ := h
  cases h1
  exact ⟨u, v, w, y, z, h2⟩
theorem rT5_ref {F : Hp} {v : V} {x : α × β × γ × δ × ε} (h : rT5 P Q R S T F v x) : ∃ p, v = .ref p := by
  obtain ⟨p, _, _, _, _, _, h1, _⟩ := h
  exact ⟨p, h1⟩
theorem tyT5 {K : PySem.W.Frag} {b : String} {r : Bool} (h : kitB "tuple" b = some r) : TyP (rT5 P Q R S T) K (.type b) (fun _ => r) := fun H v x hx => by
  obtain ⟨p, _, _, _, _, _, rfl, h1, _⟩ := hx
  exact ⟨_, .base (.tup h1), kit_ty h⟩
end
/-! xs.pop(i) of a list of data -/
section
variable {α : Type} {P : V → α → Prop} {vs : List V} {xs ys : List α} {y : α} {i : Int} {R H : Hp} {a : Addr} {Q : VK}
theorem All2.del {α β : Type} {P : α → β → Prop} {as : List α} {bs : List β} (h : All2 P as bs) : ∀ n, All2 P (as.eraseIdx n) (bs.eraseIdx n) := by
  induction h with
  | nil => intro n; exact .nil
  | cons h t ih =>
    intro n
    cases n with
    | zero => exact t
    | succ n => exact .cons h (ih n)
theorem k_popIA {g : HO → List Cell} (hl : H a = some (.lst vs)) (ha : All2 P vs xs) (hp : ∀ o', Own R (upd H a o') (g o')) (h : popA xs i = some (y, ys)) (k : ∀ H' ws w, Own R H' (g (.lst ws)) → P w y → All2 P ws ys → Q w H') : rPopI (.ref a) [.int i] H Q := by
  obtain ⟨_, h1, h2⟩ := bndE h
  obtain ⟨c, _⟩ := grdE h1
  obtain ⟨j, h3, h4⟩ := bndE h2
  obtain ⟨z, h5, h6⟩ := bndE h4
  cases h6
  obtain ⟨s1, s2, s3, s4⟩ := ixN_seq h3
  obtain ⟨w, w1, w2⟩ := ha.get h5
  exact ⟨a, _, i, j, w, rfl, rfl, hl, by omega, by omega, by rw [ha.len]; exact s1, w1, k _ _ _ (hp _) w2 (ha.del j)⟩
end
end Bt

set_option Elab.async false
set_option linter.all false
set_option maxRecDepth 100000
set_option maxHeartbeats 4000000
/-! The head by one kernel run, its facts told by decisions (for tops that k_head does not get through). -/
namespace Bt
open PySem L2 PySem.Spec PyProof.Rows
/-- one fact of the part of the heap that the top leaves -/
structure FP where
  P : PySem.W.Frag → Prop
  d : ∀ K, Decidable (P K)
def mkF (P : PySem.W.Frag → Prop) [d : ∀ K, Decidable (P K)] : FP := ⟨P, d⟩
abbrev fG (x : Str) (K : PySem.W.Frag) : Prop := PySem.W.nsIn K PySem.mainGlobals x = some (some (.ref (He.ga K x)))
abbrev fZ (x : Str) (K : PySem.W.Frag) : Prop := PySem.W.nsIn K PySem.mainGlobals x = some none
abbrev fK (x : Str) (K : PySem.W.Frag) : Prop := PySem.W.keepIn K (.ref (He.ga K x)) = true
abbrev fM (C m : Str) (K : PySem.W.Frag) : Prop := PySem.W.findIn K (.ref (He.ga K C)) m = some (some (.ref (He.ma K (He.ga K C) m)))
abbrev fN (C m : Str) (K : PySem.W.Frag) : Prop := PySem.W.isFn K (.ref (He.ma K (He.ga K C) m)) = true
abbrev fP (C m : Str) (K : PySem.W.Frag) : Prop := PySem.W.keepIn K (.ref (He.ma K (He.ga K C) m)) = true
abbrev fO (C m : Str) (K : PySem.W.Frag) : Prop := PySem.W.findIn K (.ref (He.ga K C)) m = some none
def FP.ok (f : FP) (K : PySem.W.Frag) : Bool := @decide (f.P K) (f.d K)
def dF (p : Str × Option Str) (nm qual : Str) (st : Stmt) : He.FnD := ⟨p, nm, qual, defArgs st, defBody st, defScope st⟩
def obsH (fa : List FP) (fn : List He.FnD) (K : PySem.W.Frag) : He.Al := ((fa.all fun f => f.ok K) && fn.all fun d => (He.Fa.code d.at_ d.qual).ok K, fn.map fun d => He.fnObs K d.at_)
def SaysH (fa : List FP) (fn : List He.FnD) (K : PySem.W.Frag) : Prop := obsH fa fn K = He.valE fn
/-- what an object names, each thing once (a class: its names; the classes above it are the module's own names) -/
def refsH (o : Obj) : List Addr := match o.data with
  | .seq its _ => its.toList.flatMap He.refV
  | .dict es _ => es.toList.flatMap fun e => He.refV e.val
  | .func fd => He.refV fd.code ++ He.refV fd.defaults
  | .cls cd => [cd.ns]
  | .fields vs => vs.toList.flatMap He.refV
  | _ => []
def lvH (g : Addr → Option Obj) : Nat → List Addr → List Addr
  | 0, as => as
  | n + 1, as => as ++ lvH g n (as.flatMap fun a => match g a with
    | some o => refsH o
    | none => [])
def obsHG (n : Nat) (fa : List FP) (fn : List He.FnD) (g : Addr → Option Obj) : He.Al := obsH fa fn (He.frG g (PySem.cStatics :: lvH g n [mainGlobals]))
def hookH (n : Nat) (fa : List FP) (fn : List He.FnD) : PySem.W.Hook where
  α := He.Al
  obs := fun s => obsHG n fa fn s.heap.get?
  val := fun _ => He.valE fn
  says := fun _ h => ∃ K : PySem.W.Frag, K.In h ∧ SaysH fa fn K
  of := fun _ _ e => ⟨_, He.frG_in, e⟩
  keeps := fun _ _ _ ⟨K, hK, c⟩ k => ⟨K, PySem.W.Frag.In.keeps hK k, c⟩
theorem obsHG_eq {n : Nat} {fa : List FP} {fn : List He.FnD} {g : Addr → Option Obj} {s : Shared} (h : ∀ a, g a = s.heap.get? a) : obsHG n fa fn g = (hookH n fa fn).obs s := by
  have e : g = s.heap.get? := funext h
  rw [e] <;> rfl
section
variable {fa : List FP} {fn : List He.FnD} {K : PySem.W.Frag} {h : Heap} {mg : Str → Option Value}
theorem SaysH.fact (c : SaysH fa fn K) (i : Nat) {f : FP} (h : fa[i]? = some f) : f.P K := by
  have c1 := (He.ba (show ((fa.all fun f => f.ok K) && fn.all fun d => (He.Fa.code d.at_ d.qual).ok K) = true from congrArg (fun z : He.Al => z.1) c)).1
  exact @of_decide_eq_true _ (f.d K) (List.all_eq_true.mp c1 f (List.mem_of_getElem? h))
theorem SaysH.def_ (c : SaysH fa fn K) (i : Nat) {d : He.FnD} (h : fn[i]? = some d) :
    ∃ oc od osl kV doc pm an cdv ct, K.lookup (He.fAd K d.at_) = some ⟨oc, od, .func (PySem.W.fnOf d.name d.qual d.params d.body d.scope .none kV doc pm an cdv ct), osl⟩ ∧ PySem.W.codeIn K cdv d.qual = true := by
  have c2 := (He.ba (show ((fa.all fun f => f.ok K) && fn.all fun d => (He.Fa.code d.at_ d.qual).ok K) = true from congrArg (fun z : He.Al => z.1) c)).2
  have e : fn.map (fun d => He.fnObs K d.at_) = fn.map He.FnD.val := congrArg (fun z : He.Al => z.2) c
  have e2 : (fn.map fun d => He.fnObs K d.at_)[i]? = (fn.map He.FnD.val)[i]? := by rw [e]
  rw [List.getElem?_map, List.getElem?_map, h] at e2
  exact He.fn_ok (Option.some.inj e2) (List.all_eq_true.mp c2 d (List.mem_of_getElem? h))
theorem SaysH.mf (c : SaysH fa fn K) (i : Nat) {C nm qual : Str} {st : Stmt} (h : fn[i]? = some (dF (C, some nm) nm qual st)) (h1 : PySem.W.findIn K (.ref (He.ga K C)) nm = some (some (.ref (He.ma K (He.ga K C) nm))))
    (h2 : PySem.W.isFn K (.ref (He.ma K (He.ga K C) nm)) = true) (h3 : PySem.W.keepIn K (.ref (He.ma K (He.ga K C) nm)) = true) : MF K (He.ga K C) (He.ma K (He.ga K C) nm) nm qual st := by
  obtain ⟨oc, od, osl, kV, doc, pm, an, cdv, ct, e1, e2⟩ := c.def_ i h
  exact ⟨h1, h2, ⟨oc, od, kV, doc, pm, an, cdv, ct, osl, e1, e2⟩, h3⟩
theorem SaysH.fun_ (c : SaysH fa fn K) (X : K.In h) (G : h.Ns mainGlobals mg) (i : Nat) {x : Str} {st : Stmt} (hi : fn[i]? = some (dF (x, none) x x st)) (h1 : PySem.W.nsIn K mainGlobals x = some (some (.ref (He.ga K x))))
    (h3 : PySem.W.keepIn K (.ref (He.ga K x)) = true) : ∃ f fd, Fun K x x st f fd ∧ mg x = some (.ref f) := by
  obtain ⟨oc, od, osl, kV, doc, pm, an, cdv, ct, e1, e2⟩ := c.def_ i hi
  exact def_mk X G h1 e1 e2 h3
theorem gvh_int (X : K.In h) (G : h.Ns mainGlobals mg) {x : Str} {i : Int} (c : (He.Fa.int x i).ok K = true) : Gv mg x (.int i) := by
  obtain ⟨t, e⟩ := He.int_ok X G c
  exact ⟨_, e, _, rfl⟩
theorem gvh_str (X : K.In h) (G : h.Ns mainGlobals mg) {x z : Str} (c : (He.Fa.str x z).ok K = true) : Gv mg x (.str z) := by
  obtain ⟨t, e⟩ := He.str_ok X G c
  exact ⟨_, e, _, rfl⟩
theorem gvh_tup (X : K.In h) (G : h.Ns mainGlobals mg) {x : Str} {ns : List Int} (g : PySem.W.nsIn K mainGlobals x = some (some (.ref (He.ga K x)))) (c : He.tupB K x (ns.map He.Dv.int) = true) :
    ∃ a, Gv mg x (.ref a) ∧ ∀ H, SqT K H a (ns.map V.int) := by
  refine ⟨He.ga K x, ⟨_, PySem.W.mg_of X G g, rfl⟩, fun H => ?_⟩
  have := He.tupB_ok c H
  rw [List.map_map] at this
  exact this
end
def fcB (K : PySem.W.Frag) (C q : Addr) : Bool := match PySem.W.findCls K (.ref C) (.type "type") "__init__" with
  | some (.val (.ref a)) => decide (a = q)
  | _ => false
theorem fcB_ok {K : PySem.W.Frag} {C q : Addr} (h : fcB K C q = true) : PySem.W.findCls K (.ref C) (.type "type") "__init__" = some (.val (.ref q)) := by
  unfold fcB at h
  split at h
  · rename_i a e
    rw [e, of_decide_eq_true h]
  · cases h
end Bt
namespace Bt
open PySem PySem.W PySem.Calls PyProof.Rows HandSHeadRun
/-- the run's equation in three parts, so that the kernel keeps less at a time -/
def RunA (r : OpenRow) (M : Nat) (w : World) : Prop := ∀ os : OsState, (endF (stepQ (denQ tabQ) r.prog w) M r.prog w os).map (fun s => looksF r.prog (boot_heap w.params) s.abs) = some true
def RunB (r : OpenRow) (q : Program) (M : Nat) (loose : List PySem.Str) (w : World) : Prop := ∀ os : OsState, (endF (stepQ (denQ tabQ) r.prog w) M r.prog w os).map (fun s => seenQ q loose (importedModules r.prog.main.body) (fun s => xlAt q [] s && recOk r.toRowW.records s) s.abs) = some (openGood q loose)
def RunC (r : OpenRow) (α : Type) (ob : SharedT → α) (v : α) (M : Nat) (w : World) : Prop := ∀ os : OsState, (endF (stepQ (denQ tabQ) r.prog w) M r.prog w os).map ob = some v
theorem run3 {r : OpenRow} {q : Program} {H : Hook} {ob : SharedT → H.α} {M : Nat} {loose : List PySem.Str} {w : World} (a : RunA r M w) (b : RunB r q M loose w) (c : RunC r H.α ob (H.val w) M w) : RunEq r q H ob M loose w := fun os => by
  have a := a os
  have b := b os
  have c := c os
  obtain ⟨s, e, ha⟩ := Option.map_eq_some_iff.mp a
  rw [e] at b c ⊢
  have hb := Option.some.inj b
  have hc := Option.some.inj c
  show some (_, _, _) = some (_, _, _)
  rw [ha, hc]
  exact congrArg (fun z => some (true, z, H.val w)) hb
end Bt

set_option Elab.async false
set_option linter.all false
set_option maxRecDepth 100000
set_option maxHeartbeats 4000000
/-! More built-ins of lists. -/
namespace Bt
open PySem L2 PySem.Spec PyProof.Rows
def minG : List Int → Option Int
  | [] => none
  | n :: ns => some (ns.foldl min n)
def maxG : List Int → Option Int
  | [] => none
  | n :: ns => some (ns.foldl max n)
theorem foldl_min (ns : List Int) : ∀ n : Int, (ns.foldl min n = n ∨ ns.foldl min n ∈ ns) ∧ ns.foldl min n ≤ n ∧ ∀ y ∈ ns, ns.foldl min n ≤ y := by
  induction ns with
  | nil => intro n; exact ⟨.inl rfl, Int.le_refl _, fun _ h => nomatch h⟩
  | cons m r ih =>
    intro n
    obtain ⟨h1, h2, h3⟩ := ih (min n m)
    refine ⟨?_, ?_, fun y hy => ?_⟩
    · rcases h1 with h1 | h1
      · by_cases h : n ≤ m
        · left; show r.foldl min (min n m) = n; rw [h1]; omega
        · right; show r.foldl min (min n m) ∈ m :: r; rw [h1, show min n m = m by omega]; exact List.Mem.head _
      · exact .inr (List.Mem.tail _ h1)
    · show r.foldl min (min n m) ≤ n; omega
    · rcases List.mem_cons.mp hy with rfl | hy
      · show r.foldl min (min n y) ≤ y; omega
      · exact h3 y hy
theorem foldl_max (ns : List Int) : ∀ n : Int, (ns.foldl max n = n ∨ ns.foldl max n ∈ ns) ∧ n ≤ ns.foldl max n ∧ ∀ y ∈ ns, y ≤ ns.foldl max n := by
  induction ns with
  | nil => intro n; exact ⟨.inl rfl, Int.le_refl _, fun _ h => nomatch h⟩
  | cons m r ih =>
    intro n
    obtain ⟨h1, h2, h3⟩ := ih (max n m)
    refine ⟨?_, ?_, fun y hy => ?_⟩
    · rcases h1 with h1 | h1
      · by_cases h : m ≤ n
        · left; show r.foldl max (max n m) = n; rw [h1]; omega
        · right; show r.foldl max (max n m) ∈ m :: r; rw [h1, show max n m = m by omega]; exact List.Mem.head _
      · exact .inr (List.Mem.tail _ h1)
    · show n ≤ r.foldl max (max n m); omega
    · rcases List.mem_cons.mp hy with rfl | hy
      · show y ≤ r.foldl max (max n y); omega
      · exact h3 y hy
theorem minG_spec {xs : List Int} {m : Int} (h : minG xs = some m) : 0 < xs.length ∧ m ∈ xs ∧ ∀ y ∈ xs, m ≤ y := by
  cases xs with
  | nil => cases h
  | cons n r =>
    cases h
    obtain ⟨h1, h2, h3⟩ := foldl_min r n
    refine ⟨by simp, ?_, fun y hy => ?_⟩
    · rcases h1 with h1 | h1
      · rw [h1]; exact List.Mem.head _
      · exact List.Mem.tail _ h1
    · rcases List.mem_cons.mp hy with rfl | hy
      · exact h2
      · exact h3 y hy
theorem maxG_spec {xs : List Int} {m : Int} (h : maxG xs = some m) : 0 < xs.length ∧ m ∈ xs ∧ ∀ y ∈ xs, y ≤ m := by
  cases xs with
  | nil => cases h
  | cons n r =>
    cases h
    obtain ⟨h1, h2, h3⟩ := foldl_max r n
    refine ⟨by simp, ?_, fun y hy => ?_⟩
    · rcases h1 with h1 | h1
      · rw [h1]; exact List.Mem.head _
      · exact List.Mem.tail _ h1
    · rcases List.mem_cons.mp hy with rfl | hy
      · exact h2
      · exact h3 y hy
section
variable {K : PySem.W.Frag} {H R : Hp} {L : List Cell} {Q : VK} {a : Addr} {xs : List Int} {m : Int}
theorem k_min (hs : SqL K H a (xs.map V.int)) (h : minG xs = some m) (q : Q (.int m) H) : rMin K [.ref a] H Q := by
  obtain ⟨h1, h2, h3⟩ := minG_spec h
  refine ⟨a, xs, rfl, hs, h1, fun m' hm hy => ?_⟩
  have e1 := hy m h2
  have e2 := h3 m' hm
  have : m' = m := by omega
  rw [this]; exact q
theorem k_max (hs : SqL K H a (xs.map V.int)) (h : maxG xs = some m) (q : Q (.int m) H) : rMax K [.ref a] H Q := by
  obtain ⟨h1, h2, h3⟩ := maxG_spec h
  refine ⟨a, xs, rfl, hs, h1, fun m' hm hy => ?_⟩
  have e1 := hy m h2
  have e2 := h3 m' hm
  have : m' = m := by omega
  rw [this]; exact q
end
theorem inV_str (i : Str) : ∀ xs : List Str, inV (.str i) (xs.map V.str) = decide (i ∈ xs)
  | [] => rfl
  | y :: r => by
    have ih := inV_str i r
    have e : inV (.str i) ((y :: r).map V.str) = (eqV (.str y) (.str i) || inV (.str i) (r.map V.str)) := rfl
    rw [e, ih]
    have e2 : eqV (.str y) (.str i) = decide (i = y) := by
      by_cases h : i = y
      · subst h; simp [eqV]
      · have : ¬ y = i := fun q => h q.symm
        simp [eqV, h, this]
    rw [e2]
    simp
theorem flat_str : ∀ xs : List Str, (xs.map V.str).all flatV = true
  | [] => rfl
  | y :: r => by
    have ih := flat_str r
    show (flatV (.str y) && (r.map V.str).all flatV) = true
    rw [ih]
    rfl
section
variable {K : PySem.W.Frag} {H : Hp} {Q : VK} {a : Addr} {i : Str} {ns : List Str}
theorem k_inLS (hs : SqL K H a (ns.map V.str)) (k : Q (.bl (decide (i ∈ ns))) H) : rIn K false (.str i) (.ref a) H Q := ⟨a, _, rfl, .inl hs, rfl, flat_str _, by rw [inV_str]; exact k⟩
theorem k_niLS (hs : SqL K H a (ns.map V.str)) (k : Q (.bl (!decide (i ∈ ns))) H) : rIn K true (.str i) (.ref a) H Q := ⟨a, _, rfl, .inl hs, rfl, flat_str _, by rw [inV_str]; exact k⟩
theorem k_inTS (hs : SqT K H a (ns.map V.str)) (k : Q (.bl (decide (i ∈ ns))) H) : rIn K false (.str i) (.ref a) H Q := ⟨a, _, rfl, .inr hs, rfl, flat_str _, by rw [inV_str]; exact k⟩
theorem k_niTS (hs : SqT K H a (ns.map V.str)) (k : Q (.bl (!decide (i ∈ ns))) H) : rIn K true (.str i) (.ref a) H Q := ⟨a, _, rfl, .inr hs, rfl, flat_str _, by rw [inV_str]; exact k⟩
end
/-! l.count(x), l.index(x) of data -/
def rCountD (K : PySem.W.Frag) : V → List V → Hp → VK → Prop := fun x xs H Q => ∃ (a : Addr) (y : V) (d : PyData) (ds : List PyData), x = V.ref a ∧ xs = [y] ∧ Dp K H (V.ref a) (.list ds) ∧ Dp K H y d ∧
  SeqAt.shaped (.list ds) = true ∧ SeqAt.shaped d = true ∧ Q (.int ((ds.countP fun z => PyData.eqv z d : Nat) : Int)) H
theorem mt_countD {X : Cx} (hu : X.A.units + 65 < cLine) : MtR X "list.count" (rCountD X.K) := by
  intro pins s σ H x xs v us Q I rx rxs h
  obtain ⟨a, y, d, ds, rfl, rfl, hl, hy, sl, sd, q⟩ := h
  cases rx
  cases rxs with
  | cons ry rt =>
    rename_i uy ut
    cases rt
    obtain ⟨bs, r1⟩ := Dp.reads I d y uy hy ry
    have hxs : PyData.canLayAll0 ds = true := SeqAt.canLay_of_shaped sl
    have hroom : X.A.units + 1 + min (PyData.depthAll ds) d.depth < cLine := room_in_shaped sd hu
    cases hl with
    | lst hs ha =>
      obtain ⟨its, rv, ⟨⟨cls, dd, data, sls⟩, n, ho, hc, hdn, hdt⟩, hlen⟩ := I.list hs
      simp only at hc hdt
      subst hc hdt
      obtain ⟨as, h4⟩ := Dp.readsAll I ds _ its ha rv
      have hmap : its.map (SeqAt.readOf s.heap) = ds := SeqAt.readsAll_map ds its as hxs h4
      have e : its.toArray.toList.countP (fun u => PyData.eqv (SeqAt.readOf s.heap u) d) = ds.countP fun z => PyData.eqv z d := by
        rw [← hmap, List.countP_map]
        rfl
      rw [← e] at q
      exact call_meets PySem.F.slot_list_count ⟨_, ho, rfl⟩ PySem.F.entry_list_count (PySem.F.args_list_count_2 _ _) (SeqAt.list_countAt a its.toArray n dd sls uy (fun u => PyData.eqv (SeqAt.readOf s.heap u) d))
        ⟨ho, SeqAt.items_eqAt (vs := its.toArray) (show ReadsAll s.heap its.toArray.toList ds as from h4) r1 hxs (SeqAt.canLay_of_shaped sd) hroom, ⟨.int _, H, I.tok _, ⟨_, rfl⟩, q⟩⟩
section
variable {α : Type} [DecidableEq α] {P : Rp α} {K : PySem.W.Frag} {H : Hp} {v w : V} {xs : List α} {y : α} {Q : VK} {a : Addr}
def cntL (xs : List α) (y : α) : Int := ((xs.countP fun z => decide (z = y) : Nat) : Int)
theorem countP_de (e : Dq P) (y : α) : ∀ xs : List α, ((xs.map e.d).countP fun z => PyData.eqv z (e.d y)) = xs.countP fun z => decide (z = y)
  | [] => rfl
  | x :: r => by
    rw [List.map_cons, List.countP_cons, List.countP_cons, countP_de e y r, e.eq x y]
theorem k_countD (e : Dq P) (h : e.n ≤ 60) (hx : PyData.canLay0 ((dqL e).d xs) = true) (hy : PyData.canLay0 (e.d y) = true) (h1 : rL P H (.ref a) xs) (h2 : P H v y) (q : Q (.int (cntL xs y)) H) : rCountD K (.ref a) [v] H Q :=
  ⟨a, v, e.d y, xs.map e.d, rfl, rfl, (dqL e).dp K H _ _ h1, e.dp K H _ _ h2, sh_dq (dqL e) (by show e.n + 1 ≤ 64; omega) hx, sh_dq e (by omega) hy, by rw [countP_de]; exact q⟩
def idxL : List α → α → Option Int
  | [], _ => none
  | x :: r, y => if x = y then some 0 else match idxL r y with
    | some j => some (j + 1)
    | none => none
theorem idxL_spec : ∀ {xs : List α} {j : Int}, idxL xs y = some j → ∃ n : Nat, j = n ∧ xs[n]? = some y ∧ ∀ m z, m < n → xs[m]? = some z → z ≠ y
  | [], j, h => by cases h
  | x :: r, j, h => by
    unfold idxL at h
    by_cases c : x = y
    · rw [if_pos c] at h
      cases h
      exact ⟨0, rfl, by rw [c]; rfl, fun m z hm => by omega⟩
    · rw [if_neg c] at h
      cases e : idxL r y with
      | none => rw [e] at h; cases h
      | some i =>
        rw [e] at h
        cases h
        obtain ⟨n, rfl, h1, h2⟩ := idxL_spec e
        refine ⟨n + 1, by omega, by simpa using h1, fun m z hm hz => ?_⟩
        cases m with
        | zero => cases Option.some.inj hz; exact c
        | succ m => exact h2 m z (by omega) (by simpa using hz)
theorem k_indexD (e : Dq P) (h : e.n ≤ 60) (hx : PyData.canLay0 ((dqL e).d xs) = true) (hy : PyData.canLay0 (e.d y) = true) (h1 : rL P H (.ref a) xs) (h2 : P H v y) {j : Int} (hj : idxL xs y = some j) (q : Q (.int j) H) : rIndexD K (.ref a) [v] H Q := by
  obtain ⟨n, rfl, g1, g2⟩ := idxL_spec hj
  refine ⟨a, v, e.d y, xs.map e.d, n, e.d y, rfl, rfl, (dqL e).dp K H _ _ h1, e.dp K H _ _ h2, sh_dq (dqL e) (by show e.n + 1 ≤ 64; omega) hx, sh_dq e (by omega) hy, by rw [List.getElem?_map, g1]; rfl, by rw [e.eq]; simp, fun m z' hm hz => ?_, q⟩
  rw [List.getElem?_map] at hz
  cases e1 : xs[m]? with
  | none => rw [e1] at hz; cases hz
  | some z =>
    rw [e1] at hz
    cases hz
    rw [e.eq]
    exact decide_eq_false (g2 m z hm e1)
theorem okInts (xs : List Int) : PyData.canLay0 ((dqL (De.q deI)).d xs) = true := by
  show PyData.canLay0 (.list (xs.map PyData.int)) = true
  simp only [PyData.canLay0]
  induction xs with
  | nil => rfl
  | cons x r ih => simp only [List.map_cons, PyData.canLayAll0, PyData.canLay0, ih, Bool.and_self]
theorem okDe {P : Rp α} (e : De P) (y : α) : PyData.canLay0 ((De.q e).d y) = true := e.ok y
theorem okDeL {P : Rp α} (e : De P) (xs : List α) : PyData.canLay0 ((dqL (De.q e)).d xs) = true := by
  show PyData.canLay0 (.list (xs.map e.d)) = true
  simp only [PyData.canLay0]
  exact ok_all e xs
end
/-! xs.insert(i, y) -/
section
variable {α : Type} {f : α → V} {R H : Hp} {L : List Cell} {a : Addr} {xs ys : List α} {y : α} {i : Int} {Q : VK} {v : V} {P : V → α → Prop} {vs : List V}
def insG (xs : List α) (i : Int) (y : α) : Option (List α) := grd (xs.length < sizeLine ∧ 0 ≤ i ∧ i < 2 ^ 63) (xs.take i.toNat ++ [y] ++ xs.drop i.toNat)
def rInsert : V → List V → Hp → VK → Prop := fun x vs H Q => ∃ (l : Addr) (xs : List V) (i : Int) (y : V), x = .ref l ∧ vs = [.int i, y] ∧ H l = some (.lst xs) ∧ xs.length < sizeLine ∧ 0 ≤ i ∧ i < 2 ^ 63 ∧
    Q .non (upd H l (.lst (xs.take i.toNat ++ [y] ++ xs.drop i.toNat)))
theorem k_ins {g : HO → List Cell} (hl : H a = some (.lst (xs.map f))) (hp : ∀ o', Own R (upd H a o') (g o')) (h : insG xs i y = some ys) (k : ∀ H', Own R H' (g (.lst (ys.map f))) → Q .non H') : rInsert (.ref a) [.int i, f y] H Q := by
  obtain ⟨⟨c1, c2, c3⟩, rfl⟩ := grdE h
  refine ⟨a, _, i, _, rfl, rfl, hl, by rw [List.length_map]; exact c1, c2, c3, ?_⟩
  rw [← List.map_take, ← List.map_drop, map_snoc, ← List.map_append]
  exact k _ (hp _)
theorem k_insA {g : HO → List Cell} (hl : H a = some (.lst vs)) (ha : All2 P vs xs) (hp : ∀ o', Own R (upd H a o') (g o')) (h : insG xs i y = some ys) (hv : P v y) (k : ∀ H' ws, Own R H' (g (.lst ws)) → All2 P ws ys → Q .non H') : rInsert (.ref a) [.int i, v] H Q := by
  obtain ⟨⟨c1, c2, c3⟩, rfl⟩ := grdE h
  exact ⟨a, _, i, _, rfl, rfl, hl, by rw [ha.len]; exact c1, c2, c3, k _ _ (hp _) (((ha.take _).snoc hv).app (ha.drop _))⟩
theorem k_insE {g : HO → List Cell} (hl : H a = some (.lst vs)) (hp : ∀ o', Own R (upd H a o') (g o')) (c1 : vs.length < sizeLine) (c2 : 0 ≤ i) (c3 : i < 2 ^ 63) (k : ∀ H', Own R H' (g (.lst (vs.take i.toNat ++ [v] ++ vs.drop i.toNat))) → Q .non H') : rInsert (.ref a) [.int i, v] H Q :=
  ⟨a, _, i, _, rfl, rfl, hl, c1, c2, c3, k _ (hp _)⟩
end
def rInt : List V → Hp → VK → Prop := fun xs H Q => (∃ i, xs = [.int i] ∧ Q (.int i) H) ∨ ∃ k, xs = [.bl k] ∧ Q (.int (if k then 1 else 0)) H
theorem call_intQ {X : Cx} : CallR X (.type "int") rInt := call_int1
theorem mt_insertQ {X : Cx} : MtR X "list.insert" rInsert := mt_insert
end Bt

set_option Elab.async false
set_option linter.all false
set_option maxRecDepth 100000
set_option maxHeartbeats 4000000
set_option synthInstance.maxHeartbeats 400000
set_option synthInstance.maxSize 4096
namespace Bt
open PySem L2
open HAppend (hAppend)
def top (i : Nat) : Stmt := PySem.Challenge.pw_bitrail_k65_slips_by_reading.main.body.getD i (.Pass ⟨0, 0, 0, 0⟩)
abbrev s__law_draw : Stmt := top 35
abbrev s__law_wire : Stmt := top 40
abbrev s__law_places : Stmt := top 43
abbrev s__law_rows : Stmt := top 42
abbrev s_put_in : Stmt := top 20
abbrev s_bits_of : Stmt := top 7
abbrev s_divided : Stmt := top 11
abbrev s_number_of : Stmt := top 8
abbrev s_rest_of : Stmt := top 15
abbrev s_check_of : Stmt := top 16
abbrev s_is_name : Stmt := top 18
abbrev s_frame_bits : Stmt := top 25
abbrev s_wire_of : Stmt := top 27
abbrev s_rows_of : Stmt := top 30
abbrev s_read_frame : Stmt := top 26
abbrev s_NoWire_init : Stmt := (clsB (top 5)).getD 0 (.Pass ⟨0, 0, 0, 0⟩)
abbrev s_taken_out : Stmt := top 21
abbrev s_read_wire : Stmt := top 28
abbrev s_other_frame : Stmt := top 32
abbrev s_changed : Stmt := top 9
abbrev s_slips : Stmt := top 33
abbrev s__law_rest : Stmt := top 37
abbrev s__law_frame_bits : Stmt := top 39
abbrev s__law_number : Stmt := top 36
abbrev s__law_read : Stmt := top 41
abbrev s__law_told_bits : Stmt := top 38
abbrev s_law : Stmt := top 44
structure Ad where
  f__law_draw : Addr
  fd__law_draw : FuncData
  f__law_wire : Addr
  fd__law_wire : FuncData
  f__law_places : Addr
  fd__law_places : FuncData
  f__law_rows : Addr
  fd__law_rows : FuncData
  f_put_in : Addr
  fd_put_in : FuncData
  f_bits_of : Addr
  fd_bits_of : FuncData
  f_divided : Addr
  fd_divided : FuncData
  f_number_of : Addr
  fd_number_of : FuncData
  f_rest_of : Addr
  fd_rest_of : FuncData
  f_check_of : Addr
  fd_check_of : FuncData
  f_is_name : Addr
  fd_is_name : FuncData
  f_frame_bits : Addr
  fd_frame_bits : FuncData
  f_wire_of : Addr
  fd_wire_of : FuncData
  f_rows_of : Addr
  fd_rows_of : FuncData
  f_read_frame : Addr
  fd_read_frame : FuncData
  f_NoWire_init : Addr
  fd_NoWire_init : FuncData
  f_taken_out : Addr
  fd_taken_out : FuncData
  f_read_wire : Addr
  fd_read_wire : FuncData
  f_other_frame : Addr
  fd_other_frame : FuncData
  f_changed : Addr
  fd_changed : FuncData
  f_slips : Addr
  fd_slips : FuncData
  f__law_rest : Addr
  fd__law_rest : FuncData
  f__law_frame_bits : Addr
  fd__law_frame_bits : FuncData
  f__law_number : Addr
  fd__law_number : FuncData
  f__law_read : Addr
  fd__law_read : FuncData
  f__law_told_bits : Addr
  fd__law_told_bits : FuncData
  f_law : Addr
  fd_law : FuncData
  es : Eds
structure Txt (K : PySem.W.Frag) (mg : Str → Option Value) (ad : Ad) : Prop where
  F__law_draw : Fun K "_law_draw" "_law_draw" s__law_draw ad.f__law_draw ad.fd__law_draw
  g__law_draw : mg "_law_draw" = some (.ref ad.f__law_draw)
  b__law_draw : Binds K ad.fd__law_draw ["script", "k", "many"] []
  F__law_wire : Fun K "_law_wire" "_law_wire" s__law_wire ad.f__law_wire ad.fd__law_wire
  g__law_wire : mg "_law_wire" = some (.ref ad.f__law_wire)
  b__law_wire : Binds K ad.fd__law_wire ["bits"] []
  F__law_places : Fun K "_law_places" "_law_places" s__law_places ad.f__law_places ad.fd__law_places
  g__law_places : mg "_law_places" = some (.ref ad.f__law_places)
  b__law_places : Binds K ad.fd__law_places ["script", "wire", "some"] []
  F__law_rows : Fun K "_law_rows" "_law_rows" s__law_rows ad.f__law_rows ad.fd__law_rows
  g__law_rows : mg "_law_rows" = some (.ref ad.f__law_rows)
  b__law_rows : Binds K ad.fd__law_rows ["some", "most"] []
  F_put_in : Fun K "put_in" "put_in" s_put_in ad.f_put_in ad.fd_put_in
  g_put_in : mg "put_in" = some (.ref ad.f_put_in)
  b_put_in : Binds K ad.fd_put_in ["bits"] []
  F_bits_of : Fun K "bits_of" "bits_of" s_bits_of ad.f_bits_of ad.fd_bits_of
  g_bits_of : mg "bits_of" = some (.ref ad.f_bits_of)
  b_bits_of : Binds K ad.fd_bits_of ["number", "many"] []
  F_divided : Fun K "divided" "divided" s_divided ad.f_divided ad.fd_divided
  g_divided : mg "divided" = some (.ref ad.f_divided)
  b_divided : Binds K ad.fd_divided ["number", "key"] []
  F_number_of : Fun K "number_of" "number_of" s_number_of ad.f_number_of ad.fd_number_of
  g_number_of : mg "number_of" = some (.ref ad.f_number_of)
  b_number_of : Binds K ad.fd_number_of ["bits"] []
  F_rest_of : Fun K "rest_of" "rest_of" s_rest_of ad.f_rest_of ad.fd_rest_of
  g_rest_of : mg "rest_of" = some (.ref ad.f_rest_of)
  b_rest_of : Binds K ad.fd_rest_of ["bits"] []
  F_check_of : Fun K "check_of" "check_of" s_check_of ad.f_check_of ad.fd_check_of
  g_check_of : mg "check_of" = some (.ref ad.f_check_of)
  b_check_of : Binds K ad.fd_check_of ["bits"] []
  F_is_name : Fun K "is_name" "is_name" s_is_name ad.f_is_name ad.fd_is_name
  g_is_name : mg "is_name" = some (.ref ad.f_is_name)
  b_is_name : Binds K ad.fd_is_name ["number"] []
  F_frame_bits : Fun K "frame_bits" "frame_bits" s_frame_bits ad.f_frame_bits ad.fd_frame_bits
  g_frame_bits : mg "frame_bits" = some (.ref ad.f_frame_bits)
  b_frame_bits : Binds K ad.fd_frame_bits ["name", "data"] []
  F_wire_of : Fun K "wire_of" "wire_of" s_wire_of ad.f_wire_of ad.fd_wire_of
  g_wire_of : mg "wire_of" = some (.ref ad.f_wire_of)
  b_wire_of : Binds K ad.fd_wire_of ["name", "data"] []
  F_rows_of : Fun K "rows_of" "rows_of" s_rows_of ad.f_rows_of ad.fd_rows_of
  g_rows_of : mg "rows_of" = some (.ref ad.f_rows_of)
  b_rows_of : Binds K ad.fd_rows_of ["some", "most"] []
  F_read_frame : Fun K "read_frame" "read_frame" s_read_frame ad.f_read_frame ad.fd_read_frame
  g_read_frame : mg "read_frame" = some (.ref ad.f_read_frame)
  b_read_frame : Binds K ad.fd_read_frame ["bits"] []
  F_NoWire_init : Fun K "__init__" "NoWire.__init__" s_NoWire_init ad.f_NoWire_init ad.fd_NoWire_init
  b_NoWire_init : Binds K ad.fd_NoWire_init ["self", "at"] []
  F_taken_out : Fun K "taken_out" "taken_out" s_taken_out ad.f_taken_out ad.fd_taken_out
  g_taken_out : mg "taken_out" = some (.ref ad.f_taken_out)
  b_taken_out : Binds K ad.fd_taken_out ["wire"] []
  F_read_wire : Fun K "read_wire" "read_wire" s_read_wire ad.f_read_wire ad.fd_read_wire
  g_read_wire : mg "read_wire" = some (.ref ad.f_read_wire)
  b_read_wire : Binds K ad.fd_read_wire ["wire"] []
  F_other_frame : Fun K "other_frame" "other_frame" s_other_frame ad.f_other_frame ad.fd_other_frame
  g_other_frame : mg "other_frame" = some (.ref ad.f_other_frame)
  b_other_frame : Binds K ad.fd_other_frame ["wire", "own"] []
  F_changed : Fun K "changed" "changed" s_changed ad.f_changed ad.fd_changed
  g_changed : mg "changed" = some (.ref ad.f_changed)
  b_changed : Binds K ad.fd_changed ["bits", "places"] []
  F_slips : Fun K "slips" "slips" s_slips ad.f_slips ad.fd_slips
  g_slips : mg "slips" = some (.ref ad.f_slips)
  b_slips : Binds K ad.fd_slips ["name", "data", "places", "most"] []
  F__law_rest : Fun K "_law_rest" "_law_rest" s__law_rest ad.f__law_rest ad.fd__law_rest
  g__law_rest : mg "_law_rest" = some (.ref ad.f__law_rest)
  b__law_rest : Binds K ad.fd__law_rest ["bits"] []
  F__law_frame_bits : Fun K "_law_frame_bits" "_law_frame_bits" s__law_frame_bits ad.f__law_frame_bits ad.fd__law_frame_bits
  g__law_frame_bits : mg "_law_frame_bits" = some (.ref ad.f__law_frame_bits)
  b__law_frame_bits : Binds K ad.fd__law_frame_bits ["name", "data"] []
  F__law_number : Fun K "_law_number" "_law_number" s__law_number ad.f__law_number ad.fd__law_number
  g__law_number : mg "_law_number" = some (.ref ad.f__law_number)
  b__law_number : Binds K ad.fd__law_number ["bits"] []
  F__law_read : Fun K "_law_read" "_law_read" s__law_read ad.f__law_read ad.fd__law_read
  g__law_read : mg "_law_read" = some (.ref ad.f__law_read)
  b__law_read : Binds K ad.fd__law_read ["wire"] []
  F__law_told_bits : Fun K "_law_told_bits" "_law_told_bits" s__law_told_bits ad.f__law_told_bits ad.fd__law_told_bits
  g__law_told_bits : mg "_law_told_bits" = some (.ref ad.f__law_told_bits)
  b__law_told_bits : Binds K ad.fd__law_told_bits ["turned"] []
  F_law : Fun K "law" "law" s_law ad.f_law ad.fd_law
  g_law : mg "law" = some (.ref ad.f_law)
  b_law : Binds K ad.fd_law ["script"] []
  z_bool : mg "bool" = none
  z_enumerate : mg "enumerate" = none
  z_isinstance : mg "isinstance" = none
  z_len : mg "len" = none
  z_list : mg "list" = none
  z_range : mg "range" = none
  g_BARE : Gv mg "BARE" (.int 27)
  g_HEAD : Gv mg "HEAD" (.int 12)
  g_KEY : Gv mg "KEY" (.int 64647)
  g_WIDE : Gv mg "WIDE" (.int 15)
  e_NoBits : ErrC K mg "NoBits" ad.es.NoBits
  e_NoFrame : ErrC K mg "NoFrame" ad.es.NoFrame
  e_NoKey : ErrC K mg "NoKey" ad.es.NoKey
  x_NoFrame_NoFrame : PySem.W.exmOne K (.ref ad.es.NoFrame) (.ref ad.es.NoFrame) = some true
  x_NoFrame_NoWire : PySem.W.exmOne K (.ref ad.es.NoFrame) (.ref ad.es.NoWire) = some false
  x_NoWire_NoWire : PySem.W.exmOne K (.ref ad.es.NoWire) (.ref ad.es.NoWire) = some true
  n_NoFrame : mg "NoFrame" = some (.ref ad.es.NoFrame)
  n_NoWire : mg "NoWire" = some (.ref ad.es.NoWire)
  n_RailError : mg "RailError" = some (.ref ad.es.RailError)
  I_NoWire : InF K mg ad.es.NoWire ad.es.RailError ad.f_NoWire_init "at"
section
variable {P : Program} {w : World} {K : PySem.W.Frag} {mg : Str → Option Value} {base : Heap}
def m__law_draw (script_1 : List Int) (k_3 : Int) (many_4 : Int) : Option (Int) :=
  bnd (ifB (decide ((0 : Int) < (List.length script_1 : Int))) (bnd (modG k_3 (List.length script_1 : Int)) fun t_5 =>
  bnd (atI script_1 t_5) fun e_7 => some e_7) ( some (0 : Int))) fun z_10 =>
  bnd (mulG ((31 : Int) * k_3) k_3) fun t_12 =>
  ltv ((((z_10 % (1000003 : Int)) + t_12) + (1 : Int))) fun seed_14 =>
  bnd (modG ((((seed_14 * (48271 : Int)) % (999983 : Int)) * (7919 : Int)) % (524287 : Int)) many_4) fun t_16 =>
  some t_16
def sp__law_draw (K : PySem.W.Frag) : Sp := fun vs H Q _ => ∃ (script_1 : List Int) (a_2 : Addr) (k_3 : Int) (many_4 : Int) (r : Int), vs = [.ref a_2, .int k_3, .int many_4] ∧ SqL K H a_2 (List.map V.int script_1) ∧ m__law_draw script_1 k_3 many_4 = some r ∧ RetV (.int r) H Q
abbrev N__law_draw : List Str := ["script", "k", "many", "cell", "seed"]
theorem sc__law_draw : FnScope N__law_draw ["script", "k", "many"] (defScope s__law_draw) := ⟨rfl, rfl, rfl, by decide +kernel, rfl, by decide +kernel, by decide +kernel⟩
theorem ok__law_draw {ad : Ad} (T : Txt K mg ad) : FnOk P w K mg base CX0 1 ad.f__law_draw ad.fd__law_draw ["script", "k", "many"] (sp__law_draw K) := by
  refine T.F__law_draw.ok sc__law_draw (fun vs H Q E h => ?_) (fun cdv A outer s H vs Q E hr h => ?_)
  · obtain ⟨_, _, _, _, _, rfl, _⟩ := h
    rfl
  · obtain ⟨script_1, a_2, k_3, many_4, r, rfl, hp_a_2, hm, k⟩ := h
    unfold m__law_draw at hm
    obtain ⟨H0, hH0⟩ : ∃ H0 : Hp, H0 = H := ⟨H, rfl⟩
    have O : Own H0 H [] := by rw [hH0]; exact Own.start H
    rw [← hH0] at k hp_a_2
    clear hH0
    refine ⟨_, (pss_cons (ps_set (i := 3) sc__law_draw.nd rfl (Or.inl rfl) (pe_ifExp (pt_cmpR op_gt (pe_callB (r := rLenQ K) call_lenQ (by rfl) T.z_len PySem.boot_len (pa_cons (pv 0) pa_nil)) pe_int (nomark _)) (pe_ix (r := rIxL K) ix_list (pv 0) (pe_op op_mod (pv 1) (pe_callB (r := rLenQ K) call_lenQ (by rfl) T.z_len PySem.boot_len (pa_cons (pv 0) pa_nil))) (fun _ _ => rfl)) pe_int)) (pss_cons (ps_set (i := 4) sc__law_draw.nd rfl (Or.inl rfl) (pe_op op_add (pe_op op_add (pe_op op_mod (pv 3) pe_int) (pe_op op_mulW (pe_op op_mul pe_int (pv 1)) (pv 1))) pe_int)) (pss_one (ps_ret (pe_op op_mod (pe_op op_mod (pe_op op_mul (pe_op op_mod (pe_op op_mul (pv 4) pe_int) pe_int) pe_int) pe_int) (pv 2)))))), ?_⟩
    -- 141
    refine o_seq ?_
    refine o_asg ?_
    obtain ⟨z_10, h11, hm⟩ := bndE hm
    refine x_if (c := decide ((0 : Int) < (List.length script_1 : Int))) (x := .int z_10) (y := .int z_10) (v := .int z_10) O (fun Q1 k1 => ?_) (fun h9 => ⟨rfl, fun H O Q2 k2 => ?_⟩) (fun h9 => ⟨rfl, fun H O Q2 k2 => ?_⟩) (fun H O => ?_)
    · refine ⟨_, rfl, ?_⟩
      refine x_nil ?_
      refine n_len (O.ex.l hp_a_2) ?_
      refine ⟨_, _, rfl, rfl, _, rfl, ?_⟩
      exact k1 _ O
    · replace hm := ifT h11 h9
      obtain ⟨t_5, h6, hm⟩ := bndE hm
      obtain ⟨e_7, h8, hm⟩ := bndE hm
      obtain rfl := Option.some.inj hm
      refine ⟨_, rfl, _, rfl, _, rfl, ?_⟩
      refine x_nil ?_
      refine n_len (O.ex.l hp_a_2) ?_
      refine k_mod h6 ?_
      refine k_ixL (f := V.int) (O.ex.l hp_a_2) h8 ?_
      exact k2 _ O
    · replace hm := ifF h11 h9
      obtain rfl := Option.some.inj hm
      refine o_c ?_
      exact k2 _ O
    -- 142
    refine o_seq ?_
    refine o_asg ?_
    obtain ⟨t_12, h13, hm⟩ := bndE hm
    refine ⟨_, rfl, _, _, rfl, rfl, (by show (0 : Int) < 1000003; decide), _, rfl, _, _, rfl, rfl, .inl ⟨by decide, by decide⟩, _, rfl, ?_⟩
    refine k_mul h13 ?_
    refine ⟨_, _, rfl, rfl, _, _, rfl, rfl, ?_⟩
    obtain ⟨seed_14, h15, hm⟩ := ltvE hm
    refine a_set (congrArg V.int h15) ?_
    -- 143
    refine o_ret ?_
    obtain ⟨t_16, h17, hm⟩ := bndE hm
    refine ⟨_, rfl, _, _, rfl, rfl, .inr ⟨by decide, by decide⟩, _, _, rfl, rfl, (by show (0 : Int) < 999983; decide), _, _, rfl, rfl, .inr ⟨by decide, by decide⟩, _, _, rfl, rfl, (by show (0 : Int) < 524287; decide), _, rfl, ?_⟩
    refine k_mod h17 ?_
    obtain rfl := Option.some.inj hm
    exact RetV.go k O
def m__law_wire_L0 (bits_1 : List Int) (k_17 : Int) (wire_7 : List Int) (owners_8 : List Int) (run_9 : Int) : Option ((List Int) × (List Int) × Int) :=
  bnd (ifB (decide ((0 : Int) < (List.length wire_7 : Int))) (bnd (atI wire_7 ((List.length wire_7 : Int) - (1 : Int))) fun e_27 =>
  bnd (atI bits_1 k_17) fun e_29 => some (decide (e_27 = e_29))) (some false)) fun c_31 =>
  bnd (ifB c_31 ( some ((run_9 + (1 : Int)) : Int)) ( some ((1 : Int) : Int))) fun z_22 =>
  bnd (atI bits_1 k_17) fun e_35 =>
  bnd (appG wire_7 e_35) fun l_37 =>
  bnd (appG owners_8 k_17) fun l_39 =>
  ifB (decide (z_22 = (5 : Int))) (
    bnd (atI bits_1 k_17) fun e_42 =>
    bnd (appG l_37 ((1 : Int) - e_42)) fun l_44 =>
    bnd (appG l_39 (-(1 : Int))) fun l_46 =>
    some (l_44, l_46, (1 : Int))) (
    some (l_37, l_39, z_22))
def m__law_wire (bits_1 : List Int) : Option ((List Int) × (List Int)) :=
  bnd (rng1 (List.length bits_1 : Int)) fun rg_5 =>
  bnd (loopM (fun k_17 s => m__law_wire_L0 bits_1 k_17 s.1 s.2.1 s.2.2) rg_5 (([] : List Int), ([] : List Int), (0 : Int))) fun (wire_11, owners_12, run_13) =>
  some (wire_11, owners_12)
def sp__law_wire (K : PySem.W.Frag) (ad : Ad) : Sp := fun vs H Q _ => ∃ (bits_1 : List Int) (a_2 : Addr) (R0 : Hp) (r : (List Int) × (List Int)), vs = [.ref a_2] ∧ Own R0 H [] ∧ (hsub H []) a_2 = some (.lst (List.map V.int bits_1)) ∧ m__law_wire bits_1 = some r ∧ RetX R0 (hsub H []) (dP (rT2 (rL rI) (rL rI)) r) Q
abbrev N__law_wire : List Str := ["bits", "wire", "owners", "run", "k"]
theorem sc__law_wire : FnScope N__law_wire ["bits"] (defScope s__law_wire) := ⟨rfl, rfl, rfl, by decide +kernel, rfl, by decide +kernel, by decide +kernel⟩
theorem ok__law_wire {ad : Ad} (T : Txt K mg ad) : FnOk P w K mg base CX0 1 ad.f__law_wire ad.fd__law_wire ["bits"] (sp__law_wire K ad) := by
  refine T.F__law_wire.ok sc__law_wire (fun vs H Q E h => ?_) (fun cdv A outer s H vs Q E hr h => ?_)
  · obtain ⟨_, _, _, _, rfl, _⟩ := h
    rfl
  · obtain ⟨bits_1, a_2, R0, r, rfl, OO, hp_a_2, hm, k⟩ := h
    unfold m__law_wire at hm
    obtain ⟨Hb, hHb⟩ : ∃ Hb : Hp, Hb = hsub H [] := ⟨_, rfl⟩
    obtain ⟨H0, hH0⟩ : ∃ H0 : Hp, H0 = Hb := ⟨Hb, rfl⟩
    have O : Own H0 H [] := by rw [hH0, hHb]; exact OO.startX
    have eR : Ex R0 Hb := by rw [hHb]; exact OO.subR
    rw [← hHb] at k hp_a_2
    have eB : Ex Hb H0 := by rw [hH0]; exact Ex.refl _
    have eS : Ex R0 (ovr R0 Hb H0) := by rw [hH0]; exact ovr_start eR
    rw [← hH0] at hp_a_2
    clear hH0
    refine ⟨_, (pss_cons (ps_set (i := 1) sc__law_wire.nd rfl (Or.inl rfl) (pe_lstQ (pe_lst pa_nil))) (pss_cons (ps_set (i := 2) sc__law_wire.nd rfl (Or.inl rfl) (pe_lstQ (pe_lst pa_nil))) (pss_cons (ps_set (i := 3) sc__law_wire.nd rfl (Or.inl rfl) pe_int) (pss_cons (ps_for PassesOwn.never rfl (pi_range1 (by rfl) T.z_range (pa_cons (pe_callB (r := rLenQ K) call_lenQ (by rfl) T.z_len PySem.boot_len (pa_cons (pv 0) pa_nil)) pa_nil)) (pg_name (i := 4) sc__law_wire.nd rfl (Or.inl rfl)) (pss_cons (ps_set (i := 3) sc__law_wire.nd rfl (Or.inl rfl) (pe_ifExp (PW.pt (pw_and (pt_cmpR op_gt (pe_callB (r := rLenQ K) call_lenQ (by rfl) T.z_len PySem.boot_len (pa_cons (pv 1) pa_nil)) pe_int (nomark _)) (pw_and1 (pt_cmpR op_eq (pe_ix (r := rIxL K) ix_list (pv 1) (pe_op op_sub (pe_callB (r := rLenQ K) call_lenQ (by rfl) T.z_len PySem.boot_len (pa_cons (pv 1) pa_nil)) pe_int) (fun _ _ => rfl)) (pe_ix (r := rIxL K) ix_list (pv 0) (pv 4) (fun _ _ => rfl)) (nomark _))))) (pe_op op_add (pv 3) pe_int) pe_int)) (pss_cons (ps_expr (pe_bm PySem.F.plainAttrs_list PySem.F.slot_list_append PySem.F.type_list_append mt_append (pv 1) (pa_cons (pe_ix (r := rIxL K) ix_list (pv 0) (pv 4) (fun _ _ => rfl)) pa_nil))) (pss_cons (ps_expr (pe_bm PySem.F.plainAttrs_list PySem.F.slot_list_append PySem.F.type_list_append mt_append (pv 2) (pa_cons (pv 4) pa_nil))) (pss_one (ps_if (pt_cmpR op_eq (pv 3) pe_int (nomark _)) (pss_cons (ps_expr (pe_bm PySem.F.plainAttrs_list PySem.F.slot_list_append PySem.F.type_list_append mt_append (pv 1) (pa_cons (pe_op op_sub pe_int (pe_ix (r := rIxL K) ix_list (pv 0) (pv 4) (fun _ _ => rfl))) pa_nil))) (pss_cons (ps_expr (pe_bm PySem.F.plainAttrs_list PySem.F.slot_list_append PySem.F.type_list_append mt_append (pv 2) (pa_cons (pe_un un_neg pe_int) pa_nil))) (pss_one (ps_set (i := 3) sc__law_wire.nd rfl (Or.inl rfl) pe_int)))) pss_nil)))))) (pss_one (ps_ret (pe_tupQ (pe_tup (pa_cons (pv 1) (pa_cons (pv 2) pa_nil)))))))))), ?_⟩
    -- 166
    refine o_seq ?_
    refine o_asg ?_
    refine x_nil ?_
    refine n_lst (f := V.int) (xs := ([] : List Int)) O rfl (Nat.zero_le _) fun p_3 H O => ?_
    -- 167
    refine o_seq ?_
    refine o_asg ?_
    refine x_nil ?_
    refine n_lst (f := V.int) (xs := ([] : List Int)) O rfl (Nat.zero_le _) fun p_4 H O => ?_
    -- 168
    refine o_seq ?_
    refine o_asg ?_
    refine o_c ?_
    -- 169
    refine o_seq ?_
    refine o_for ?_
    refine ⟨_, rfl, ?_⟩
    refine x_nil ?_
    refine n_len (SqL.of (O.ex _ _ hp_a_2)) ?_
    obtain ⟨rg_5, h6, hm⟩ := bndE hm
    refine x_nil ?_
    obtain ⟨c1, c2, rfl⟩ := rng1E h6
    obtain ⟨⟨wire_11, owners_12, run_13⟩, h14, hm⟩ := bndE hm
    refine ⟨_, rfl, c1, c2, q_forR (fun r σ H => ∃ (R_ : Hp) (wire_7 : List Int) (owners_8 : List Int) (run_9 : Int) (j_10 : Option V), σ = [some (.ref a_2), some (.ref p_3), some (.ref p_4), some (.int run_9), j_10] ∧ Ex H0 R_ ∧ Own R_ H [(p_3, .lst (List.map V.int wire_7)), (p_4, .lst (List.map V.int owners_8))] ∧ loopM (fun k_17 s => m__law_wire_L0 bits_1 k_17 s.1 s.2.1 s.2.2) r (wire_7, owners_8, run_9) = some (wire_11, owners_12, run_13)) ⟨H0, ([] : List Int), ([] : List Int), _, _, rfl, Ex.refl _, (Own.pk (L' := [(p_3, .lst (List.map V.int ([] : List Int))), (p_4, .lst (List.map V.int ([] : List Int)))]) O [1, 0] (by decide) rfl), h14⟩ ?_ ?_⟩
    · rintro k_17 r σ H ⟨H0, wire_7, owners_8, run_9, j_10, rfl, eL18, O, hL⟩
      replace hp_a_2 := eL18 _ _ hp_a_2
      replace eB := eB.trans eL18
      obtain ⟨s_, hm, h16⟩ := loopM_cons hL
      replace hm : m__law_wire_L0 bits_1 k_17 wire_7 owners_8 run_9 = some s_ := hm
      unfold m__law_wire_L0 at hm
      -- 170
      refine o_seq ?_
      refine o_asg ?_
      obtain ⟨c_31, h32, hm⟩ := bndE hm
      obtain ⟨z_22, h23, hm⟩ := bndE hm
      refine x_ifP (c := c_31) (fun H => ∃ (R_ : Hp), Ex H0 R_ ∧ Own R_ H [(p_3, .lst (List.map V.int wire_7)), (p_4, .lst (List.map V.int owners_8))]) (fun v_ H => ∃ (R_ : Hp), Ex H0 R_ ∧ Own R_ H [(p_3, .lst (List.map V.int wire_7)), (p_4, .lst (List.map V.int owners_8))] ∧ rI (ovr R0 Hb R_) v_ z_22) (fun Q1 k1 => ?_) (fun h24 H hJ Q2 k2 => ?_) (fun h24 H hJ Q2 k2 => ?_) (fun w_33 H hJ => ?_)
      · have eJ21 : Ex H0 H0 := Ex.refl _
        refine x_andJ (c := decide ((0 : Int) < (List.length wire_7 : Int))) (e := c_31) (d := c_31) (fun H => ∃ (R_ : Hp), Ex H0 R_ ∧ Own R_ H [(p_3, .lst (List.map V.int wire_7)), (p_4, .lst (List.map V.int owners_8))]) (fun Q1 k1 => ?_) (fun h25 => ⟨rfl, fun H hJ Q2 k2 => ?_⟩) (fun h25 => Option.some.inj (ifF h32 h25)) (fun H hJ => ?_)
        · have eJ26 : Ex H0 H0 := Ex.refl _
          refine ⟨_, rfl, ?_⟩
          refine x_nil ?_
          refine n_len (SqL.of (O.mem (hd_))) ?_
          refine ⟨_, _, rfl, rfl, _, rfl, ?_⟩
          exact k1 _ ⟨H0, eJ26, O⟩
        · replace hm := ifT h32 h25
          obtain ⟨e_27, h28, hm⟩ := bndE hm
          obtain ⟨e_29, h30, hm⟩ := bndE hm
          obtain rfl := Option.some.inj hm
          obtain ⟨H0, eJ26, O⟩ := hJ
          replace hp_a_2 := eJ26 _ _ hp_a_2
          replace eB := eB.trans eJ26
          replace eL18 := eL18.trans eJ26
          replace eJ21 := eJ21.trans eJ26
          refine ⟨_, rfl, _, rfl, ?_⟩
          refine x_nil ?_
          refine n_len (SqL.of (O.mem (hd_))) ?_
          refine ⟨_, _, rfl, rfl, ?_⟩
          refine k_ixL (f := V.int) (SqL.of (O.mem (hd_))) h28 ?_
          refine ⟨_, rfl, _, rfl, ?_⟩
          refine k_ixL (f := V.int) (SqL.of (O.ex _ _ hp_a_2)) h30 ?_
          refine k_eqI ?_
          refine ⟨_, rfl, ?_⟩
          exact k2 _ ⟨H0, eJ26, O⟩
        obtain ⟨H0, eJ26, O⟩ := hJ
        replace hp_a_2 := eJ26 _ _ hp_a_2
        replace eB := eB.trans eJ26
        replace eL18 := eL18.trans eJ26
        replace eJ21 := eJ21.trans eJ26
        exact k1 _ ⟨H0, eJ21, O⟩
      · replace hm := ifT h23 h24
        obtain rfl := Option.some.inj hm
        obtain ⟨H0, eJ21, O⟩ := hJ
        replace hp_a_2 := eJ21 _ _ hp_a_2
        replace eB := eB.trans eJ21
        replace eL18 := eL18.trans eJ21
        refine ⟨_, rfl, _, _, rfl, rfl, ?_⟩
        exact k2 _ _ ⟨H0, eJ21, O, rfl⟩
      · replace hm := ifF h23 h24
        obtain rfl := Option.some.inj hm
        obtain ⟨H0, eJ21, O⟩ := hJ
        replace hp_a_2 := eJ21 _ _ hp_a_2
        replace eB := eB.trans eJ21
        replace eL18 := eL18.trans eJ21
        refine o_c ?_
        exact k2 _ _ ⟨H0, eJ21, O, rfl⟩
      obtain ⟨H0, eJ21, O, h34⟩ := hJ
      replace hp_a_2 := eJ21 _ _ hp_a_2
      replace eB := eB.trans eJ21
      replace eL18 := eL18.trans eJ21
      obtain rfl := h34
      -- 171
      refine o_seq ?_
      refine o_drop ?_
      obtain ⟨e_35, h36, hm⟩ := bndE hm
      refine ⟨_, rfl, .inl ⟨rfl, _, (SqL.of (O.mem (hd_)))⟩, _, rfl, _, rfl, ?_⟩
      refine k_ixL (f := V.int) (SqL.of (O.ex _ _ hp_a_2)) h36 ?_
      obtain ⟨l_37, h38, hm⟩ := bndE hm
      refine x_nil ?_
      refine k_app (f := V.int) (O.mem (hd_)) (fun _ => O.put0) h38 fun H O => ?_
      -- 172
      refine o_seq ?_
      refine o_drop ?_
      obtain ⟨l_39, h40, hm⟩ := bndE hm
      refine ⟨_, rfl, .inl ⟨rfl, _, (SqL.of (O.mem (tl_ (hd_))))⟩, _, rfl, ?_⟩
      refine x_nil ?_
      refine k_app (f := V.int) (O.mem (tl_ (hd_))) (fun _ => O.put1) h40 fun H O => ?_
      -- 173
      refine o_ifs ?_
      refine ⟨_, rfl, ?_⟩
      refine o_c ?_
      refine k_eqI ?_
      refine ⟨_, rfl, ?_⟩
      refine iteS (c := (decide (z_22 = (5 : Int)))) (fun h41 => ?_) (fun h41 => ?_)
      · replace hm := ifT hm h41
        -- 174
        refine o_seq ?_
        refine o_drop ?_
        obtain ⟨e_42, h43, hm⟩ := bndE hm
        refine ⟨_, rfl, .inl ⟨rfl, _, (SqL.of (O.mem (hd_)))⟩, _, rfl, _, rfl, ?_⟩
        refine k_ixL (f := V.int) (SqL.of (O.ex _ _ hp_a_2)) h43 ?_
        obtain ⟨l_44, h45, hm⟩ := bndE hm
        refine ⟨_, _, rfl, rfl, ?_⟩
        refine x_nil ?_
        refine k_app (f := V.int) (O.mem (hd_)) (fun _ => O.put0) h45 fun H O => ?_
        -- 175
        refine o_seq ?_
        refine o_drop ?_
        obtain ⟨l_46, h47, hm⟩ := bndE hm
        refine ⟨_, rfl, .inl ⟨rfl, _, (SqL.of (O.mem (tl_ (hd_))))⟩, _, rfl, ?_⟩
        refine x_nil ?_
        refine k_app (f := V.int) (O.mem (tl_ (hd_))) (fun _ => O.put1) h47 fun H O => ?_
        -- 176
        refine o_asg ?_
        refine o_c ?_
        have Oz := O
        obtain rfl := Option.some.inj hm
        exact ⟨H0, _, _, _, _, rfl, eL18, Oz, h16⟩
      · replace hm := ifF hm h41
        refine o_next ?_
        have Oz := O
        obtain rfl := Option.some.inj hm
        exact ⟨H0, _, _, _, _, rfl, eL18, Oz, h16⟩
    rintro σ H ⟨H0, wire_7, owners_8, run_9, j_10, rfl, eJ_, O, hL⟩
    replace hp_a_2 := eJ_ _ _ hp_a_2
    replace eB := eB.trans eJ_
    cases loopM_nil hL
    -- 177
    refine o_ret ?_
    refine ⟨_, rfl, _, rfl, ?_⟩
    refine x_nil ?_
    obtain ⟨H0, O, e_, hp_p_3⟩ := O.frzO (R0 := R0) eB
    replace hp_a_2 := e_ _ _ hp_a_2
    replace eB := eB.trans e_
    obtain ⟨H0, O, e_, hp_p_4⟩ := O.frzO (R0 := R0) eB
    replace hp_a_2 := e_ _ _ hp_a_2
    replace hp_p_3 := (ovr_mono e_) _ _ hp_p_3
    replace eB := eB.trans e_
    refine n_tup O (by show 2 ≤ sizeLine; decide) fun p_48 H O => ?_
    obtain ⟨H0, O, e_, hp_p_48⟩ := O.frzO (R0 := R0) eB
    replace hp_a_2 := e_ _ _ hp_a_2
    replace hp_p_3 := (ovr_mono e_) _ _ hp_p_3
    replace hp_p_4 := (ovr_mono e_) _ _ hp_p_4
    replace eB := eB.trans e_
    have hn_p_48 : (rT2 (rL rI) (rL rI)) (ovr R0 Hb H0) (.ref p_48) ((wire_11, owners_12) : (List Int) × (List Int)) := ⟨_, _, _, rfl, hp_p_48, (gI hp_p_3), (gI hp_p_4)⟩
    obtain rfl := Option.some.inj hm
    exact k _ _ H0 _ eB (by exact (Own.pk O [] (by decide) rfl)) ⟨rfl, hn_p_48⟩
def m__law_places_L0 (script_1 : List Int) (wire_3 : List Int) (law_dr_29 : Int) (k_40 : Int) (places_33 : List Int) : Option ((List Int)) :=
  bnd (m__law_draw script_1 ((40 : Int) + ((2 : Int) * k_40)) (List.length wire_3 : Int)) fun law_dr_44 =>
  bnd (m__law_draw script_1 (8 : Int) (2 : Int)) fun law_dr_47 =>
  bnd (ifB (decide (law_dr_47 = (0 : Int))) (
    bnd (m__law_draw script_1 ((40 : Int) + ((2 : Int) * k_40)) (12 : Int)) fun law_dr_51 =>
    bnd (modG (law_dr_29 + law_dr_51) (List.length wire_3 : Int)) fun t_53 =>
    some t_53) (
    some law_dr_44)) fun place_55 =>
  ifB (!decide (place_55 ∈ places_33)) (
    bnd (m__law_draw script_1 ((41 : Int) + ((2 : Int) * k_40)) ((List.length places_33 : Int) + (1 : Int))) fun law_dr_57 =>
    bnd (insG places_33 law_dr_57 place_55) fun l_59 =>
    some l_59) (
    some places_33)
def m__law_places (script_1 : List Int) (wire_3 : List Int) (some_5 : List Int) : Option (List Int) :=
  bnd (m__law_draw script_1 (5 : Int) (5 : Int)) fun law_dr_8 =>
  bnd (m__law_draw script_1 (6 : Int) (8 : Int)) fun law_dr_11 =>
  bnd (ifB (decide (law_dr_11 = (0 : Int))) (
    bnd (m__law_draw script_1 (5 : Int) (8 : Int)) fun law_dr_15 =>
    some law_dr_15) (
    some law_dr_8)) fun size_17 =>
  bnd (ifB (decide ((List.length wire_3 : Int) < (48 : Int))) (bnd (m__law_draw script_1 (6 : Int) (8 : Int)) fun law_dr_20 => some (decide (law_dr_20 = (1 : Int)))) (some false)) fun c_22 =>
  bnd (ifB c_22 (
    bnd (m__law_draw script_1 (5 : Int) (5 : Int)) fun law_dr_26 =>
    some ((8 : Int) + law_dr_26)) (
    some size_17)) fun size_28 =>
  bnd (m__law_draw script_1 (7 : Int) (List.length wire_3 : Int)) fun law_dr_29 =>
  bnd (rng1 (size_28 - (List.length some_5 : Int))) fun rg_31 =>
  bnd (loopM (fun k_40 s => m__law_places_L0 script_1 wire_3 law_dr_29 k_40 s) rg_31 some_5) fun places_36 =>
  some places_36
def sp__law_places (K : PySem.W.Frag) : Sp := fun vs H Q _ => ∃ (script_1 : List Int) (a_2 : Addr) (wire_3 : List Int) (a_4 : Addr) (some_5 : List Int) (a_6 : Addr) (r : List Int), vs = [.ref a_2, .ref a_4, .ref a_6] ∧ SqL K H a_2 (List.map V.int script_1) ∧ H a_4 = some (.lst (List.map V.int wire_3)) ∧ H a_6 = some (.lst (List.map V.int some_5)) ∧ m__law_places script_1 wire_3 some_5 = some r ∧ RetL (List.map V.int r) H Q
abbrev N__law_places : List Str := ["script", "wire", "some", "places", "size", "base", "k", "place"]
theorem sc__law_places : FnScope N__law_places ["script", "wire", "some"] (defScope s__law_places) := ⟨rfl, rfl, rfl, by decide +kernel, rfl, by decide +kernel, by decide +kernel⟩
theorem ok__law_places {ad : Ad} (T : Txt K mg ad) : FnOk P w K mg base CX0 2 ad.f__law_places ad.fd__law_places ["script", "wire", "some"] (sp__law_places K) := by
  have G__law_draw := ok__law_draw (P := P) (w := w) (base := base) T
  refine T.F__law_places.ok sc__law_places (fun vs H Q E h => ?_) (fun cdv A outer s H vs Q E hr h => ?_)
  · obtain ⟨_, _, _, _, _, _, _, rfl, _⟩ := h
    rfl
  · obtain ⟨script_1, a_2, wire_3, a_4, some_5, a_6, r, rfl, hp_a_2, hp_a_4, hp_a_6, hm, k⟩ := h
    unfold m__law_places at hm
    obtain ⟨H0, hH0⟩ : ∃ H0 : Hp, H0 = H := ⟨H, rfl⟩
    have O : Own H0 H [] := by rw [hH0]; exact Own.start H
    rw [← hH0] at k hp_a_2 hp_a_4 hp_a_6
    clear hH0
    refine ⟨_, (pss_cons (ps_set (i := 3) sc__law_places.nd rfl (Or.inl rfl) (pe_callTy (r := rListQ K) call_listQ (by rfl) T.z_list (by decide +kernel) (pa_cons (pv 2) pa_nil))) (pss_cons (ps_set (i := 4) sc__law_places.nd rfl (Or.inl rfl) (pe_call G__law_draw (hr.mono (by decide)) (by rfl) T.g__law_draw T.F__law_draw.kp T.b__law_draw .nil pass0 (pa_cons (pv 0) (pa_cons pe_int (pa_cons pe_int pa_nil))))) (Evl.pss_cut (ps_if (pt_cmpR op_eq (pe_call G__law_draw (hr.mono (by decide)) (by rfl) T.g__law_draw T.F__law_draw.kp T.b__law_draw .nil pass0 (pa_cons (pv 0) (pa_cons pe_int (pa_cons pe_int pa_nil)))) pe_int (nomark _)) (pss_one (ps_set (i := 4) sc__law_places.nd rfl (Or.inl rfl) (pe_call G__law_draw (hr.mono (by decide)) (by rfl) T.g__law_draw T.F__law_draw.kp T.b__law_draw .nil pass0 (pa_cons (pv 0) (pa_cons pe_int (pa_cons pe_int pa_nil)))))) pss_nil) (Evl.pss_cut (ps_if (PW.pt (pw_and (pt_cmpR op_lt (pe_callB (r := rLenQ K) call_lenQ (by rfl) T.z_len PySem.boot_len (pa_cons (pv 1) pa_nil)) pe_int (nomark _)) (pw_and1 (pt_cmpR op_eq (pe_call G__law_draw (hr.mono (by decide)) (by rfl) T.g__law_draw T.F__law_draw.kp T.b__law_draw .nil pass0 (pa_cons (pv 0) (pa_cons pe_int (pa_cons pe_int pa_nil)))) pe_int (nomark _))))) (pss_one (ps_set (i := 4) sc__law_places.nd rfl (Or.inl rfl) (pe_op op_add pe_int (pe_call G__law_draw (hr.mono (by decide)) (by rfl) T.g__law_draw T.F__law_draw.kp T.b__law_draw .nil pass0 (pa_cons (pv 0) (pa_cons pe_int (pa_cons pe_int pa_nil))))))) pss_nil) (pss_cons (ps_set (i := 5) sc__law_places.nd rfl (Or.inl rfl) (pe_call G__law_draw (hr.mono (by decide)) (by rfl) T.g__law_draw T.F__law_draw.kp T.b__law_draw .nil pass0 (pa_cons (pv 0) (pa_cons pe_int (pa_cons (pe_callB (r := rLenQ K) call_lenQ (by rfl) T.z_len PySem.boot_len (pa_cons (pv 1) pa_nil)) pa_nil))))) (pss_cons (ps_for PassesOwn.never rfl (pi_range1 (by rfl) T.z_range (pa_cons (pe_op op_sub (pv 4) (pe_callB (r := rLenQ K) call_lenQ (by rfl) T.z_len PySem.boot_len (pa_cons (pv 2) pa_nil))) pa_nil)) (pg_name (i := 6) sc__law_places.nd rfl (Or.inl rfl)) (pss_cons (ps_set (i := 7) sc__law_places.nd rfl (Or.inl rfl) (pe_call G__law_draw (hr.mono (by decide)) (by rfl) T.g__law_draw T.F__law_draw.kp T.b__law_draw .nil pass0 (pa_cons (pv 0) (pa_cons (pe_op op_add pe_int (pe_op op_mul pe_int (pv 6))) (pa_cons (pe_callB (r := rLenQ K) call_lenQ (by rfl) T.z_len PySem.boot_len (pa_cons (pv 1) pa_nil)) pa_nil))))) (Evl.pss_cut (ps_if (pt_cmpR op_eq (pe_call G__law_draw (hr.mono (by decide)) (by rfl) T.g__law_draw T.F__law_draw.kp T.b__law_draw .nil pass0 (pa_cons (pv 0) (pa_cons pe_int (pa_cons pe_int pa_nil)))) pe_int (nomark _)) (pss_one (ps_set (i := 7) sc__law_places.nd rfl (Or.inl rfl) (pe_op op_mod (pe_op op_add (pv 5) (pe_call G__law_draw (hr.mono (by decide)) (by rfl) T.g__law_draw T.F__law_draw.kp T.b__law_draw .nil pass0 (pa_cons (pv 0) (pa_cons (pe_op op_add pe_int (pe_op op_mul pe_int (pv 6))) (pa_cons pe_int pa_nil))))) (pe_callB (r := rLenQ K) call_lenQ (by rfl) T.z_len PySem.boot_len (pa_cons (pv 1) pa_nil))))) pss_nil) (pss_one (ps_if (pt_cmpR (r := rIn K true) op_notIn_seq (pv 7) (pv 3) (by rfl)) (pss_one (ps_expr (pe_bm (r := rInsert) PySem.F.plainAttrs_list PySem.F.slot_list_insert PySem.F.type_list_insert mt_insertQ (pv 3) (pa_cons (pe_call G__law_draw (hr.mono (by decide)) (by rfl) T.g__law_draw T.F__law_draw.kp T.b__law_draw .nil pass0 (pa_cons (pv 0) (pa_cons (pe_op op_add pe_int (pe_op op_mul pe_int (pv 6))) (pa_cons (pe_op op_add (pe_callB (r := rLenQ K) call_lenQ (by rfl) T.z_len PySem.boot_len (pa_cons (pv 3) pa_nil)) pe_int) pa_nil)))) (pa_cons (pv 7) pa_nil))))) pss_nil))))) (pss_one (ps_ret (pv 3))))))))), ?_⟩
    -- 211
    refine o_seq ?_
    refine o_asg ?_
    refine ⟨_, rfl, ?_⟩
    refine x_nil ?_
    refine n_list O (SqL.of (O.ex _ _ hp_a_6)) fun p_7 H O => ?_
    -- 212
    refine o_seq ?_
    refine o_asg ?_
    obtain ⟨law_dr_8, h9, hm⟩ := bndE hm
    refine ⟨_, rfl, ?_⟩
    refine o_cons ?_
    refine o_c ?_
    refine o_cons ?_
    refine o_c ?_
    refine x_nil ?_
    refine ⟨_, _, _, _, law_dr_8, rfl, (O.ex.l hp_a_2), h9, ?_⟩
    refine O.retV fun H O => ?_
    -- 213
    obtain ⟨law_dr_11, h12, hm⟩ := bndE hm
    obtain ⟨size_17, h14, hm⟩ := bndE hm
    refine o_cut (fun σ H => σ = [some (.ref a_2), some (.ref a_4), some (.ref a_6), some (.ref p_7), some (.int size_17), none, none, none] ∧ Own H0 H [(p_7, .lst (List.map V.int some_5))]) ?_ ?_
    · refine o_ifs ?_
      refine ⟨_, rfl, ?_⟩
      refine o_cons ?_
      refine o_c ?_
      refine o_cons ?_
      refine o_c ?_
      refine x_nil ?_
      refine ⟨_, _, _, _, law_dr_11, rfl, (O.ex.l hp_a_2), h12, ?_⟩
      refine O.retV fun H O => ?_
      refine o_c ?_
      refine k_eqI ?_
      refine ⟨_, rfl, ?_⟩
      refine iteS (c := (decide (law_dr_11 = (0 : Int)))) (fun h13 => ?_) (fun h13 => ?_)
      · replace hm := ifT h14 h13
        -- 214
        refine o_asg ?_
        obtain ⟨law_dr_15, h16, hm⟩ := bndE hm
        refine ⟨_, rfl, ?_⟩
        refine o_cons ?_
        refine o_c ?_
        refine o_cons ?_
        refine o_c ?_
        refine x_nil ?_
        refine ⟨_, _, _, _, law_dr_15, rfl, (O.ex.l hp_a_2), h16, ?_⟩
        refine O.retV fun H O => ?_
        have Oz := O
        have hq_ := Option.some.inj hm
        subst hq_
        exact ⟨rfl, Oz⟩
      · replace hm := ifF h14 h13
        refine o_next ?_
        have Oz := O
        have hq_ := Option.some.inj hm
        subst hq_
        exact ⟨rfl, Oz⟩
    rintro σ H ⟨rfl, O⟩
    -- 215
    obtain ⟨c_22, h23, hm⟩ := bndE hm
    obtain ⟨size_28, h25, hm⟩ := bndE hm
    refine o_cut (fun σ H => σ = [some (.ref a_2), some (.ref a_4), some (.ref a_6), some (.ref p_7), some (.int size_28), none, none, none] ∧ Own H0 H [(p_7, .lst (List.map V.int some_5))]) ?_ ?_
    · refine o_ifs ?_
      refine x_and (c := decide ((List.length wire_3 : Int) < (48 : Int))) (e := c_22) (d := c_22) O (fun Q1 k1 => ?_) (fun h19 => ⟨rfl, fun H O Q2 k2 => ?_⟩) (fun h19 => Option.some.inj (ifF h23 h19)) (fun H O => ?_)
      · refine ⟨_, rfl, ?_⟩
        refine x_nil ?_
        refine n_len (SqL.of (O.ex _ _ hp_a_4)) ?_
        refine ⟨_, _, rfl, rfl, _, rfl, ?_⟩
        exact k1 _ O
      · replace hm := ifT h23 h19
        obtain ⟨law_dr_20, h21, hm⟩ := bndE hm
        obtain rfl := Option.some.inj hm
        refine ⟨_, rfl, ?_⟩
        refine o_cons ?_
        refine o_c ?_
        refine o_cons ?_
        refine o_c ?_
        refine x_nil ?_
        refine ⟨_, _, _, _, law_dr_20, rfl, (O.ex.l hp_a_2), h21, ?_⟩
        refine O.retV fun H O => ?_
        refine o_c ?_
        refine k_eqI ?_
        refine ⟨_, rfl, ?_⟩
        exact k2 _ O
      refine iteS (c := c_22) (fun h24 => ?_) (fun h24 => ?_)
      · replace hm := ifT h25 h24
        -- 216
        refine o_asg ?_
        obtain ⟨law_dr_26, h27, hm⟩ := bndE hm
        refine ⟨_, rfl, ?_⟩
        refine o_cons ?_
        refine o_c ?_
        refine o_cons ?_
        refine o_c ?_
        refine x_nil ?_
        refine ⟨_, _, _, _, law_dr_26, rfl, (O.ex.l hp_a_2), h27, ?_⟩
        refine O.retV fun H O => ?_
        refine ⟨_, _, rfl, rfl, ?_⟩
        have Oz := O
        have hq_ := Option.some.inj hm
        subst hq_
        exact ⟨rfl, Oz⟩
      · replace hm := ifF h25 h24
        refine o_next ?_
        have Oz := O
        have hq_ := Option.some.inj hm
        subst hq_
        exact ⟨rfl, Oz⟩
    rintro σ H ⟨rfl, O⟩
    -- 217
    refine o_seq ?_
    refine o_asg ?_
    refine ⟨_, rfl, _, rfl, ?_⟩
    refine x_nil ?_
    refine n_len (SqL.of (O.ex _ _ hp_a_4)) ?_
    obtain ⟨law_dr_29, h30, hm⟩ := bndE hm
    refine x_nil ?_
    refine ⟨_, _, _, _, law_dr_29, rfl, (O.ex.l hp_a_2), h30, ?_⟩
    refine O.retV fun H O => ?_
    -- 218
    refine o_seq ?_
    refine o_for ?_
    refine ⟨_, rfl, _, rfl, ?_⟩
    refine x_nil ?_
    refine n_len (SqL.of (O.ex _ _ hp_a_6)) ?_
    obtain ⟨rg_31, h32, hm⟩ := bndE hm
    refine ⟨_, _, rfl, rfl, ?_⟩
    refine x_nil ?_
    obtain ⟨c1, c2, rfl⟩ := rng1E h32
    obtain ⟨places_36, h37, hm⟩ := bndE hm
    refine ⟨_, rfl, c1, c2, q_forR (fun r σ H => ∃ (places_33 : List Int) (j_34 : Option V) (j_35 : Option V), σ = [some (.ref a_2), some (.ref a_4), some (.ref a_6), some (.ref p_7), some (.int size_28), some (.int law_dr_29), j_34, j_35] ∧ Own H0 H [(p_7, .lst (List.map V.int places_33))] ∧ loopM (fun k_40 s => m__law_places_L0 script_1 wire_3 law_dr_29 k_40 s) r places_33 = some places_36) ⟨_, _, _, rfl, O, h37⟩ ?_ ?_⟩
    · rintro k_40 r σ H ⟨places_33, j_34, j_35, rfl, O, hL⟩
      obtain ⟨s_, hm, h39⟩ := loopM_cons hL
      replace hm : m__law_places_L0 script_1 wire_3 law_dr_29 k_40 places_33 = some s_ := hm
      unfold m__law_places_L0 at hm
      -- 219
      refine o_seq ?_
      refine o_asg ?_
      refine ⟨_, rfl, _, rfl, _, _, rfl, rfl, .inl ⟨by decide, by decide⟩, _, _, rfl, rfl, _, rfl, ?_⟩
      refine x_nil ?_
      refine n_len (SqL.of (O.ex _ _ hp_a_4)) ?_
      obtain ⟨law_dr_44, h45, hm⟩ := bndE hm
      refine x_nil ?_
      refine ⟨_, _, _, _, law_dr_44, rfl, (O.ex.l hp_a_2), h45, ?_⟩
      refine O.retV fun H O => ?_
      -- 220
      obtain ⟨law_dr_47, h48, hm⟩ := bndE hm
      obtain ⟨place_55, h50, hm⟩ := bndE hm
      refine o_cut (fun σ H => σ = [some (.ref a_2), some (.ref a_4), some (.ref a_6), some (.ref p_7), some (.int size_28), some (.int law_dr_29), some (.int k_40), some (.int place_55)] ∧ Own H0 H [(p_7, .lst (List.map V.int places_33))]) ?_ ?_
      · refine o_ifs ?_
        refine ⟨_, rfl, ?_⟩
        refine o_cons ?_
        refine o_c ?_
        refine o_cons ?_
        refine o_c ?_
        refine x_nil ?_
        refine ⟨_, _, _, _, law_dr_47, rfl, (O.ex.l hp_a_2), h48, ?_⟩
        refine O.retV fun H O => ?_
        refine o_c ?_
        refine k_eqI ?_
        refine ⟨_, rfl, ?_⟩
        refine iteS (c := (decide (law_dr_47 = (0 : Int)))) (fun h49 => ?_) (fun h49 => ?_)
        · replace hm := ifT h50 h49
          -- 221
          refine o_asg ?_
          obtain ⟨law_dr_51, h52, hm⟩ := bndE hm
          refine ⟨_, rfl, _, rfl, _, rfl, _, _, rfl, rfl, .inl ⟨by decide, by decide⟩, _, _, rfl, rfl, ?_⟩
          refine o_cons ?_
          refine o_c ?_
          refine x_nil ?_
          refine ⟨_, _, _, _, law_dr_51, rfl, (O.ex.l hp_a_2), h52, ?_⟩
          refine O.retV fun H O => ?_
          refine ⟨_, _, rfl, rfl, _, rfl, ?_⟩
          refine x_nil ?_
          refine n_len (SqL.of (O.ex _ _ hp_a_4)) ?_
          obtain ⟨t_53, h54, hm⟩ := bndE hm
          refine k_mod h54 ?_
          have Oz := O
          have hq_ := Option.some.inj hm
          subst hq_
          exact ⟨rfl, Oz⟩
        · replace hm := ifF h50 h49
          refine o_next ?_
          have Oz := O
          have hq_ := Option.some.inj hm
          subst hq_
          exact ⟨rfl, Oz⟩
      rintro σ H ⟨rfl, O⟩
      -- 222
      refine o_ifs ?_
      refine ⟨_, rfl, _, rfl, ?_⟩
      refine k_niL (SqL.of (O.mem (hd_))) ?_
      refine ⟨_, rfl, ?_⟩
      refine iteS (c := (!decide (place_55 ∈ places_33))) (fun h56 => ?_) (fun h56 => ?_)
      · replace hm := ifT hm h56
        -- 223
        refine o_drop ?_
        refine ⟨_, rfl, .inl ⟨rfl, _, (SqL.of (O.mem (hd_)))⟩, _, rfl, _, rfl, _, _, rfl, rfl, .inl ⟨by decide, by decide⟩, _, _, rfl, rfl, _, rfl, ?_⟩
        refine x_nil ?_
        refine n_len (SqL.of (O.mem (hd_))) ?_
        obtain ⟨law_dr_57, h58, hm⟩ := bndE hm
        refine ⟨_, _, rfl, rfl, ?_⟩
        refine x_nil ?_
        refine ⟨_, _, _, _, law_dr_57, rfl, (O.ex.l hp_a_2), h58, ?_⟩
        refine O.retV fun H O => ?_
        refine ⟨_, rfl, ?_⟩
        refine x_nil ?_
        obtain ⟨l_59, h60, hm⟩ := bndE hm
        refine k_ins (f := V.int) (O.mem (hd_)) (fun _ => O.put0) h60 fun H O => ?_
        have Oz := O
        obtain rfl := Option.some.inj hm
        exact ⟨_, _, _, rfl, Oz, h39⟩
      · replace hm := ifF hm h56
        refine o_next ?_
        have Oz := O
        obtain rfl := Option.some.inj hm
        exact ⟨_, _, _, rfl, Oz, h39⟩
    rintro σ H ⟨places_33, j_34, j_35, rfl, O, hL⟩
    cases loopM_nil hL
    -- 224
    refine o_ret ?_
    refine ⟨_, rfl, ?_⟩
    obtain rfl := Option.some.inj hm
    exact RetL.go k O (hd_)
def m__law_rows_C0  (one_9 : Int) : Option (List Int) :=
  
  some ([one_9])
def m__law_rows_L2 (some_1 : List Int) (a_40 : Int) (b_53 : Int) (rows_46 : List (List Int)) : Option ((List (List Int))) :=
  bnd (atI some_1 a_40) fun e_57 =>
  bnd (atI some_1 b_53) fun e_59 =>
  bnd (appG rows_46 ([e_57, e_59])) fun l_62 =>
  some l_62
def m__law_rows_L1 (some_1 : List Int) (size_25 : Int) (a_40 : Int) (rows_32 : List (List Int)) : Option ((List (List Int))) :=
  bnd (rng2 (a_40 + (1 : Int)) size_25) fun rg_44 =>
  bnd (loopM (fun b_53 s => m__law_rows_L2 some_1 a_40 b_53 s) rg_44 rows_32) fun rows_49 =>
  some rows_49
def m__law_rows_L5 (some_1 : List Int) (a_83 : Int) (b_98 : Int) (c_112 : Int) (rows_105 : List (List Int)) : Option ((List (List Int))) :=
  bnd (atI some_1 a_83) fun e_116 =>
  bnd (atI some_1 b_98) fun e_118 =>
  bnd (atI some_1 c_112) fun e_120 =>
  bnd (appG rows_105 ([e_116, e_118, e_120])) fun l_123 =>
  some l_123
def m__law_rows_L4 (some_1 : List Int) (size_25 : Int) (a_83 : Int) (b_98 : Int) (rows_90 : List (List Int)) : Option ((List (List Int))) :=
  bnd (rng2 (b_98 + (1 : Int)) size_25) fun rg_102 =>
  bnd (loopM (fun c_112 s => m__law_rows_L5 some_1 a_83 b_98 c_112 s) rg_102 rows_90) fun rows_108 =>
  some rows_108
def m__law_rows_L3 (some_1 : List Int) (size_25 : Int) (a_83 : Int) (rows_74 : List (List Int)) : Option ((List (List Int))) :=
  bnd (rng2 (a_83 + (1 : Int)) size_25) fun rg_87 =>
  bnd (loopM (fun b_98 s => m__law_rows_L4 some_1 size_25 a_83 b_98 s) rg_87 rows_74) fun rows_94 =>
  some rows_94
def m__law_rows (some_1 : List Int) (most_3 : Int) : Option (List (List Int)) :=
  bnd (ifB (decide ((0 : Int) < most_3)) (
    bnd (compM (m__law_rows_C0) some_1 []) fun l_10 =>
    bnd (catG ([([] : List Int)]) l_10) fun t_18 =>
    some t_18) (
    some [([] : List Int)])) fun rows_22 =>
  ltv ((List.length some_1 : Int)) fun size_25 =>
  bnd (ifB (decide ((1 : Int) < most_3)) (
    bnd (rng1 size_25) fun rg_30 =>
    bnd (loopM (fun a_40 s => m__law_rows_L1 some_1 size_25 a_40 s) rg_30 rows_22) fun rows_36 =>
    some rows_36) (
    some rows_22)) fun rows_64 =>
  bnd (ifB (decide ((2 : Int) < most_3)) (
    bnd (rng1 size_25) fun rg_71 =>
    bnd (loopM (fun a_83 s => m__law_rows_L3 some_1 size_25 a_83 s) rg_71 rows_64) fun rows_79 =>
    some rows_79) (
    some rows_64)) fun rows_127 =>
  some rows_127
def sp__law_rows (K : PySem.W.Frag) (ad : Ad) : Sp := fun vs H Q _ => ∃ (some_1 : List Int) (a_2 : Addr) (most_3 : Int) (R0 : Hp) (r : List (List Int)), vs = [.ref a_2, .int most_3] ∧ Own R0 H [] ∧ (hsub H []) a_2 = some (.lst (List.map V.int some_1)) ∧ m__law_rows some_1 most_3 = some r ∧ RetX R0 (hsub H []) (dP (rL (rL rI)) r) Q
abbrev N__law_rows : List Str := ["some", "most", "rows", "size", "a", "b", "c", "one"]
theorem sc__law_rows : FnScope N__law_rows ["some", "most"] (defScope s__law_rows) := ⟨rfl, rfl, rfl, by decide +kernel, rfl, by decide +kernel, by decide +kernel⟩
theorem ok__law_rows {ad : Ad} (T : Txt K mg ad) : FnOk P w K mg base CX0 1 ad.f__law_rows ad.fd__law_rows ["some", "most"] (sp__law_rows K ad) := by
  refine T.F__law_rows.ok sc__law_rows (fun vs H Q E h => ?_) (fun cdv A outer s H vs Q E hr h => ?_)
  · obtain ⟨_, _, _, _, _, rfl, _⟩ := h
    rfl
  · obtain ⟨some_1, a_2, most_3, R0, r, rfl, OO, hp_a_2, hm, k⟩ := h
    unfold m__law_rows at hm
    obtain ⟨Hb, hHb⟩ : ∃ Hb : Hp, Hb = hsub H [] := ⟨_, rfl⟩
    obtain ⟨H0, hH0⟩ : ∃ H0 : Hp, H0 = Hb := ⟨Hb, rfl⟩
    have O : Own H0 H [] := by rw [hH0, hHb]; exact OO.startX
    have eR : Ex R0 Hb := by rw [hHb]; exact OO.subR
    rw [← hHb] at k hp_a_2
    have eB : Ex Hb H0 := by rw [hH0]; exact Ex.refl _
    have eS : Ex R0 (ovr R0 Hb H0) := by rw [hH0]; exact ovr_start eR
    rw [← hH0] at hp_a_2
    clear hH0
    refine ⟨_, (pss_cons (ps_set (i := 2) sc__law_rows.nd rfl (Or.inl rfl) (pe_lstQ (pe_lst (pa_cons (pe_lstQ (pe_lst pa_nil)) pa_nil)))) (Evl.pss_cut (ps_if (pt_cmpR op_gt (pv 1) pe_int (nomark _)) (pss_one (ps_set (i := 2) sc__law_rows.nd rfl (Or.inl rfl) (pe_op op_cat (pv 2) (pe_lc (own := [("one", 7)]) (g := gName 7) (tt := tYes) rfl sc__law_rows.nd (pi_list (pv 0)) (blkOk_by (own := [("one", 7)]) (N := N__law_rows) (sc := defScope s__law_rows) (by decide +kernel)) (fun _ _ _ _ _ => pg_name (i := 7) sc__law_rows.nd rfl (Or.inl rfl)) (fun _ _ _ _ _ => pts_nil) (fun _ _ _ _ _ => (pe_lst2 (pe_lst (pa_cons (pv 7) pa_nil)))))))) pss_nil) (pss_cons (ps_set (i := 3) sc__law_rows.nd rfl (Or.inl rfl) (pe_callB (r := rLenQ K) call_lenQ (by rfl) T.z_len PySem.boot_len (pa_cons (pv 0) pa_nil))) (Evl.pss_cut (ps_if (pt_cmpR op_gt (pv 1) pe_int (nomark _)) (pss_one (ps_for PassesOwn.never rfl (pi_range1 (by rfl) T.z_range (pa_cons (pv 3) pa_nil)) (pg_name (i := 4) sc__law_rows.nd rfl (Or.inl rfl)) (pss_one (ps_for PassesOwn.never rfl (pi_range2 (by rfl) T.z_range (pa_cons (pe_op op_add (pv 4) pe_int) (pa_cons (pv 3) pa_nil))) (pg_name (i := 5) sc__law_rows.nd rfl (Or.inl rfl)) (pss_one (ps_expr (pe_bm PySem.F.plainAttrs_list PySem.F.slot_list_append PySem.F.type_list_append mt_append (pv 2) (pa_cons (pe_lstQ (pe_lst (pa_cons (pe_ix (r := rIxL K) ix_list (pv 0) (pv 4) (fun _ _ => rfl)) (pa_cons (pe_ix (r := rIxL K) ix_list (pv 0) (pv 5) (fun _ _ => rfl)) pa_nil)))) pa_nil)))))))) pss_nil) (Evl.pss_cut (ps_if (pt_cmpR op_gt (pv 1) pe_int (nomark _)) (pss_one (ps_for PassesOwn.never rfl (pi_range1 (by rfl) T.z_range (pa_cons (pv 3) pa_nil)) (pg_name (i := 4) sc__law_rows.nd rfl (Or.inl rfl)) (pss_one (ps_for PassesOwn.never rfl (pi_range2 (by rfl) T.z_range (pa_cons (pe_op op_add (pv 4) pe_int) (pa_cons (pv 3) pa_nil))) (pg_name (i := 5) sc__law_rows.nd rfl (Or.inl rfl)) (pss_one (ps_for PassesOwn.never rfl (pi_range2 (by rfl) T.z_range (pa_cons (pe_op op_add (pv 5) pe_int) (pa_cons (pv 3) pa_nil))) (pg_name (i := 6) sc__law_rows.nd rfl (Or.inl rfl)) (pss_one (ps_expr (pe_bm PySem.F.plainAttrs_list PySem.F.slot_list_append PySem.F.type_list_append mt_append (pv 2) (pa_cons (pe_lstQ (pe_lst (pa_cons (pe_ix (r := rIxL K) ix_list (pv 0) (pv 4) (fun _ _ => rfl)) (pa_cons (pe_ix (r := rIxL K) ix_list (pv 0) (pv 5) (fun _ _ => rfl)) (pa_cons (pe_ix (r := rIxL K) ix_list (pv 0) (pv 6) (fun _ _ => rfl)) pa_nil))))) pa_nil)))))))))) pss_nil) (pss_one (ps_ret (pv 2)))))))), ?_⟩
    -- 196
    refine o_seq ?_
    refine o_asg ?_
    refine o_cons ?_
    refine x_nil ?_
    refine n_lst (f := V.int) (xs := ([] : List Int)) O rfl (Nat.zero_le _) fun p_4 H O => ?_
    refine x_nil ?_
    obtain ⟨H0, O, e_, hp_p_4⟩ := O.frzO (R0 := R0) eB
    replace hp_a_2 := e_ _ _ hp_a_2
    replace eB := eB.trans e_
    refine n_lstV O (by show 1 ≤ sizeLine; decide) fun p_5 H O => ?_
    have ha_p_5 : All2 ((rL rI) (ovr R0 Hb H0)) ([.ref p_4] : List V) ([([] : List Int)] : List (List Int)) := (.cons (gI hp_p_4) .nil)
    -- 197
    obtain ⟨rows_22, h8, hm⟩ := bndE hm
    refine o_cut (fun σ H => ∃ (R_ : Hp) (p_24 : Addr) (vs_23 : List V), σ = [some (.ref a_2), some (.int most_3), some (.ref p_24), none, none, none, none, none] ∧ Ex H0 R_ ∧ Own R_ H [(p_24, .lst vs_23)] ∧ All2 ((rL rI) (ovr R0 Hb R_)) vs_23 rows_22) ?_ ?_
    · have eJ6 : Ex H0 H0 := Ex.refl _
      refine o_ifs ?_
      refine ⟨_, rfl, _, _, rfl, rfl, _, rfl, ?_⟩
      refine iteS (c := decide ((0 : Int) < most_3)) (fun h7 => ?_) (fun h7 => ?_)
      · replace hm := ifT h8 h7
        -- 198
        refine o_asg ?_
        refine ⟨_, rfl, _, rfl, ?_⟩
        obtain ⟨l_10, h11, hm⟩ := bndE hm
        refine ⟨_, rfl, ⟨_, (SqL.of (O.ex _ _ hp_a_2))⟩, fun p_12 hD => k_lcL (f := V.int) (xs := some_1) (fun r H => ∃ (R_ : Hp) (vs_13 : List V) (acc : List (List Int)), Ex H0 R_ ∧ Own R_ H [(p_12, .lst vs_13), (p_5, .lst ([.ref p_4] : List V))] ∧ All2 ((rL rI) (ovr R0 Hb R_)) vs_13 acc ∧ compM (m__law_rows_C0) r acc = some l_10) ⟨H0, ([] : List V), [], Ex.refl _, O.new hD, .nil, h11⟩ (by rintro r H ⟨H0, vs_13, acc, eC12, O, ha_p_12, hC⟩; exact (SqL.of (O.ex _ _ (eC12 _ _ hp_a_2)))) ?_ ?_⟩
        · rintro one_9 r H ⟨H0, vs_13, acc, eC12, O, ha_p_12, hC⟩
          replace hp_a_2 := eC12 _ _ hp_a_2
          replace hp_p_4 := (ovr_mono eC12) _ _ hp_p_4
          replace ha_p_5 := mA (mL mI) (ovr_mono eC12) ha_p_5
          replace eB := eB.trans eC12
          replace eJ6 := eJ6.trans eC12
          obtain ⟨y, hm, hz, hC⟩ := compM_cons hC
          refine ⟨rfl, ?_⟩
          unfold m__law_rows_C0 at hm
          refine ⟨_, rfl, ?_⟩
          refine x_nil ?_
          refine n_lst (f := V.int) (xs := [one_9]) O rfl (by show 1 ≤ sizeLine; decide) fun p_17 H O => ?_
          obtain ⟨H0, O, e_, hp_p_17⟩ := O.frzO (R0 := R0) eB
          replace hp_a_2 := e_ _ _ hp_a_2
          replace hp_p_4 := (ovr_mono e_) _ _ hp_p_4
          replace ha_p_5 := mA (mL mI) (ovr_mono e_) ha_p_5
          replace ha_p_12 := mA (mL mI) (ovr_mono e_) ha_p_12
          replace eB := eB.trans e_
          replace eJ6 := eJ6.trans e_
          replace eC12 := eC12.trans e_
          obtain rfl := Option.some.inj hm
          exact ⟨_, O.mem (hd_), (by rw [ha_p_12.len]; exact hz), H0, _, _, eC12, O.put0, ha_p_12.snoc (gI hp_p_17), hC⟩
        rintro H ⟨H0, vs_13, acc, eC12, O, ha_p_12, hC⟩
        replace hp_a_2 := eC12 _ _ hp_a_2
        replace hp_p_4 := (ovr_mono eC12) _ _ hp_p_4
        replace ha_p_5 := mA (mL mI) (ovr_mono eC12) ha_p_5
        replace eB := eB.trans eC12
        replace eJ6 := eJ6.trans eC12
        obtain rfl := compM_nil hC
        obtain ⟨t_18, h19, hm⟩ := bndE hm
        refine k_catA O (O.mem (tl_ (hd_))) ha_p_5 (O.mem (hd_)) ha_p_12 h19 fun p_20 H vs_21 O ha_p_20 => ?_
        have Oz := O
        have hq_ := Option.some.inj hm
        subst hq_
        exact ⟨H0, p_20, (vs_21), rfl, eJ6, (Own.pk (L' := [(p_20, .lst vs_21)]) Oz [0] (by decide) rfl), ha_p_20⟩
      · replace hm := ifF h8 h7
        refine o_next ?_
        have Oz := O
        have hq_ := Option.some.inj hm
        subst hq_
        exact ⟨H0, p_5, (([.ref p_4] : List V)), rfl, eJ6, Oz, ha_p_5⟩
    rintro σ H ⟨H0, p_24, vs_23, rfl, eJ_, O, ha_p_24⟩
    replace hp_a_2 := eJ_ _ _ hp_a_2
    replace eB := eB.trans eJ_
    -- 199
    refine o_seq ?_
    refine o_asg ?_
    refine ⟨_, rfl, ?_⟩
    refine x_nil ?_
    refine n_len (SqL.of (O.ex _ _ hp_a_2)) ?_
    obtain ⟨size_25, h26, hm⟩ := ltvE hm
    refine a_set (congrArg V.int h26) ?_
    -- 200
    obtain ⟨rows_64, h29, hm⟩ := bndE hm
    refine o_cut (fun σ H => ∃ (R_ : Hp) (vs_65 : List V) (j_66 : Option V) (j_67 : Option V), σ = [some (.ref a_2), some (.int most_3), some (.ref p_24), some (.int size_25), j_66, j_67, none, none] ∧ Ex H0 R_ ∧ Own R_ H [(p_24, .lst vs_65)] ∧ All2 ((rL rI) (ovr R0 Hb R_)) vs_65 rows_64) ?_ ?_
    · have eJ27 : Ex H0 H0 := Ex.refl _
      refine o_ifs ?_
      refine ⟨_, rfl, _, _, rfl, rfl, _, rfl, ?_⟩
      refine iteS (c := decide ((1 : Int) < most_3)) (fun h28 => ?_) (fun h28 => ?_)
      · replace hm := ifT h29 h28
        -- 201
        refine o_for ?_
        obtain ⟨rg_30, h31, hm⟩ := bndE hm
        refine ⟨_, rfl, ?_⟩
        refine x_nil ?_
        obtain ⟨c1, c2, rfl⟩ := rng1E h31
        obtain ⟨rows_36, h37, hm⟩ := bndE hm
        refine ⟨_, rfl, c1, c2, q_forR (fun r σ H => ∃ (R_ : Hp) (rows_32 : List (List Int)) (vs_33 : List V) (j_34 : Option V) (j_35 : Option V), σ = [some (.ref a_2), some (.int most_3), some (.ref p_24), some (.int size_25), j_34, j_35, none, none] ∧ Ex H0 R_ ∧ Own R_ H [(p_24, .lst vs_33)] ∧ All2 ((rL rI) (ovr R0 Hb R_)) vs_33 rows_32 ∧ loopM (fun a_40 s => m__law_rows_L1 some_1 size_25 a_40 s) r rows_32 = some rows_36) ⟨H0, _, (vs_23), _, _, rfl, Ex.refl _, O, ha_p_24, h37⟩ ?_ ?_⟩
        · rintro a_40 r σ H ⟨H0, rows_32, vs_33, j_34, j_35, rfl, eL41, O, ha_p_24, hL⟩
          replace hp_a_2 := eL41 _ _ hp_a_2
          replace eB := eB.trans eL41
          replace eJ27 := eJ27.trans eL41
          obtain ⟨s_, hm, h39⟩ := loopM_cons hL
          replace hm : m__law_rows_L1 some_1 size_25 a_40 rows_32 = some s_ := hm
          unfold m__law_rows_L1 at hm
          -- 202
          refine o_for ?_
          obtain ⟨rg_44, h45, hm⟩ := bndE hm
          refine ⟨_, rfl, _, _, rfl, rfl, _, rfl, ?_⟩
          refine x_nil ?_
          obtain ⟨c1, rfl⟩ := rng2E h45
          obtain ⟨rows_49, h50, hm⟩ := bndE hm
          refine ⟨_, _, rfl, c1, q_forR (fun r σ H => ∃ (R_ : Hp) (rows_46 : List (List Int)) (vs_47 : List V) (j_48 : Option V), σ = [some (.ref a_2), some (.int most_3), some (.ref p_24), some (.int size_25), some (.int a_40), j_48, none, none] ∧ Ex H0 R_ ∧ Own R_ H [(p_24, .lst vs_47)] ∧ All2 ((rL rI) (ovr R0 Hb R_)) vs_47 rows_46 ∧ loopM (fun b_53 s => m__law_rows_L2 some_1 a_40 b_53 s) r rows_46 = some rows_49) ⟨H0, _, (vs_33), _, rfl, Ex.refl _, O, ha_p_24, h50⟩ ?_ ?_⟩
          · rintro b_53 r σ H ⟨H0, rows_46, vs_47, j_48, rfl, eL54, O, ha_p_24, hL⟩
            replace hp_a_2 := eL54 _ _ hp_a_2
            replace eB := eB.trans eL54
            replace eJ27 := eJ27.trans eL54
            replace eL41 := eL41.trans eL54
            obtain ⟨s_, hm, h52⟩ := loopM_cons hL
            replace hm : m__law_rows_L2 some_1 a_40 b_53 rows_46 = some s_ := hm
            unfold m__law_rows_L2 at hm
            -- 203
            refine o_drop ?_
            obtain ⟨e_57, h58, hm⟩ := bndE hm
            refine ⟨_, rfl, .inl ⟨rfl, _, (SqL.of (O.mem (hd_)))⟩, _, rfl, _, rfl, ?_⟩
            refine k_ixL (f := V.int) (SqL.of (O.ex _ _ hp_a_2)) h58 ?_
            obtain ⟨e_59, h60, hm⟩ := bndE hm
            refine ⟨_, rfl, _, rfl, ?_⟩
            refine k_ixL (f := V.int) (SqL.of (O.ex _ _ hp_a_2)) h60 ?_
            refine x_nil ?_
            refine n_lst (f := V.int) (xs := [e_57, e_59]) O rfl (by show 2 ≤ sizeLine; decide) fun p_61 H O => ?_
            refine x_nil ?_
            obtain ⟨H0, O, e_, hp_p_61⟩ := O.frzO (R0 := R0) eB
            replace hp_a_2 := e_ _ _ hp_a_2
            replace ha_p_24 := mA (mL mI) (ovr_mono e_) ha_p_24
            replace eB := eB.trans e_
            replace eJ27 := eJ27.trans e_
            replace eL41 := eL41.trans e_
            replace eL54 := eL54.trans e_
            obtain ⟨l_62, h63, hm⟩ := bndE hm
            refine k_appA (O.mem (hd_)) ha_p_24 (fun _ => O.put0) h63 (gI hp_p_61) fun H O ha_p_24 => ?_
            have Oz := O
            obtain rfl := Option.some.inj hm
            exact ⟨H0, _, ((vs_47 ++ [.ref p_61])), _, rfl, eL54, Oz, ha_p_24, h52⟩
          rintro σ H ⟨H0, rows_46, vs_47, j_48, rfl, eJ_, O, ha_p_24, hL⟩
          replace hp_a_2 := eJ_ _ _ hp_a_2
          replace eB := eB.trans eJ_
          replace eJ27 := eJ27.trans eJ_
          replace eL41 := eL41.trans eJ_
          cases loopM_nil hL
          have Oz := O
          obtain rfl := Option.some.inj hm
          exact ⟨H0, _, (vs_47), _, _, rfl, eL41, Oz, ha_p_24, h39⟩
        rintro σ H ⟨H0, rows_32, vs_33, j_34, j_35, rfl, eJ_, O, ha_p_24, hL⟩
        replace hp_a_2 := eJ_ _ _ hp_a_2
        replace eB := eB.trans eJ_
        replace eJ27 := eJ27.trans eJ_
        cases loopM_nil hL
        have Oz := O
        have hq_ := Option.some.inj hm
        subst hq_
        exact ⟨H0, (vs_33), _, _, rfl, eJ27, Oz, ha_p_24⟩
      · replace hm := ifF h29 h28
        refine o_next ?_
        have Oz := O
        have hq_ := Option.some.inj hm
        subst hq_
        exact ⟨H0, (vs_23), _, _, rfl, eJ27, Oz, ha_p_24⟩
    rintro σ H ⟨H0, vs_65, j_66, j_67, rfl, eJ_, O, ha_p_24⟩
    replace hp_a_2 := eJ_ _ _ hp_a_2
    replace eB := eB.trans eJ_
    -- 204
    obtain ⟨rows_127, h70, hm⟩ := bndE hm
    refine o_cut (fun σ H => ∃ (R_ : Hp) (vs_128 : List V) (j_125 : Option V) (j_126 : Option V) (j_129 : Option V) (j_130 : Option V) (j_131 : Option V) (j_132 : Option V), σ = [j_125, j_126, some (.ref p_24), j_129, j_130, j_131, j_132, none] ∧ Ex H0 R_ ∧ Own R_ H [(p_24, .lst vs_128)] ∧ All2 ((rL rI) (ovr R0 Hb R_)) vs_128 rows_127) ?_ ?_
    · have eJ68 : Ex H0 H0 := Ex.refl _
      refine o_ifs ?_
      refine ⟨_, rfl, _, _, rfl, rfl, _, rfl, ?_⟩
      refine iteS (c := decide ((2 : Int) < most_3)) (fun h69 => ?_) (fun h69 => ?_)
      · replace hm := ifT h70 h69
        -- 205
        refine o_for ?_
        obtain ⟨rg_71, h72, hm⟩ := bndE hm
        refine ⟨_, rfl, ?_⟩
        refine x_nil ?_
        obtain ⟨c1, c2, rfl⟩ := rng1E h72
        obtain ⟨rows_79, h80, hm⟩ := bndE hm
        refine ⟨_, rfl, c1, c2, q_forR (fun r σ H => ∃ (R_ : Hp) (rows_74 : List (List Int)) (vs_75 : List V) (j_73 : Option V) (j_76 : Option V) (j_77 : Option V) (j_78 : Option V), σ = [some (.ref a_2), j_73, some (.ref p_24), some (.int size_25), j_76, j_77, j_78, none] ∧ Ex H0 R_ ∧ Own R_ H [(p_24, .lst vs_75)] ∧ All2 ((rL rI) (ovr R0 Hb R_)) vs_75 rows_74 ∧ loopM (fun a_83 s => m__law_rows_L3 some_1 size_25 a_83 s) r rows_74 = some rows_79) ⟨H0, _, (vs_65), _, _, _, _, rfl, Ex.refl _, O, ha_p_24, h80⟩ ?_ ?_⟩
        · rintro a_83 r σ H ⟨H0, rows_74, vs_75, j_73, j_76, j_77, j_78, rfl, eL84, O, ha_p_24, hL⟩
          replace hp_a_2 := eL84 _ _ hp_a_2
          replace eB := eB.trans eL84
          replace eJ68 := eJ68.trans eL84
          obtain ⟨s_, hm, h82⟩ := loopM_cons hL
          replace hm : m__law_rows_L3 some_1 size_25 a_83 rows_74 = some s_ := hm
          unfold m__law_rows_L3 at hm
          -- 206
          refine o_for ?_
          obtain ⟨rg_87, h88, hm⟩ := bndE hm
          refine ⟨_, rfl, _, _, rfl, rfl, _, rfl, ?_⟩
          refine x_nil ?_
          obtain ⟨c1, rfl⟩ := rng2E h88
          obtain ⟨rows_94, h95, hm⟩ := bndE hm
          refine ⟨_, _, rfl, c1, q_forR (fun r σ H => ∃ (R_ : Hp) (rows_90 : List (List Int)) (vs_91 : List V) (j_89 : Option V) (j_92 : Option V) (j_93 : Option V), σ = [some (.ref a_2), j_89, some (.ref p_24), some (.int size_25), some (.int a_83), j_92, j_93, none] ∧ Ex H0 R_ ∧ Own R_ H [(p_24, .lst vs_91)] ∧ All2 ((rL rI) (ovr R0 Hb R_)) vs_91 rows_90 ∧ loopM (fun b_98 s => m__law_rows_L4 some_1 size_25 a_83 b_98 s) r rows_90 = some rows_94) ⟨H0, _, (vs_75), _, _, _, rfl, Ex.refl _, O, ha_p_24, h95⟩ ?_ ?_⟩
          · rintro b_98 r σ H ⟨H0, rows_90, vs_91, j_89, j_92, j_93, rfl, eL99, O, ha_p_24, hL⟩
            replace hp_a_2 := eL99 _ _ hp_a_2
            replace eB := eB.trans eL99
            replace eJ68 := eJ68.trans eL99
            replace eL84 := eL84.trans eL99
            obtain ⟨s_, hm, h97⟩ := loopM_cons hL
            replace hm : m__law_rows_L4 some_1 size_25 a_83 b_98 rows_90 = some s_ := hm
            unfold m__law_rows_L4 at hm
            -- 207
            refine o_for ?_
            obtain ⟨rg_102, h103, hm⟩ := bndE hm
            refine ⟨_, rfl, _, _, rfl, rfl, _, rfl, ?_⟩
            refine x_nil ?_
            obtain ⟨c1, rfl⟩ := rng2E h103
            obtain ⟨rows_108, h109, hm⟩ := bndE hm
            refine ⟨_, _, rfl, c1, q_forR (fun r σ H => ∃ (R_ : Hp) (rows_105 : List (List Int)) (vs_106 : List V) (j_104 : Option V) (j_107 : Option V), σ = [some (.ref a_2), j_104, some (.ref p_24), some (.int size_25), some (.int a_83), some (.int b_98), j_107, none] ∧ Ex H0 R_ ∧ Own R_ H [(p_24, .lst vs_106)] ∧ All2 ((rL rI) (ovr R0 Hb R_)) vs_106 rows_105 ∧ loopM (fun c_112 s => m__law_rows_L5 some_1 a_83 b_98 c_112 s) r rows_105 = some rows_108) ⟨H0, _, (vs_91), _, _, rfl, Ex.refl _, O, ha_p_24, h109⟩ ?_ ?_⟩
            · rintro c_112 r σ H ⟨H0, rows_105, vs_106, j_104, j_107, rfl, eL113, O, ha_p_24, hL⟩
              replace hp_a_2 := eL113 _ _ hp_a_2
              replace eB := eB.trans eL113
              replace eJ68 := eJ68.trans eL113
              replace eL84 := eL84.trans eL113
              replace eL99 := eL99.trans eL113
              obtain ⟨s_, hm, h111⟩ := loopM_cons hL
              replace hm : m__law_rows_L5 some_1 a_83 b_98 c_112 rows_105 = some s_ := hm
              unfold m__law_rows_L5 at hm
              -- 208
              refine o_drop ?_
              obtain ⟨e_116, h117, hm⟩ := bndE hm
              refine ⟨_, rfl, .inl ⟨rfl, _, (SqL.of (O.mem (hd_)))⟩, _, rfl, _, rfl, ?_⟩
              refine k_ixL (f := V.int) (SqL.of (O.ex _ _ hp_a_2)) h117 ?_
              obtain ⟨e_118, h119, hm⟩ := bndE hm
              refine ⟨_, rfl, _, rfl, ?_⟩
              refine k_ixL (f := V.int) (SqL.of (O.ex _ _ hp_a_2)) h119 ?_
              obtain ⟨e_120, h121, hm⟩ := bndE hm
              refine ⟨_, rfl, _, rfl, ?_⟩
              refine k_ixL (f := V.int) (SqL.of (O.ex _ _ hp_a_2)) h121 ?_
              refine x_nil ?_
              refine n_lst (f := V.int) (xs := [e_116, e_118, e_120]) O rfl (by show 3 ≤ sizeLine; decide) fun p_122 H O => ?_
              refine x_nil ?_
              obtain ⟨H0, O, e_, hp_p_122⟩ := O.frzO (R0 := R0) eB
              replace hp_a_2 := e_ _ _ hp_a_2
              replace ha_p_24 := mA (mL mI) (ovr_mono e_) ha_p_24
              replace eB := eB.trans e_
              replace eJ68 := eJ68.trans e_
              replace eL84 := eL84.trans e_
              replace eL99 := eL99.trans e_
              replace eL113 := eL113.trans e_
              obtain ⟨l_123, h124, hm⟩ := bndE hm
              refine k_appA (O.mem (hd_)) ha_p_24 (fun _ => O.put0) h124 (gI hp_p_122) fun H O ha_p_24 => ?_
              have Oz := O
              obtain rfl := Option.some.inj hm
              exact ⟨H0, _, ((vs_106 ++ [.ref p_122])), _, _, rfl, eL113, Oz, ha_p_24, h111⟩
            rintro σ H ⟨H0, rows_105, vs_106, j_104, j_107, rfl, eJ_, O, ha_p_24, hL⟩
            replace hp_a_2 := eJ_ _ _ hp_a_2
            replace eB := eB.trans eJ_
            replace eJ68 := eJ68.trans eJ_
            replace eL84 := eL84.trans eJ_
            replace eL99 := eL99.trans eJ_
            cases loopM_nil hL
            have Oz := O
            obtain rfl := Option.some.inj hm
            exact ⟨H0, _, (vs_106), _, _, _, rfl, eL99, Oz, ha_p_24, h97⟩
          rintro σ H ⟨H0, rows_90, vs_91, j_89, j_92, j_93, rfl, eJ_, O, ha_p_24, hL⟩
          replace hp_a_2 := eJ_ _ _ hp_a_2
          replace eB := eB.trans eJ_
          replace eJ68 := eJ68.trans eJ_
          replace eL84 := eL84.trans eJ_
          cases loopM_nil hL
          have Oz := O
          obtain rfl := Option.some.inj hm
          exact ⟨H0, _, (vs_91), _, _, _, _, rfl, eL84, Oz, ha_p_24, h82⟩
        rintro σ H ⟨H0, rows_74, vs_75, j_73, j_76, j_77, j_78, rfl, eJ_, O, ha_p_24, hL⟩
        replace hp_a_2 := eJ_ _ _ hp_a_2
        replace eB := eB.trans eJ_
        replace eJ68 := eJ68.trans eJ_
        cases loopM_nil hL
        have Oz := O
        have hq_ := Option.some.inj hm
        subst hq_
        exact ⟨H0, (vs_75), _, _, _, _, _, _, rfl, eJ68, Oz, ha_p_24⟩
      · replace hm := ifF h70 h69
        refine o_next ?_
        have Oz := O
        have hq_ := Option.some.inj hm
        subst hq_
        exact ⟨H0, (vs_65), _, _, _, _, _, _, rfl, eJ68, Oz, ha_p_24⟩
    rintro σ H ⟨H0, vs_128, j_125, j_126, j_129, j_130, j_131, j_132, rfl, eJ_, O, ha_p_24⟩
    replace eB := eB.trans eJ_
    -- 209
    refine o_ret ?_
    refine ⟨_, rfl, ?_⟩
    obtain rfl := Option.some.inj hm
    obtain ⟨H0, O, e_, hp_p_24⟩ := O.frzO (R0 := R0) eB
    replace ha_p_24 := mA (mL mI) (ovr_mono e_) ha_p_24
    replace eB := eB.trans e_
    have hn_p_24 : (rL (rL rI)) (ovr R0 Hb H0) (.ref p_24) rows_127 := ⟨_, _, rfl, hp_p_24, ha_p_24⟩
    exact k _ _ H0 _ eB (by exact (Own.pk O [] (by decide) rfl)) ⟨rfl, hn_p_24⟩
def m_put_in_L0  (bit_16 : Int) (wire_6 : List Int) (run_7 : Int) (last_8 : Int) : Option ((List Int) × Int × Int) :=
  ltv ((ifB (decide (bit_16 = last_8)) (run_7 + (1 : Int)) (1 : Int))) fun run_21 =>
  bnd (appG wire_6 bit_16) fun l_23 =>
  ifB (decide (run_21 = (5 : Int))) (
    ltv ((Builtin.bitXor bit_16 (1 : Int))) fun last_26 =>
    bnd (appG l_23 last_26) fun l_28 =>
    some (l_28, (1 : Int), last_26)) (
    some (l_23, run_21, bit_16))
def m_put_in (bits_1 : List Int) : Option (List Int) :=
  ltv ((-(1 : Int))) fun last_4 =>
  bnd (loopM (fun bit_16 s => m_put_in_L0 bit_16 s.1 s.2.1 s.2.2) bits_1 (([] : List Int), (0 : Int), last_4)) fun (wire_10, run_11, last_12) =>
  some wire_10
def sp_put_in (K : PySem.W.Frag) : Sp := fun vs H Q _ => ∃ (bits_1 : List Int) (a_2 : Addr) (r : List Int), vs = [.ref a_2] ∧ H a_2 = some (.lst (List.map V.int bits_1)) ∧ m_put_in bits_1 = some r ∧ RetL (List.map V.int r) H Q
abbrev N_put_in : List Str := ["bits", "wire", "run", "last", "bit"]
theorem sc_put_in : FnScope N_put_in ["bits"] (defScope s_put_in) := ⟨rfl, rfl, rfl, by decide +kernel, rfl, by decide +kernel, by decide +kernel⟩
theorem ok_put_in {ad : Ad} (T : Txt K mg ad) : FnOk P w K mg base CX0 1 ad.f_put_in ad.fd_put_in ["bits"] (sp_put_in K) := by
  refine T.F_put_in.ok sc_put_in (fun vs H Q E h => ?_) (fun cdv A outer s H vs Q E hr h => ?_)
  · obtain ⟨_, _, _, rfl, _⟩ := h
    rfl
  · obtain ⟨bits_1, a_2, r, rfl, hp_a_2, hm, k⟩ := h
    unfold m_put_in at hm
    obtain ⟨H0, hH0⟩ : ∃ H0 : Hp, H0 = H := ⟨H, rfl⟩
    have O : Own H0 H [] := by rw [hH0]; exact Own.start H
    rw [← hH0] at k hp_a_2
    clear hH0
    refine ⟨_, (pss_cons (ps_set (i := 1) sc_put_in.nd rfl (Or.inl rfl) (pe_lstQ (pe_lst pa_nil))) (pss_cons (ps_set (i := 2) sc_put_in.nd rfl (Or.inl rfl) pe_int) (pss_cons (ps_set (i := 3) sc_put_in.nd rfl (Or.inl rfl) (pe_un un_neg pe_int)) (pss_cons (ps_for PassesOwn.never rfl (pi_list (pv 0)) (pg_name (i := 4) sc_put_in.nd rfl (Or.inl rfl)) (pss_cons (ps_set (i := 2) sc_put_in.nd rfl (Or.inl rfl) (pe_ifExp (pt_cmpR op_eq (pv 4) (pv 3) (nomark _)) (pe_op op_add (pv 2) pe_int) pe_int)) (pss_cons (ps_set (i := 3) sc_put_in.nd rfl (Or.inl rfl) (pv 4)) (pss_cons (ps_expr (pe_bm PySem.F.plainAttrs_list PySem.F.slot_list_append PySem.F.type_list_append mt_append (pv 1) (pa_cons (pv 4) pa_nil))) (pss_one (ps_if (pt_cmpR op_eq (pv 2) pe_int (nomark _)) (pss_cons (ps_set (i := 3) sc_put_in.nd rfl (Or.inl rfl) (pe_op op_xor (pv 4) pe_int)) (pss_cons (ps_set (i := 2) sc_put_in.nd rfl (Or.inl rfl) pe_int) (pss_one (ps_expr (pe_bm PySem.F.plainAttrs_list PySem.F.slot_list_append PySem.F.type_list_append mt_append (pv 1) (pa_cons (pv 3) pa_nil)))))) pss_nil)))))) (pss_one (ps_ret (pv 1))))))), ?_⟩
    -- 55
    refine o_seq ?_
    refine o_asg ?_
    refine x_nil ?_
    refine n_lst (f := V.int) (xs := ([] : List Int)) O rfl (Nat.zero_le _) fun p_3 H O => ?_
    -- 56
    refine o_seq ?_
    refine o_asg ?_
    refine o_c ?_
    -- 57
    refine o_seq ?_
    refine o_asg ?_
    refine ⟨_, rfl, ?_⟩
    obtain ⟨last_4, h5, hm⟩ := ltvE hm
    refine a_set (congrArg V.int h5) ?_
    -- 58
    refine o_seq ?_
    refine o_for ?_
    refine ⟨_, rfl, ?_⟩
    obtain ⟨⟨wire_10, run_11, last_12⟩, h13, hm⟩ := bndE hm
    refine ⟨_, rfl, ⟨_, (SqL.of (O.ex _ _ hp_a_2))⟩, q_forL (f := V.int) (xs := bits_1) (fun r σ H => ∃ (wire_6 : List Int) (run_7 : Int) (last_8 : Int) (j_9 : Option V), σ = [some (.ref a_2), some (.ref p_3), some (.int run_7), some (.int last_8), j_9] ∧ Own H0 H [(p_3, .lst (List.map V.int wire_6))] ∧ loopM (fun bit_16 s => m_put_in_L0 bit_16 s.1 s.2.1 s.2.2) r (wire_6, run_7, last_8) = some (wire_10, run_11, last_12)) ⟨([] : List Int), _, _, _, rfl, O, h13⟩ (by rintro r σ H ⟨wire_6, run_7, last_8, j_9, rfl, O, hL⟩; exact (SqL.of (O.ex _ _ hp_a_2))) ?_ ?_⟩
    · rintro bit_16 r σ H ⟨wire_6, run_7, last_8, j_9, rfl, O, hL⟩
      obtain ⟨s_, hm, h15⟩ := loopM_cons hL
      replace hm : m_put_in_L0 bit_16 wire_6 run_7 last_8 = some s_ := hm
      unfold m_put_in_L0 at hm
      -- 59
      refine o_seq ?_
      refine o_asg ?_
      refine x_if (c := (decide (bit_16 = last_8))) (x := .int (run_7 + (1 : Int))) (y := .int (1 : Int)) (v := .int (ifB (decide (bit_16 = last_8)) (run_7 + (1 : Int)) (1 : Int))) O (fun Q1 k1 => ?_) (fun h20 => ⟨by rw [h20]; rfl, fun H O Q2 k2 => ?_⟩) (fun h20 => ⟨by rw [h20]; rfl, fun H O Q2 k2 => ?_⟩) (fun H O => ?_)
      · refine ⟨_, rfl, _, rfl, ?_⟩
        refine k_eqI ?_
        refine ⟨_, rfl, ?_⟩
        exact k1 _ O
      · refine ⟨_, rfl, _, _, rfl, rfl, ?_⟩
        exact k2 _ O
      · refine o_c ?_
        exact k2 _ O
      obtain ⟨run_21, h22, hm⟩ := ltvE hm
      refine a_set (congrArg V.int h22) ?_
      -- 60
      refine o_seq ?_
      refine o_asg ?_
      refine ⟨_, rfl, ?_⟩
      -- 61
      refine o_seq ?_
      refine o_drop ?_
      obtain ⟨l_23, h24, hm⟩ := bndE hm
      refine ⟨_, rfl, .inl ⟨rfl, _, (SqL.of (O.mem (hd_)))⟩, _, rfl, ?_⟩
      refine x_nil ?_
      refine k_app (f := V.int) (O.mem (hd_)) (fun _ => O.put0) h24 fun H O => ?_
      -- 62
      refine o_ifs ?_
      refine ⟨_, rfl, ?_⟩
      refine o_c ?_
      refine k_eqI ?_
      refine ⟨_, rfl, ?_⟩
      refine iteS (c := (decide (run_21 = (5 : Int)))) (fun h25 => ?_) (fun h25 => ?_)
      · replace hm := ifT hm h25
        -- 63
        refine o_seq ?_
        refine o_asg ?_
        refine ⟨_, rfl, _, _, rfl, rfl, ?_⟩
        obtain ⟨last_26, h27, hm⟩ := ltvE hm
        refine a_set (congrArg V.int h27) ?_
        -- 64
        refine o_seq ?_
        refine o_asg ?_
        refine o_c ?_
        -- 65
        refine o_drop ?_
        obtain ⟨l_28, h29, hm⟩ := bndE hm
        refine ⟨_, rfl, .inl ⟨rfl, _, (SqL.of (O.mem (hd_)))⟩, _, rfl, ?_⟩
        refine x_nil ?_
        refine k_app (f := V.int) (O.mem (hd_)) (fun _ => O.put0) h29 fun H O => ?_
        have Oz := O
        obtain rfl := Option.some.inj hm
        exact ⟨_, _, _, _, rfl, Oz, h15⟩
      · replace hm := ifF hm h25
        refine o_next ?_
        have Oz := O
        obtain rfl := Option.some.inj hm
        exact ⟨_, _, _, _, rfl, Oz, h15⟩
    rintro σ H ⟨wire_6, run_7, last_8, j_9, rfl, O, hL⟩
    cases loopM_nil hL
    -- 66
    refine o_ret ?_
    refine ⟨_, rfl, ?_⟩
    obtain rfl := Option.some.inj hm
    exact RetL.go k O (hd_)
def m_bits_of_C0 (number_1 : Int) (many_2 : Int) (k_7 : Int) : Option Int :=
  bnd (shrG number_1 ((many_2 - (1 : Int)) - k_7)) fun t_12 =>
  some (Builtin.bitAnd t_12 (1 : Int))
def m_bits_of (number_1 : Int) (many_2 : Int) : Option (Rs (List Int)) :=
  ifB (decide (number_1 < (0 : Int)) || decide (many_2 < (Builtin.Int.intBits number_1 : Int))) (
    some (.er .NoBits)) (
    bnd (rng1 many_2) fun rg_5 =>
    bnd (compM (m_bits_of_C0 number_1 many_2) rg_5 []) fun l_9 =>
    some (.ok l_9))
def sp_bits_of (K : PySem.W.Frag) (d : Eds) : Sp := fun vs H Q E => ∃ (number_1 : Int) (many_2 : Int) (r : Rs (List Int)), vs = [.int number_1, .int many_2] ∧ m_bits_of number_1 many_2 = some r ∧ RetR (fun r => RetL (List.map V.int r) H Q) d r H E
abbrev N_bits_of : List Str := ["number", "many", "k"]
theorem sc_bits_of : FnScope N_bits_of ["number", "many"] (defScope s_bits_of) := ⟨rfl, rfl, rfl, by decide +kernel, rfl, by decide +kernel, by decide +kernel⟩
theorem ok_bits_of {ad : Ad} (T : Txt K mg ad) : FnOk P w K mg base (L2N.CX P w) 1 ad.f_bits_of ad.fd_bits_of ["number", "many"] (sp_bits_of K ad.es) := by
  refine okN T.F_bits_of sc_bits_of (fun vs H Q E h => ?_) (fun cdv A outer s H vs Q E hr h => ?_)
  · obtain ⟨_, _, _, rfl, _⟩ := h
    rfl
  · obtain ⟨number_1, many_2, r, rfl, hm, k⟩ := h
    unfold m_bits_of at hm
    obtain ⟨H0, hH0⟩ : ∃ H0 : Hp, H0 = H := ⟨H, rfl⟩
    have O : Own H0 H [] := by rw [hH0]; exact Own.start H
    rw [← hH0] at k
    clear hH0
    refine ⟨_, (pss_cons (ps_if (PW.pt (pw_or (pt_cmpR op_lt (pv 0) pe_int (nomark _)) (pw_or1 (pt_cmpR op_gt (pe_bits (pv 0)) (pv 1) (nomark _))))) (pss_one (ps_errN T.e_NoBits (L2N.takes_of rfl rfl rfl rfl) rfl rfl)) pss_nil) (pss_one (ps_ret (pe_lc (own := [("k", 2)]) (g := gName 2) (tt := tYes) rfl sc_bits_of.nd (pi_range1 (by rfl) T.z_range (pa_cons (pv 1) pa_nil)) (blkOk_by (own := [("k", 2)]) (N := N_bits_of) (sc := defScope s_bits_of) (by decide +kernel)) (fun _ _ _ _ _ => pg_name (i := 2) sc_bits_of.nd rfl (Or.inl rfl)) (fun _ _ _ _ _ => pts_nil) (fun _ _ _ _ _ => (pe_op op_and (pe_op op_shr (pv 0) (pe_op op_sub (pe_op op_sub (pv 1) pe_int) (pv 2))) pe_int)))))), ?_⟩
    -- 17
    refine o_seq ?_
    refine o_ifs ?_
    refine x_or (c := decide (number_1 < (0 : Int))) (e := decide (many_2 < (Builtin.Int.intBits number_1 : Int))) (d := (decide (number_1 < (0 : Int)) || decide (many_2 < (Builtin.Int.intBits number_1 : Int)))) O (fun Q1 k1 => ?_) (fun h3 => ⟨by rw [h3]; rfl, fun H O Q2 k2 => ?_⟩) (fun h3 => by rw [h3]; rfl) (fun H O => ?_)
    · refine ⟨_, rfl, _, _, rfl, rfl, _, rfl, ?_⟩
      exact k1 _ O
    · refine ⟨_, rfl, _, rfl, _, rfl, _, _, rfl, rfl, _, rfl, ?_⟩
      exact k2 _ O
    refine iteS (c := (decide (number_1 < (0 : Int)) || decide (many_2 < (Builtin.Int.intBits number_1 : Int)))) (fun h4 => ?_) (fun h4 => ?_)
    · replace hm := ifT hm h4
      -- 18
      obtain rfl := Option.some.inj hm
      exact k _ O.ex
    · replace hm := ifF hm h4
      refine o_next ?_
      -- 19
      refine o_ret ?_
      obtain ⟨rg_5, h6, hm⟩ := bndE hm
      refine ⟨_, rfl, ?_⟩
      refine x_nil ?_
      obtain ⟨c1, c2, rfl⟩ := rng1E h6
      obtain ⟨l_9, h10, hm⟩ := bndE hm
      refine ⟨_, rfl, c1, c2, fun p_11 hD => k_lcR (fun r H => ∃ acc : List Int, Own H0 H ((p_11, .lst (List.map V.int acc)) :: []) ∧ compM (m_bits_of_C0 number_1 many_2) r acc = some l_9) ⟨[], O.new hD, h10⟩ ?_ ?_⟩
      · rintro k_7 r H ⟨acc, O, hC⟩
        obtain ⟨y, hm, hz, hC⟩ := compM_cons hC
        refine ⟨rfl, ?_⟩
        unfold m_bits_of_C0 at hm
        obtain ⟨t_12, h13, hm⟩ := bndE hm
        refine ⟨_, rfl, _, rfl, _, _, rfl, rfl, _, rfl, _, _, rfl, rfl, ?_⟩
        refine k_shr h13 ?_
        refine ⟨_, _, rfl, rfl, ?_⟩
        obtain rfl := Option.some.inj hm
        refine ⟨_, O.mem (hd_), (by rw [List.length_map]; exact hz), _, ?_, hC⟩
        rw [map_snoc]
        exact O.put0
      rintro H ⟨acc, O, hC⟩
      obtain rfl := compM_nil hC
      obtain rfl := Option.some.inj hm
      exact RetL.go k O (hd_)
def m_divided_W0c (key_2 : Int) (size_4 : Int) (number_6 : Int) (whole_7 : Int) : Option Bool :=
  some (decide (size_4 ≤ (Builtin.Int.intBits number_6 : Int)))
def m_divided_W0 (key_2 : Int) (size_4 : Int) (number_6 : Int) (whole_7 : Int) : Option (Int × Int) :=
  ltv (((Builtin.Int.intBits number_6 : Int) - size_4)) fun at_12 =>
  bnd (shlG (1 : Int) at_12) fun t_14 =>
  ltv ((Builtin.bitXor whole_7 t_14)) fun whole_16 =>
  bnd (shlG key_2 at_12) fun t_18 =>
  some ((Builtin.bitXor number_6 t_18), whole_16)
def m_divided (number_1 : Int) (key_2 : Int) : Option (Rs (Int × Int)) :=
  ifB (decide (key_2 = (0 : Int))) (
    some (.er .NoKey)) (
    ltv ((Builtin.Int.intBits key_2 : Int)) fun size_4 =>
    bnd (whileM (fun s => m_divided_W0c key_2 size_4 s.1 s.2) (fun s => m_divided_W0 key_2 size_4 s.1 s.2) FUEL (number_1, (0 : Int))) fun (number_9, whole_10) =>
    some (.ok (whole_10, number_9)))
def sp_divided (K : PySem.W.Frag) (d : Eds) : Sp := fun vs H Q E => ∃ (number_1 : Int) (key_2 : Int) (r : Rs (Int × Int)), vs = [.int number_1, .int key_2] ∧ m_divided number_1 key_2 = some r ∧ RetR (fun r => RetT [V.int r.1, V.int r.2] H Q) d r H E
abbrev N_divided : List Str := ["number", "key", "whole", "size", "at"]
theorem sc_divided : FnScope N_divided ["number", "key"] (defScope s_divided) := ⟨rfl, rfl, rfl, by decide +kernel, rfl, by decide +kernel, by decide +kernel⟩
theorem ok_divided {ad : Ad} (T : Txt K mg ad) : FnOk P w K mg base (L2N.CX P w) 1 ad.f_divided ad.fd_divided ["number", "key"] (sp_divided K ad.es) := by
  refine okN T.F_divided sc_divided (fun vs H Q E h => ?_) (fun cdv A outer s H vs Q E hr h => ?_)
  · obtain ⟨_, _, _, rfl, _⟩ := h
    rfl
  · obtain ⟨number_1, key_2, r, rfl, hm, k⟩ := h
    unfold m_divided at hm
    obtain ⟨H0, hH0⟩ : ∃ H0 : Hp, H0 = H := ⟨H, rfl⟩
    have O : Own H0 H [] := by rw [hH0]; exact Own.start H
    rw [← hH0] at k
    clear hH0
    refine ⟨_, (pss_cons (ps_if (pt_cmpR op_eq (pv 1) pe_int (nomark _)) (pss_one (ps_errN T.e_NoKey (L2N.takes_of rfl rfl rfl rfl) rfl rfl)) pss_nil) (pss_cons (ps_set (i := 2) sc_divided.nd rfl (Or.inl rfl) pe_int) (pss_cons (ps_set (i := 3) sc_divided.nd rfl (Or.inl rfl) (pe_bits (pv 1))) (pss_cons (ps_while (passes_of rfl) (pt_cmpR op_ge (pe_bits (pv 0)) (pv 3) (nomark _)) (pss_cons (ps_set (i := 4) sc_divided.nd rfl (Or.inl rfl) (pe_op op_sub (pe_bits (pv 0)) (pv 3))) (pss_cons (ps_set (i := 2) sc_divided.nd rfl (Or.inl rfl) (pe_op op_xor (pv 2) (pe_op op_shlW pe_int (pv 4)))) (pss_one (ps_set (i := 0) sc_divided.nd rfl (Or.inl rfl) (pe_op op_xor (pv 0) (pe_op op_shlW (pv 1) (pv 4)))))))) (pss_one (ps_ret (pe_tupQ (pe_tup (pa_cons (pv 2) (pa_cons (pv 0) pa_nil)))))))))), ?_⟩
    -- 34
    refine o_seq ?_
    refine o_ifs ?_
    refine ⟨_, rfl, ?_⟩
    refine o_c ?_
    refine k_eqI ?_
    refine ⟨_, rfl, ?_⟩
    refine iteS (c := (decide (key_2 = (0 : Int)))) (fun h3 => ?_) (fun h3 => ?_)
    · replace hm := ifT hm h3
      -- 35
      obtain rfl := Option.some.inj hm
      exact k _ O.ex
    · replace hm := ifF hm h3
      refine o_next ?_
      -- 36
      refine o_seq ?_
      refine o_asg ?_
      refine o_c ?_
      -- 37
      refine o_seq ?_
      refine o_asg ?_
      refine ⟨_, rfl, _, rfl, ?_⟩
      obtain ⟨size_4, h5, hm⟩ := ltvE hm
      refine a_set (congrArg V.int h5) ?_
      -- 38
      refine o_seq ?_
      obtain ⟨⟨number_9, whole_10⟩, h11, hm⟩ := bndE hm
      refine o_while (fun m σ H => ∃ (number_6 : Int) (whole_7 : Int) (j_8 : Option V), σ = [some (.int number_6), some (.int key_2), some (.int whole_7), some (.int size_4), j_8] ∧ Own H0 H [] ∧ whileM (fun s => m_divided_W0c key_2 size_4 s.1 s.2) (fun s => m_divided_W0 key_2 size_4 s.1 s.2) m (number_6, whole_7) = some (number_9, whole_10)) FUEL ⟨_, _, _, rfl, O, h11⟩ ?_ ?_
      · rintro σ H ⟨number_6, whole_7, j_8, rfl, O, hL⟩
        exact whileM_zero hL
      rintro m σ H ⟨number_6, whole_7, j_8, rfl, O, hL⟩
      have h21 := hm
      obtain ⟨b_, hm, hL⟩ := whileM_succ hL
      replace hm : m_divided_W0c key_2 size_4 number_6 whole_7 = some b_ := hm
      unfold m_divided_W0c at hm
      refine ⟨_, rfl, _, rfl, _, rfl, _, _, rfl, rfl, _, rfl, ?_⟩
      obtain rfl := Option.some.inj hm
      refine iteS (c := decide (size_4 ≤ (Builtin.Int.intBits number_6 : Int))) (fun h20 => ?_) (fun h20 => ?_)
      · obtain ⟨s_, hm, hL⟩ := bndE (ifT hL h20)
        replace hm : m_divided_W0 key_2 size_4 number_6 whole_7 = some s_ := hm
        unfold m_divided_W0 at hm
        refine o_turn ?_
        -- 39
        refine o_seq ?_
        refine o_asg ?_
        refine ⟨_, rfl, _, rfl, _, rfl, _, _, rfl, rfl, ?_⟩
        obtain ⟨at_12, h13, hm⟩ := ltvE hm
        refine a_set (congrArg V.int h13) ?_
        -- 40
        refine o_seq ?_
        refine o_asg ?_
        obtain ⟨t_14, h15, hm⟩ := bndE hm
        refine ⟨_, rfl, _, rfl, ?_⟩
        refine k_shl h15 ?_
        refine ⟨_, _, rfl, rfl, ?_⟩
        obtain ⟨whole_16, h17, hm⟩ := ltvE hm
        refine a_set (congrArg V.int h17) ?_
        -- 41
        refine o_asg ?_
        obtain ⟨t_18, h19, hm⟩ := bndE hm
        refine ⟨_, rfl, _, rfl, _, rfl, ?_⟩
        refine k_shl h19 ?_
        refine ⟨_, _, rfl, rfl, ?_⟩
        have Oz := O
        obtain rfl := Option.some.inj hm
        exact ⟨_, _, _, rfl, Oz, hL⟩
      cases whileM_end hL h20
      replace hm := h21
      -- 42
      refine o_ret ?_
      refine ⟨_, rfl, _, rfl, ?_⟩
      refine x_nil ?_
      refine n_tup O (by show 2 ≤ sizeLine; decide) fun p_22 H O => ?_
      obtain rfl := Option.some.inj hm
      exact RetT.go k O (hd_)
def m_number_of_L0  (bit_9 : Int) (number_3 : Int) : Option (Int) :=
  bnd (shlG number_3 (1 : Int)) fun t_13 =>
  some (Builtin.bitOr t_13 bit_9)
def m_number_of (bits_1 : List Int) : Option (Int) :=
  bnd (loopM (fun bit_9 s => m_number_of_L0 bit_9 s) bits_1 (0 : Int)) fun number_5 =>
  some number_5
def sp_number_of (K : PySem.W.Frag) : Sp := fun vs H Q _ => ∃ (bits_1 : List Int) (a_2 : Addr) (r : Int), vs = [.ref a_2] ∧ H a_2 = some (.lst (List.map V.int bits_1)) ∧ m_number_of bits_1 = some r ∧ RetV (.int r) H Q
abbrev N_number_of : List Str := ["bits", "number", "bit"]
theorem sc_number_of : FnScope N_number_of ["bits"] (defScope s_number_of) := ⟨rfl, rfl, rfl, by decide +kernel, rfl, by decide +kernel, by decide +kernel⟩
theorem ok_number_of {ad : Ad} (T : Txt K mg ad) : FnOk P w K mg base CX0 1 ad.f_number_of ad.fd_number_of ["bits"] (sp_number_of K) := by
  refine T.F_number_of.ok sc_number_of (fun vs H Q E h => ?_) (fun cdv A outer s H vs Q E hr h => ?_)
  · obtain ⟨_, _, _, rfl, _⟩ := h
    rfl
  · obtain ⟨bits_1, a_2, r, rfl, hp_a_2, hm, k⟩ := h
    unfold m_number_of at hm
    obtain ⟨H0, hH0⟩ : ∃ H0 : Hp, H0 = H := ⟨H, rfl⟩
    have O : Own H0 H [] := by rw [hH0]; exact Own.start H
    rw [← hH0] at k hp_a_2
    clear hH0
    refine ⟨_, (pss_cons (ps_set (i := 1) sc_number_of.nd rfl (Or.inl rfl) pe_int) (pss_cons (ps_for PassesOwn.never rfl (pi_list (pv 0)) (pg_name (i := 2) sc_number_of.nd rfl (Or.inl rfl)) (pss_one (ps_set (i := 1) sc_number_of.nd rfl (Or.inl rfl) (pe_op op_or (pe_op op_shlW (pv 1) pe_int) (pv 2))))) (pss_one (ps_ret (pv 1))))), ?_⟩
    -- 21
    refine o_seq ?_
    refine o_asg ?_
    refine o_c ?_
    -- 22
    refine o_seq ?_
    refine o_for ?_
    refine ⟨_, rfl, ?_⟩
    obtain ⟨number_5, h6, hm⟩ := bndE hm
    refine ⟨_, rfl, ⟨_, (SqL.of (O.ex _ _ hp_a_2))⟩, q_forL (f := V.int) (xs := bits_1) (fun r σ H => ∃ (number_3 : Int) (j_4 : Option V), σ = [some (.ref a_2), some (.int number_3), j_4] ∧ Own H0 H [] ∧ loopM (fun bit_9 s => m_number_of_L0 bit_9 s) r number_3 = some number_5) ⟨_, _, rfl, O, h6⟩ (by rintro r σ H ⟨number_3, j_4, rfl, O, hL⟩; exact (SqL.of (O.ex _ _ hp_a_2))) ?_ ?_⟩
    · rintro bit_9 r σ H ⟨number_3, j_4, rfl, O, hL⟩
      obtain ⟨s_, hm, h8⟩ := loopM_cons hL
      replace hm : m_number_of_L0 bit_9 number_3 = some s_ := hm
      unfold m_number_of_L0 at hm
      -- 23
      refine o_asg ?_
      obtain ⟨t_13, h14, hm⟩ := bndE hm
      refine ⟨_, rfl, ?_⟩
      refine o_c ?_
      refine k_shl h14 ?_
      refine ⟨_, rfl, _, _, rfl, rfl, ?_⟩
      have Oz := O
      obtain rfl := Option.some.inj hm
      exact ⟨_, _, rfl, Oz, h8⟩
    rintro σ H ⟨number_3, j_4, rfl, O, hL⟩
    cases loopM_nil hL
    -- 24
    refine o_ret ?_
    refine ⟨_, rfl, ?_⟩
    obtain rfl := Option.some.inj hm
    exact RetV.go k O
def m_rest_of (bits_1 : List Int) : Option (Int) :=
  bnd (m_number_of bits_1) fun number_3 =>
  bndO (m_divided number_3 (64647 : Int)) fun divide_5 =>
  some divide_5.2
def sp_rest_of (K : PySem.W.Frag) : Sp := fun vs H Q _ => ∃ (bits_1 : List Int) (a_2 : Addr) (r : Int), vs = [.ref a_2] ∧ H a_2 = some (.lst (List.map V.int bits_1)) ∧ m_rest_of bits_1 = some r ∧ RetV (.int r) H Q
abbrev N_rest_of : List Str := ["bits"]
theorem sc_rest_of : FnScope N_rest_of ["bits"] (defScope s_rest_of) := ⟨rfl, rfl, rfl, by decide +kernel, rfl, by decide +kernel, by decide +kernel⟩
theorem ok_rest_of {ad : Ad} (T : Txt K mg ad) : FnOk P w K mg base CX0 2 ad.f_rest_of ad.fd_rest_of ["bits"] (sp_rest_of K) := by
  have G_divided := ok_divided (P := P) (w := w) (base := base) T
  have G_number_of := ok_number_of (P := P) (w := w) (base := base) T
  refine T.F_rest_of.ok sc_rest_of (fun vs H Q E h => ?_) (fun cdv A outer s H vs Q E hr h => ?_)
  · obtain ⟨_, _, _, rfl, _⟩ := h
    rfl
  · obtain ⟨bits_1, a_2, r, rfl, hp_a_2, hm, k⟩ := h
    unfold m_rest_of at hm
    obtain ⟨H0, hH0⟩ : ∃ H0 : Hp, H0 = H := ⟨H, rfl⟩
    have O : Own H0 H [] := by rw [hH0]; exact Own.start H
    rw [← hH0] at k hp_a_2
    clear hH0
    refine ⟨_, (pss_one (ps_ret (pe_ix (r := rIxT K) ix_tup (pe_call G_divided (hr.mono (by decide)) (by rfl) T.g_divided T.F_divided.kp T.b_divided .nil passN (pa_cons (pe_call G_number_of (hr.mono (by decide)) (by rfl) T.g_number_of T.F_number_of.kp T.b_number_of .nil pass0 (pa_cons (pv 0) pa_nil)) (pa_cons (pe_gv rfl T.g_KEY) pa_nil))) pe_int (fun _ _ => rfl)))), ?_⟩
    -- 47
    refine o_ret ?_
    obtain ⟨number_3, h4, hm⟩ := bndE hm
    refine ⟨_, rfl, ?_⟩
    refine x_nil ?_
    refine ⟨_, _, number_3, rfl, (O.ex _ _ hp_a_2), h4, ?_⟩
    refine O.retV fun H O => ?_
    obtain ⟨divide_5, h6, hm⟩ := bndOE hm
    refine o_cons ?_
    refine o_c ?_
    refine x_nil ?_
    refine ⟨_, _, .ok divide_5, rfl, h6, ?_⟩
    refine RetR.ok ?_
    refine O.retT fun p_7 H O => ?_
    refine o_c ?_
    refine k_ixT (SqT.of (O.mem (hd_))) rfl ?_
    obtain rfl := Option.some.inj hm
    exact RetV.go k O
def m_check_of (bits_1 : List Int) : Option (List Int) :=
  bnd (repG ([(0 : Int)]) (15 : Int)) fun t_5 =>
  bnd (catG bits_1 t_5) fun t_8 =>
  bnd (m_rest_of t_8) fun rest_o_11 =>
  bndO (m_bits_of rest_o_11 (15 : Int)) fun bits_o_13 =>
  some bits_o_13
def sp_check_of (K : PySem.W.Frag) : Sp := fun vs H Q _ => ∃ (bits_1 : List Int) (a_2 : Addr) (r : List Int), vs = [.ref a_2] ∧ H a_2 = some (.lst (List.map V.int bits_1)) ∧ m_check_of bits_1 = some r ∧ RetL (List.map V.int r) H Q
abbrev N_check_of : List Str := ["bits"]
theorem sc_check_of : FnScope N_check_of ["bits"] (defScope s_check_of) := ⟨rfl, rfl, rfl, by decide +kernel, rfl, by decide +kernel, by decide +kernel⟩
theorem ok_check_of {ad : Ad} (T : Txt K mg ad) : FnOk P w K mg base CX0 3 ad.f_check_of ad.fd_check_of ["bits"] (sp_check_of K) := by
  have G_bits_of := ok_bits_of (P := P) (w := w) (base := base) T
  have G_rest_of := ok_rest_of (P := P) (w := w) (base := base) T
  refine T.F_check_of.ok sc_check_of (fun vs H Q E h => ?_) (fun cdv A outer s H vs Q E hr h => ?_)
  · obtain ⟨_, _, _, rfl, _⟩ := h
    rfl
  · obtain ⟨bits_1, a_2, r, rfl, hp_a_2, hm, k⟩ := h
    unfold m_check_of at hm
    obtain ⟨H0, hH0⟩ : ∃ H0 : Hp, H0 = H := ⟨H, rfl⟩
    have O : Own H0 H [] := by rw [hH0]; exact Own.start H
    rw [← hH0] at k hp_a_2
    clear hH0
    refine ⟨_, (pss_one (ps_ret (pe_call G_bits_of (hr.mono (by decide)) (by rfl) T.g_bits_of T.F_bits_of.kp T.b_bits_of .nil passN (pa_cons (pe_call G_rest_of (hr.mono (by decide)) (by rfl) T.g_rest_of T.F_rest_of.kp T.b_rest_of .nil pass0 (pa_cons (pe_op op_cat (pe_callTy (r := rListQ K) call_listQ (by rfl) T.z_list (by decide +kernel) (pa_cons (pv 0) pa_nil)) (pe_op op_rep (pe_lstQ (pe_lst (pa_cons pe_int pa_nil))) (pe_gv rfl T.g_WIDE))) pa_nil)) (pa_cons (pe_gv rfl T.g_WIDE) pa_nil))))), ?_⟩
    -- 49
    refine o_ret ?_
    refine ⟨_, rfl, ?_⟩
    refine x_nil ?_
    refine n_list O (SqL.of (O.ex _ _ hp_a_2)) fun p_3 H O => ?_
    refine o_op ?_
    refine o_cons ?_
    refine o_c ?_
    refine x_nil ?_
    refine n_lst (f := V.int) (xs := [(0 : Int)]) O rfl (by show 1 ≤ sizeLine; decide) fun p_4 H O => ?_
    obtain ⟨t_5, h6, hm⟩ := bndE hm
    refine o_c ?_
    refine k_rep (f := V.int) O (O.mem (hd_)) h6 fun p_7 H O => ?_
    obtain ⟨t_8, h9, hm⟩ := bndE hm
    refine k_cat (f := V.int) O (O.mem (tl_ (tl_ (hd_)))) (O.mem (hd_)) h9 fun p_10 H O => ?_
    obtain ⟨rest_o_11, h12, hm⟩ := bndE hm
    refine x_nil ?_
    refine ⟨_, _, rest_o_11, rfl, (O.mem (hd_)), h12, ?_⟩
    refine O.retV fun H O => ?_
    obtain ⟨bits_o_13, h14, hm⟩ := bndOE hm
    refine o_cons ?_
    refine o_c ?_
    refine x_nil ?_
    refine ⟨_, _, .ok bits_o_13, rfl, h14, ?_⟩
    refine RetR.ok ?_
    refine O.retL fun p_15 H O => ?_
    obtain rfl := Option.some.inj hm
    exact RetL.go k O (hd_)
def m_is_name (number_1 : Int) : Option (Bool) :=
  some (decide ((0 : Int) ≤ number_1) && decide (number_1 ≤ (255 : Int)))
def sp_is_name (K : PySem.W.Frag) : Sp := fun vs H Q _ => ∃ (number_1 : Int) (r : Bool), vs = [.int number_1] ∧ m_is_name number_1 = some r ∧ RetV (.bl r) H Q
abbrev N_is_name : List Str := ["number"]
theorem sc_is_name : FnScope N_is_name ["number"] (defScope s_is_name) := ⟨rfl, rfl, rfl, by decide +kernel, rfl, by decide +kernel, by decide +kernel⟩
theorem ok_is_name {ad : Ad} (T : Txt K mg ad) : FnOk P w K mg base CX0 1 ad.f_is_name ad.fd_is_name ["number"] (sp_is_name K) := by
  refine T.F_is_name.ok sc_is_name (fun vs H Q E h => ?_) (fun cdv A outer s H vs Q E hr h => ?_)
  · obtain ⟨_, _, rfl, _⟩ := h
    rfl
  · obtain ⟨number_1, r, rfl, hm, k⟩ := h
    unfold m_is_name at hm
    obtain ⟨H0, hH0⟩ : ∃ H0 : Hp, H0 = H := ⟨H, rfl⟩
    have O : Own H0 H [] := by rw [hH0]; exact Own.start H
    rw [← hH0] at k
    clear hH0
    refine ⟨_, (pss_one (ps_ret (pe_chain op_le op_le pe_int (pv 0) pe_int))), ?_⟩
    -- 52
    refine o_ret ?_
    refine x_chain (x := .int (0 : Int)) (y := .int number_1) (z := .int (255 : Int)) (c := decide ((0 : Int) ≤ number_1)) (e := decide (number_1 ≤ (255 : Int))) (d := (decide ((0 : Int) ≤ number_1) && decide (number_1 ≤ (255 : Int)))) O (fun Q1 k1 => ?_) (fun H O Q1 k1 => ?_) (fun _ _ k1 => ⟨_, _, rfl, rfl, k1⟩) (fun h2 => ⟨by rw [h2]; rfl, fun H O Q1 k1 => ?_⟩) (fun _ _ k1 => ⟨_, _, rfl, rfl, k1⟩) (fun h2 => by rw [h2]; rfl) (fun H O => ?_)
    · refine o_c ?_
      exact k1 _ O
    · refine ⟨_, rfl, ?_⟩
      exact k1 _ O
    · refine o_c ?_
      exact k1 _ O
    obtain rfl := Option.some.inj hm
    exact RetV.go k O
def m_frame_bits_L0  (byte_33 : Int) (bits_26 : List Int) : Option (Fl ((List Int)) (Rs (List Int))) :=
  ifB (decide (byte_33 < (0 : Int)) || decide ((255 : Int) < byte_33)) (
    some (.rt (.er .NoFrame))) (
    bndRF (m_bits_of byte_33 (8 : Int)) fun bits_o_39 =>
    bnd (catG bits_26 bits_o_39) fun t_44 =>
    some (.nx t_44))
def m_frame_bits (name_1 : Int) (data_2 : List Int) : Option (Rs (List Int)) :=
  bnd (m_is_name name_1) fun is_nam_5 =>
  ifB ((!is_nam_5) || decide ((7 : Int) < (List.length data_2 : Int))) (
    some (.er .NoFrame)) (
    bndR (m_bits_of name_1 (8 : Int)) fun bits_o_9 =>
    bnd (catG ([(0 : Int)]) bits_o_9) fun t_14 =>
    bndR (m_bits_of (List.length data_2 : Int) (3 : Int)) fun bits_o_17 =>
    bnd (catG t_14 bits_o_17) fun t_22 =>
    fin (loopF (fun byte_33 s => m_frame_bits_L0 byte_33 s) data_2 t_22) fun bits_26 =>
    bnd (m_check_of bits_26) fun check_47 =>
    bnd (catG bits_26 check_47) fun t_50 =>
    some (.ok t_50))
def sp_frame_bits (K : PySem.W.Frag) (d : Eds) : Sp := fun vs H Q E => ∃ (name_1 : Int) (data_2 : List Int) (a_3 : Addr) (r : Rs (List Int)), vs = [.int name_1, .ref a_3] ∧ H a_3 = some (.lst (List.map V.int data_2)) ∧ m_frame_bits name_1 data_2 = some r ∧ RetR (fun r => RetL (List.map V.int r) H Q) d r H E
abbrev N_frame_bits : List Str := ["name", "data", "bits", "byte"]
theorem sc_frame_bits : FnScope N_frame_bits ["name", "data"] (defScope s_frame_bits) := ⟨rfl, rfl, rfl, by decide +kernel, rfl, by decide +kernel, by decide +kernel⟩
theorem ok_frame_bits {ad : Ad} (T : Txt K mg ad) : FnOk P w K mg base (L2N.CX P w) 4 ad.f_frame_bits ad.fd_frame_bits ["name", "data"] (sp_frame_bits K ad.es) := by
  have G_bits_of := ok_bits_of (P := P) (w := w) (base := base) T
  have G_check_of := ok_check_of (P := P) (w := w) (base := base) T
  have G_is_name := ok_is_name (P := P) (w := w) (base := base) T
  refine okN T.F_frame_bits sc_frame_bits (fun vs H Q E h => ?_) (fun cdv A outer s H vs Q E hr h => ?_)
  · obtain ⟨_, _, _, _, rfl, _⟩ := h
    rfl
  · obtain ⟨name_1, data_2, a_3, r, rfl, hp_a_3, hm, k⟩ := h
    unfold m_frame_bits at hm
    obtain ⟨H0, hH0⟩ : ∃ H0 : Hp, H0 = H := ⟨H, rfl⟩
    have O : Own H0 H [] := by rw [hH0]; exact Own.start H
    rw [← hH0] at k hp_a_3
    clear hH0
    refine ⟨_, (pss_cons (ps_if (PW.pt (pw_or (pt_not (pt_val (pe_call G_is_name (hr.mono (by decide)) (by rfl) T.g_is_name T.F_is_name.kp T.b_is_name .nil pass0 (pa_cons (pv 0) pa_nil)))) (pw_or1 (pt_cmpR op_gt (pe_callB (r := rLenQ K) call_lenQ (by rfl) T.z_len PySem.boot_len (pa_cons (pv 1) pa_nil)) pe_int (nomark _))))) (pss_one (ps_errN T.e_NoFrame (L2N.takes_of rfl rfl rfl rfl) rfl rfl)) pss_nil) (pss_cons (ps_set (i := 2) sc_frame_bits.nd rfl (Or.inl rfl) (pe_op op_cat (pe_op op_cat (pe_lstQ (pe_lst (pa_cons pe_int pa_nil))) (pe_call G_bits_of (hr.mono (by decide)) (by rfl) T.g_bits_of T.F_bits_of.kp T.b_bits_of .nil (E := E) (L2N.passes_call (L2N.takes_of rfl rfl rfl rfl) fun _ _ _ _ h => h) (pa_cons (pv 0) (pa_cons pe_int pa_nil)))) (pe_call G_bits_of (hr.mono (by decide)) (by rfl) T.g_bits_of T.F_bits_of.kp T.b_bits_of .nil (E := E) (L2N.passes_call (L2N.takes_of rfl rfl rfl rfl) fun _ _ _ _ h => h) (pa_cons (pe_callB (r := rLenQ K) call_lenQ (by rfl) T.z_len PySem.boot_len (pa_cons (pv 1) pa_nil)) (pa_cons pe_int pa_nil))))) (pss_cons (ps_for (passes_of rfl) rfl (pi_list (pv 1)) (pg_name (i := 3) sc_frame_bits.nd rfl (Or.inl rfl)) (pss_cons (ps_if (PW.pt (pw_or (pt_cmpR op_lt (pv 3) pe_int (nomark _)) (pw_or1 (pt_cmpR op_gt (pv 3) pe_int (nomark _))))) (pss_one (ps_errN T.e_NoFrame (L2N.takes_of rfl rfl rfl rfl) rfl rfl)) pss_nil) (pss_one (ps_set (i := 2) sc_frame_bits.nd rfl (Or.inl rfl) (pe_op op_cat (pv 2) (pe_call G_bits_of (hr.mono (by decide)) (by rfl) T.g_bits_of T.F_bits_of.kp T.b_bits_of .nil (E := E) (L2N.passes_call (L2N.takes_of rfl rfl rfl rfl) fun _ _ _ _ h => h) (pa_cons (pv 3) (pa_cons pe_int pa_nil)))))))) (pss_one (ps_ret (pe_op op_cat (pv 2) (pe_call G_check_of (hr.mono (by decide)) (by rfl) T.g_check_of T.F_check_of.kp T.b_check_of .nil pass0 (pa_cons (pv 2) pa_nil)))))))), ?_⟩
    -- 85
    refine o_seq ?_
    refine o_ifs ?_
    obtain ⟨is_nam_5, h6, hm⟩ := bndE hm
    refine x_or (c := (!is_nam_5)) (e := decide ((7 : Int) < (List.length data_2 : Int))) (d := ((!is_nam_5) || decide ((7 : Int) < (List.length data_2 : Int)))) O (fun Q1 k1 => ?_) (fun h4 => ⟨by rw [h4]; rfl, fun H O Q2 k2 => ?_⟩) (fun h4 => by rw [h4]; rfl) (fun H O => ?_)
    · refine ⟨_, rfl, ?_⟩
      refine x_nil ?_
      refine ⟨_, is_nam_5, rfl, h6, ?_⟩
      refine O.retV fun H O => ?_
      refine ⟨_, rfl, ?_⟩
      exact k1 _ O
    · refine ⟨_, rfl, ?_⟩
      refine x_nil ?_
      refine n_len (SqL.of (O.ex _ _ hp_a_3)) ?_
      refine ⟨_, _, rfl, rfl, _, rfl, ?_⟩
      exact k2 _ O
    refine iteS (c := ((!is_nam_5) || decide ((7 : Int) < (List.length data_2 : Int)))) (fun h7 => ?_) (fun h7 => ?_)
    · replace hm := ifT hm h7
      -- 86
      obtain rfl := Option.some.inj hm
      exact k _ O.ex
    · replace hm := ifF hm h7
      refine o_next ?_
      -- 87
      refine o_seq ?_
      refine o_asg ?_
      refine o_op ?_
      refine o_op ?_
      refine o_cons ?_
      refine o_c ?_
      refine x_nil ?_
      refine n_lst (f := V.int) (xs := [(0 : Int)]) O rfl (by show 1 ≤ sizeLine; decide) fun p_8 H O => ?_
      obtain ⟨x_11, h10, hm⟩ := bndRE hm
      refine ⟨_, rfl, ?_⟩
      refine o_cons ?_
      refine o_c ?_
      refine x_nil ?_
      refine ⟨_, _, x_11, rfl, h10, ?_⟩
      refine RetR.split (fun e_ h12 => ?_) (fun bits_o_9 h12 => ?_)
      · subst h12
        obtain rfl := erR hm
        exact RetE.go k O
      subst h12
      replace hm := okR hm
      refine O.retL fun p_13 H O => ?_
      obtain ⟨t_14, h15, hm⟩ := bndE hm
      refine k_cat (f := V.int) O (O.mem (tl_ (hd_))) (O.mem (hd_)) h15 fun p_16 H O => ?_
      refine ⟨_, rfl, ?_⟩
      refine x_nil ?_
      refine n_len (SqL.of (O.ex _ _ hp_a_3)) ?_
      obtain ⟨x_19, h18, hm⟩ := bndRE hm
      refine o_cons ?_
      refine o_c ?_
      refine x_nil ?_
      refine ⟨_, _, x_19, rfl, h18, ?_⟩
      refine RetR.split (fun e_ h20 => ?_) (fun bits_o_17 h20 => ?_)
      · subst h20
        obtain rfl := erR hm
        exact RetE.go k O
      subst h20
      replace hm := okR hm
      refine O.retL fun p_21 H O => ?_
      obtain ⟨t_22, h23, hm⟩ := bndE hm
      refine k_cat (f := V.int) O (O.mem (tl_ (hd_))) (O.mem (hd_)) h23 fun p_24 H O => ?_
      -- 88
      refine o_seq ?_
      refine o_for ?_
      refine ⟨_, rfl, ?_⟩
      obtain ⟨out_34, h30, h31⟩ := bndE hm
      refine ⟨_, rfl, ⟨_, (SqL.of (O.ex _ _ hp_a_3))⟩, q_forL (f := V.int) (xs := data_2) (fun r σ H => ∃ (p_27 : Addr) (bits_26 : List Int) (j_25 : Option V) (j_28 : Option V), σ = [j_25, some (.ref a_3), some (.ref p_27), j_28] ∧ Own H0 H [(p_27, .lst (List.map V.int bits_26))] ∧ loopF (fun byte_33 s => m_frame_bits_L0 byte_33 s) r bits_26 = some out_34) ⟨p_24, _, _, _, rfl, (Own.pk (L' := [(p_24, .lst (List.map V.int t_22))]) O [0] (by decide) rfl), h30⟩ (by rintro r σ H ⟨p_27, bits_26, j_25, j_28, rfl, O, hL⟩; exact (SqL.of (O.ex _ _ hp_a_3))) ?_ ?_⟩
      · rintro byte_33 r σ H ⟨p_27, bits_26, j_25, j_28, rfl, O, hL⟩
        obtain ⟨s_, hm, h32⟩ := loopF_cons hL
        replace hm : m_frame_bits_L0 byte_33 bits_26 = some s_ := hm
        unfold m_frame_bits_L0 at hm
        -- 89
        refine o_seq ?_
        refine o_ifs ?_
        refine x_or (c := decide (byte_33 < (0 : Int))) (e := decide ((255 : Int) < byte_33)) (d := (decide (byte_33 < (0 : Int)) || decide ((255 : Int) < byte_33))) O (fun Q1 k1 => ?_) (fun h37 => ⟨by rw [h37]; rfl, fun H O Q2 k2 => ?_⟩) (fun h37 => by rw [h37]; rfl) (fun H O => ?_)
        · refine ⟨_, rfl, _, _, rfl, rfl, _, rfl, ?_⟩
          exact k1 _ O
        · refine ⟨_, rfl, _, _, rfl, rfl, _, rfl, ?_⟩
          exact k2 _ O
        refine iteS (c := (decide (byte_33 < (0 : Int)) || decide ((255 : Int) < byte_33))) (fun h38 => ?_) (fun h38 => ?_)
        · replace hm := ifT hm h38
          -- 90
          obtain rfl := Option.some.inj hm
          obtain rfl := contRt h32
          obtain rfl := finRt h31
          exact k _ O.ex
        · replace hm := ifF hm h38
          refine o_next ?_
          -- 91
          refine o_asg ?_
          obtain ⟨x_41, h40, hm⟩ := bndRFE hm
          refine ⟨_, rfl, _, rfl, ?_⟩
          refine o_cons ?_
          refine o_c ?_
          refine x_nil ?_
          refine ⟨_, _, x_41, rfl, h40, ?_⟩
          refine RetR.split (fun e_ h42 => ?_) (fun bits_o_39 h42 => ?_)
          · subst h42
            obtain rfl := erRF hm
            obtain rfl := contRt h32
            obtain rfl := finRt h31
            exact RetE.go k O
          subst h42
          replace hm := okRF hm
          refine O.retL fun p_43 H O => ?_
          obtain ⟨t_44, h45, hm⟩ := bndE hm
          refine k_cat (f := V.int) O (O.mem (tl_ (hd_))) (O.mem (hd_)) h45 fun p_46 H O => ?_
          have Oz := O
          obtain rfl := Option.some.inj hm
          exact ⟨p_46, _, _, _, rfl, (Own.pk (L' := [(p_46, .lst (List.map V.int t_44))]) Oz [0] (by decide) rfl), h32⟩
      rintro σ H ⟨p_27, bits_26, j_25, j_28, rfl, O, hL⟩
      obtain rfl := loopF_nil hL
      replace hm := finNx h31
      -- 92
      refine o_ret ?_
      obtain ⟨check_47, h48, hm⟩ := bndE hm
      refine ⟨_, rfl, _, rfl, ?_⟩
      refine x_nil ?_
      refine ⟨_, _, check_47, rfl, (O.mem (hd_)), h48, ?_⟩
      refine O.retL fun p_49 H O => ?_
      obtain ⟨t_50, h51, hm⟩ := bndE hm
      refine k_cat (f := V.int) O (O.mem (tl_ (hd_))) (O.mem (hd_)) h51 fun p_52 H O => ?_
      obtain rfl := Option.some.inj hm
      exact RetL.go k O (hd_)
def m_wire_of (name_1 : Int) (data_2 : List Int) : Option (Rs (List Int)) :=
  bndR (m_frame_bits name_1 data_2) fun frame_4 =>
  bnd (m_put_in frame_4) fun put_in_9 =>
  some (.ok put_in_9)
def sp_wire_of (K : PySem.W.Frag) (d : Eds) : Sp := fun vs H Q E => ∃ (name_1 : Int) (data_2 : List Int) (a_3 : Addr) (r : Rs (List Int)), vs = [.int name_1, .ref a_3] ∧ H a_3 = some (.lst (List.map V.int data_2)) ∧ m_wire_of name_1 data_2 = some r ∧ RetR (fun r => RetL (List.map V.int r) H Q) d r H E
abbrev N_wire_of : List Str := ["name", "data"]
theorem sc_wire_of : FnScope N_wire_of ["name", "data"] (defScope s_wire_of) := ⟨rfl, rfl, rfl, by decide +kernel, rfl, by decide +kernel, by decide +kernel⟩
theorem ok_wire_of {ad : Ad} (T : Txt K mg ad) : FnOk P w K mg base (L2N.CX P w) 5 ad.f_wire_of ad.fd_wire_of ["name", "data"] (sp_wire_of K ad.es) := by
  have G_frame_bits := ok_frame_bits (P := P) (w := w) (base := base) T
  have G_put_in := ok_put_in (P := P) (w := w) (base := base) T
  refine okN T.F_wire_of sc_wire_of (fun vs H Q E h => ?_) (fun cdv A outer s H vs Q E hr h => ?_)
  · obtain ⟨_, _, _, _, rfl, _⟩ := h
    rfl
  · obtain ⟨name_1, data_2, a_3, r, rfl, hp_a_3, hm, k⟩ := h
    unfold m_wire_of at hm
    obtain ⟨H0, hH0⟩ : ∃ H0 : Hp, H0 = H := ⟨H, rfl⟩
    have O : Own H0 H [] := by rw [hH0]; exact Own.start H
    rw [← hH0] at k hp_a_3
    clear hH0
    refine ⟨_, (pss_one (ps_ret (pe_call G_put_in (hr.mono (by decide)) (by rfl) T.g_put_in T.F_put_in.kp T.b_put_in .nil pass0 (pa_cons (pe_call G_frame_bits (hr.mono (by decide)) (by rfl) T.g_frame_bits T.F_frame_bits.kp T.b_frame_bits .nil (E := E) (L2N.passes_call (L2N.takes_of rfl rfl rfl rfl) fun _ _ _ _ h => h) (pa_cons (pv 0) (pa_cons (pv 1) pa_nil))) pa_nil)))), ?_⟩
    -- 104
    refine o_ret ?_
    obtain ⟨x_6, h5, hm⟩ := bndRE hm
    refine ⟨_, rfl, _, rfl, ?_⟩
    refine x_nil ?_
    refine ⟨_, _, _, x_6, rfl, (O.ex _ _ hp_a_3), h5, ?_⟩
    refine RetR.split (fun e_ h7 => ?_) (fun frame_4 h7 => ?_)
    · subst h7
      obtain rfl := erR hm
      exact RetE.go k O
    subst h7
    replace hm := okR hm
    refine O.retL fun p_8 H O => ?_
    obtain ⟨put_in_9, h10, hm⟩ := bndE hm
    refine x_nil ?_
    refine ⟨_, _, put_in_9, rfl, (O.mem (hd_)), h10, ?_⟩
    refine O.retL fun p_11 H O => ?_
    obtain rfl := Option.some.inj hm
    exact RetL.go k O (hd_)
def m_rows_of_L1 (some_1 : List Int) (at_10 : Int) (k_38 : Int) (rows_29 : List (List Int)) (ends_31 : List Int) : Option ((List (List Int)) × (List Int)) :=
  bnd (atI rows_29 at_10) fun e_42 =>
  bnd (atI some_1 k_38) fun e_47 =>
  bnd (catG e_42 ([e_47])) fun t_50 =>
  bnd (appG rows_29 t_50) fun l_53 =>
  bnd (appG ends_31 k_38) fun l_55 =>
  some (l_53, l_55)
def m_rows_of_W0c (some_1 : List Int) (most_3 : Int) (rows_7 : List (List Int)) (ends_9 : List Int) (at_10 : Int) : Option Bool :=
  bnd (ifB (decide (at_10 < (List.length rows_7 : Int))) (bnd (atI rows_7 at_10) fun e_18 => some (decide ((List.length e_18 : Int) < most_3))) (some false)) fun c_23 =>
  some c_23
def m_rows_of_W0 (some_1 : List Int) (most_3 : Int) (rows_7 : List (List Int)) (ends_9 : List Int) (at_10 : Int) : Option ((List (List Int)) × (List Int) × Int) :=
  bnd (atI ends_9 at_10) fun e_25 =>
  bnd (rng2 (e_25 + (1 : Int)) (List.length some_1 : Int)) fun rg_27 =>
  bnd (loopM (fun k_38 s => m_rows_of_L1 some_1 at_10 k_38 s.1 s.2) rg_27 (rows_7, ends_9)) fun (rows_33, ends_34) =>
  some (rows_33, ends_34, (at_10 + (1 : Int)))
def m_rows_of (some_1 : List Int) (most_3 : Int) : Option (List (List Int)) :=
  bnd (whileM (fun s => m_rows_of_W0c some_1 most_3 s.1 s.2.1 s.2.2) (fun s => m_rows_of_W0 some_1 most_3 s.1 s.2.1 s.2.2) FUEL ([([] : List Int)], [(-(1 : Int))], (0 : Int))) fun (rows_12, ends_13, at_14) =>
  some rows_12
def sp_rows_of (K : PySem.W.Frag) (ad : Ad) : Sp := fun vs H Q _ => ∃ (some_1 : List Int) (a_2 : Addr) (most_3 : Int) (R0 : Hp) (r : List (List Int)), vs = [.ref a_2, .int most_3] ∧ Own R0 H [] ∧ (hsub H []) a_2 = some (.lst (List.map V.int some_1)) ∧ m_rows_of some_1 most_3 = some r ∧ RetX R0 (hsub H []) (dP (rL (rL rI)) r) Q
abbrev N_rows_of : List Str := ["some", "most", "rows", "ends", "at", "k"]
theorem sc_rows_of : FnScope N_rows_of ["some", "most"] (defScope s_rows_of) := ⟨rfl, rfl, rfl, by decide +kernel, rfl, by decide +kernel, by decide +kernel⟩
theorem ok_rows_of {ad : Ad} (T : Txt K mg ad) : FnOk P w K mg base CX0 1 ad.f_rows_of ad.fd_rows_of ["some", "most"] (sp_rows_of K ad) := by
  refine T.F_rows_of.ok sc_rows_of (fun vs H Q E h => ?_) (fun cdv A outer s H vs Q E hr h => ?_)
  · obtain ⟨_, _, _, _, _, rfl, _⟩ := h
    rfl
  · obtain ⟨some_1, a_2, most_3, R0, r, rfl, OO, hp_a_2, hm, k⟩ := h
    unfold m_rows_of at hm
    obtain ⟨Hb, hHb⟩ : ∃ Hb : Hp, Hb = hsub H [] := ⟨_, rfl⟩
    obtain ⟨H0, hH0⟩ : ∃ H0 : Hp, H0 = Hb := ⟨Hb, rfl⟩
    have O : Own H0 H [] := by rw [hH0, hHb]; exact OO.startX
    have eR : Ex R0 Hb := by rw [hHb]; exact OO.subR
    rw [← hHb] at k hp_a_2
    have eB : Ex Hb H0 := by rw [hH0]; exact Ex.refl _
    have eS : Ex R0 (ovr R0 Hb H0) := by rw [hH0]; exact ovr_start eR
    rw [← hH0] at hp_a_2
    clear hH0
    refine ⟨_, (pss_cons (ps_set (i := 2) sc_rows_of.nd rfl (Or.inl rfl) (pe_lstQ (pe_lst (pa_cons (pe_lstQ (pe_lst pa_nil)) pa_nil)))) (pss_cons (ps_set (i := 3) sc_rows_of.nd rfl (Or.inl rfl) (pe_lstQ (pe_lst (pa_cons (pe_un un_neg pe_int) pa_nil)))) (pss_cons (ps_set (i := 4) sc_rows_of.nd rfl (Or.inl rfl) pe_int) (pss_cons (ps_while PassesOwn.never (PW.pt (pw_and (pt_cmpR op_lt (pv 4) (pe_callB (r := rLenQ K) call_lenQ (by rfl) T.z_len PySem.boot_len (pa_cons (pv 2) pa_nil)) (nomark _)) (pw_and1 (pt_cmpR op_lt (pe_callB (r := rLenQ K) call_lenQ (by rfl) T.z_len PySem.boot_len (pa_cons (pe_ix (r := rIxL K) ix_list (pv 2) (pv 4) (fun _ _ => rfl)) pa_nil)) (pv 1) (nomark _))))) (pss_cons (ps_for PassesOwn.never rfl (pi_range2 (by rfl) T.z_range (pa_cons (pe_op op_add (pe_ix (r := rIxL K) ix_list (pv 3) (pv 4) (fun _ _ => rfl)) pe_int) (pa_cons (pe_callB (r := rLenQ K) call_lenQ (by rfl) T.z_len PySem.boot_len (pa_cons (pv 0) pa_nil)) pa_nil))) (pg_name (i := 5) sc_rows_of.nd rfl (Or.inl rfl)) (pss_cons (ps_expr (pe_bm PySem.F.plainAttrs_list PySem.F.slot_list_append PySem.F.type_list_append mt_append (pv 2) (pa_cons (pe_op op_cat (pe_ix (r := rIxL K) ix_list (pv 2) (pv 4) (fun _ _ => rfl)) (pe_lstQ (pe_lst (pa_cons (pe_ix (r := rIxL K) ix_list (pv 0) (pv 5) (fun _ _ => rfl)) pa_nil)))) pa_nil))) (pss_one (ps_expr (pe_bm PySem.F.plainAttrs_list PySem.F.slot_list_append PySem.F.type_list_append mt_append (pv 3) (pa_cons (pv 5) pa_nil)))))) (pss_one (ps_set (i := 4) sc_rows_of.nd rfl (Or.inl rfl) (pe_op op_add (pv 4) pe_int))))) (pss_one (ps_ret (pv 2))))))), ?_⟩
    -- 109
    refine o_seq ?_
    refine o_asg ?_
    refine o_cons ?_
    refine x_nil ?_
    refine n_lst (f := V.int) (xs := ([] : List Int)) O rfl (Nat.zero_le _) fun p_4 H O => ?_
    refine x_nil ?_
    obtain ⟨H0, O, e_, hp_p_4⟩ := O.frzO (R0 := R0) eB
    replace hp_a_2 := e_ _ _ hp_a_2
    replace eB := eB.trans e_
    refine n_lstV O (by show 1 ≤ sizeLine; decide) fun p_5 H O => ?_
    have ha_p_5 : All2 ((rL rI) (ovr R0 Hb H0)) ([.ref p_4] : List V) ([([] : List Int)] : List (List Int)) := (.cons (gI hp_p_4) .nil)
    -- 110
    refine o_seq ?_
    refine o_asg ?_
    refine ⟨_, rfl, ?_⟩
    refine x_nil ?_
    refine n_lst (f := V.int) (xs := [(-(1 : Int))]) O rfl (by show 1 ≤ sizeLine; decide) fun p_6 H O => ?_
    -- 111
    refine o_seq ?_
    refine o_asg ?_
    refine o_c ?_
    -- 112
    refine o_seq ?_
    obtain ⟨⟨rows_12, ends_13, at_14⟩, h15, hm⟩ := bndE hm
    refine o_while (fun m σ H => ∃ (R_ : Hp) (rows_7 : List (List Int)) (ends_9 : List Int) (at_10 : Int) (vs_8 : List V) (j_11 : Option V), σ = [some (.ref a_2), some (.int most_3), some (.ref p_5), some (.ref p_6), some (.int at_10), j_11] ∧ Ex H0 R_ ∧ Own R_ H [(p_5, .lst vs_8), (p_6, .lst (List.map V.int ends_9))] ∧ All2 ((rL rI) (ovr R0 Hb R_)) vs_8 rows_7 ∧ whileM (fun s => m_rows_of_W0c some_1 most_3 s.1 s.2.1 s.2.2) (fun s => m_rows_of_W0 some_1 most_3 s.1 s.2.1 s.2.2) m (rows_7, ends_9, at_10) = some (rows_12, ends_13, at_14)) FUEL ⟨H0, _, _, _, (([.ref p_4] : List V)), _, rfl, Ex.refl _, (Own.pk (L' := [(p_5, .lst ([.ref p_4] : List V)), (p_6, .lst (List.map V.int ([(-(1 : Int))])))]) O [1, 0] (by decide) rfl), ha_p_5, h15⟩ ?_ ?_
    · rintro σ H ⟨H0, rows_7, ends_9, at_10, vs_8, j_11, rfl, eJ_, O, ha_p_5, hL⟩
      exact whileM_zero hL
    rintro m σ H ⟨H0, rows_7, ends_9, at_10, vs_8, j_11, rfl, eL11, O, ha_p_5, hL⟩
    replace hp_a_2 := eL11 _ _ hp_a_2
    replace eB := eB.trans eL11
    have h58 := hm
    obtain ⟨b_, hm, hL⟩ := whileM_succ hL
    replace hm : m_rows_of_W0c some_1 most_3 rows_7 ends_9 at_10 = some b_ := hm
    unfold m_rows_of_W0c at hm
    obtain ⟨c_23, h24, hm⟩ := bndE hm
    refine x_andJ (c := decide (at_10 < (List.length rows_7 : Int))) (e := c_23) (d := c_23) (fun H => ∃ (R_ : Hp), Ex H0 R_ ∧ Own R_ H [(p_5, .lst vs_8), (p_6, .lst (List.map V.int ends_9))]) (fun Q1 k1 => ?_) (fun h16 => ⟨rfl, fun H hJ Q2 k2 => ?_⟩) (fun h16 => Option.some.inj (ifF h24 h16)) (fun H hJ => ?_)
    · have eJ17 : Ex H0 H0 := Ex.refl _
      refine ⟨_, rfl, _, rfl, ?_⟩
      refine x_nil ?_
      refine n_lenA (SqL.of (O.mem (hd_))) ha_p_5 ?_
      refine ⟨_, _, rfl, rfl, _, rfl, ?_⟩
      exact k1 _ ⟨H0, eJ17, O⟩
    · replace hm := ifT h24 h16
      obtain ⟨e_18, h19, hm⟩ := bndE hm
      obtain rfl := Option.some.inj hm
      obtain ⟨H0, eJ17, O⟩ := hJ
      replace hp_a_2 := eJ17 _ _ hp_a_2
      replace ha_p_5 := mA (mL mI) (ovr_mono eJ17) ha_p_5
      replace eB := eB.trans eJ17
      replace eL11 := eL11.trans eJ17
      refine ⟨_, rfl, _, rfl, ?_⟩
      refine k_ixA (SqL.of (O.mem (hd_))) ha_p_5 h19 fun w_20 h21 => ?_
      obtain ⟨p_22, rfl, hp_p_22⟩ := fI h21
      refine x_nil ?_
      refine n_len (SqL.of (O.ex _ _ (ovr_ex _ _ hp_p_22))) ?_
      refine ⟨_, rfl, _, _, rfl, rfl, _, rfl, ?_⟩
      exact k2 _ ⟨H0, eJ17, O⟩
    obtain ⟨H0, eJ17, O⟩ := hJ
    replace hp_a_2 := eJ17 _ _ hp_a_2
    replace ha_p_5 := mA (mL mI) (ovr_mono eJ17) ha_p_5
    replace eB := eB.trans eJ17
    replace eL11 := eL11.trans eJ17
    obtain rfl := Option.some.inj hm
    refine iteS (c := c_23) (fun h57 => ?_) (fun h57 => ?_)
    · obtain ⟨s_, hm, hL⟩ := bndE (ifT hL h57)
      replace hm : m_rows_of_W0 some_1 most_3 rows_7 ends_9 at_10 = some s_ := hm
      unfold m_rows_of_W0 at hm
      refine o_turn ?_
      -- 113
      refine o_seq ?_
      refine o_for ?_
      obtain ⟨e_25, h26, hm⟩ := bndE hm
      refine ⟨_, rfl, _, rfl, ?_⟩
      refine k_ixL (f := V.int) (SqL.of (O.mem (tl_ (hd_)))) h26 ?_
      refine ⟨_, _, rfl, rfl, _, rfl, ?_⟩
      refine x_nil ?_
      refine n_len (SqL.of (O.ex _ _ hp_a_2)) ?_
      obtain ⟨rg_27, h28, hm⟩ := bndE hm
      refine x_nil ?_
      obtain ⟨c1, rfl⟩ := rng2E h28
      obtain ⟨⟨rows_33, ends_34⟩, h35, hm⟩ := bndE hm
      refine ⟨_, _, rfl, c1, q_forR (fun r σ H => ∃ (R_ : Hp) (rows_29 : List (List Int)) (ends_31 : List Int) (vs_30 : List V) (j_32 : Option V), σ = [some (.ref a_2), some (.int most_3), some (.ref p_5), some (.ref p_6), some (.int at_10), j_32] ∧ Ex H0 R_ ∧ Own R_ H [(p_5, .lst vs_30), (p_6, .lst (List.map V.int ends_31))] ∧ All2 ((rL rI) (ovr R0 Hb R_)) vs_30 rows_29 ∧ loopM (fun k_38 s => m_rows_of_L1 some_1 at_10 k_38 s.1 s.2) r (rows_29, ends_31) = some (rows_33, ends_34)) ⟨H0, _, _, (vs_8), _, rfl, Ex.refl _, O, ha_p_5, h35⟩ ?_ ?_⟩
      · rintro k_38 r σ H ⟨H0, rows_29, ends_31, vs_30, j_32, rfl, eL39, O, ha_p_5, hL⟩
        replace hp_a_2 := eL39 _ _ hp_a_2
        replace eB := eB.trans eL39
        replace eL11 := eL11.trans eL39
        obtain ⟨s_, hm, h37⟩ := loopM_cons hL
        replace hm : m_rows_of_L1 some_1 at_10 k_38 rows_29 ends_31 = some s_ := hm
        unfold m_rows_of_L1 at hm
        -- 114
        refine o_seq ?_
        refine o_drop ?_
        obtain ⟨e_42, h43, hm⟩ := bndE hm
        refine ⟨_, rfl, .inl ⟨rfl, _, (SqL.of (O.mem (hd_)))⟩, _, rfl, _, rfl, ?_⟩
        refine k_ixA (SqL.of (O.mem (hd_))) ha_p_5 h43 fun w_44 h45 => ?_
        obtain ⟨p_46, rfl, hp_p_46⟩ := fI h45
        obtain ⟨e_47, h48, hm⟩ := bndE hm
        refine ⟨_, rfl, _, rfl, ?_⟩
        refine k_ixL (f := V.int) (SqL.of (O.ex _ _ hp_a_2)) h48 ?_
        refine x_nil ?_
        refine n_lst (f := V.int) (xs := [e_47]) O rfl (by show 1 ≤ sizeLine; decide) fun p_49 H O => ?_
        obtain ⟨t_50, h51, hm⟩ := bndE hm
        refine k_cat (f := V.int) O (O.ex _ _ (ovr_ex _ _ hp_p_46)) (O.mem (hd_)) h51 fun p_52 H O => ?_
        refine x_nil ?_
        obtain ⟨H0, O, e_, hp_p_52⟩ := O.frzO (R0 := R0) eB
        replace hp_a_2 := e_ _ _ hp_a_2
        replace ha_p_5 := mA (mL mI) (ovr_mono e_) ha_p_5
        replace hp_p_46 := (ovr_mono e_) _ _ hp_p_46
        replace eB := eB.trans e_
        replace eL11 := eL11.trans e_
        replace eL39 := eL39.trans e_
        obtain ⟨l_53, h54, hm⟩ := bndE hm
        refine k_appA (O.mem (tl_ (hd_))) ha_p_5 (fun _ => O.put1) h54 (gI hp_p_52) fun H O ha_p_5 => ?_
        replace O := O.tl
        -- 115
        refine o_drop ?_
        obtain ⟨l_55, h56, hm⟩ := bndE hm
        refine ⟨_, rfl, .inl ⟨rfl, _, (SqL.of (O.mem (tl_ (hd_))))⟩, _, rfl, ?_⟩
        refine x_nil ?_
        refine k_app (f := V.int) (O.mem (tl_ (hd_))) (fun _ => O.put1) h56 fun H O => ?_
        have Oz := O
        obtain rfl := Option.some.inj hm
        exact ⟨H0, _, _, ((vs_30 ++ [.ref p_52])), _, rfl, eL39, Oz, ha_p_5, h37⟩
      rintro σ H ⟨H0, rows_29, ends_31, vs_30, j_32, rfl, eJ_, O, ha_p_5, hL⟩
      replace hp_a_2 := eJ_ _ _ hp_a_2
      replace eB := eB.trans eJ_
      replace eL11 := eL11.trans eJ_
      cases loopM_nil hL
      -- 116
      refine o_asg ?_
      refine ⟨_, rfl, _, _, rfl, rfl, ?_⟩
      have Oz := O
      obtain rfl := Option.some.inj hm
      exact ⟨H0, _, _, _, (vs_30), _, rfl, eL11, Oz, ha_p_5, hL⟩
    cases whileM_end hL h57
    replace hm := h58
    -- 117
    refine o_ret ?_
    refine ⟨_, rfl, ?_⟩
    obtain rfl := Option.some.inj hm
    obtain ⟨H0, O, e_, hp_p_5⟩ := O.frzO (R0 := R0) eB
    replace hp_a_2 := e_ _ _ hp_a_2
    replace ha_p_5 := mA (mL mI) (ovr_mono e_) ha_p_5
    replace eB := eB.trans e_
    have hn_p_5 : (rL (rL rI)) (ovr R0 Hb H0) (.ref p_5) rows_12 := ⟨_, _, rfl, hp_p_5, ha_p_5⟩
    exact k _ _ H0 _ eB (by exact (Own.pk O [] (by decide) rfl)) ⟨rfl, hn_p_5⟩
def m_read_frame_L0 (bits_1 : List Int) (k_29 : Int) (data_23 : List Int) : Option ((List Int)) :=
  bnd (m_number_of (cutL bits_1 (some ((12 : Int) + ((8 : Int) * k_29))) (some (((12 : Int) + ((8 : Int) * k_29)) + (8 : Int))))) fun number_34 =>
  bnd (appG data_23 number_34) fun l_36 =>
  some l_36
def m_read_frame (bits_1 : List Int) : Option (Rs (Int × (List Int))) :=
  bnd (ifB (decide ((List.length bits_1 : Int) < (27 : Int))) (some true) (bnd (atI bits_1 (0 : Int)) fun e_5 => some (decide (e_5 = (1 : Int))))) fun c_7 =>
  ifB c_7 (
    some (.er .NoFrame)) (
    bnd (m_number_of (cutL bits_1 (some (9 : Int)) (some (12 : Int)))) fun number_11 =>
    bnd (ifB (!decide ((List.length bits_1 : Int) = ((27 : Int) + ((8 : Int) * number_11)))) (some true) (bnd (m_rest_of bits_1) fun rest_o_15 => some (!decide (rest_o_15 = (0 : Int))))) fun c_17 =>
    ifB c_17 (
      some (.er .NoFrame)) (
      bnd (rng1 number_11) fun rg_21 =>
      bnd (loopM (fun k_29 s => m_read_frame_L0 bits_1 k_29 s) rg_21 ([] : List Int)) fun data_25 =>
      bnd (m_number_of (cutL bits_1 (some (1 : Int)) (some (9 : Int)))) fun number_39 =>
      some (.ok (number_39, data_25))))
def sp_read_frame (K : PySem.W.Frag) (ad : Ad) (d : Eds) : Sp := fun vs H Q E => ∃ (bits_1 : List Int) (a_2 : Addr) (R0 : Hp) (r : Rs (Int × (List Int))), vs = [.ref a_2] ∧ Own R0 H [] ∧ (hsub H []) a_2 = some (.lst (List.map V.int bits_1)) ∧ m_read_frame bits_1 = some r ∧ RetR (fun r => RetX R0 (hsub H []) (dP (rT2 rI (rL rI)) r) Q) d r H E
abbrev N_read_frame : List Str := ["bits", "many", "data", "k"]
theorem sc_read_frame : FnScope N_read_frame ["bits"] (defScope s_read_frame) := ⟨rfl, rfl, rfl, by decide +kernel, rfl, by decide +kernel, by decide +kernel⟩
theorem ok_read_frame {ad : Ad} (T : Txt K mg ad) : FnOk P w K mg base (L2N.CX P w) 3 ad.f_read_frame ad.fd_read_frame ["bits"] (sp_read_frame K ad ad.es) := by
  have G_number_of := ok_number_of (P := P) (w := w) (base := base) T
  have G_rest_of := ok_rest_of (P := P) (w := w) (base := base) T
  refine okN T.F_read_frame sc_read_frame (fun vs H Q E h => ?_) (fun cdv A outer s H vs Q E hr h => ?_)
  · obtain ⟨_, _, _, _, rfl, _⟩ := h
    rfl
  · obtain ⟨bits_1, a_2, R0, r, rfl, OO, hp_a_2, hm, k⟩ := h
    unfold m_read_frame at hm
    obtain ⟨Hb, hHb⟩ : ∃ Hb : Hp, Hb = hsub H [] := ⟨_, rfl⟩
    obtain ⟨H0, hH0⟩ : ∃ H0 : Hp, H0 = Hb := ⟨Hb, rfl⟩
    have O : Own H0 H [] := by rw [hH0, hHb]; exact OO.startX
    have eR : Ex R0 Hb := by rw [hHb]; exact OO.subR
    rw [← hHb] at k hp_a_2
    have eB : Ex Hb H0 := by rw [hH0]; exact Ex.refl _
    have eS : Ex R0 (ovr R0 Hb H0) := by rw [hH0]; exact ovr_start eR
    rw [← hH0] at hp_a_2
    clear hH0
    refine ⟨_, (pss_cons (ps_if (PW.pt (pw_or (pt_cmpR op_lt (pe_callB (r := rLenQ K) call_lenQ (by rfl) T.z_len PySem.boot_len (pa_cons (pv 0) pa_nil)) (pe_gv rfl T.g_BARE) (nomark _)) (pw_or1 (pt_cmpR op_eq (pe_ix (r := rIxL K) ix_list (pv 0) pe_int (fun _ _ => rfl)) pe_int (nomark _))))) (pss_one (ps_errN T.e_NoFrame (L2N.takes_of rfl rfl rfl rfl) rfl rfl)) pss_nil) (pss_cons (ps_set (i := 1) sc_read_frame.nd rfl (Or.inl rfl) (pe_call G_number_of (hr.mono (by decide)) (by rfl) T.g_number_of T.F_number_of.kp T.b_number_of .nil pass0 (pa_cons (pe_slice (r := rSlL K) sl_list (pv 0) (po_some pe_int) (po_some (pe_gv rfl T.g_HEAD))) pa_nil))) (pss_cons (ps_if (PW.pt (pw_or (pt_cmpR op_ne (pe_callB (r := rLenQ K) call_lenQ (by rfl) T.z_len PySem.boot_len (pa_cons (pv 0) pa_nil)) (pe_op op_add (pe_gv rfl T.g_BARE) (pe_op op_mul pe_int (pv 1))) (nomark _)) (pw_or1 (pt_cmpR op_ne (pe_call G_rest_of (hr.mono (by decide)) (by rfl) T.g_rest_of T.F_rest_of.kp T.b_rest_of .nil pass0 (pa_cons (pv 0) pa_nil)) pe_int (nomark _))))) (pss_one (ps_errN T.e_NoFrame (L2N.takes_of rfl rfl rfl rfl) rfl rfl)) pss_nil) (pss_cons (ps_set (i := 2) sc_read_frame.nd rfl (Or.inl rfl) (pe_lstQ (pe_lst pa_nil))) (pss_cons (ps_for (passes_of rfl) rfl (pi_range1 (by rfl) T.z_range (pa_cons (pv 1) pa_nil)) (pg_name (i := 3) sc_read_frame.nd rfl (Or.inl rfl)) (pss_one (ps_expr (pe_bm PySem.F.plainAttrs_list PySem.F.slot_list_append PySem.F.type_list_append mt_append (pv 2) (pa_cons (pe_call G_number_of (hr.mono (by decide)) (by rfl) T.g_number_of T.F_number_of.kp T.b_number_of .nil pass0 (pa_cons (pe_slice (r := rSlL K) sl_list (pv 0) (po_some (pe_op op_add (pe_gv rfl T.g_HEAD) (pe_op op_mul pe_int (pv 3)))) (po_some (pe_op op_add (pe_op op_add (pe_gv rfl T.g_HEAD) (pe_op op_mul pe_int (pv 3))) pe_int))) pa_nil)) pa_nil))))) (pss_one (ps_ret (pe_tupQ (pe_tup (pa_cons (pe_call G_number_of (hr.mono (by decide)) (by rfl) T.g_number_of T.F_number_of.kp T.b_number_of .nil pass0 (pa_cons (pe_slice (r := rSlL K) sl_list (pv 0) (po_some pe_int) (po_some pe_int)) pa_nil)) (pa_cons (pv 2) pa_nil))))))))))), ?_⟩
    -- 94
    refine o_seq ?_
    refine o_ifs ?_
    obtain ⟨c_7, h8, hm⟩ := bndE hm
    refine x_orJ (c := decide ((List.length bits_1 : Int) < (27 : Int))) (e := c_7) (d := c_7) (fun H => ∃ (R_ : Hp), Ex H0 R_ ∧ Own R_ H []) (fun Q1 k1 => ?_) (fun h3 => ⟨rfl, fun H hJ Q2 k2 => ?_⟩) (fun h3 => Option.some.inj (ifT h8 h3)) (fun H hJ => ?_)
    · have eJ4 : Ex H0 H0 := Ex.refl _
      refine ⟨_, rfl, ?_⟩
      refine x_nil ?_
      refine n_len (SqL.of (O.ex _ _ hp_a_2)) ?_
      refine ⟨_, _, rfl, rfl, _, rfl, ?_⟩
      exact k1 _ ⟨H0, eJ4, O⟩
    · replace hm := ifF h8 h3
      obtain ⟨e_5, h6, hm⟩ := bndE hm
      obtain rfl := Option.some.inj hm
      obtain ⟨H0, eJ4, O⟩ := hJ
      replace hp_a_2 := eJ4 _ _ hp_a_2
      replace eB := eB.trans eJ4
      refine ⟨_, rfl, ?_⟩
      refine o_c ?_
      refine k_ixL (f := V.int) (SqL.of (O.ex _ _ hp_a_2)) h6 ?_
      refine o_c ?_
      refine k_eqI ?_
      refine ⟨_, rfl, ?_⟩
      exact k2 _ ⟨H0, eJ4, O⟩
    obtain ⟨H0, eJ4, O⟩ := hJ
    replace hp_a_2 := eJ4 _ _ hp_a_2
    replace eB := eB.trans eJ4
    refine iteS (c := c_7) (fun h9 => ?_) (fun h9 => ?_)
    · replace hm := ifT hm h9
      -- 95
      obtain rfl := Option.some.inj hm
      exact k _ (Own.whole OO hHb eB (show Own _ _ (hAppend [] []) from (Own.pk O [] (by decide) rfl)))
    · replace hm := ifF hm h9
      refine o_next ?_
      -- 96
      refine o_seq ?_
      refine o_asg ?_
      refine ⟨_, rfl, _, rfl, _, rfl, ?_⟩
      refine k_cut (f := V.int) O (SqL.of (O.ex _ _ hp_a_2)) fun p_10 H O => ?_
      obtain ⟨number_11, h12, hm⟩ := bndE hm
      refine x_nil ?_
      refine ⟨_, _, number_11, rfl, (O.mem (hd_)), h12, ?_⟩
      refine O.retV fun H O => ?_
      -- 97
      refine o_seq ?_
      refine o_ifs ?_
      obtain ⟨c_17, h18, hm⟩ := bndE hm
      refine x_orJ (c := (!decide ((List.length bits_1 : Int) = ((27 : Int) + ((8 : Int) * number_11))))) (e := c_17) (d := c_17) (fun H => ∃ (R_ : Hp), Ex H0 R_ ∧ Own R_ H [(p_10, .lst (List.map V.int (cutL bits_1 (some (9 : Int)) (some (12 : Int)))))]) (fun Q1 k1 => ?_) (fun h13 => ⟨rfl, fun H hJ Q2 k2 => ?_⟩) (fun h13 => Option.some.inj (ifT h18 h13)) (fun H hJ => ?_)
      · have eJ14 : Ex H0 H0 := Ex.refl _
        refine ⟨_, rfl, ?_⟩
        refine x_nil ?_
        refine n_len (SqL.of (O.ex _ _ hp_a_2)) ?_
        refine ⟨_, rfl, _, _, rfl, rfl, .inl ⟨by decide, by decide⟩, _, _, rfl, rfl, ?_⟩
        refine k_neI ?_
        refine ⟨_, rfl, ?_⟩
        exact k1 _ ⟨H0, eJ14, O⟩
      · replace hm := ifF h18 h13
        obtain ⟨rest_o_15, h16, hm⟩ := bndE hm
        obtain rfl := Option.some.inj hm
        obtain ⟨H0, eJ14, O⟩ := hJ
        replace hp_a_2 := eJ14 _ _ hp_a_2
        replace eB := eB.trans eJ14
        refine ⟨_, rfl, ?_⟩
        refine x_nil ?_
        refine ⟨_, _, rest_o_15, rfl, (O.ex _ _ hp_a_2), h16, ?_⟩
        refine O.retV fun H O => ?_
        refine o_c ?_
        refine k_neI ?_
        refine ⟨_, rfl, ?_⟩
        exact k2 _ ⟨H0, eJ14, O⟩
      obtain ⟨H0, eJ14, O⟩ := hJ
      replace hp_a_2 := eJ14 _ _ hp_a_2
      replace eB := eB.trans eJ14
      refine iteS (c := c_17) (fun h19 => ?_) (fun h19 => ?_)
      · replace hm := ifT hm h19
        -- 98
        obtain rfl := Option.some.inj hm
        exact k _ (Own.whole OO hHb eB (show Own _ _ (hAppend [] [(p_10, .lst (List.map V.int (cutL bits_1 (some (9 : Int)) (some (12 : Int)))))]) from (Own.pk O [0] (by decide) rfl)))
      · replace hm := ifF hm h19
        refine o_next ?_
        -- 99
        refine o_seq ?_
        refine o_asg ?_
        refine x_nil ?_
        refine n_lst (f := V.int) (xs := ([] : List Int)) O rfl (Nat.zero_le _) fun p_20 H O => ?_
        -- 100
        refine o_seq ?_
        refine o_for ?_
        obtain ⟨rg_21, h22, hm⟩ := bndE hm
        refine ⟨_, rfl, ?_⟩
        refine x_nil ?_
        obtain ⟨c1, c2, rfl⟩ := rng1E h22
        obtain ⟨data_25, h26, hm⟩ := bndE hm
        refine ⟨_, rfl, c1, c2, q_forR (fun r σ H => ∃ (R_ : Hp) (data_23 : List Int) (j_24 : Option V), σ = [some (.ref a_2), some (.int number_11), some (.ref p_20), j_24] ∧ Ex H0 R_ ∧ Own R_ H [(p_20, .lst (List.map V.int data_23))] ∧ loopM (fun k_29 s => m_read_frame_L0 bits_1 k_29 s) r data_23 = some data_25) ⟨H0, ([] : List Int), _, rfl, Ex.refl _, (Own.pk (L' := [(p_20, .lst (List.map V.int ([] : List Int)))]) O [0] (by decide) rfl), h26⟩ ?_ ?_⟩
        · rintro k_29 r σ H ⟨H0, data_23, j_24, rfl, eL30, O, hL⟩
          replace hp_a_2 := eL30 _ _ hp_a_2
          replace eB := eB.trans eL30
          obtain ⟨s_, hm, h28⟩ := loopM_cons hL
          replace hm : m_read_frame_L0 bits_1 k_29 data_23 = some s_ := hm
          unfold m_read_frame_L0 at hm
          -- 101
          refine o_drop ?_
          refine ⟨_, rfl, .inl ⟨rfl, _, (SqL.of (O.mem (hd_)))⟩, _, rfl, _, rfl, _, _, rfl, rfl, .inl ⟨by decide, by decide⟩, _, _, rfl, rfl, _, rfl, _, rfl, _, _, rfl, rfl, .inl ⟨by decide, by decide⟩, _, _, rfl, rfl, _, _, rfl, rfl, _, rfl, ?_⟩
          refine k_cut (f := V.int) O (SqL.of (O.ex _ _ hp_a_2)) fun p_33 H O => ?_
          obtain ⟨number_34, h35, hm⟩ := bndE hm
          refine x_nil ?_
          refine ⟨_, _, number_34, rfl, (O.mem (hd_)), h35, ?_⟩
          refine O.retV fun H O => ?_
          obtain ⟨l_36, h37, hm⟩ := bndE hm
          refine x_nil ?_
          refine k_app (f := V.int) (O.mem (tl_ (hd_))) (fun _ => O.put1) h37 fun H O => ?_
          replace O := O.tl
          have Oz := O
          obtain rfl := Option.some.inj hm
          exact ⟨H0, _, _, rfl, eL30, Oz, h28⟩
        rintro σ H ⟨H0, data_23, j_24, rfl, eJ_, O, hL⟩
        replace hp_a_2 := eJ_ _ _ hp_a_2
        replace eB := eB.trans eJ_
        cases loopM_nil hL
        -- 102
        refine o_ret ?_
        refine ⟨_, rfl, _, rfl, _, rfl, ?_⟩
        refine k_cut (f := V.int) O (SqL.of (O.ex _ _ hp_a_2)) fun p_38 H O => ?_
        obtain ⟨number_39, h40, hm⟩ := bndE hm
        refine x_nil ?_
        refine ⟨_, _, number_39, rfl, (O.mem (hd_)), h40, ?_⟩
        refine O.retV fun H O => ?_
        refine ⟨_, rfl, ?_⟩
        refine x_nil ?_
        replace O := (Own.pk (L' := [(p_20, .lst (List.map V.int data_25)), (p_38, .lst (List.map V.int (cutL bits_1 (some (1 : Int)) (some (9 : Int)))))]) O [1, 0] (by decide) rfl)
        obtain ⟨H0, O, e_, hp_p_20⟩ := O.frzO (R0 := R0) eB
        replace hp_a_2 := e_ _ _ hp_a_2
        replace eB := eB.trans e_
        refine n_tup O (by show 2 ≤ sizeLine; decide) fun p_41 H O => ?_
        obtain ⟨H0, O, e_, hp_p_41⟩ := O.frzO (R0 := R0) eB
        replace hp_a_2 := e_ _ _ hp_a_2
        replace hp_p_20 := (ovr_mono e_) _ _ hp_p_20
        replace eB := eB.trans e_
        have hn_p_41 : (rT2 rI (rL rI)) (ovr R0 Hb H0) (.ref p_41) ((number_39, data_25) : Int × (List Int)) := ⟨_, _, _, rfl, hp_p_41, rfl, (gI hp_p_20)⟩
        obtain rfl := Option.some.inj hm
        exact k _ _ H0 _ eB (by exact (Own.pk O [] (by decide) rfl)) ⟨rfl, hn_p_41⟩
abbrev N_NoWire_init : List Str := ["self", "at"]
theorem sc_NoWire_init : FnScope N_NoWire_init ["self", "at"] (defScope s_NoWire_init) := ⟨rfl, rfl, rfl, by decide +kernel, rfl, by decide +kernel, by decide +kernel⟩
theorem ok_NoWire_init {ad : Ad} (T : Txt K mg ad) : FnOk P w K mg base CX0 1 ad.f_NoWire_init ad.fd_NoWire_init ["self", "at"] (spI ad.es.NoWire "at") := by
  refine T.F_NoWire_init.ok sc_NoWire_init (fun vs H Q E h => ?_) (fun cdv A outer s H vs Q E hr h => ?_)
  · obtain ⟨a, i, rfl, _⟩ := h
    rfl
  · obtain ⟨a, i, rfl, ha, k⟩ := h
    refine ⟨_, (pss_cons (ps_expr (pe_rinit (by rfl) T.n_RailError T.I_NoWire.ga T.I_NoWire.rd T.I_NoWire.v (pa_cons (pv 0) (pa_cons pe_str pa_nil)))) (pss_one (ps_ost (pv 0) (pv 1)))), ?_⟩
    refine o_seq ?_
    refine o_drop ?_
    refine o_cons ?_
    refine ⟨_, rfl, ?_⟩
    refine o_cons ?_
    refine o_c ?_
    refine x_nil ?_
    refine ⟨a, _, _, rfl, by decide, T.I_NoWire.o, ha, ?_⟩
    refine ⟨_, rfl, _, rfl, ?_⟩
    exact ⟨a, _, rfl, T.I_NoWire.o, T.I_NoWire.n, .inl ⟨ha, fun dx h1 h2 => k dx h1 h2⟩⟩
def m_taken_out_L0  (at_17 : Int) (bit_18 : Int) (bits_6 : List Int) (run_7 : Int) (last_8 : Int) : Option (Fl ((List Int) × Int × Int) (Rs (List Int))) :=
  ifB ((decide (run_7 = (5 : Int))) && (decide (bit_18 = last_8))) (
    some (.rt (.er (.NoWire at_17)))) (
    bnd (ifB (!decide (run_7 = (5 : Int))) (
      bnd (appG bits_6 bit_18) fun l_27 =>
      some l_27) (
      some bits_6)) fun bits_29 =>
    ltv ((ifB (decide (bit_18 = last_8)) (run_7 + (1 : Int)) (1 : Int))) fun run_32 =>
    some (.nx (bits_29, run_32, bit_18)))
def m_taken_out (wire_1 : List Int) : Option (Rs (List Int)) :=
  ltv ((-(1 : Int))) fun last_4 =>
  fin (loopF (fun q_ s => m_taken_out_L0 q_.1 q_.2 s.1 s.2.1 s.2.2) (enumI 0 wire_1) (([] : List Int), (0 : Int), last_4)) fun (bits_6, run_7, last_8) =>
  ifB (decide (run_7 = (5 : Int))) (
    some (.er (.NoWire (List.length wire_1 : Int)))) (
    some (.ok bits_6))
def sp_taken_out (K : PySem.W.Frag) (d : Eds) : Sp := fun vs H Q E => ∃ (wire_1 : List Int) (a_2 : Addr) (r : Rs (List Int)), vs = [.ref a_2] ∧ H a_2 = some (.lst (List.map V.int wire_1)) ∧ m_taken_out wire_1 = some r ∧ RetR (fun r => RetL (List.map V.int r) H Q) d r H E
abbrev N_taken_out : List Str := ["wire", "bits", "run", "last", "at", "bit"]
theorem sc_taken_out : FnScope N_taken_out ["wire"] (defScope s_taken_out) := ⟨rfl, rfl, rfl, by decide +kernel, rfl, by decide +kernel, by decide +kernel⟩
theorem ok_taken_out {ad : Ad} (T : Txt K mg ad) : FnOk P w K mg base (L2N.CX P w) 3 ad.f_taken_out ad.fd_taken_out ["wire"] (sp_taken_out K ad.es) := by
  refine okN T.F_taken_out sc_taken_out (fun vs H Q E h => ?_) (fun cdv A outer s H vs Q E hr h => ?_)
  · obtain ⟨_, _, _, rfl, _⟩ := h
    rfl
  · obtain ⟨wire_1, a_2, r, rfl, hp_a_2, hm, k⟩ := h
    unfold m_taken_out at hm
    obtain ⟨H0, hH0⟩ : ∃ H0 : Hp, H0 = H := ⟨H, rfl⟩
    have O : Own H0 H [] := by rw [hH0]; exact Own.start H
    rw [← hH0] at k hp_a_2
    clear hH0
    refine ⟨_, (pss_cons (ps_set (i := 1) sc_taken_out.nd rfl (Or.inl rfl) (pe_lstQ (pe_lst pa_nil))) (pss_cons (ps_set (i := 2) sc_taken_out.nd rfl (Or.inl rfl) pe_int) (pss_cons (ps_set (i := 3) sc_taken_out.nd rfl (Or.inl rfl) (pe_un un_neg pe_int)) (pss_cons (ps_for (passes_of rfl) rfl (pi_enum (by rfl) T.z_enumerate (pa_cons (pv 0) pa_nil)) (pg_tup rfl (pgs_cons (pg_name (i := 4) sc_taken_out.nd rfl (Or.inl rfl)) (pgs_cons (pg_name (i := 5) sc_taken_out.nd rfl (Or.inl rfl)) pgs_nil))) (pss_cons (ps_if (PW.pt (pw_and (pt_cmpR op_eq (pv 2) pe_int (nomark _)) (pw_and1 (pt_cmpR op_eq (pv 5) (pv 3) (nomark _))))) (pss_one (L2N.ps_raise rfl (L2N.takes_of rfl rfl rfl rfl) (pmk_initN (sp := spI ad.es.NoWire "at") T.I_NoWire.o T.I_NoWire.i T.I_NoWire.t (ok_NoWire_init (P := P) (w := w) (base := base) T) (hr.mono (by decide)) T.b_NoWire_init pass0 (by rfl) T.n_NoWire (pa_cons (pv 4) pa_nil)))) pss_nil) (Evl.pss_cut (ps_if (pt_cmpR op_ne (pv 2) pe_int (nomark _)) (pss_one (ps_expr (pe_bm PySem.F.plainAttrs_list PySem.F.slot_list_append PySem.F.type_list_append mt_append (pv 1) (pa_cons (pv 5) pa_nil)))) pss_nil) (pss_cons (ps_set (i := 2) sc_taken_out.nd rfl (Or.inl rfl) (pe_ifExp (pt_cmpR op_eq (pv 5) (pv 3) (nomark _)) (pe_op op_add (pv 2) pe_int) pe_int)) (pss_one (ps_set (i := 3) sc_taken_out.nd rfl (Or.inl rfl) (pv 5))))))) (pss_cons (ps_if (pt_cmpR op_eq (pv 2) pe_int (nomark _)) (pss_one (L2N.ps_raise rfl (L2N.takes_of rfl rfl rfl rfl) (pmk_initN (sp := spI ad.es.NoWire "at") T.I_NoWire.o T.I_NoWire.i T.I_NoWire.t (ok_NoWire_init (P := P) (w := w) (base := base) T) (hr.mono (by decide)) T.b_NoWire_init pass0 (by rfl) T.n_NoWire (pa_cons (pe_callB (r := rLenQ K) call_lenQ (by rfl) T.z_len PySem.boot_len (pa_cons (pv 0) pa_nil)) pa_nil)))) pss_nil) (pss_one (ps_ret (pv 1)))))))), ?_⟩
    -- 68
    refine o_seq ?_
    refine o_asg ?_
    refine x_nil ?_
    refine n_lst (f := V.int) (xs := ([] : List Int)) O rfl (Nat.zero_le _) fun p_3 H O => ?_
    -- 69
    refine o_seq ?_
    refine o_asg ?_
    refine o_c ?_
    -- 70
    refine o_seq ?_
    refine o_asg ?_
    refine ⟨_, rfl, ?_⟩
    obtain ⟨last_4, h5, hm⟩ := ltvE hm
    refine a_set (congrArg V.int h5) ?_
    -- 71
    refine o_seq ?_
    refine o_for ?_
    refine ⟨_, rfl, ?_⟩
    refine x_nil ?_
    obtain ⟨out_19, h14, h15⟩ := bndE hm
    refine ⟨_, _, rfl, (SqL.of (O.ex _ _ hp_a_2)), q_forE (b := fun _ _ => False) (k := fun _ _ => False) (KK := K) (f := V.int) (xs := wire_1) (fun r σ H => ∃ (bits_6 : List Int) (run_7 : Int) (last_8 : Int) (j_9 : Option V) (j_10 : Option V), σ = [some (.ref a_2), some (.ref p_3), some (.int run_7), some (.int last_8), j_9, j_10] ∧ Own H0 H [(p_3, .lst (List.map V.int bits_6))] ∧ loopF (fun q_ s => m_taken_out_L0 q_.1 q_.2 s.1 s.2.1 s.2.2) r (bits_6, run_7, last_8) = some out_19) ⟨([] : List Int), _, _, _, _, rfl, O, h14⟩ (by rintro r σ H ⟨bits_6, run_7, last_8, j_9, j_10, rfl, O, hL⟩; exact (SqL.of (O.ex _ _ hp_a_2))) (by rintro r σ H H2 ⟨bits_6, run_7, last_8, j_9, j_10, rfl, O, hL⟩ hE; exact ⟨bits_6, run_7, last_8, j_9, j_10, rfl, O.ext hE, hL⟩) ?_ ?_⟩
    · rintro at_17 bit_18 r σ H ⟨bits_6, run_7, last_8, j_9, j_10, rfl, O, hL⟩
      obtain ⟨s_, hm, h16⟩ := loopF_cons hL
      replace hm : m_taken_out_L0 at_17 bit_18 bits_6 run_7 last_8 = some s_ := hm
      unfold m_taken_out_L0 at hm
      -- 72
      refine o_seq ?_
      refine o_ifs ?_
      refine x_and (c := (decide (run_7 = (5 : Int)))) (e := (decide (bit_18 = last_8))) (d := ((decide (run_7 = (5 : Int))) && (decide (bit_18 = last_8)))) O (fun Q1 k1 => ?_) (fun h22 => ⟨by rw [h22]; rfl, fun H O Q2 k2 => ?_⟩) (fun h22 => by rw [h22]; rfl) (fun H O => ?_)
      · refine ⟨_, rfl, ?_⟩
        refine o_c ?_
        refine k_eqI ?_
        refine ⟨_, rfl, ?_⟩
        exact k1 _ O
      · refine ⟨_, rfl, _, rfl, ?_⟩
        refine k_eqI ?_
        refine ⟨_, rfl, ?_⟩
        exact k2 _ O
      refine iteS (c := ((decide (run_7 = (5 : Int))) && (decide (bit_18 = last_8)))) (fun h23 => ?_) (fun h23 => ?_)
      · replace hm := ifT hm h23
        -- 73
        refine o_mkI ?_
        refine ⟨_, rfl, ?_⟩
        refine x_nil ?_
        refine k_mkI ?_
        obtain rfl := Option.some.inj hm
        obtain rfl := contRt h16
        obtain rfl := finRt h15
        exact RetE.go (show RetE ad.es (.NoWire at_17) _ E from k) O
      · replace hm := ifF hm h23
        refine o_next ?_
        -- 74
        obtain ⟨bits_29, h26, hm⟩ := bndE hm
        refine o_cut (fun σ H => ∃ (j_30 : Option V), σ = [some (.ref a_2), some (.ref p_3), some (.int run_7), some (.int last_8), j_30, some (.int bit_18)] ∧ Own H0 H [(p_3, .lst (List.map V.int bits_29))]) ?_ ?_
        · refine o_ifs ?_
          refine ⟨_, rfl, ?_⟩
          refine o_c ?_
          refine k_neI ?_
          refine ⟨_, rfl, ?_⟩
          refine iteS (c := (!decide (run_7 = (5 : Int)))) (fun h25 => ?_) (fun h25 => ?_)
          · replace hm := ifT h26 h25
            -- 75
            refine o_drop ?_
            obtain ⟨l_27, h28, hm⟩ := bndE hm
            refine ⟨_, rfl, .inl ⟨rfl, _, (SqL.of (O.mem (hd_)))⟩, _, rfl, ?_⟩
            refine x_nil ?_
            refine k_app (f := V.int) (O.mem (hd_)) (fun _ => O.put0) h28 fun H O => ?_
            have Oz := O
            have hq_ := Option.some.inj hm
            subst hq_
            exact ⟨_, rfl, Oz⟩
          · replace hm := ifF h26 h25
            refine o_next ?_
            have Oz := O
            have hq_ := Option.some.inj hm
            subst hq_
            exact ⟨_, rfl, Oz⟩
        rintro σ H ⟨j_30, rfl, O⟩
        -- 76
        refine o_seq ?_
        refine o_asg ?_
        refine x_if (c := (decide (bit_18 = last_8))) (x := .int (run_7 + (1 : Int))) (y := .int (1 : Int)) (v := .int (ifB (decide (bit_18 = last_8)) (run_7 + (1 : Int)) (1 : Int))) O (fun Q1 k1 => ?_) (fun h31 => ⟨by rw [h31]; rfl, fun H O Q2 k2 => ?_⟩) (fun h31 => ⟨by rw [h31]; rfl, fun H O Q2 k2 => ?_⟩) (fun H O => ?_)
        · refine ⟨_, rfl, _, rfl, ?_⟩
          refine k_eqI ?_
          refine ⟨_, rfl, ?_⟩
          exact k1 _ O
        · refine ⟨_, rfl, _, _, rfl, rfl, ?_⟩
          exact k2 _ O
        · refine o_c ?_
          exact k2 _ O
        obtain ⟨run_32, h33, hm⟩ := ltvE hm
        refine a_set (congrArg V.int h33) ?_
        -- 77
        refine o_asg ?_
        refine ⟨_, rfl, ?_⟩
        have Oz := O
        obtain rfl := Option.some.inj hm
        exact ⟨_, _, _, _, _, rfl, Oz, h16⟩
    rintro σ H ⟨bits_6, run_7, last_8, j_9, j_10, rfl, O, hL⟩
    obtain rfl := loopF_nil hL
    replace hm := finNx h15
    -- 78
    refine o_seq ?_
    refine o_ifs ?_
    refine ⟨_, rfl, ?_⟩
    refine o_c ?_
    refine k_eqI ?_
    refine ⟨_, rfl, ?_⟩
    refine iteS (c := (decide (run_7 = (5 : Int)))) (fun h34 => ?_) (fun h34 => ?_)
    · replace hm := ifT hm h34
      -- 79
      refine o_mkI ?_
      refine ⟨_, rfl, ?_⟩
      refine x_nil ?_
      refine n_len (SqL.of (O.ex _ _ hp_a_2)) ?_
      refine x_nil ?_
      refine k_mkI ?_
      obtain rfl := Option.some.inj hm
      exact RetE.go (show RetE ad.es (.NoWire (List.length wire_1 : Int)) _ E from k) O
    · replace hm := ifF hm h34
      refine o_next ?_
      -- 80
      refine o_ret ?_
      refine ⟨_, rfl, ?_⟩
      obtain rfl := Option.some.inj hm
      exact RetL.go k O (hd_)
def m_read_wire (wire_1 : List Int) : Option (Rs (Int × (List Int))) :=
  bndR (m_taken_out wire_1) fun taken_3 =>
  bndR (m_read_frame taken_3) fun read_f_8 =>
  some (.ok read_f_8)
def sp_read_wire (K : PySem.W.Frag) (ad : Ad) (d : Eds) : Sp := fun vs H Q E => ∃ (wire_1 : List Int) (a_2 : Addr) (R0 : Hp) (r : Rs (Int × (List Int))), vs = [.ref a_2] ∧ Own R0 H [] ∧ (hsub H []) a_2 = some (.lst (List.map V.int wire_1)) ∧ m_read_wire wire_1 = some r ∧ RetR (fun r => RetX R0 (hsub H []) (dP (rT2 rI (rL rI)) r) Q) d r H E
abbrev N_read_wire : List Str := ["wire"]
theorem sc_read_wire : FnScope N_read_wire ["wire"] (defScope s_read_wire) := ⟨rfl, rfl, rfl, by decide +kernel, rfl, by decide +kernel, by decide +kernel⟩
theorem ok_read_wire {ad : Ad} (T : Txt K mg ad) : FnOk P w K mg base (L2N.CX P w) 4 ad.f_read_wire ad.fd_read_wire ["wire"] (sp_read_wire K ad ad.es) := by
  have G_read_frame := ok_read_frame (P := P) (w := w) (base := base) T
  have G_taken_out := ok_taken_out (P := P) (w := w) (base := base) T
  refine okN T.F_read_wire sc_read_wire (fun vs H Q E h => ?_) (fun cdv A outer s H vs Q E hr h => ?_)
  · obtain ⟨_, _, _, _, rfl, _⟩ := h
    rfl
  · obtain ⟨wire_1, a_2, R0, r, rfl, OO, hp_a_2, hm, k⟩ := h
    unfold m_read_wire at hm
    obtain ⟨Hb, hHb⟩ : ∃ Hb : Hp, Hb = hsub H [] := ⟨_, rfl⟩
    obtain ⟨H0, hH0⟩ : ∃ H0 : Hp, H0 = Hb := ⟨Hb, rfl⟩
    have O : Own H0 H [] := by rw [hH0, hHb]; exact OO.startX
    have eR : Ex R0 Hb := by rw [hHb]; exact OO.subR
    rw [← hHb] at k hp_a_2
    have eB : Ex Hb H0 := by rw [hH0]; exact Ex.refl _
    have eS : Ex R0 (ovr R0 Hb H0) := by rw [hH0]; exact ovr_start eR
    rw [← hH0] at hp_a_2
    clear hH0
    refine ⟨_, (pss_one (ps_ret (pe_call G_read_frame (hr.mono (by decide)) (by rfl) T.g_read_frame T.F_read_frame.kp T.b_read_frame .nil (E := E) (L2N.passes_call (L2N.takes_of rfl rfl rfl rfl) fun _ _ _ _ h => h) (pa_cons (pe_call G_taken_out (hr.mono (by decide)) (by rfl) T.g_taken_out T.F_taken_out.kp T.b_taken_out .nil (E := E) (L2N.passes_call (L2N.takes_of rfl rfl rfl rfl) fun _ _ _ _ h => h) (pa_cons (pv 0) pa_nil)) pa_nil)))), ?_⟩
    -- 106
    refine o_ret ?_
    obtain ⟨x_5, h4, hm⟩ := bndRE hm
    refine ⟨_, rfl, ?_⟩
    refine x_nil ?_
    refine ⟨_, _, x_5, rfl, (O.ex _ _ hp_a_2), h4, ?_⟩
    refine RetR.split (fun e_ h6 => ?_) (fun taken_3 h6 => ?_)
    · subst h6
      obtain rfl := erR hm
      exact RetE.up k (Own.whole OO hHb eB (show Own _ _ (hAppend [] []) from (Own.pk O [] (by decide) rfl)))
    subst h6
    replace hm := okR hm
    refine O.retL fun p_7 H O => ?_
    obtain ⟨x_10, h9, hm⟩ := bndRE hm
    refine x_nil ?_
    have Oc : Own H0 H (hAppend [] [(p_7, .lst (List.map V.int taken_3))]) := (Own.pk O [0] (by decide) rfl)
    refine ⟨taken_3, p_7, ovr R0 Hb H0, x_10, rfl, (Own.shrink Oc.left ovr_ex), (Own.inC Oc (hd_)), h9, ?_⟩
    refine RetR.split (fun e_ h11 => ?_) ?_
    · subst h11
      obtain rfl := erR hm
      exact RetE.up k (Own.whole OO hHb eB (show Own _ _ (hAppend [] [(p_7, .lst (List.map V.int taken_3))]) from (Own.pk O [0] (by decide) rfl)))
    rintro read_f_8 h11
    subst h11
    replace hm := okR hm
    refine Oc.retXO (mdP (mT2 mI (mL mI))) eB fun w_12 H H0 L_13 O e_ d_ => ?_
    replace hp_a_2 := e_ _ _ hp_a_2
    replace eB := eB.trans e_
    obtain ⟨rfl, h14⟩ := d_
    try simp only [n1, n2, n3, n4, n5, n6, n7] at O
    obtain ⟨p_15, rfl⟩ := rT2_ref h14
    have hn_p_15 := h14
    obtain rfl := Option.some.inj hm
    exact k _ _ H0 _ eB (by exact (Own.pk O [] (by decide) rfl)) ⟨rfl, hn_p_15⟩
def m_other_frame (wire_1 : List Int) (own_3 : Int × (List Int)) : Option (Option (Int × (List Int))) :=
  bnd (m_read_wire wire_1) fun x_7 =>
  tryR x_7 (fun read_w_5 =>
    bnd (ifB (!decide ((read_w_5 : Int × (List Int)) = own_3)) ( some ((some read_w_5) : Option (Int × (List Int)))) ( some (none : Option (Int × (List Int))))) fun z_14 =>
    some z_14) (fun e_ =>
    ifB (decide (e_.k = .NoWire)) (
      some none) (ifB (decide (e_.k = .NoFrame)) (
      some none) (none)))
def sp_other_frame (K : PySem.W.Frag) (ad : Ad) : Sp := fun vs H Q _ => ∃ (wire_1 : List Int) (a_2 : Addr) (own_3 : Int × (List Int)) (a_4 : Addr) (R0 : Hp) (r : Option (Int × (List Int))), vs = [.ref a_2, .ref a_4] ∧ Own R0 H [] ∧ (hsub H []) a_2 = some (.lst (List.map V.int wire_1)) ∧ (rT2 rI (rL rI)) (hsub H []) (.ref a_4) own_3 ∧ m_other_frame wire_1 own_3 = some r ∧ RetX R0 (hsub H []) (dP (rO (rT2 rI (rL rI))) r) Q
abbrev N_other_frame : List Str := ["wire", "own", "found"]
theorem sc_other_frame : FnScope N_other_frame ["wire", "own"] (defScope s_other_frame) := ⟨rfl, rfl, rfl, by decide +kernel, rfl, by decide +kernel, by decide +kernel⟩
theorem ok_other_frame {ad : Ad} (T : Txt K mg ad) : FnOk P w K mg base CX0 5 ad.f_other_frame ad.fd_other_frame ["wire", "own"] (sp_other_frame K ad) := by
  have G_read_wire := ok_read_wire (P := P) (w := w) (base := base) T
  refine T.F_other_frame.ok sc_other_frame (fun vs H Q E h => ?_) (fun cdv A outer s H vs Q E hr h => ?_)
  · obtain ⟨_, _, _, _, _, _, rfl, _⟩ := h
    rfl
  · obtain ⟨wire_1, a_2, own_3, a_4, R0, r, rfl, OO, hp_a_2, hn_a_4, hm, k⟩ := h
    unfold m_other_frame at hm
    obtain ⟨Hb, hHb⟩ : ∃ Hb : Hp, Hb = hsub H [] := ⟨_, rfl⟩
    obtain ⟨H0, hH0⟩ : ∃ H0 : Hp, H0 = Hb := ⟨Hb, rfl⟩
    have O : Own H0 H [] := by rw [hH0, hHb]; exact OO.startX
    have eR : Ex R0 Hb := by rw [hHb]; exact OO.subR
    rw [← hHb] at k hp_a_2 hn_a_4
    have eB : Ex Hb H0 := by rw [hH0]; exact Ex.refl _
    have eS : Ex R0 (ovr R0 Hb H0) := by rw [hH0]; exact ovr_start eR
    rw [← hH0] at hp_a_2
    rw [← hH0] at hn_a_4
    clear hH0
    refine ⟨_, (pss_cons (ps_set (i := 2) sc_other_frame.nd rfl (Or.inl rfl) (pv 1)) (pss_cons (L2N.ps_try_many (tb := fun W => _) rfl rfl takesN0 (fun W pn xe tk _ => (pss_one (ps_set (i := 2) sc_other_frame.nd rfl (Or.inl rfl) (pe_callS G_read_wire (hr.mono (by decide)) (by rfl) T.g_read_wire T.F_read_wire.kp T.b_read_wire (fun σ => L2N.passAt tk σ) (pa_cons (pv 0) pa_nil))))) (L2N.HdsOk.cons ⟨rfl, by decide, .inl T.n_NoWire⟩ (fun a oe cls d pn _ _ => (pss_one (ps_ret pe_non))) (L2N.HdsOk.cons ⟨rfl, by decide, .inl T.n_NoFrame⟩ (fun a oe cls d pn _ _ => (pss_one (ps_ret pe_non))) L2N.HdsOk.nil))) (pss_one (ps_ret (pe_ifExp (pt_cmpR (r := rNeD K) (op_neD hr.units) (pv 2) (pv 1) (nomark _)) (pv 2) pe_non))))), ?_⟩
    -- 120
    refine o_seq ?_
    refine o_asg ?_
    refine ⟨_, rfl, ?_⟩
    -- 121
    refine o_seq ?_
    refine o_asg ?_
    obtain ⟨x_7, h6, hm⟩ := bndE hm
    refine ⟨_, rfl, ?_⟩
    refine x_nil ?_
    have Oc : Own H0 H (hAppend [] []) := (Own.pk O [] (by decide) rfl)
    refine ⟨wire_1, a_2, ovr R0 Hb H0, x_7, rfl, (Own.shrink Oc.left ovr_ex), (Oc.left.subR _ _ hp_a_2), h6, ?_⟩
    refine RetR.split (fun e_ h8 => ?_) ?_
    · subst h8
      replace hm := tryEr hm
      cases e_
      · cases (ifF (ifF hm rfl) rfl)
      · cases (ifF (ifF hm rfl) rfl)
      · cases (ifF (ifF hm rfl) rfl)
      · intro H1 hE
        replace O := O.ext hE
        replace hm := ifT (ifF hm rfl) rfl
        refine ⟨false, T.x_NoFrame_NoWire, (fun q => nomatch q), fun _ => ⟨true, T.x_NoFrame_NoFrame, fun _ a_ ha_ => ?_, fun q => nomatch q⟩⟩
        -- 126
        refine o_ret ?_
        refine o_c ?_
        obtain rfl := Option.some.inj hm
        exact k _ _ H0 _ eB (by exact (Own.pk O [] (by decide) rfl)) ⟨rfl, rfl⟩
      · cases (ifF (ifF hm rfl) rfl)
      · cases (ifF (ifF hm rfl) rfl)
      · cases (ifF (ifF hm rfl) rfl)
      · cases (ifF (ifF hm rfl) rfl)
      · intro H1 a1 ha1 hE hd1
        replace O := O.ext hE
        replace hm := ifT hm rfl
        refine ⟨true, T.x_NoWire_NoWire, fun _ a_ ha_ => ?_, fun q => nomatch q⟩
        -- 124
        refine o_ret ?_
        refine o_c ?_
        obtain rfl := Option.some.inj hm
        exact k _ _ H0 _ eB (by exact (Own.pk O [] (by decide) rfl)) ⟨rfl, rfl⟩
      · cases (ifF (ifF hm rfl) rfl)
    rintro read_w_5 h8
    subst h8
    replace hm := tryOk hm
    refine Oc.retXO (mdP (mT2 mI (mL mI))) eB fun w_9 H H0 L_10 O e_ d_ => ?_
    replace hp_a_2 := e_ _ _ hp_a_2
    replace hn_a_4 := (mT2 mI (mL mI)) _ _ _ _ e_ hn_a_4
    replace eB := eB.trans e_
    obtain ⟨rfl, h11⟩ := d_
    try simp only [n1, n2, n3, n4, n5, n6, n7] at O
    obtain ⟨p_12, rfl⟩ := rT2_ref h11
    have hn_p_12 := h11
    -- 127
    refine o_ret ?_
    obtain ⟨z_14, h15, hm⟩ := bndE hm
    refine x_ifP (c := (!decide ((read_w_5 : Int × (List Int)) = own_3))) (fun H => ∃ (R_ : Hp), Ex H0 R_ ∧ Own R_ H []) (fun v_ H => ∃ (R_ : Hp), Ex H0 R_ ∧ Own R_ H [] ∧ (rO (rT2 rI (rL rI))) (ovr R0 Hb R_) v_ z_14) (fun Q1 k1 => ?_) (fun h16 H hJ Q2 k2 => ?_) (fun h16 H hJ Q2 k2 => ?_) (fun w_17 H hJ => ?_)
    · have eJ13 : Ex H0 H0 := Ex.refl _
      refine ⟨_, rfl, _, rfl, ?_⟩
      refine k_neN (x := read_w_5) (y := own_3) (deT2 deI (deL deI)) (mT2 mI (mL mI)) (by decide) ((mT2 mI (mL mI)) _ _ _ _ (ovr_ex.trans O.ex) hn_p_12) (Ex.refl _) ((mT2 mI (mL mI)) _ _ _ _ O.ex hn_a_4) (Ex.refl _) ?_
      refine ⟨_, rfl, ?_⟩
      exact k1 _ ⟨H0, eJ13, O⟩
    · replace hm := ifT h15 h16
      obtain rfl := Option.some.inj hm
      obtain ⟨H0, eJ13, O⟩ := hJ
      replace hp_a_2 := eJ13 _ _ hp_a_2
      replace hn_a_4 := (mT2 mI (mL mI)) _ _ _ _ eJ13 hn_a_4
      replace hn_p_12 := (mT2 mI (mL mI)) _ _ _ _ (ovr_mono eJ13) hn_p_12
      replace eB := eB.trans eJ13
      refine ⟨_, rfl, ?_⟩
      exact k2 _ _ ⟨H0, eJ13, O, hn_p_12⟩
    · replace hm := ifF h15 h16
      obtain rfl := Option.some.inj hm
      obtain ⟨H0, eJ13, O⟩ := hJ
      replace hp_a_2 := eJ13 _ _ hp_a_2
      replace hn_a_4 := (mT2 mI (mL mI)) _ _ _ _ eJ13 hn_a_4
      replace hn_p_12 := (mT2 mI (mL mI)) _ _ _ _ (ovr_mono eJ13) hn_p_12
      replace eB := eB.trans eJ13
      refine o_c ?_
      exact k2 _ _ ⟨H0, eJ13, O, rfl⟩
    obtain ⟨H0, eJ13, O, h18⟩ := hJ
    replace hp_a_2 := eJ13 _ _ hp_a_2
    replace hn_a_4 := (mT2 mI (mL mI)) _ _ _ _ eJ13 hn_a_4
    replace hn_p_12 := (mT2 mI (mL mI)) _ _ _ _ (ovr_mono eJ13) hn_p_12
    replace eB := eB.trans eJ13
    have hn_w_17 := h18
    obtain rfl := Option.some.inj hm
    exact k _ _ H0 _ eB (by exact (Own.pk O [] (by decide) rfl)) ⟨rfl, hn_w_17⟩
def m_changed_L0  (at_13 : Int) (turned_7 : List Int) : Option (Fl ((List Int)) (Rs (List Int))) :=
  ifB (decide (at_13 < (0 : Int)) || decide ((List.length turned_7 : Int) ≤ at_13)) (
    some (.rt (.er .NoBits))) (
    bnd (atI turned_7 at_13) fun e_19 =>
    bnd (setG turned_7 at_13 (Builtin.bitXor e_19 (1 : Int))) fun l_21 =>
    some (.nx l_21))
def m_changed (bits_1 : List Int) (places_3 : List Int) : Option (Rs (List Int)) :=
  fin (loopF (fun at_13 s => m_changed_L0 at_13 s) places_3 bits_1) fun turned_7 =>
  some (.ok turned_7)
def sp_changed (K : PySem.W.Frag) (d : Eds) : Sp := fun vs H Q E => ∃ (bits_1 : List Int) (a_2 : Addr) (places_3 : List Int) (a_4 : Addr) (r : Rs (List Int)), vs = [.ref a_2, .ref a_4] ∧ H a_2 = some (.lst (List.map V.int bits_1)) ∧ H a_4 = some (.lst (List.map V.int places_3)) ∧ m_changed bits_1 places_3 = some r ∧ RetR (fun r => RetL (List.map V.int r) H Q) d r H E
abbrev N_changed : List Str := ["bits", "places", "turned", "at"]
theorem sc_changed : FnScope N_changed ["bits", "places"] (defScope s_changed) := ⟨rfl, rfl, rfl, by decide +kernel, rfl, by decide +kernel, by decide +kernel⟩
theorem ok_changed {ad : Ad} (T : Txt K mg ad) : FnOk P w K mg base (L2N.CX P w) 1 ad.f_changed ad.fd_changed ["bits", "places"] (sp_changed K ad.es) := by
  refine okN T.F_changed sc_changed (fun vs H Q E h => ?_) (fun cdv A outer s H vs Q E hr h => ?_)
  · obtain ⟨_, _, _, _, _, rfl, _⟩ := h
    rfl
  · obtain ⟨bits_1, a_2, places_3, a_4, r, rfl, hp_a_2, hp_a_4, hm, k⟩ := h
    unfold m_changed at hm
    obtain ⟨H0, hH0⟩ : ∃ H0 : Hp, H0 = H := ⟨H, rfl⟩
    have O : Own H0 H [] := by rw [hH0]; exact Own.start H
    rw [← hH0] at k hp_a_2 hp_a_4
    clear hH0
    refine ⟨_, (pss_cons (ps_set (i := 2) sc_changed.nd rfl (Or.inl rfl) (pe_callTy (r := rListQ K) call_listQ (by rfl) T.z_list (by decide +kernel) (pa_cons (pv 0) pa_nil))) (pss_cons (ps_for (passes_of rfl) rfl (pi_list (pv 1)) (pg_name (i := 3) sc_changed.nd rfl (Or.inl rfl)) (pss_cons (ps_if (PW.pt (pw_or (pt_cmpR op_lt (pv 3) pe_int (nomark _)) (pw_or1 (pt_cmpR op_ge (pv 3) (pe_callB (r := rLenQ K) call_lenQ (by rfl) T.z_len PySem.boot_len (pa_cons (pv 2) pa_nil)) (nomark _))))) (pss_one (ps_errN T.e_NoBits (L2N.takes_of rfl rfl rfl rfl) rfl rfl)) pss_nil) (pss_one (ps_asg (pe_op op_xor (pe_ix (r := rIxL K) ix_list (pv 2) (pv 3) (fun _ _ => rfl)) pe_int) (pg_sub (pv 2) (pv 3) set_list))))) (pss_one (ps_ret (pv 2))))), ?_⟩
    -- 26
    refine o_seq ?_
    refine o_asg ?_
    refine ⟨_, rfl, ?_⟩
    refine x_nil ?_
    refine n_list O (SqL.of (O.ex _ _ hp_a_2)) fun p_5 H O => ?_
    -- 27
    refine o_seq ?_
    refine o_for ?_
    refine ⟨_, rfl, ?_⟩
    obtain ⟨out_14, h10, h11⟩ := bndE hm
    refine ⟨_, rfl, ⟨_, (SqL.of (O.ex _ _ hp_a_4))⟩, q_forL (f := V.int) (xs := places_3) (fun r σ H => ∃ (turned_7 : List Int) (j_6 : Option V) (j_8 : Option V), σ = [j_6, some (.ref a_4), some (.ref p_5), j_8] ∧ Own H0 H [(p_5, .lst (List.map V.int turned_7))] ∧ loopF (fun at_13 s => m_changed_L0 at_13 s) r turned_7 = some out_14) ⟨_, _, _, rfl, O, h10⟩ (by rintro r σ H ⟨turned_7, j_6, j_8, rfl, O, hL⟩; exact (SqL.of (O.ex _ _ hp_a_4))) ?_ ?_⟩
    · rintro at_13 r σ H ⟨turned_7, j_6, j_8, rfl, O, hL⟩
      obtain ⟨s_, hm, h12⟩ := loopF_cons hL
      replace hm : m_changed_L0 at_13 turned_7 = some s_ := hm
      unfold m_changed_L0 at hm
      -- 28
      refine o_seq ?_
      refine o_ifs ?_
      refine x_or (c := decide (at_13 < (0 : Int))) (e := decide ((List.length turned_7 : Int) ≤ at_13)) (d := (decide (at_13 < (0 : Int)) || decide ((List.length turned_7 : Int) ≤ at_13))) O (fun Q1 k1 => ?_) (fun h17 => ⟨by rw [h17]; rfl, fun H O Q2 k2 => ?_⟩) (fun h17 => by rw [h17]; rfl) (fun H O => ?_)
      · refine ⟨_, rfl, _, _, rfl, rfl, _, rfl, ?_⟩
        exact k1 _ O
      · refine ⟨_, rfl, _, rfl, ?_⟩
        refine x_nil ?_
        refine n_len (SqL.of (O.mem (hd_))) ?_
        refine ⟨_, _, rfl, rfl, _, rfl, ?_⟩
        exact k2 _ O
      refine iteS (c := (decide (at_13 < (0 : Int)) || decide ((List.length turned_7 : Int) ≤ at_13))) (fun h18 => ?_) (fun h18 => ?_)
      · replace hm := ifT hm h18
        -- 29
        obtain rfl := Option.some.inj hm
        obtain rfl := contRt h12
        obtain rfl := finRt h11
        exact k _ O.ex
      · replace hm := ifF hm h18
        refine o_next ?_
        -- 30
        refine o_sub ?_
        obtain ⟨e_19, h20, hm⟩ := bndE hm
        refine ⟨_, rfl, _, rfl, ?_⟩
        refine k_ixL (f := V.int) (SqL.of (O.mem (hd_))) h20 ?_
        obtain ⟨l_21, h22, hm⟩ := bndE hm
        refine ⟨_, _, rfl, rfl, _, rfl, _, rfl, ?_⟩
        refine k_setL (f := V.int) (O.mem (hd_)) (fun _ => O.put0) h22 fun H O => ?_
        have Oz := O
        obtain rfl := Option.some.inj hm
        exact ⟨_, _, _, rfl, Oz, h12⟩
    rintro σ H ⟨turned_7, j_6, j_8, rfl, O, hL⟩
    obtain rfl := loopF_nil hL
    replace hm := finNx h11
    -- 31
    refine o_ret ?_
    refine ⟨_, rfl, ?_⟩
    obtain rfl := Option.some.inj hm
    exact RetL.go k O (hd_)
def m_slips_L0 (wire_o_7 : List Int) (place_16 : Int) : Option (Fl (Unit) (Rs (List ((List Int) × (Option (Int × (List Int))))))) :=
  ifB (decide (place_16 < (0 : Int)) || decide ((List.length wire_o_7 : Int) ≤ place_16)) (
    some (.rt (.er .NoBits))) (
    some (.nx ()))
def m_slips_L1 (name_1 : Int) (data_2 : List Int) (wire_o_7 : List Int) (row_42 : List Int) (slipped_34 : List ((List Int) × (Option (Int × (List Int))))) : Option (Fl ((List ((List Int) × (Option (Int × (List Int)))))) (Rs (List ((List Int) × (Option (Int × (List Int))))))) :=
  bndRF (m_changed wire_o_7 row_42) fun change_47 =>
  bnd (m_other_frame change_47 (name_1, data_2)) fun other_54 =>
  ifB (!Option.isNone other_54) (
    bnd (appG slipped_34 (row_42, other_54)) fun l_61 =>
    some (.nx l_61)) (
    some (.nx slipped_34))
def m_slips (name_1 : Int) (data_2 : List Int) (places_4 : List Int) (most_6 : Int) : Option (Rs (List ((List Int) × (Option (Int × (List Int)))))) :=
  bndR (m_wire_of name_1 data_2) fun wire_o_7 =>
  fin (loopF (fun place_16 (_ : Unit) => m_slips_L0 wire_o_7 place_16) places_4 ()) fun _ =>
  bnd (m_rows_of places_4 most_6) fun rows_o_24 =>
  fin (loopF (fun row_42 s => m_slips_L1 name_1 data_2 wire_o_7 row_42 s) rows_o_24 ([] : List ((List Int) × (Option (Int × (List Int)))))) fun slipped_34 =>
  some (.ok slipped_34)
def sp_slips (K : PySem.W.Frag) (ad : Ad) (d : Eds) : Sp := fun vs H Q E => ∃ (name_1 : Int) (data_2 : List Int) (a_3 : Addr) (places_4 : List Int) (a_5 : Addr) (most_6 : Int) (R0 : Hp) (r : Rs (List ((List Int) × (Option (Int × (List Int)))))), vs = [.int name_1, .ref a_3, .ref a_5, .int most_6] ∧ Own R0 H [] ∧ (hsub H []) a_3 = some (.lst (List.map V.int data_2)) ∧ (hsub H []) a_5 = some (.lst (List.map V.int places_4)) ∧ m_slips name_1 data_2 places_4 most_6 = some r ∧ RetR (fun r => RetX R0 (hsub H []) (dP (rL (rT2 (rL rI) (rO (rT2 rI (rL rI))))) r) Q) d r H E
abbrev N_slips : List Str := ["name", "data", "places", "most", "wire", "place", "slipped", "row", "found"]
theorem sc_slips : FnScope N_slips ["name", "data", "places", "most"] (defScope s_slips) := ⟨rfl, rfl, rfl, by decide +kernel, rfl, by decide +kernel, by decide +kernel⟩
theorem ok_slips {ad : Ad} (T : Txt K mg ad) : FnOk P w K mg base (L2N.CX P w) 6 ad.f_slips ad.fd_slips ["name", "data", "places", "most"] (sp_slips K ad ad.es) := by
  have G_changed := ok_changed (P := P) (w := w) (base := base) T
  have G_other_frame := ok_other_frame (P := P) (w := w) (base := base) T
  have G_rows_of := ok_rows_of (P := P) (w := w) (base := base) T
  have G_wire_of := ok_wire_of (P := P) (w := w) (base := base) T
  refine okN T.F_slips sc_slips (fun vs H Q E h => ?_) (fun cdv A outer s H vs Q E hr h => ?_)
  · obtain ⟨_, _, _, _, _, _, _, _, rfl, _⟩ := h
    rfl
  · obtain ⟨name_1, data_2, a_3, places_4, a_5, most_6, R0, r, rfl, OO, hp_a_3, hp_a_5, hm, k⟩ := h
    unfold m_slips at hm
    obtain ⟨Hb, hHb⟩ : ∃ Hb : Hp, Hb = hsub H [] := ⟨_, rfl⟩
    obtain ⟨H0, hH0⟩ : ∃ H0 : Hp, H0 = Hb := ⟨Hb, rfl⟩
    have O : Own H0 H [] := by rw [hH0, hHb]; exact OO.startX
    have eR : Ex R0 Hb := by rw [hHb]; exact OO.subR
    rw [← hHb] at k hp_a_3 hp_a_5
    have eB : Ex Hb H0 := by rw [hH0]; exact Ex.refl _
    have eS : Ex R0 (ovr R0 Hb H0) := by rw [hH0]; exact ovr_start eR
    rw [← hH0] at hp_a_3
    rw [← hH0] at hp_a_5
    clear hH0
    refine ⟨_, (pss_cons (ps_set (i := 4) sc_slips.nd rfl (Or.inl rfl) (pe_call G_wire_of (hr.mono (by decide)) (by rfl) T.g_wire_of T.F_wire_of.kp T.b_wire_of .nil (E := E) (L2N.passes_call (L2N.takes_of rfl rfl rfl rfl) fun _ _ _ _ h => h) (pa_cons (pv 0) (pa_cons (pv 1) pa_nil)))) (pss_cons (ps_for (passes_of rfl) rfl (pi_list (pv 2)) (pg_name (i := 5) sc_slips.nd rfl (Or.inl rfl)) (pss_one (ps_if (PW.pt (pw_or (pt_cmpR op_lt (pv 5) pe_int (nomark _)) (pw_or1 (pt_cmpR op_ge (pv 5) (pe_callB (r := rLenQ K) call_lenQ (by rfl) T.z_len PySem.boot_len (pa_cons (pv 4) pa_nil)) (nomark _))))) (pss_one (ps_errN T.e_NoBits (L2N.takes_of rfl rfl rfl rfl) rfl rfl)) pss_nil))) (pss_cons (ps_set (i := 6) sc_slips.nd rfl (Or.inl rfl) (pe_lstQ (pe_lst pa_nil))) (pss_cons (ps_for (passes_of rfl) rfl (pi_list (pe_call G_rows_of (hr.mono (by decide)) (by rfl) T.g_rows_of T.F_rows_of.kp T.b_rows_of .nil pass0 (pa_cons (pv 2) (pa_cons (pv 3) pa_nil)))) (pg_name (i := 7) sc_slips.nd rfl (Or.inl rfl)) (pss_cons (ps_set (i := 8) sc_slips.nd rfl (Or.inl rfl) (pe_call G_other_frame (hr.mono (by decide)) (by rfl) T.g_other_frame T.F_other_frame.kp T.b_other_frame .nil pass0 (pa_cons (pe_call G_changed (hr.mono (by decide)) (by rfl) T.g_changed T.F_changed.kp T.b_changed .nil (E := E) (L2N.passes_call (L2N.takes_of rfl rfl rfl rfl) fun _ _ _ _ h => h) (pa_cons (pv 4) (pa_cons (pv 7) pa_nil))) (pa_cons (pe_tupQ (pe_tup (pa_cons (pv 0) (pa_cons (pe_callTy (r := rListQ K) call_listQ (by rfl) T.z_list (by decide +kernel) (pa_cons (pv 1) pa_nil)) pa_nil)))) pa_nil)))) (pss_one (ps_if (pt_cmpR (r := rNotN) op_notNq (pv 8) pe_non (nomark _)) (pss_one (ps_expr (pe_bm PySem.F.plainAttrs_list PySem.F.slot_list_append PySem.F.type_list_append mt_append (pv 6) (pa_cons (pe_tupQ (pe_tup (pa_cons (pv 7) (pa_cons (pv 8) pa_nil)))) pa_nil)))) pss_nil)))) (pss_one (ps_ret (pv 6))))))), ?_⟩
    -- 129
    refine o_seq ?_
    refine o_asg ?_
    obtain ⟨x_9, h8, hm⟩ := bndRE hm
    refine ⟨_, rfl, _, rfl, ?_⟩
    refine x_nil ?_
    refine ⟨_, _, _, x_9, rfl, (O.ex _ _ hp_a_3), h8, ?_⟩
    refine RetR.split (fun e_ h10 => ?_) (fun wire_o_7 h10 => ?_)
    · subst h10
      obtain rfl := erR hm
      exact RetE.up k (Own.whole OO hHb eB (show Own _ _ (hAppend [] []) from (Own.pk O [] (by decide) rfl)))
    subst h10
    replace hm := okR hm
    refine O.retL fun p_11 H O => ?_
    -- 130
    refine o_seq ?_
    refine o_for ?_
    refine ⟨_, rfl, ?_⟩
    obtain ⟨out_17, h13, h14⟩ := bndE hm
    refine ⟨_, rfl, ⟨_, (SqL.of (O.ex _ _ hp_a_5))⟩, q_forL (f := V.int) (xs := places_4) (fun r σ H => ∃ (R_ : Hp) (j_12 : Option V), σ = [some (.int name_1), some (.ref a_3), some (.ref a_5), some (.int most_6), some (.ref p_11), j_12, none, none, none] ∧ Ex H0 R_ ∧ Own R_ H [(p_11, .lst (List.map V.int wire_o_7))] ∧ loopF (fun place_16 (_ : Unit) => m_slips_L0 wire_o_7 place_16) r () = some out_17) ⟨H0, _, rfl, Ex.refl _, O, h13⟩ (by rintro r σ H ⟨H0, j_12, rfl, eJ_, O, hL⟩; replace hp_a_3 := eJ_ _ _ hp_a_3; replace hp_a_5 := eJ_ _ _ hp_a_5; exact (SqL.of (O.ex _ _ hp_a_5))) ?_ ?_⟩
    · rintro place_16 r σ H ⟨H0, j_12, rfl, eL17, O, hL⟩
      replace hp_a_3 := eL17 _ _ hp_a_3
      replace hp_a_5 := eL17 _ _ hp_a_5
      replace eB := eB.trans eL17
      obtain ⟨s_, hm, h15⟩ := loopF_cons hL
      replace hm : m_slips_L0 wire_o_7 place_16 = some s_ := hm
      unfold m_slips_L0 at hm
      -- 131
      refine o_ifs ?_
      refine x_orJ (c := decide (place_16 < (0 : Int))) (e := decide ((List.length wire_o_7 : Int) ≤ place_16)) (d := (decide (place_16 < (0 : Int)) || decide ((List.length wire_o_7 : Int) ≤ place_16))) (fun H => ∃ (R_ : Hp), Ex H0 R_ ∧ Own R_ H [(p_11, .lst (List.map V.int wire_o_7))]) (fun Q1 k1 => ?_) (fun h20 => ⟨by rw [h20]; rfl, fun H hJ Q2 k2 => ?_⟩) (fun h20 => by rw [h20]; rfl) (fun H hJ => ?_)
      · have eJ21 : Ex H0 H0 := Ex.refl _
        refine ⟨_, rfl, _, _, rfl, rfl, _, rfl, ?_⟩
        exact k1 _ ⟨H0, eJ21, O⟩
      · obtain ⟨H0, eJ21, O⟩ := hJ
        replace hp_a_3 := eJ21 _ _ hp_a_3
        replace hp_a_5 := eJ21 _ _ hp_a_5
        replace eB := eB.trans eJ21
        replace eL17 := eL17.trans eJ21
        refine ⟨_, rfl, _, rfl, ?_⟩
        refine x_nil ?_
        refine n_len (SqL.of (O.mem (hd_))) ?_
        refine ⟨_, _, rfl, rfl, _, rfl, ?_⟩
        exact k2 _ ⟨H0, eJ21, O⟩
      obtain ⟨H0, eJ21, O⟩ := hJ
      replace hp_a_3 := eJ21 _ _ hp_a_3
      replace hp_a_5 := eJ21 _ _ hp_a_5
      replace eB := eB.trans eJ21
      replace eL17 := eL17.trans eJ21
      refine iteS (c := (decide (place_16 < (0 : Int)) || decide ((List.length wire_o_7 : Int) ≤ place_16))) (fun h22 => ?_) (fun h22 => ?_)
      · replace hm := ifT hm h22
        -- 132
        obtain rfl := Option.some.inj hm
        obtain rfl := contRt h15
        obtain rfl := finRt h14
        exact k _ (Own.whole OO hHb eB (show Own _ _ (hAppend [] [(p_11, .lst (List.map V.int wire_o_7))]) from (Own.pk O [0] (by decide) rfl)))
      · replace hm := ifF hm h22
        refine o_next ?_
        have Oz := O
        obtain rfl := Option.some.inj hm
        exact ⟨H0, _, rfl, eL17, Oz, h15⟩
    rintro σ H ⟨H0, j_12, rfl, eJ_, O, hL⟩
    replace hp_a_3 := eJ_ _ _ hp_a_3
    replace hp_a_5 := eJ_ _ _ hp_a_5
    replace eB := eB.trans eJ_
    obtain rfl := loopF_nil hL
    replace hm := finNx h14
    -- 133
    refine o_seq ?_
    refine o_asg ?_
    refine x_nil ?_
    refine n_lstV O (by show 0 ≤ sizeLine; decide) fun p_23 H O => ?_
    have ha_p_23 : All2 ((rT2 (rL rI) (rO (rT2 rI (rL rI)))) (ovr R0 Hb H0)) ([] : List V) (([] : List ((List Int) × (Option (Int × (List Int))))) : List ((List Int) × (Option (Int × (List Int))))) := .nil
    -- 134
    refine o_seq ?_
    refine o_for ?_
    obtain ⟨rows_o_24, h25, hm⟩ := bndE hm
    refine ⟨_, rfl, _, rfl, ?_⟩
    refine x_nil ?_
    have Oc : Own H0 H (hAppend [] [(p_23, .lst ([] : List V)), (p_11, .lst (List.map V.int wire_o_7))]) := (Own.pk O [0, 1] (by decide) rfl)
    refine ⟨places_4, a_5, most_6, ovr R0 Hb H0, rows_o_24, rfl, (Own.shrink Oc.left ovr_ex), (Oc.left.subR _ _ hp_a_5), h25, ?_⟩
    refine Oc.retXO (mdP (mL (mL mI))) eB fun w_26 H H0 L_27 O e_ d_ => ?_
    replace hp_a_3 := e_ _ _ hp_a_3
    replace hp_a_5 := e_ _ _ hp_a_5
    replace ha_p_23 := mA (mT2 (mL mI) (mO (mT2 mI (mL mI)))) (ovr_mono e_) ha_p_23
    replace eB := eB.trans e_
    obtain ⟨rfl, h28⟩ := d_
    try simp only [n1, n2, n3, n4, n5, n6, n7] at O
    obtain ⟨p_29, rfl⟩ := rL_ref h28
    have hn_p_29 := h28
    obtain ⟨vs_30, h31, h32⟩ := rL_at hn_p_29
    obtain ⟨out_43, h39, h40⟩ := bndE hm
    refine ⟨_, rfl, ⟨_, (SqL.of ((ovr_ex.trans O.ex) _ _ h31))⟩, q_forA (b := fun _ _ => False) (k := fun _ _ => False) h32 (fun r σ H => ∃ (R_ : Hp) (slipped_34 : List ((List Int) × (Option (Int × (List Int))))) (vs_35 : List V) (j_33 : Option V) (j_36 : Option V) (j_37 : Option V), σ = [some (.int name_1), some (.ref a_3), some (.ref a_5), some (.int most_6), some (.ref p_11), j_33, some (.ref p_23), j_36, j_37] ∧ Ex H0 R_ ∧ Own R_ H [(p_11, .lst (List.map V.int wire_o_7)), (p_23, .lst vs_35)] ∧ All2 ((rT2 (rL rI) (rO (rT2 rI (rL rI)))) (ovr R0 Hb R_)) vs_35 slipped_34 ∧ loopF (fun row_42 s => m_slips_L1 name_1 data_2 wire_o_7 row_42 s) r slipped_34 = some out_43) ⟨H0, ([] : List ((List Int) × (Option (Int × (List Int))))), (([] : List V)), _, _, _, rfl, Ex.refl _, (Own.pk (L' := [(p_11, .lst (List.map V.int wire_o_7)), (p_23, .lst ([] : List V))]) O [1, 0] (by decide) rfl), ha_p_23, h39⟩ (by rintro r σ H ⟨H0, slipped_34, vs_35, j_33, j_36, j_37, rfl, eJ_, O, ha_p_23, hL⟩; exact (SqL.of ((O.ex _ _ ((ovr_ex.trans eJ_) _ _ h31))))) ?_ ?_⟩
    · rintro row_42 w_44 r σ H h45 ⟨H0, slipped_34, vs_35, j_33, j_36, j_37, rfl, eL43, O, ha_p_23, hL⟩
      replace hp_a_3 := eL43 _ _ hp_a_3
      replace hp_a_5 := eL43 _ _ hp_a_5
      replace eB := eB.trans eL43
      obtain ⟨s_, hm, h41⟩ := loopF_cons hL
      replace hm : m_slips_L1 name_1 data_2 wire_o_7 row_42 slipped_34 = some s_ := hm
      unfold m_slips_L1 at hm
      replace h45 := (mL mI) _ _ _ _ (ovr_mono eL43) h45
      obtain ⟨p_46, rfl, hp_p_46⟩ := fI h45
      -- 135
      refine o_seq ?_
      refine o_asg ?_
      obtain ⟨x_49, h48, hm⟩ := bndRFE hm
      refine ⟨_, rfl, _, rfl, ?_⟩
      refine x_nil ?_
      refine ⟨_, _, _, _, x_49, rfl, (O.mem (hd_)), (O.ex _ _ (ovr_ex _ _ hp_p_46)), h48, ?_⟩
      refine RetR.split (fun e_ h50 => ?_) (fun change_47 h50 => ?_)
      · subst h50
        obtain rfl := erRF hm
        obtain rfl := contRt h41
        obtain rfl := finRt h40
        exact RetE.up k (Own.whole OO hHb eB (show Own _ _ (hAppend [] [(p_11, .lst (List.map V.int wire_o_7)), (p_23, .lst vs_35)]) from (Own.pk O [0, 1] (by decide) rfl)))
      subst h50
      replace hm := okRF hm
      refine O.retL fun p_51 H O => ?_
      refine ⟨_, rfl, _, rfl, ?_⟩
      refine x_nil ?_
      refine n_list O (SqL.of (O.ex _ _ hp_a_3)) fun p_52 H O => ?_
      refine x_nil ?_
      obtain ⟨H0, O, e_, hp_p_52⟩ := O.frzO (R0 := R0) eB
      replace hp_a_3 := e_ _ _ hp_a_3
      replace hp_a_5 := e_ _ _ hp_a_5
      replace ha_p_23 := mA (mT2 (mL mI) (mO (mT2 mI (mL mI)))) (ovr_mono e_) ha_p_23
      replace hp_p_46 := (ovr_mono e_) _ _ hp_p_46
      replace eB := eB.trans e_
      replace eL43 := eL43.trans e_
      refine n_tup O (by show 2 ≤ sizeLine; decide) fun p_53 H O => ?_
      obtain ⟨H0, O, e_, hp_p_53⟩ := O.frzO (R0 := R0) eB
      replace hp_a_3 := e_ _ _ hp_a_3
      replace hp_a_5 := e_ _ _ hp_a_5
      replace ha_p_23 := mA (mT2 (mL mI) (mO (mT2 mI (mL mI)))) (ovr_mono e_) ha_p_23
      replace hp_p_46 := (ovr_mono e_) _ _ hp_p_46
      replace hp_p_52 := (ovr_mono e_) _ _ hp_p_52
      replace eB := eB.trans e_
      replace eL43 := eL43.trans e_
      have hn_p_53 : (rT2 rI (rL rI)) (ovr R0 Hb H0) (.ref p_53) ((name_1, data_2) : Int × (List Int)) := ⟨_, _, _, rfl, hp_p_53, rfl, (gI hp_p_52)⟩
      obtain ⟨other_54, h55, hm⟩ := bndE hm
      refine x_nil ?_
      have Oc : Own H0 H (hAppend [] [(p_51, .lst (List.map V.int change_47)), (p_11, .lst (List.map V.int wire_o_7)), (p_23, .lst vs_35)]) := (Own.pk O [0, 1, 2] (by decide) rfl)
      refine ⟨change_47, p_51, (name_1, data_2), _, ovr R0 Hb H0, other_54, rfl, (Own.shrink Oc.left ovr_ex), (Own.inC Oc (hd_)), ((mT2 mI (mL mI)) _ _ _ _ (Ex.trans ovr_ex Oc.left.subR) hn_p_53), h55, ?_⟩
      refine Oc.retXO (mdP (mO (mT2 mI (mL mI)))) eB fun w_56 H H0 L_57 O e_ d_ => ?_
      replace hp_a_3 := e_ _ _ hp_a_3
      replace hp_a_5 := e_ _ _ hp_a_5
      replace ha_p_23 := mA (mT2 (mL mI) (mO (mT2 mI (mL mI)))) (ovr_mono e_) ha_p_23
      replace hp_p_46 := (ovr_mono e_) _ _ hp_p_46
      replace hp_p_52 := (ovr_mono e_) _ _ hp_p_52
      replace hp_p_53 := (ovr_mono e_) _ _ hp_p_53
      replace hn_p_53 := (mT2 mI (mL mI)) _ _ _ _ (ovr_mono e_) hn_p_53
      replace eB := eB.trans e_
      replace eL43 := eL43.trans e_
      obtain ⟨rfl, h58⟩ := d_
      try simp only [n1, n2, n3, n4, n5, n6, n7] at O
      have hn_w_56 := h58
      -- 136
      refine o_ifs ?_
      refine ⟨_, rfl, ?_⟩
      refine o_c ?_
      refine k_notN nnT2 hn_w_56 ?_
      refine ⟨_, rfl, ?_⟩
      refine iteS (c := (!Option.isNone other_54)) (fun h59 => ?_) (fun h59 => ?_)
      · replace hm := ifT hm h59
        -- 137
        refine o_drop ?_
        refine ⟨_, rfl, .inl ⟨rfl, _, (SqL.of (O.mem (tl_ (tl_ (hd_)))))⟩, _, rfl, _, rfl, ?_⟩
        refine x_nil ?_
        refine n_tup O (by show 2 ≤ sizeLine; decide) fun p_60 H O => ?_
        obtain ⟨H0, O, e_, hp_p_60⟩ := O.frzO (R0 := R0) eB
        replace hp_a_3 := e_ _ _ hp_a_3
        replace hp_a_5 := e_ _ _ hp_a_5
        replace ha_p_23 := mA (mT2 (mL mI) (mO (mT2 mI (mL mI)))) (ovr_mono e_) ha_p_23
        replace hp_p_46 := (ovr_mono e_) _ _ hp_p_46
        replace hp_p_52 := (ovr_mono e_) _ _ hp_p_52
        replace hp_p_53 := (ovr_mono e_) _ _ hp_p_53
        replace hn_p_53 := (mT2 mI (mL mI)) _ _ _ _ (ovr_mono e_) hn_p_53
        replace hn_w_56 := (mO (mT2 mI (mL mI))) _ _ _ _ (ovr_mono e_) hn_w_56
        replace eB := eB.trans e_
        replace eL43 := eL43.trans e_
        have hn_p_60 : (rT2 (rL rI) (rO (rT2 rI (rL rI)))) (ovr R0 Hb H0) (.ref p_60) ((row_42, other_54) : (List Int) × (Option (Int × (List Int)))) := ⟨_, _, _, rfl, hp_p_60, (gI hp_p_46), hn_w_56⟩
        refine x_nil ?_
        obtain ⟨l_61, h62, hm⟩ := bndE hm
        refine k_appA (O.mem (tl_ (tl_ (hd_)))) ha_p_23 (fun _ => O.put2) h62 hn_p_60 fun H O ha_p_23 => ?_
        have Oz := O
        obtain rfl := Option.some.inj hm
        exact ⟨H0, _, ((vs_35 ++ [.ref p_60])), _, _, _, rfl, eL43, (Own.pk (L' := [(p_11, .lst (List.map V.int wire_o_7)), (p_23, .lst (vs_35 ++ [.ref p_60]))]) Oz [1, 2] (by decide) rfl), ha_p_23, h41⟩
      · replace hm := ifF hm h59
        refine o_next ?_
        have Oz := O
        obtain rfl := Option.some.inj hm
        exact ⟨H0, _, (vs_35), _, _, _, rfl, eL43, (Own.pk (L' := [(p_11, .lst (List.map V.int wire_o_7)), (p_23, .lst vs_35)]) Oz [1, 2] (by decide) rfl), ha_p_23, h41⟩
    rintro σ H ⟨H0, slipped_34, vs_35, j_33, j_36, j_37, rfl, eJ_, O, ha_p_23, hL⟩
    replace hp_a_3 := eJ_ _ _ hp_a_3
    replace hp_a_5 := eJ_ _ _ hp_a_5
    replace eB := eB.trans eJ_
    obtain rfl := loopF_nil hL
    replace hm := finNx h40
    -- 138
    refine o_ret ?_
    refine ⟨_, rfl, ?_⟩
    obtain rfl := Option.some.inj hm
    replace O := (Own.pk (L' := [(p_23, .lst vs_35), (p_11, .lst (List.map V.int wire_o_7))]) O [1, 0] (by decide) rfl)
    obtain ⟨H0, O, e_, hp_p_23⟩ := O.frzO (R0 := R0) eB
    replace hp_a_3 := e_ _ _ hp_a_3
    replace hp_a_5 := e_ _ _ hp_a_5
    replace ha_p_23 := mA (mT2 (mL mI) (mO (mT2 mI (mL mI)))) (ovr_mono e_) ha_p_23
    replace eB := eB.trans e_
    have hn_p_23 : (rL (rT2 (rL rI) (rO (rT2 rI (rL rI))))) (ovr R0 Hb H0) (.ref p_23) slipped_34 := ⟨_, _, rfl, hp_p_23, ha_p_23⟩
    exact k _ _ H0 _ eB (by exact (Own.pk O [] (by decide) rfl)) ⟨rfl, hn_p_23⟩
def m__law_rest_L0  (bit_9 : Int) (rest_3 : Int) : Option (Int) :=
  ltv (((rest_3 * (2 : Int)) + bit_9)) fun rest_13 =>
  ifB (decide ((32768 : Int) ≤ rest_13)) (
    some (Builtin.bitXor rest_13 (64647 : Int))) (
    some rest_13)
def m__law_rest (bits_1 : List Int) : Option (Int) :=
  bnd (loopM (fun bit_9 s => m__law_rest_L0 bit_9 s) bits_1 (0 : Int)) fun rest_5 =>
  some rest_5
def sp__law_rest (K : PySem.W.Frag) : Sp := fun vs H Q _ => ∃ (bits_1 : List Int) (a_2 : Addr) (r : Int), vs = [.ref a_2] ∧ H a_2 = some (.lst (List.map V.int bits_1)) ∧ m__law_rest bits_1 = some r ∧ RetV (.int r) H Q
abbrev N__law_rest : List Str := ["bits", "rest", "bit"]
theorem sc__law_rest : FnScope N__law_rest ["bits"] (defScope s__law_rest) := ⟨rfl, rfl, rfl, by decide +kernel, rfl, by decide +kernel, by decide +kernel⟩
theorem ok__law_rest {ad : Ad} (T : Txt K mg ad) : FnOk P w K mg base CX0 1 ad.f__law_rest ad.fd__law_rest ["bits"] (sp__law_rest K) := by
  refine T.F__law_rest.ok sc__law_rest (fun vs H Q E h => ?_) (fun cdv A outer s H vs Q E hr h => ?_)
  · obtain ⟨_, _, _, rfl, _⟩ := h
    rfl
  · obtain ⟨bits_1, a_2, r, rfl, hp_a_2, hm, k⟩ := h
    unfold m__law_rest at hm
    obtain ⟨H0, hH0⟩ : ∃ H0 : Hp, H0 = H := ⟨H, rfl⟩
    have O : Own H0 H [] := by rw [hH0]; exact Own.start H
    rw [← hH0] at k hp_a_2
    clear hH0
    refine ⟨_, (pss_cons (ps_set (i := 1) sc__law_rest.nd rfl (Or.inl rfl) pe_int) (pss_cons (ps_for PassesOwn.never rfl (pi_list (pv 0)) (pg_name (i := 2) sc__law_rest.nd rfl (Or.inl rfl)) (pss_cons (ps_set (i := 1) sc__law_rest.nd rfl (Or.inl rfl) (pe_op op_add (pe_op op_mul (pv 1) pe_int) (pv 2))) (pss_one (ps_if (pt_cmpR op_ge (pv 1) pe_int (nomark _)) (pss_one (ps_set (i := 1) sc__law_rest.nd rfl (Or.inl rfl) (pe_op op_xor (pv 1) pe_int))) pss_nil)))) (pss_one (ps_ret (pv 1))))), ?_⟩
    -- 150
    refine o_seq ?_
    refine o_asg ?_
    refine o_c ?_
    -- 151
    refine o_seq ?_
    refine o_for ?_
    refine ⟨_, rfl, ?_⟩
    obtain ⟨rest_5, h6, hm⟩ := bndE hm
    refine ⟨_, rfl, ⟨_, (SqL.of (O.ex _ _ hp_a_2))⟩, q_forL (f := V.int) (xs := bits_1) (fun r σ H => ∃ (rest_3 : Int) (j_4 : Option V), σ = [some (.ref a_2), some (.int rest_3), j_4] ∧ Own H0 H [] ∧ loopM (fun bit_9 s => m__law_rest_L0 bit_9 s) r rest_3 = some rest_5) ⟨_, _, rfl, O, h6⟩ (by rintro r σ H ⟨rest_3, j_4, rfl, O, hL⟩; exact (SqL.of (O.ex _ _ hp_a_2))) ?_ ?_⟩
    · rintro bit_9 r σ H ⟨rest_3, j_4, rfl, O, hL⟩
      obtain ⟨s_, hm, h8⟩ := loopM_cons hL
      replace hm : m__law_rest_L0 bit_9 rest_3 = some s_ := hm
      unfold m__law_rest_L0 at hm
      -- 152
      refine o_seq ?_
      refine o_asg ?_
      refine ⟨_, rfl, _, _, rfl, rfl, .inr ⟨by decide, by decide⟩, _, rfl, _, _, rfl, rfl, ?_⟩
      obtain ⟨rest_13, h14, hm⟩ := ltvE hm
      refine a_set (congrArg V.int h14) ?_
      -- 153
      refine o_ifs ?_
      refine ⟨_, rfl, _, _, rfl, rfl, _, rfl, ?_⟩
      refine iteS (c := decide ((32768 : Int) ≤ rest_13)) (fun h15 => ?_) (fun h15 => ?_)
      · replace hm := ifT hm h15
        -- 154
        refine o_asg ?_
        refine ⟨_, rfl, _, _, rfl, rfl, ?_⟩
        have Oz := O
        obtain rfl := Option.some.inj hm
        exact ⟨_, _, rfl, Oz, h8⟩
      · replace hm := ifF hm h15
        refine o_next ?_
        have Oz := O
        obtain rfl := Option.some.inj hm
        exact ⟨_, _, rfl, Oz, h8⟩
    rintro σ H ⟨rest_3, j_4, rfl, O, hL⟩
    cases loopM_nil hL
    -- 155
    refine o_ret ?_
    refine ⟨_, rfl, ?_⟩
    obtain rfl := Option.some.inj hm
    exact RetV.go k O
def m__law_frame_bits_C0 (name_1 : Int) (k_7 : Int) : Option Int :=
  bnd (shrG name_1 ((7 : Int) - k_7)) fun t_12 =>
  some (Builtin.bitAnd t_12 (1 : Int))
def m__law_frame_bits_C1 (data_2 : List Int) (k_19 : Int) : Option Int :=
  bnd (shrG (List.length data_2 : Int) ((2 : Int) - k_19)) fun t_24 =>
  some (Builtin.bitAnd t_24 (1 : Int))
def m__law_frame_bits_C3 (byte_37 : Int) (k_43 : Int) : Option Int :=
  bnd (shrG byte_37 ((7 : Int) - k_43)) fun t_48 =>
  some (Builtin.bitAnd t_48 (1 : Int))
def m__law_frame_bits_L2  (byte_37 : Int) (bits_30 : List Int) : Option ((List Int)) :=
  bnd (rng1 (8 : Int)) fun rg_41 =>
  bnd (compM (m__law_frame_bits_C3 byte_37) rg_41 []) fun l_45 =>
  bnd (catG bits_30 l_45) fun t_50 =>
  some t_50
def m__law_frame_bits_C4 (law_re_60 : Int) (k_64 : Int) : Option Int :=
  bnd (shrG law_re_60 ((14 : Int) - k_64)) fun t_69 =>
  some (Builtin.bitAnd t_69 (1 : Int))
def m__law_frame_bits (name_1 : Int) (data_2 : List Int) : Option (List Int) :=
  bnd (rng1 (8 : Int)) fun rg_5 =>
  bnd (compM (m__law_frame_bits_C0 name_1) rg_5 []) fun l_9 =>
  bnd (catG ([(0 : Int)]) l_9) fun t_14 =>
  bnd (rng1 (3 : Int)) fun rg_17 =>
  bnd (compM (m__law_frame_bits_C1 data_2) rg_17 []) fun l_21 =>
  bnd (catG t_14 l_21) fun t_26 =>
  bnd (loopM (fun byte_37 s => m__law_frame_bits_L2 byte_37 s) data_2 t_26) fun bits_33 =>
  bnd (repG ([(0 : Int)]) (15 : Int)) fun t_54 =>
  bnd (catG bits_33 t_54) fun t_57 =>
  bnd (m__law_rest t_57) fun law_re_60 =>
  bnd (rng1 (15 : Int)) fun rg_62 =>
  bnd (compM (m__law_frame_bits_C4 law_re_60) rg_62 []) fun l_66 =>
  bnd (catG bits_33 l_66) fun t_71 =>
  some t_71
def sp__law_frame_bits (K : PySem.W.Frag) : Sp := fun vs H Q _ => ∃ (name_1 : Int) (data_2 : List Int) (a_3 : Addr) (r : List Int), vs = [.int name_1, .ref a_3] ∧ H a_3 = some (.lst (List.map V.int data_2)) ∧ m__law_frame_bits name_1 data_2 = some r ∧ RetL (List.map V.int r) H Q
abbrev N__law_frame_bits : List Str := ["name", "data", "bits", "byte", "rest", "k"]
theorem sc__law_frame_bits : FnScope N__law_frame_bits ["name", "data"] (defScope s__law_frame_bits) := ⟨rfl, rfl, rfl, by decide +kernel, rfl, by decide +kernel, by decide +kernel⟩
theorem ok__law_frame_bits {ad : Ad} (T : Txt K mg ad) : FnOk P w K mg base CX0 2 ad.f__law_frame_bits ad.fd__law_frame_bits ["name", "data"] (sp__law_frame_bits K) := by
  have G__law_rest := ok__law_rest (P := P) (w := w) (base := base) T
  refine T.F__law_frame_bits.ok sc__law_frame_bits (fun vs H Q E h => ?_) (fun cdv A outer s H vs Q E hr h => ?_)
  · obtain ⟨_, _, _, _, rfl, _⟩ := h
    rfl
  · obtain ⟨name_1, data_2, a_3, r, rfl, hp_a_3, hm, k⟩ := h
    unfold m__law_frame_bits at hm
    obtain ⟨H0, hH0⟩ : ∃ H0 : Hp, H0 = H := ⟨H, rfl⟩
    have O : Own H0 H [] := by rw [hH0]; exact Own.start H
    rw [← hH0] at k hp_a_3
    clear hH0
    refine ⟨_, (pss_cons (ps_set (i := 2) sc__law_frame_bits.nd rfl (Or.inl rfl) (pe_op op_cat (pe_op op_cat (pe_lstQ (pe_lst (pa_cons pe_int pa_nil))) (pe_lc (own := [("k", 5)]) (g := gName 5) (tt := tYes) rfl sc__law_frame_bits.nd (pi_range1 (by rfl) T.z_range (pa_cons pe_int pa_nil)) (blkOk_by (own := [("k", 5)]) (N := N__law_frame_bits) (sc := defScope s__law_frame_bits) (by decide +kernel)) (fun _ _ _ _ _ => pg_name (i := 5) sc__law_frame_bits.nd rfl (Or.inl rfl)) (fun _ _ _ _ _ => pts_nil) (fun _ _ _ _ _ => (pe_op op_and (pe_op op_shr (pv 0) (pe_op op_sub pe_int (pv 5))) pe_int)))) (pe_lc (own := [("k", 5)]) (g := gName 5) (tt := tYes) rfl sc__law_frame_bits.nd (pi_range1 (by rfl) T.z_range (pa_cons pe_int pa_nil)) (blkOk_by (own := [("k", 5)]) (N := N__law_frame_bits) (sc := defScope s__law_frame_bits) (by decide +kernel)) (fun _ _ _ _ _ => pg_name (i := 5) sc__law_frame_bits.nd rfl (Or.inl rfl)) (fun _ _ _ _ _ => pts_nil) (fun _ _ _ _ _ => (pe_op op_and (pe_op op_shr (pe_callB (r := rLenQ K) call_lenQ (by rfl) T.z_len PySem.boot_len (pa_cons (pv 1) pa_nil)) (pe_op op_sub pe_int (pv 5))) pe_int))))) (pss_cons (ps_for PassesOwn.never rfl (pi_list (pv 1)) (pg_name (i := 3) sc__law_frame_bits.nd rfl (Or.inr rfl)) (pss_one (ps_set (i := 2) sc__law_frame_bits.nd rfl (Or.inl rfl) (pe_op op_cat (pv 2) (pe_lc (own := [("k", 5)]) (g := gName 5) (tt := tYes) rfl sc__law_frame_bits.nd (pi_range1 (by rfl) T.z_range (pa_cons pe_int pa_nil)) (blkOk_by (own := [("k", 5)]) (N := N__law_frame_bits) (sc := defScope s__law_frame_bits) (by decide +kernel)) (fun _ _ _ _ _ => pg_name (i := 5) sc__law_frame_bits.nd rfl (Or.inl rfl)) (fun _ _ _ _ _ => pts_nil) (fun _ _ _ _ _ => (pe_op op_and (pe_op op_shr (pv 3) (pe_op op_sub pe_int (pv 5))) pe_int))))))) (pss_cons (ps_set (i := 4) sc__law_frame_bits.nd rfl (Or.inr rfl) (pe_call G__law_rest (hr.mono (by decide)) (by rfl) T.g__law_rest T.F__law_rest.kp T.b__law_rest .nil pass0 (pa_cons (pe_op op_cat (pv 2) (pe_op op_rep (pe_lstQ (pe_lst (pa_cons pe_int pa_nil))) pe_int)) pa_nil))) (pss_one (ps_ret (pe_op op_cat (pv 2) (pe_lc (own := [("k", 5)]) (g := gName 5) (tt := tYes) rfl sc__law_frame_bits.nd (pi_range1 (by rfl) T.z_range (pa_cons pe_int pa_nil)) (blkOk_by (own := [("k", 5)]) (N := N__law_frame_bits) (sc := defScope s__law_frame_bits) (by decide +kernel)) (fun _ _ _ _ _ => pg_name (i := 5) sc__law_frame_bits.nd rfl (Or.inl rfl)) (fun _ _ _ _ _ => pts_nil) (fun _ _ _ _ _ => (pe_op op_and (pe_op op_shr (pv 4) (pe_op op_sub pe_int (pv 5))) pe_int))))))))), ?_⟩
    -- 160
    refine o_seq ?_
    refine o_asg ?_
    refine o_op ?_
    refine o_op ?_
    refine o_cons ?_
    refine o_c ?_
    refine x_nil ?_
    refine n_lst (f := V.int) (xs := [(0 : Int)]) O rfl (by show 1 ≤ sizeLine; decide) fun p_4 H O => ?_
    obtain ⟨rg_5, h6, hm⟩ := bndE hm
    refine o_ir1 ?_
    refine o_cons ?_
    refine o_c ?_
    refine x_nil ?_
    obtain ⟨c1, c2, rfl⟩ := rng1E h6
    obtain ⟨l_9, h10, hm⟩ := bndE hm
    refine ⟨_, rfl, c1, c2, fun p_11 hD => k_lcR (fun r H => ∃ acc : List Int, Own H0 H ((p_11, .lst (List.map V.int acc)) :: [(p_4, .lst (List.map V.int ([(0 : Int)])))]) ∧ compM (m__law_frame_bits_C0 name_1) r acc = some l_9) ⟨[], O.new hD, h10⟩ ?_ ?_⟩
    · rintro k_7 r H ⟨acc, O, hC⟩
      obtain ⟨y, hm, hz, hC⟩ := compM_cons hC
      refine ⟨rfl, ?_⟩
      unfold m__law_frame_bits_C0 at hm
      obtain ⟨t_12, h13, hm⟩ := bndE hm
      refine ⟨_, rfl, _, rfl, _, _, rfl, rfl, ?_⟩
      refine k_shr h13 ?_
      refine ⟨_, _, rfl, rfl, ?_⟩
      obtain rfl := Option.some.inj hm
      refine ⟨_, O.mem (hd_), (by rw [List.length_map]; exact hz), _, ?_, hC⟩
      rw [map_snoc]
      exact O.put0
    rintro H ⟨acc, O, hC⟩
    obtain rfl := compM_nil hC
    obtain ⟨t_14, h15, hm⟩ := bndE hm
    refine k_cat (f := V.int) O (O.mem (tl_ (hd_))) (O.mem (hd_)) h15 fun p_16 H O => ?_
    obtain ⟨rg_17, h18, hm⟩ := bndE hm
    refine o_ir1 ?_
    refine o_cons ?_
    refine o_c ?_
    refine x_nil ?_
    obtain ⟨c1, c2, rfl⟩ := rng1E h18
    obtain ⟨l_21, h22, hm⟩ := bndE hm
    refine ⟨_, rfl, c1, c2, fun p_23 hD => k_lcR (fun r H => ∃ acc : List Int, Own H0 H ((p_23, .lst (List.map V.int acc)) :: [(p_16, .lst (List.map V.int t_14)), (p_11, .lst (List.map V.int l_9)), (p_4, .lst (List.map V.int ([(0 : Int)])))]) ∧ compM (m__law_frame_bits_C1 data_2) r acc = some l_21) ⟨[], O.new hD, h22⟩ ?_ ?_⟩
    · rintro k_19 r H ⟨acc, O, hC⟩
      obtain ⟨y, hm, hz, hC⟩ := compM_cons hC
      refine ⟨rfl, ?_⟩
      unfold m__law_frame_bits_C1 at hm
      refine ⟨_, rfl, ?_⟩
      refine x_nil ?_
      refine n_len (SqL.of (O.ex _ _ hp_a_3)) ?_
      obtain ⟨t_24, h25, hm⟩ := bndE hm
      refine ⟨_, rfl, _, _, rfl, rfl, ?_⟩
      refine k_shr h25 ?_
      refine ⟨_, _, rfl, rfl, ?_⟩
      obtain rfl := Option.some.inj hm
      refine ⟨_, O.mem (hd_), (by rw [List.length_map]; exact hz), _, ?_, hC⟩
      rw [map_snoc]
      exact O.put0
    rintro H ⟨acc, O, hC⟩
    obtain rfl := compM_nil hC
    obtain ⟨t_26, h27, hm⟩ := bndE hm
    refine k_cat (f := V.int) O (O.mem (tl_ (hd_))) (O.mem (hd_)) h27 fun p_28 H O => ?_
    -- 161
    refine o_seq ?_
    refine o_for ?_
    refine ⟨_, rfl, ?_⟩
    obtain ⟨bits_33, h34, hm⟩ := bndE hm
    refine ⟨_, rfl, ⟨_, (SqL.of (O.ex _ _ hp_a_3))⟩, q_forL (f := V.int) (xs := data_2) (fun r σ H => ∃ (p_31 : Addr) (bits_30 : List Int) (j_29 : Option V) (j_32 : Option V), σ = [j_29, some (.ref a_3), some (.ref p_31), j_32, none, none] ∧ Own H0 H [(p_31, .lst (List.map V.int bits_30))] ∧ loopM (fun byte_37 s => m__law_frame_bits_L2 byte_37 s) r bits_30 = some bits_33) ⟨p_28, _, _, _, rfl, (Own.pk (L' := [(p_28, .lst (List.map V.int t_26))]) O [0] (by decide) rfl), h34⟩ (by rintro r σ H ⟨p_31, bits_30, j_29, j_32, rfl, O, hL⟩; exact (SqL.of (O.ex _ _ hp_a_3))) ?_ ?_⟩
    · rintro byte_37 r σ H ⟨p_31, bits_30, j_29, j_32, rfl, O, hL⟩
      obtain ⟨s_, hm, h36⟩ := loopM_cons hL
      replace hm : m__law_frame_bits_L2 byte_37 bits_30 = some s_ := hm
      unfold m__law_frame_bits_L2 at hm
      -- 162
      refine o_asg ?_
      obtain ⟨rg_41, h42, hm⟩ := bndE hm
      refine ⟨_, rfl, ?_⟩
      refine o_ir1 ?_
      refine o_cons ?_
      refine o_c ?_
      refine x_nil ?_
      obtain ⟨c1, c2, rfl⟩ := rng1E h42
      obtain ⟨l_45, h46, hm⟩ := bndE hm
      refine ⟨_, rfl, c1, c2, fun p_47 hD => k_lcR (fun r H => ∃ acc : List Int, Own H0 H ((p_47, .lst (List.map V.int acc)) :: [(p_31, .lst (List.map V.int bits_30))]) ∧ compM (m__law_frame_bits_C3 byte_37) r acc = some l_45) ⟨[], O.new hD, h46⟩ ?_ ?_⟩
      · rintro k_43 r H ⟨acc, O, hC⟩
        obtain ⟨y, hm, hz, hC⟩ := compM_cons hC
        refine ⟨rfl, ?_⟩
        unfold m__law_frame_bits_C3 at hm
        obtain ⟨t_48, h49, hm⟩ := bndE hm
        refine ⟨_, rfl, _, rfl, _, _, rfl, rfl, ?_⟩
        refine k_shr h49 ?_
        refine ⟨_, _, rfl, rfl, ?_⟩
        obtain rfl := Option.some.inj hm
        refine ⟨_, O.mem (hd_), (by rw [List.length_map]; exact hz), _, ?_, hC⟩
        rw [map_snoc]
        exact O.put0
      rintro H ⟨acc, O, hC⟩
      obtain rfl := compM_nil hC
      obtain ⟨t_50, h51, hm⟩ := bndE hm
      refine k_cat (f := V.int) O (O.mem (tl_ (hd_))) (O.mem (hd_)) h51 fun p_52 H O => ?_
      have Oz := O
      obtain rfl := Option.some.inj hm
      exact ⟨p_52, _, _, _, rfl, (Own.pk (L' := [(p_52, .lst (List.map V.int t_50))]) Oz [0] (by decide) rfl), h36⟩
    rintro σ H ⟨p_31, bits_30, j_29, j_32, rfl, O, hL⟩
    cases loopM_nil hL
    -- 163
    refine o_seq ?_
    refine o_asg ?_
    refine ⟨_, rfl, ?_⟩
    refine o_op ?_
    refine o_cons ?_
    refine o_c ?_
    refine x_nil ?_
    refine n_lst (f := V.int) (xs := [(0 : Int)]) O rfl (by show 1 ≤ sizeLine; decide) fun p_53 H O => ?_
    obtain ⟨t_54, h55, hm⟩ := bndE hm
    refine o_c ?_
    refine k_rep (f := V.int) O (O.mem (hd_)) h55 fun p_56 H O => ?_
    obtain ⟨t_57, h58, hm⟩ := bndE hm
    refine k_cat (f := V.int) O (O.mem (tl_ (tl_ (hd_)))) (O.mem (hd_)) h58 fun p_59 H O => ?_
    obtain ⟨law_re_60, h61, hm⟩ := bndE hm
    refine x_nil ?_
    refine ⟨_, _, law_re_60, rfl, (O.mem (hd_)), h61, ?_⟩
    refine O.retV fun H O => ?_
    -- 164
    refine o_ret ?_
    obtain ⟨rg_62, h63, hm⟩ := bndE hm
    refine ⟨_, rfl, ?_⟩
    refine o_ir1 ?_
    refine o_cons ?_
    refine o_c ?_
    refine x_nil ?_
    obtain ⟨c1, c2, rfl⟩ := rng1E h63
    obtain ⟨l_66, h67, hm⟩ := bndE hm
    refine ⟨_, rfl, c1, c2, fun p_68 hD => k_lcR (fun r H => ∃ acc : List Int, Own H0 H ((p_68, .lst (List.map V.int acc)) :: [(p_59, .lst (List.map V.int t_57)), (p_56, .lst (List.map V.int t_54)), (p_53, .lst (List.map V.int ([(0 : Int)]))), (p_31, .lst (List.map V.int bits_33))]) ∧ compM (m__law_frame_bits_C4 law_re_60) r acc = some l_66) ⟨[], O.new hD, h67⟩ ?_ ?_⟩
    · rintro k_64 r H ⟨acc, O, hC⟩
      obtain ⟨y, hm, hz, hC⟩ := compM_cons hC
      refine ⟨rfl, ?_⟩
      unfold m__law_frame_bits_C4 at hm
      obtain ⟨t_69, h70, hm⟩ := bndE hm
      refine ⟨_, rfl, _, rfl, _, _, rfl, rfl, ?_⟩
      refine k_shr h70 ?_
      refine ⟨_, _, rfl, rfl, ?_⟩
      obtain rfl := Option.some.inj hm
      refine ⟨_, O.mem (hd_), (by rw [List.length_map]; exact hz), _, ?_, hC⟩
      rw [map_snoc]
      exact O.put0
    rintro H ⟨acc, O, hC⟩
    obtain rfl := compM_nil hC
    obtain ⟨t_71, h72, hm⟩ := bndE hm
    refine k_cat (f := V.int) O (O.mem (tl_ (tl_ (tl_ (tl_ (hd_)))))) (O.mem (hd_)) h72 fun p_73 H O => ?_
    obtain rfl := Option.some.inj hm
    exact RetL.go k O (hd_)
def m__law_number_L0  (bit_9 : Int) (number_3 : Int) : Option (Int) :=
  some ((number_3 * (2 : Int)) + bit_9)
def m__law_number (bits_1 : List Int) : Option (Int) :=
  bnd (loopM (fun bit_9 s => m__law_number_L0 bit_9 s) bits_1 (0 : Int)) fun number_5 =>
  some number_5
def sp__law_number (K : PySem.W.Frag) : Sp := fun vs H Q _ => ∃ (bits_1 : List Int) (a_2 : Addr) (r : Int), vs = [.ref a_2] ∧ H a_2 = some (.lst (List.map V.int bits_1)) ∧ m__law_number bits_1 = some r ∧ RetV (.int r) H Q
abbrev N__law_number : List Str := ["bits", "number", "bit"]
theorem sc__law_number : FnScope N__law_number ["bits"] (defScope s__law_number) := ⟨rfl, rfl, rfl, by decide +kernel, rfl, by decide +kernel, by decide +kernel⟩
theorem ok__law_number {ad : Ad} (T : Txt K mg ad) : FnOk P w K mg base CX0 1 ad.f__law_number ad.fd__law_number ["bits"] (sp__law_number K) := by
  refine T.F__law_number.ok sc__law_number (fun vs H Q E h => ?_) (fun cdv A outer s H vs Q E hr h => ?_)
  · obtain ⟨_, _, _, rfl, _⟩ := h
    rfl
  · obtain ⟨bits_1, a_2, r, rfl, hp_a_2, hm, k⟩ := h
    unfold m__law_number at hm
    obtain ⟨H0, hH0⟩ : ∃ H0 : Hp, H0 = H := ⟨H, rfl⟩
    have O : Own H0 H [] := by rw [hH0]; exact Own.start H
    rw [← hH0] at k hp_a_2
    clear hH0
    refine ⟨_, (pss_cons (ps_set (i := 1) sc__law_number.nd rfl (Or.inl rfl) pe_int) (pss_cons (ps_for PassesOwn.never rfl (pi_list (pv 0)) (pg_name (i := 2) sc__law_number.nd rfl (Or.inl rfl)) (pss_one (ps_set (i := 1) sc__law_number.nd rfl (Or.inl rfl) (pe_op op_add (pe_op op_mul (pv 1) pe_int) (pv 2))))) (pss_one (ps_ret (pv 1))))), ?_⟩
    -- 145
    refine o_seq ?_
    refine o_asg ?_
    refine o_c ?_
    -- 146
    refine o_seq ?_
    refine o_for ?_
    refine ⟨_, rfl, ?_⟩
    obtain ⟨number_5, h6, hm⟩ := bndE hm
    refine ⟨_, rfl, ⟨_, (SqL.of (O.ex _ _ hp_a_2))⟩, q_forL (f := V.int) (xs := bits_1) (fun r σ H => ∃ (number_3 : Int) (j_4 : Option V), σ = [some (.ref a_2), some (.int number_3), j_4] ∧ Own H0 H [] ∧ loopM (fun bit_9 s => m__law_number_L0 bit_9 s) r number_3 = some number_5) ⟨_, _, rfl, O, h6⟩ (by rintro r σ H ⟨number_3, j_4, rfl, O, hL⟩; exact (SqL.of (O.ex _ _ hp_a_2))) ?_ ?_⟩
    · rintro bit_9 r σ H ⟨number_3, j_4, rfl, O, hL⟩
      obtain ⟨s_, hm, h8⟩ := loopM_cons hL
      replace hm : m__law_number_L0 bit_9 number_3 = some s_ := hm
      unfold m__law_number_L0 at hm
      -- 147
      refine o_asg ?_
      refine ⟨_, rfl, _, _, rfl, rfl, .inr ⟨by decide, by decide⟩, _, rfl, _, _, rfl, rfl, ?_⟩
      have Oz := O
      obtain rfl := Option.some.inj hm
      exact ⟨_, _, rfl, Oz, h8⟩
    rintro σ H ⟨number_3, j_4, rfl, O, hL⟩
    cases loopM_nil hL
    -- 148
    refine o_ret ?_
    refine ⟨_, rfl, ?_⟩
    obtain rfl := Option.some.inj hm
    exact RetV.go k O
def m__law_read_L0  (bit_16 : Int) (bits_6 : List Int) (run_7 : Int) (last_8 : Int) : Option (Fl ((List Int) × Int × Int) (Option (Int × (List Int)))) :=
  ifB ((decide (run_7 = (5 : Int))) && (decide (bit_16 = last_8))) (
    some (.rt none)) (
    bnd (ifB (decide (run_7 < (5 : Int))) (
      bnd (appG bits_6 bit_16) fun l_25 =>
      some l_25) (
      some bits_6)) fun bits_27 =>
    ltv ((ifB (decide (bit_16 = last_8)) (run_7 + (1 : Int)) (1 : Int))) fun run_29 =>
    some (.nx (bits_27, run_29, bit_16)))
def m__law_read_C1 (bits_6 : List Int) (k_57 : Int) : Option Int :=
  bnd (m__law_number (cutL bits_6 (some ((12 : Int) + ((8 : Int) * k_57))) (some ((20 : Int) + ((8 : Int) * k_57))))) fun law_nu_66 =>
  some law_nu_66
def m__law_read (wire_1 : List Int) : Option (Option (Int × (List Int))) :=
  ltv ((-(1 : Int))) fun last_4 =>
  fin (loopF (fun bit_16 s => m__law_read_L0 bit_16 s.1 s.2.1 s.2.2) wire_1 (([] : List Int), (0 : Int), last_4)) fun (bits_6, run_7, last_8) =>
  bnd (ifB (decide (run_7 = (5 : Int))) (some true) (bnd (ifB (decide ((List.length bits_6 : Int) < (27 : Int))) (some true) (bnd (atI bits_6 (0 : Int)) fun e_35 => some (decide (e_35 = (1 : Int))))) fun c_37 => some c_37)) fun c_39 =>
  ifB c_39 (
    some none) (
    bnd (m__law_number (cutL bits_6 (some (9 : Int)) (some (12 : Int)))) fun law_nu_43 =>
    bnd (ifB (!decide ((List.length bits_6 : Int) = ((27 : Int) + ((8 : Int) * law_nu_43)))) (some true) (bnd (m__law_rest bits_6) fun law_re_47 => some (!decide (law_re_47 = (0 : Int))))) fun c_49 =>
    ifB c_49 (
      some none) (
      bnd (m__law_number (cutL bits_6 (some (1 : Int)) (some (9 : Int)))) fun law_nu_53 =>
      bnd (rng1 law_nu_43) fun rg_55 =>
      bnd (compM (m__law_read_C1 bits_6) rg_55 []) fun l_58 =>
      some (some (law_nu_53, l_58))))
def sp__law_read (K : PySem.W.Frag) (ad : Ad) : Sp := fun vs H Q _ => ∃ (wire_1 : List Int) (a_2 : Addr) (R0 : Hp) (r : Option (Int × (List Int))), vs = [.ref a_2] ∧ Own R0 H [] ∧ (hsub H []) a_2 = some (.lst (List.map V.int wire_1)) ∧ m__law_read wire_1 = some r ∧ RetX R0 (hsub H []) (dP (rO (rT2 rI (rL rI))) r) Q
abbrev N__law_read : List Str := ["wire", "bits", "run", "last", "bit", "size", "k"]
theorem sc__law_read : FnScope N__law_read ["wire"] (defScope s__law_read) := ⟨rfl, rfl, rfl, by decide +kernel, rfl, by decide +kernel, by decide +kernel⟩
theorem ok__law_read {ad : Ad} (T : Txt K mg ad) : FnOk P w K mg base CX0 2 ad.f__law_read ad.fd__law_read ["wire"] (sp__law_read K ad) := by
  have G__law_number := ok__law_number (P := P) (w := w) (base := base) T
  have G__law_rest := ok__law_rest (P := P) (w := w) (base := base) T
  refine T.F__law_read.ok sc__law_read (fun vs H Q E h => ?_) (fun cdv A outer s H vs Q E hr h => ?_)
  · obtain ⟨_, _, _, _, rfl, _⟩ := h
    rfl
  · obtain ⟨wire_1, a_2, R0, r, rfl, OO, hp_a_2, hm, k⟩ := h
    unfold m__law_read at hm
    obtain ⟨Hb, hHb⟩ : ∃ Hb : Hp, Hb = hsub H [] := ⟨_, rfl⟩
    obtain ⟨H0, hH0⟩ : ∃ H0 : Hp, H0 = Hb := ⟨Hb, rfl⟩
    have O : Own H0 H [] := by rw [hH0, hHb]; exact OO.startX
    have eR : Ex R0 Hb := by rw [hHb]; exact OO.subR
    rw [← hHb] at k hp_a_2
    have eB : Ex Hb H0 := by rw [hH0]; exact Ex.refl _
    have eS : Ex R0 (ovr R0 Hb H0) := by rw [hH0]; exact ovr_start eR
    rw [← hH0] at hp_a_2
    clear hH0
    refine ⟨_, (pss_cons (ps_set (i := 1) sc__law_read.nd rfl (Or.inr rfl) (pe_lstQ (pe_lst pa_nil))) (pss_cons (ps_set (i := 2) sc__law_read.nd rfl (Or.inl rfl) pe_int) (pss_cons (ps_set (i := 3) sc__law_read.nd rfl (Or.inl rfl) (pe_un un_neg pe_int)) (pss_cons (ps_for PassesOwn.never rfl (pi_list (pv 0)) (pg_name (i := 4) sc__law_read.nd rfl (Or.inl rfl)) (pss_cons (ps_if (PW.pt (pw_and (pt_cmpR op_eq (pv 2) pe_int (nomark _)) (pw_and1 (pt_cmpR op_eq (pv 4) (pv 3) (nomark _))))) (pss_one (ps_ret pe_non)) pss_nil) (Evl.pss_cut (ps_if (pt_cmpR op_lt (pv 2) pe_int (nomark _)) (pss_one (ps_expr (pe_bm PySem.F.plainAttrs_list PySem.F.slot_list_append PySem.F.type_list_append mt_append (pv 1) (pa_cons (pv 4) pa_nil)))) pss_nil) (pss_cons (ps_set (i := 2) sc__law_read.nd rfl (Or.inl rfl) (pe_ifExp (pt_cmpR op_eq (pv 4) (pv 3) (nomark _)) (pe_op op_add (pv 2) pe_int) pe_int)) (pss_one (ps_set (i := 3) sc__law_read.nd rfl (Or.inl rfl) (pv 4))))))) (pss_cons (ps_if (PW.pt (pw_or (pt_cmpR op_eq (pv 2) pe_int (nomark _)) (pw_or (pt_cmpR op_lt (pe_callB (r := rLenQ K) call_lenQ (by rfl) T.z_len PySem.boot_len (pa_cons (pv 1) pa_nil)) pe_int (nomark _)) (pw_or1 (pt_cmpR op_eq (pe_ix (r := rIxL K) ix_list (pv 1) pe_int (fun _ _ => rfl)) pe_int (nomark _)))))) (pss_one (ps_ret pe_non)) pss_nil) (pss_cons (ps_set (i := 5) sc__law_read.nd rfl (Or.inl rfl) (pe_call G__law_number (hr.mono (by decide)) (by rfl) T.g__law_number T.F__law_number.kp T.b__law_number .nil pass0 (pa_cons (pe_slice (r := rSlL K) sl_list (pv 1) (po_some pe_int) (po_some pe_int)) pa_nil))) (pss_cons (ps_if (PW.pt (pw_or (pt_cmpR op_ne (pe_callB (r := rLenQ K) call_lenQ (by rfl) T.z_len PySem.boot_len (pa_cons (pv 1) pa_nil)) (pe_op op_add pe_int (pe_op op_mul pe_int (pv 5))) (nomark _)) (pw_or1 (pt_cmpR op_ne (pe_call G__law_rest (hr.mono (by decide)) (by rfl) T.g__law_rest T.F__law_rest.kp T.b__law_rest .nil pass0 (pa_cons (pv 1) pa_nil)) pe_int (nomark _))))) (pss_one (ps_ret pe_non)) pss_nil) (pss_one (ps_ret (pe_tupQ (pe_tup (pa_cons (pe_call G__law_number (hr.mono (by decide)) (by rfl) T.g__law_number T.F__law_number.kp T.b__law_number .nil pass0 (pa_cons (pe_slice (r := rSlL K) sl_list (pv 1) (po_some pe_int) (po_some pe_int)) pa_nil)) (pa_cons (pe_lc (own := [("k", 6)]) (g := gName 6) (tt := tYes) rfl sc__law_read.nd (pi_range1 (by rfl) T.z_range (pa_cons (pv 5) pa_nil)) (blkOk_by (own := [("k", 6)]) (N := N__law_read) (sc := defScope s__law_read) (by decide +kernel)) (fun _ _ _ _ _ => pg_name (i := 6) sc__law_read.nd rfl (Or.inl rfl)) (fun _ _ _ _ _ => pts_nil) (fun _ _ _ _ _ => (pe_call G__law_number (hr.mono (by decide)) (by rfl) T.g__law_number T.F__law_number.kp T.b__law_number .nil pass0 (pa_cons (pe_slice (r := rSlL K) sl_list (pv 1) (po_some (pe_op op_add pe_int (pe_op op_mul pe_int (pv 6)))) (po_some (pe_op op_add pe_int (pe_op op_mul pe_int (pv 6))))) pa_nil)))) pa_nil))))))))))))), ?_⟩
    -- 179
    refine o_seq ?_
    refine o_asg ?_
    refine x_nil ?_
    refine n_lst (f := V.int) (xs := ([] : List Int)) O rfl (Nat.zero_le _) fun p_3 H O => ?_
    -- 180
    refine o_seq ?_
    refine o_asg ?_
    refine o_c ?_
    -- 181
    refine o_seq ?_
    refine o_asg ?_
    refine ⟨_, rfl, ?_⟩
    obtain ⟨last_4, h5, hm⟩ := ltvE hm
    refine a_set (congrArg V.int h5) ?_
    -- 182
    refine o_seq ?_
    refine o_for ?_
    refine ⟨_, rfl, ?_⟩
    obtain ⟨out_17, h13, h14⟩ := bndE hm
    refine ⟨_, rfl, ⟨_, (SqL.of (O.ex _ _ hp_a_2))⟩, q_forL (f := V.int) (xs := wire_1) (fun r σ H => ∃ (R_ : Hp) (bits_6 : List Int) (run_7 : Int) (last_8 : Int) (j_9 : Option V), σ = [some (.ref a_2), some (.ref p_3), some (.int run_7), some (.int last_8), j_9, none, none] ∧ Ex H0 R_ ∧ Own R_ H [(p_3, .lst (List.map V.int bits_6))] ∧ loopF (fun bit_16 s => m__law_read_L0 bit_16 s.1 s.2.1 s.2.2) r (bits_6, run_7, last_8) = some out_17) ⟨H0, ([] : List Int), _, _, _, rfl, Ex.refl _, O, h13⟩ (by rintro r σ H ⟨H0, bits_6, run_7, last_8, j_9, rfl, eJ_, O, hL⟩; replace hp_a_2 := eJ_ _ _ hp_a_2; exact (SqL.of (O.ex _ _ hp_a_2))) ?_ ?_⟩
    · rintro bit_16 r σ H ⟨H0, bits_6, run_7, last_8, j_9, rfl, eL17, O, hL⟩
      replace hp_a_2 := eL17 _ _ hp_a_2
      replace eB := eB.trans eL17
      obtain ⟨s_, hm, h15⟩ := loopF_cons hL
      replace hm : m__law_read_L0 bit_16 bits_6 run_7 last_8 = some s_ := hm
      unfold m__law_read_L0 at hm
      -- 183
      refine o_seq ?_
      refine o_ifs ?_
      refine x_and (c := (decide (run_7 = (5 : Int)))) (e := (decide (bit_16 = last_8))) (d := ((decide (run_7 = (5 : Int))) && (decide (bit_16 = last_8)))) O (fun Q1 k1 => ?_) (fun h20 => ⟨by rw [h20]; rfl, fun H O Q2 k2 => ?_⟩) (fun h20 => by rw [h20]; rfl) (fun H O => ?_)
      · refine ⟨_, rfl, ?_⟩
        refine o_c ?_
        refine k_eqI ?_
        refine ⟨_, rfl, ?_⟩
        exact k1 _ O
      · refine ⟨_, rfl, _, rfl, ?_⟩
        refine k_eqI ?_
        refine ⟨_, rfl, ?_⟩
        exact k2 _ O
      refine iteS (c := ((decide (run_7 = (5 : Int))) && (decide (bit_16 = last_8)))) (fun h21 => ?_) (fun h21 => ?_)
      · replace hm := ifT hm h21
        -- 184
        refine o_ret ?_
        refine o_c ?_
        obtain rfl := Option.some.inj hm
        obtain rfl := contRt h15
        obtain rfl := finRt h14
        exact k _ _ H0 _ eB (by exact (Own.pk O [] (by decide) rfl)) ⟨rfl, rfl⟩
      · replace hm := ifF hm h21
        refine o_next ?_
        -- 185
        obtain ⟨bits_27, h24, hm⟩ := bndE hm
        refine o_cut (fun σ H => ∃ (R_ : Hp), σ = [some (.ref a_2), some (.ref p_3), some (.int run_7), some (.int last_8), some (.int bit_16), none, none] ∧ Ex H0 R_ ∧ Own R_ H [(p_3, .lst (List.map V.int bits_27))]) ?_ ?_
        · have eJ22 : Ex H0 H0 := Ex.refl _
          refine o_ifs ?_
          refine ⟨_, rfl, _, _, rfl, rfl, _, rfl, ?_⟩
          refine iteS (c := decide (run_7 < (5 : Int))) (fun h23 => ?_) (fun h23 => ?_)
          · replace hm := ifT h24 h23
            -- 186
            refine o_drop ?_
            obtain ⟨l_25, h26, hm⟩ := bndE hm
            refine ⟨_, rfl, .inl ⟨rfl, _, (SqL.of (O.mem (hd_)))⟩, _, rfl, ?_⟩
            refine x_nil ?_
            refine k_app (f := V.int) (O.mem (hd_)) (fun _ => O.put0) h26 fun H O => ?_
            have Oz := O
            have hq_ := Option.some.inj hm
            subst hq_
            exact ⟨H0, rfl, eJ22, Oz⟩
          · replace hm := ifF h24 h23
            refine o_next ?_
            have Oz := O
            have hq_ := Option.some.inj hm
            subst hq_
            exact ⟨H0, rfl, eJ22, Oz⟩
        rintro σ H ⟨H0, rfl, eJ_, O⟩
        replace hp_a_2 := eJ_ _ _ hp_a_2
        replace eB := eB.trans eJ_
        replace eL17 := eL17.trans eJ_
        -- 187
        refine o_seq ?_
        refine o_asg ?_
        refine x_if (c := (decide (bit_16 = last_8))) (x := .int (run_7 + (1 : Int))) (y := .int (1 : Int)) (v := .int (ifB (decide (bit_16 = last_8)) (run_7 + (1 : Int)) (1 : Int))) O (fun Q1 k1 => ?_) (fun h28 => ⟨by rw [h28]; rfl, fun H O Q2 k2 => ?_⟩) (fun h28 => ⟨by rw [h28]; rfl, fun H O Q2 k2 => ?_⟩) (fun H O => ?_)
        · refine ⟨_, rfl, _, rfl, ?_⟩
          refine k_eqI ?_
          refine ⟨_, rfl, ?_⟩
          exact k1 _ O
        · refine ⟨_, rfl, _, _, rfl, rfl, ?_⟩
          exact k2 _ O
        · refine o_c ?_
          exact k2 _ O
        obtain ⟨run_29, h30, hm⟩ := ltvE hm
        refine a_set (congrArg V.int h30) ?_
        -- 188
        refine o_asg ?_
        refine ⟨_, rfl, ?_⟩
        have Oz := O
        obtain rfl := Option.some.inj hm
        exact ⟨H0, _, _, _, _, rfl, eL17, Oz, h15⟩
    rintro σ H ⟨H0, bits_6, run_7, last_8, j_9, rfl, eJ_, O, hL⟩
    replace hp_a_2 := eJ_ _ _ hp_a_2
    replace eB := eB.trans eJ_
    obtain rfl := loopF_nil hL
    replace hm := finNx h14
    -- 189
    refine o_seq ?_
    refine o_ifs ?_
    obtain ⟨c_39, h40, hm⟩ := bndE hm
    refine x_orJ (c := (decide (run_7 = (5 : Int)))) (e := c_39) (d := c_39) (fun H => ∃ (R_ : Hp), Ex H0 R_ ∧ Own R_ H [(p_3, .lst (List.map V.int bits_6))]) (fun Q1 k1 => ?_) (fun h31 => ⟨rfl, fun H hJ Q2 k2 => ?_⟩) (fun h31 => Option.some.inj (ifT h40 h31)) (fun H hJ => ?_)
    · have eJ32 : Ex H0 H0 := Ex.refl _
      refine ⟨_, rfl, ?_⟩
      refine o_c ?_
      refine k_eqI ?_
      refine ⟨_, rfl, ?_⟩
      exact k1 _ ⟨H0, eJ32, O⟩
    · replace hm := ifF h40 h31
      obtain ⟨c_37, h38, hm⟩ := bndE hm
      obtain rfl := Option.some.inj hm
      obtain ⟨H0, eJ32, O⟩ := hJ
      replace hp_a_2 := eJ32 _ _ hp_a_2
      replace eB := eB.trans eJ32
      refine x_orJ (c := decide ((List.length bits_6 : Int) < (27 : Int))) (e := c_37) (d := c_37) (fun H => ∃ (R_ : Hp), Ex H0 R_ ∧ Own R_ H [(p_3, .lst (List.map V.int bits_6))]) (fun Q1 k1 => ?_) (fun h33 => ⟨rfl, fun H hJ Q2 k2 => ?_⟩) (fun h33 => Option.some.inj (ifT h38 h33)) (fun H hJ => ?_)
      · have eJ34 : Ex H0 H0 := Ex.refl _
        refine ⟨_, rfl, ?_⟩
        refine x_nil ?_
        refine n_len (SqL.of (O.mem (hd_))) ?_
        refine ⟨_, _, rfl, rfl, _, rfl, ?_⟩
        exact k1 _ ⟨H0, eJ34, O⟩
      · replace hm := ifF h38 h33
        obtain ⟨e_35, h36, hm⟩ := bndE hm
        obtain rfl := Option.some.inj hm
        obtain ⟨H0, eJ34, O⟩ := hJ
        replace hp_a_2 := eJ34 _ _ hp_a_2
        replace eB := eB.trans eJ34
        replace eJ32 := eJ32.trans eJ34
        refine ⟨_, rfl, ?_⟩
        refine o_c ?_
        refine k_ixL (f := V.int) (SqL.of (O.mem (hd_))) h36 ?_
        refine o_c ?_
        refine k_eqI ?_
        refine ⟨_, rfl, ?_⟩
        exact k2 _ ⟨H0, eJ34, O⟩
      obtain ⟨H0, eJ34, O⟩ := hJ
      replace hp_a_2 := eJ34 _ _ hp_a_2
      replace eB := eB.trans eJ34
      replace eJ32 := eJ32.trans eJ34
      exact k2 _ ⟨H0, eJ32, O⟩
    obtain ⟨H0, eJ32, O⟩ := hJ
    replace hp_a_2 := eJ32 _ _ hp_a_2
    replace eB := eB.trans eJ32
    refine iteS (c := c_39) (fun h41 => ?_) (fun h41 => ?_)
    · replace hm := ifT hm h41
      -- 190
      refine o_ret ?_
      refine o_c ?_
      obtain rfl := Option.some.inj hm
      exact k _ _ H0 _ eB (by exact (Own.pk O [] (by decide) rfl)) ⟨rfl, rfl⟩
    · replace hm := ifF hm h41
      refine o_next ?_
      -- 191
      refine o_seq ?_
      refine o_asg ?_
      refine ⟨_, rfl, _, rfl, _, rfl, ?_⟩
      refine k_cut (f := V.int) O (SqL.of (O.mem (hd_))) fun p_42 H O => ?_
      obtain ⟨law_nu_43, h44, hm⟩ := bndE hm
      refine x_nil ?_
      refine ⟨_, _, law_nu_43, rfl, (O.mem (hd_)), h44, ?_⟩
      refine O.retV fun H O => ?_
      -- 192
      refine o_seq ?_
      refine o_ifs ?_
      obtain ⟨c_49, h50, hm⟩ := bndE hm
      refine x_orJ (c := (!decide ((List.length bits_6 : Int) = ((27 : Int) + ((8 : Int) * law_nu_43))))) (e := c_49) (d := c_49) (fun H => ∃ (R_ : Hp), Ex H0 R_ ∧ Own R_ H [(p_42, .lst (List.map V.int (cutL bits_6 (some (9 : Int)) (some (12 : Int))))), (p_3, .lst (List.map V.int bits_6))]) (fun Q1 k1 => ?_) (fun h45 => ⟨rfl, fun H hJ Q2 k2 => ?_⟩) (fun h45 => Option.some.inj (ifT h50 h45)) (fun H hJ => ?_)
      · have eJ46 : Ex H0 H0 := Ex.refl _
        refine ⟨_, rfl, ?_⟩
        refine x_nil ?_
        refine n_len (SqL.of (O.mem (tl_ (hd_)))) ?_
        refine ⟨_, rfl, _, _, rfl, rfl, .inl ⟨by decide, by decide⟩, _, _, rfl, rfl, ?_⟩
        refine k_neI ?_
        refine ⟨_, rfl, ?_⟩
        exact k1 _ ⟨H0, eJ46, O⟩
      · replace hm := ifF h50 h45
        obtain ⟨law_re_47, h48, hm⟩ := bndE hm
        obtain rfl := Option.some.inj hm
        obtain ⟨H0, eJ46, O⟩ := hJ
        replace hp_a_2 := eJ46 _ _ hp_a_2
        replace eB := eB.trans eJ46
        refine ⟨_, rfl, ?_⟩
        refine x_nil ?_
        refine ⟨_, _, law_re_47, rfl, (O.mem (tl_ (hd_))), h48, ?_⟩
        refine O.retV fun H O => ?_
        refine o_c ?_
        refine k_neI ?_
        refine ⟨_, rfl, ?_⟩
        exact k2 _ ⟨H0, eJ46, O⟩
      obtain ⟨H0, eJ46, O⟩ := hJ
      replace hp_a_2 := eJ46 _ _ hp_a_2
      replace eB := eB.trans eJ46
      refine iteS (c := c_49) (fun h51 => ?_) (fun h51 => ?_)
      · replace hm := ifT hm h51
        -- 193
        refine o_ret ?_
        refine o_c ?_
        obtain rfl := Option.some.inj hm
        exact k _ _ H0 _ eB (by exact (Own.pk O [] (by decide) rfl)) ⟨rfl, rfl⟩
      · replace hm := ifF hm h51
        refine o_next ?_
        -- 194
        refine o_ret ?_
        refine ⟨_, rfl, _, rfl, _, rfl, ?_⟩
        refine k_cut (f := V.int) O (SqL.of (O.mem (tl_ (hd_)))) fun p_52 H O => ?_
        obtain ⟨law_nu_53, h54, hm⟩ := bndE hm
        refine x_nil ?_
        refine ⟨_, _, law_nu_53, rfl, (O.mem (hd_)), h54, ?_⟩
        refine O.retV fun H O => ?_
        obtain ⟨rg_55, h56, hm⟩ := bndE hm
        refine ⟨_, rfl, ?_⟩
        refine x_nil ?_
        obtain ⟨c1, c2, rfl⟩ := rng1E h56
        obtain ⟨l_58, h59, hm⟩ := bndE hm
        refine ⟨_, rfl, c1, c2, fun p_60 hD => k_lcR (fun r H => ∃ (R_ : Hp) (acc : List Int), Ex H0 R_ ∧ Own R_ H [(p_60, .lst (List.map V.int acc)), (p_52, .lst (List.map V.int (cutL bits_6 (some (1 : Int)) (some (9 : Int))))), (p_42, .lst (List.map V.int (cutL bits_6 (some (9 : Int)) (some (12 : Int))))), (p_3, .lst (List.map V.int bits_6))] ∧ compM (m__law_read_C1 bits_6) r acc = some l_58) ⟨H0, [], Ex.refl _, O.new hD, h59⟩ ?_ ?_⟩
        · rintro k_57 r H ⟨H0, acc, eC60, O, hC⟩
          replace hp_a_2 := eC60 _ _ hp_a_2
          replace eB := eB.trans eC60
          obtain ⟨y, hm, hz, hC⟩ := compM_cons hC
          refine ⟨rfl, ?_⟩
          unfold m__law_read_C1 at hm
          refine ⟨_, rfl, _, rfl, _, _, rfl, rfl, .inl ⟨by decide, by decide⟩, _, _, rfl, rfl, _, rfl, _, rfl, _, _, rfl, rfl, .inl ⟨by decide, by decide⟩, _, _, rfl, rfl, _, rfl, ?_⟩
          refine k_cut (f := V.int) O (SqL.of (O.mem (tl_ (tl_ (tl_ (hd_)))))) fun p_65 H O => ?_
          obtain ⟨law_nu_66, h67, hm⟩ := bndE hm
          refine x_nil ?_
          refine ⟨_, _, law_nu_66, rfl, (O.mem (hd_)), h67, ?_⟩
          refine O.retV fun H O => ?_
          replace O := (Own.pk (L' := [(p_60, .lst (List.map V.int acc)), (p_52, .lst (List.map V.int (cutL bits_6 (some (1 : Int)) (some (9 : Int))))), (p_42, .lst (List.map V.int (cutL bits_6 (some (9 : Int)) (some (12 : Int))))), (p_3, .lst (List.map V.int bits_6))]) O [1, 2, 3, 4] (by decide) rfl)
          obtain rfl := Option.some.inj hm
          refine ⟨_, O.mem (hd_), (by rw [List.length_map]; exact hz), H0, _, eC60, ?_, hC⟩
          rw [map_snoc]
          exact O.put0
        rintro H ⟨H0, acc, eC60, O, hC⟩
        replace hp_a_2 := eC60 _ _ hp_a_2
        replace eB := eB.trans eC60
        obtain rfl := compM_nil hC
        refine x_nil ?_
        obtain ⟨H0, O, e_, hp_p_60⟩ := O.frzO (R0 := R0) eB
        replace hp_a_2 := e_ _ _ hp_a_2
        replace eB := eB.trans e_
        refine n_tup O (by show 2 ≤ sizeLine; decide) fun p_68 H O => ?_
        obtain ⟨H0, O, e_, hp_p_68⟩ := O.frzO (R0 := R0) eB
        replace hp_a_2 := e_ _ _ hp_a_2
        replace hp_p_60 := (ovr_mono e_) _ _ hp_p_60
        replace eB := eB.trans e_
        have hn_p_68 : (rT2 rI (rL rI)) (ovr R0 Hb H0) (.ref p_68) ((law_nu_53, l_58) : Int × (List Int)) := ⟨_, _, _, rfl, hp_p_68, rfl, (gI hp_p_60)⟩
        obtain rfl := Option.some.inj hm
        exact k _ _ H0 _ eB (by exact (Own.pk O [] (by decide) rfl)) ⟨rfl, hn_p_68⟩
def m__law_told_bits_C0 (turned_1 : Int) (bit_3 : Int) : Option Int :=
  
  some (Builtin.bitXor bit_3 turned_1)
def m__law_told_bits (turned_1 : Int) : Option (List Int) :=
  bnd (compM (m__law_told_bits_C0 turned_1) ([(0 : Int), (1 : Int), (0 : Int), (0 : Int), (0 : Int), (0 : Int), (0 : Int), (1 : Int), (1 : Int), (0 : Int), (1 : Int), (0 : Int), (0 : Int), (1 : Int), (1 : Int), (0 : Int), (0 : Int), (1 : Int), (1 : Int), (0 : Int), (0 : Int), (0 : Int), (0 : Int), (1 : Int), (1 : Int), (0 : Int)]) []) fun l_5 =>
  some l_5
def sp__law_told_bits (K : PySem.W.Frag) : Sp := fun vs H Q _ => ∃ (turned_1 : Int) (r : List Int), vs = [.int turned_1] ∧ m__law_told_bits turned_1 = some r ∧ RetL (List.map V.int r) H Q
abbrev N__law_told_bits : List Str := ["turned", "some", "bit"]
theorem sc__law_told_bits : FnScope N__law_told_bits ["turned"] (defScope s__law_told_bits) := ⟨rfl, rfl, rfl, by decide +kernel, rfl, by decide +kernel, by decide +kernel⟩
theorem ok__law_told_bits {ad : Ad} (T : Txt K mg ad) : FnOk P w K mg base CX0 1 ad.f__law_told_bits ad.fd__law_told_bits ["turned"] (sp__law_told_bits K) := by
  refine T.F__law_told_bits.ok sc__law_told_bits (fun vs H Q E h => ?_) (fun cdv A outer s H vs Q E hr h => ?_)
  · obtain ⟨_, _, rfl, _⟩ := h
    rfl
  · obtain ⟨turned_1, r, rfl, hm, k⟩ := h
    unfold m__law_told_bits at hm
    obtain ⟨H0, hH0⟩ : ∃ H0 : Hp, H0 = H := ⟨H, rfl⟩
    have O : Own H0 H [] := by rw [hH0]; exact Own.start H
    rw [← hH0] at k
    clear hH0
    refine ⟨_, (pss_cons (ps_set (i := 1) sc__law_told_bits.nd rfl (Or.inl rfl) (pe_lstQ (pe_lst (pa_cons pe_int (pa_cons pe_int (pa_cons pe_int (pa_cons pe_int (pa_cons pe_int (pa_cons pe_int (pa_cons pe_int (pa_cons pe_int (pa_cons pe_int (pa_cons pe_int (pa_cons pe_int (pa_cons pe_int (pa_cons pe_int (pa_cons pe_int (pa_cons pe_int (pa_cons pe_int (pa_cons pe_int (pa_cons pe_int (pa_cons pe_int (pa_cons pe_int (pa_cons pe_int (pa_cons pe_int (pa_cons pe_int (pa_cons pe_int (pa_cons pe_int (pa_cons pe_int pa_nil))))))))))))))))))))))))))))) (pss_one (ps_ret (pe_lc (own := [("bit", 2)]) (g := gName 2) (tt := tYes) rfl sc__law_told_bits.nd (pi_list (pv 1)) (blkOk_by (own := [("bit", 2)]) (N := N__law_told_bits) (sc := defScope s__law_told_bits) (by decide +kernel)) (fun _ _ _ _ _ => pg_name (i := 2) sc__law_told_bits.nd rfl (Or.inl rfl)) (fun _ _ _ _ _ => pts_nil) (fun _ _ _ _ _ => (pe_op op_xor (pv 2) (pv 0))))))), ?_⟩
    -- 157
    refine o_seq ?_
    refine o_asg ?_
    refine o_cons ?_
    refine o_c ?_
    refine o_cons ?_
    refine o_c ?_
    refine o_cons ?_
    refine o_c ?_
    refine o_cons ?_
    refine o_c ?_
    refine o_cons ?_
    refine o_c ?_
    refine o_cons ?_
    refine o_c ?_
    refine o_cons ?_
    refine o_c ?_
    refine o_cons ?_
    refine o_c ?_
    refine o_cons ?_
    refine o_c ?_
    refine o_cons ?_
    refine o_c ?_
    refine o_cons ?_
    refine o_c ?_
    refine o_cons ?_
    refine o_c ?_
    refine o_cons ?_
    refine o_c ?_
    refine o_cons ?_
    refine o_c ?_
    refine o_cons ?_
    refine o_c ?_
    refine o_cons ?_
    refine o_c ?_
    refine o_cons ?_
    refine o_c ?_
    refine o_cons ?_
    refine o_c ?_
    refine o_cons ?_
    refine o_c ?_
    refine o_cons ?_
    refine o_c ?_
    refine o_cons ?_
    refine o_c ?_
    refine o_cons ?_
    refine o_c ?_
    refine o_cons ?_
    refine o_c ?_
    refine o_cons ?_
    refine o_c ?_
    refine o_cons ?_
    refine o_c ?_
    refine o_cons ?_
    refine o_c ?_
    refine x_nil ?_
    refine n_lst (f := V.int) (xs := [(0 : Int), (1 : Int), (0 : Int), (0 : Int), (0 : Int), (0 : Int), (0 : Int), (1 : Int), (1 : Int), (0 : Int), (1 : Int), (0 : Int), (0 : Int), (1 : Int), (1 : Int), (0 : Int), (0 : Int), (1 : Int), (1 : Int), (0 : Int), (0 : Int), (0 : Int), (0 : Int), (1 : Int), (1 : Int), (0 : Int)]) O rfl (by show 26 ≤ sizeLine; decide) fun p_2 H O => ?_
    -- 158
    refine o_ret ?_
    refine ⟨_, rfl, ?_⟩
    obtain ⟨l_5, h6, hm⟩ := bndE hm
    refine ⟨_, rfl, ⟨_, (SqL.of (O.mem (hd_)))⟩, fun p_7 hD => k_lcL (f := V.int) (xs := [(0 : Int), (1 : Int), (0 : Int), (0 : Int), (0 : Int), (0 : Int), (0 : Int), (1 : Int), (1 : Int), (0 : Int), (1 : Int), (0 : Int), (0 : Int), (1 : Int), (1 : Int), (0 : Int), (0 : Int), (1 : Int), (1 : Int), (0 : Int), (0 : Int), (0 : Int), (0 : Int), (1 : Int), (1 : Int), (0 : Int)]) (fun r H => ∃ acc : List Int, Own H0 H ((p_7, .lst (List.map V.int acc)) :: [(p_2, .lst (List.map V.int ([(0 : Int), (1 : Int), (0 : Int), (0 : Int), (0 : Int), (0 : Int), (0 : Int), (1 : Int), (1 : Int), (0 : Int), (1 : Int), (0 : Int), (0 : Int), (1 : Int), (1 : Int), (0 : Int), (0 : Int), (1 : Int), (1 : Int), (0 : Int), (0 : Int), (0 : Int), (0 : Int), (1 : Int), (1 : Int), (0 : Int)])))]) ∧ compM (m__law_told_bits_C0 turned_1) r acc = some l_5) ⟨[], O.new hD, h6⟩ (by rintro r H ⟨acc, O, hC⟩; exact (SqL.of (O.mem (tl_ (hd_))))) ?_ ?_⟩
    · rintro bit_3 r H ⟨acc, O, hC⟩
      obtain ⟨y, hm, hz, hC⟩ := compM_cons hC
      refine ⟨rfl, ?_⟩
      unfold m__law_told_bits_C0 at hm
      refine ⟨_, rfl, _, rfl, _, _, rfl, rfl, ?_⟩
      obtain rfl := Option.some.inj hm
      refine ⟨_, O.mem (hd_), (by rw [List.length_map]; exact hz), _, ?_, hC⟩
      rw [map_snoc]
      exact O.put0
    rintro H ⟨acc, O, hC⟩
    obtain rfl := compM_nil hC
    obtain rfl := Option.some.inj hm
    exact RetL.go k O (hd_)
def m_law_C0 (script_1 : List Int) (k_9 : Int) : Option Int :=
  bnd (m__law_draw script_1 ((20 : Int) + k_9) (256 : Int)) fun law_dr_17 =>
  some law_dr_17
def m_law_C1 (script_1 : List Int) (k_30 : Int) : Option Int :=
  bnd (m__law_draw script_1 ((20 : Int) + k_30) (256 : Int)) fun law_dr_38 =>
  some law_dr_38
def m_law_C3 (byte_50 : Int) (k_56 : Int) : Option Int :=
  bnd (shrG byte_50 ((7 : Int) - k_56)) fun t_61 =>
  some (Builtin.bitAnd t_61 (1 : Int))
def m_law_L2  (byte_50 : Int) (bits_43 : List Int) : Option ((List Int)) :=
  bnd (rng1 (8 : Int)) fun rg_54 =>
  bnd (compM (m_law_C3 byte_50) rg_54 []) fun l_58 =>
  bnd (catG bits_43 l_58) fun t_63 =>
  some t_63
def m_law_C4 (t_76 : List Int) (k_81 : Int) : Option Int :=
  bnd (m__law_number (cutL t_76 (some ((8 : Int) * k_81)) (some (((8 : Int) * k_81) + (8 : Int))))) fun law_nu_90 =>
  some law_nu_90
def m_law_L6  (place_188 : Int) (turned_181 : List Int) : Option ((List Int)) :=
  bnd (atI turned_181 place_188) fun e_192 =>
  bnd (setG turned_181 place_188 ((1 : Int) - e_192)) fun l_194 =>
  some l_194
def m_law_L5 (law_dr_3 : Int) (data_92 : List Int) (law_wi_100 : (List Int) × (List Int)) (row_170 : List Int) (due_158 : List ((List Int) × (Option (Int × (List Int))))) : Option ((List ((List Int) × (Option (Int × (List Int)))))) :=
  bnd (loopM (fun place_188 s => m_law_L6 place_188 s) row_170 law_wi_100.1) fun turned_184 =>
  bnd (m__law_read turned_184) fun law_re_196 =>
  ifB ((!Option.isNone law_re_196) && (!decide ((law_re_196 : Option (Int × (List Int))) = (some (law_dr_3, data_92))))) (
    bnd (appG due_158 (row_170, law_re_196)) fun l_206 =>
    some l_206) (
    some due_158)
def m_law_L8  (number_298 : Int) : Option (Fl (Unit) (Bool)) :=
  ifB false (
    some (.rt false)) (
    some (.nx ()))
def m_law_S7 (x_ : SLt) : Option (Fl Unit (Bool)) :=
  bnd (x_.2) fun y_254 =>
  bnd (catG x_.1 ([y_254.1])) fun t_264 =>
  bnd (x_.2) fun y_272 =>
  bnd (catG t_264 y_272.2) fun t_282 =>
  flo (loopF (fun number_298 (_ : Unit) => m_law_L8 number_298) t_282 ()) fun _ =>
  some (.nx ())
theorem m_law_S7_ok {x_ : SLt} (h : slB 300000 x_) : m_law_S7 x_ = some (.nx ()) := by
  obtain ⟨l, o⟩ := x_
  obtain ⟨f, e, h1, h2⟩ := h
  have e : o = some f := e
  subst e
  dsimp only at h1 h2
  unfold m_law_S7
  simp only [bnd_some]
  rw [catG_ok (by simp; omega), bnd_some, catG_ok (by simp; omega), bnd_some, loopF_unit (fun x hx => rfl)]
  rfl
def m_law (script_1 : List Int) : Option (Bool) :=
  bnd (m__law_draw script_1 (0 : Int) (256 : Int)) fun law_dr_3 =>
  bnd (m__law_draw script_1 (1 : Int) (8 : Int)) fun law_dr_5 =>
  bnd (rng1 law_dr_5) fun rg_7 =>
  bnd (compM (m_law_C0 script_1) rg_7 []) fun l_10 =>
  bnd (m__law_draw script_1 (2 : Int) (2 : Int)) fun law_dr_19 =>
  ltv ((decide (law_dr_19 = (0 : Int)))) fun told_21 =>
  bnd (ifB told_21 (
    bnd (m__law_draw script_1 (1 : Int) (4 : Int)) fun law_dr_26 =>
    bnd (rng1 ((4 : Int) + law_dr_26)) fun rg_28 =>
    bnd (compM (m_law_C1 script_1) rg_28 []) fun l_31 =>
    bnd (m__law_draw script_1 (3 : Int) (((8 : Int) * (List.length l_31 : Int)) - (25 : Int))) fun law_dr_40 =>
    bnd (loopM (fun byte_50 s => m_law_L2 byte_50 s) l_31 ([] : List Int)) fun bits_46 =>
    bnd (m__law_draw script_1 (4 : Int) (2 : Int)) fun law_dr_67 =>
    bnd (m__law_told_bits law_dr_67) fun law_to_69 =>
    bnd (catG (cutL bits_46 none (some law_dr_40)) law_to_69) fun t_72 =>
    bnd (catG t_72 (cutL bits_46 (some (law_dr_40 + (26 : Int))) none)) fun t_76 =>
    bnd (rng1 (List.length l_31 : Int)) fun rg_79 =>
    bnd (compM (m_law_C4 t_76) rg_79 []) fun l_82 =>
    some (l_82, law_dr_40)) (
    some (l_10, (0 : Int)))) fun (data_92, at_94) =>
  bnd (m__law_frame_bits law_dr_3 data_92) fun law_fr_97 =>
  bnd (m__law_wire law_fr_97) fun law_wi_100 =>
  bnd (ifB told_21 (
    bnd (idxL law_wi_100.2 (((12 : Int) + at_94) + (23 : Int))) fun j_122 =>
    bnd (idxL law_wi_100.2 (((12 : Int) + at_94) + (6 : Int))) fun j_130 =>
    some [j_122, j_130]) (
    some ([] : List Int))) fun places_136 =>
  bnd (m__law_places script_1 law_wi_100.1 places_136) fun law_pl_140 =>
  bnd (m__law_draw script_1 (9 : Int) (4 : Int)) fun law_dr_144 =>
  bnd (m__law_rows law_pl_140 law_dr_144) fun law_ro_146 =>
  bnd (loopM (fun row_170 s => m_law_L5 law_dr_3 data_92 law_wi_100 row_170 s) law_ro_146 ([] : List ((List Int) × (Option (Int × (List Int)))))) fun due_166 =>
  bnd (atI ([data_92, law_pl_140]) (0 : Int)) fun e_211 =>
  bnd (atI ([data_92, law_pl_140]) (1 : Int)) fun e_216 =>
  bnd (m__law_draw script_1 (9 : Int) (4 : Int)) fun law_dr_221 =>
  bndO (m_slips law_dr_3 e_211 e_216 law_dr_221) fun slips_223 =>
  ifB ((!true) || ((!decide ((slips_223 : List ((List Int) × (Option (Int × (List Int))))) = due_166)) || (!decide (([data_92, law_pl_140] : List (List Int)) = [data_92, law_pl_140])))) (
    some false) (
    bnd (slG slips_223) fun u_238 =>
    bnd (m__law_draw script_1 (9 : Int) (4 : Int)) fun law_dr_323 =>
    bndO (m_slips law_dr_3 data_92 law_pl_140 law_dr_323) fun slips_325 =>
    some (decide ((slips_325 : List ((List Int) × (Option (Int × (List Int))))) = due_166)))
def sp_law (K : PySem.W.Frag) : Sp := fun vs H Q _ => ∃ (script_1 : List Int) (a_2 : Addr) (r : Bool), vs = [.ref a_2] ∧ SqL K H a_2 (List.map V.int script_1) ∧ m_law script_1 = some r ∧ RetV (.bl r) H Q
abbrev N_law : List Str := ["script", "name", "data", "told", "at", "pair", "wire", "places", "due", "row", "handed", "told_slips", "one", "bits", "byte", "turned", "place", "found", "number", "k"]
theorem sc_law : FnScope N_law ["script"] (defScope s_law) := ⟨rfl, rfl, rfl, by decide +kernel, rfl, by decide +kernel, by decide +kernel⟩
theorem ok_law {ad : Ad} (T : Txt K mg ad) : FnOk P w K mg base CX0 7 ad.f_law ad.fd_law ["script"] (sp_law K) := by
  have G__law_draw := ok__law_draw (P := P) (w := w) (base := base) T
  have G__law_frame_bits := ok__law_frame_bits (P := P) (w := w) (base := base) T
  have G__law_number := ok__law_number (P := P) (w := w) (base := base) T
  have G__law_places := ok__law_places (P := P) (w := w) (base := base) T
  have G__law_read := ok__law_read (P := P) (w := w) (base := base) T
  have G__law_rows := ok__law_rows (P := P) (w := w) (base := base) T
  have G__law_told_bits := ok__law_told_bits (P := P) (w := w) (base := base) T
  have G__law_wire := ok__law_wire (P := P) (w := w) (base := base) T
  have G_slips := ok_slips (P := P) (w := w) (base := base) T
  refine T.F_law.ok sc_law (fun vs H Q E h => ?_) (fun cdv A outer s H vs Q E hr h => ?_)
  · obtain ⟨_, _, _, rfl, _⟩ := h
    rfl
  · obtain ⟨script_1, a_2, r, rfl, hp_a_2, hm, k⟩ := h
    unfold m_law at hm
    obtain ⟨Hb, hHb⟩ : ∃ Hb : Hp, Hb = H := ⟨H, rfl⟩
    obtain ⟨H0, hH0⟩ : ∃ H0 : Hp, H0 = Hb := ⟨Hb, rfl⟩
    have O : Own H0 H [] := by rw [hH0, hHb]; exact Own.start H
    rw [← hHb] at k hp_a_2
    rw [← hH0] at hp_a_2
    have eB : Ex Hb H0 := by rw [hH0]; exact Ex.refl _
    clear hH0 hHb
    refine ⟨_, (pss_cons (ps_set (i := 1) sc_law.nd rfl (Or.inl rfl) (pe_call G__law_draw (hr.mono (by decide)) (by rfl) T.g__law_draw T.F__law_draw.kp T.b__law_draw .nil pass0 (pa_cons (pv 0) (pa_cons pe_int (pa_cons pe_int pa_nil))))) (pss_cons (ps_setLc (i := 2) (own := [("k", 19)]) (g := gName 19) (tt := tYes) rfl sc_law.nd rfl rfl (sw_true rfl rfl rfl (by decide +kernel)) (pi_range1 (by rfl) T.z_range (pa_cons (pe_call G__law_draw (hr.mono (by decide)) (by rfl) T.g__law_draw T.F__law_draw.kp T.b__law_draw .nil pass0 (pa_cons (pv 0) (pa_cons pe_int (pa_cons pe_int pa_nil)))) pa_nil)) (blkOk_by (own := [("k", 19)]) (N := N_law) (sc := defScope s_law) (by decide +kernel)) (fun _ _ _ _ _ => pg_name (i := 19) sc_law.nd rfl (Or.inl rfl)) (fun _ _ _ _ _ => pts_nil) (fun _ _ _ _ _ => (pe_call G__law_draw (hr.mono (by decide)) (by rfl) T.g__law_draw T.F__law_draw.kp T.b__law_draw .nil pass0 (pa_cons (pv 0) (pa_cons (pe_op op_add pe_int (pv 19)) (pa_cons pe_int pa_nil)))))) (pss_cons (ps_set (i := 3) sc_law.nd rfl (Or.inl rfl) (pe_cmpR op_eq (pe_call G__law_draw (hr.mono (by decide)) (by rfl) T.g__law_draw T.F__law_draw.kp T.b__law_draw .nil pass0 (pa_cons (pv 0) (pa_cons pe_int (pa_cons pe_int pa_nil)))) pe_int (nomark _))) (pss_cons (ps_set (i := 4) sc_law.nd rfl (Or.inl rfl) pe_int) (Evl.pss_cut (ps_if (pt_val (pv 3)) (pss_cons (ps_setLc (i := 2) (own := [("k", 19)]) (g := gName 19) (tt := tYes) rfl sc_law.nd rfl rfl (sw_true rfl rfl rfl (by decide +kernel)) (pi_range1 (by rfl) T.z_range (pa_cons (pe_op op_add pe_int (pe_call G__law_draw (hr.mono (by decide)) (by rfl) T.g__law_draw T.F__law_draw.kp T.b__law_draw .nil pass0 (pa_cons (pv 0) (pa_cons pe_int (pa_cons pe_int pa_nil))))) pa_nil)) (blkOk_by (own := [("k", 19)]) (N := N_law) (sc := defScope s_law) (by decide +kernel)) (fun _ _ _ _ _ => pg_name (i := 19) sc_law.nd rfl (Or.inl rfl)) (fun _ _ _ _ _ => pts_nil) (fun _ _ _ _ _ => (pe_call G__law_draw (hr.mono (by decide)) (by rfl) T.g__law_draw T.F__law_draw.kp T.b__law_draw .nil pass0 (pa_cons (pv 0) (pa_cons (pe_op op_add pe_int (pv 19)) (pa_cons pe_int pa_nil)))))) (pss_cons (ps_set (i := 4) sc_law.nd rfl (Or.inl rfl) (pe_call G__law_draw (hr.mono (by decide)) (by rfl) T.g__law_draw T.F__law_draw.kp T.b__law_draw .nil pass0 (pa_cons (pv 0) (pa_cons pe_int (pa_cons (pe_op op_sub (pe_op op_mul pe_int (pe_callB (r := rLenQ K) call_lenQ (by rfl) T.z_len PySem.boot_len (pa_cons (pv 2) pa_nil))) pe_int) pa_nil))))) (pss_cons (ps_set (i := 13) sc_law.nd rfl (Or.inr rfl) (pe_lstQ (pe_lst pa_nil))) (pss_cons (ps_for PassesOwn.never rfl (pi_list (pv 2)) (pg_name (i := 14) sc_law.nd rfl (Or.inr rfl)) (pss_one (ps_set (i := 13) sc_law.nd rfl (Or.inr rfl) (pe_op op_cat (pv 13) (pe_lc (own := [("k", 19)]) (g := gName 19) (tt := tYes) rfl sc_law.nd (pi_range1 (by rfl) T.z_range (pa_cons pe_int pa_nil)) (blkOk_by (own := [("k", 19)]) (N := N_law) (sc := defScope s_law) (by decide +kernel)) (fun _ _ _ _ _ => pg_name (i := 19) sc_law.nd rfl (Or.inl rfl)) (fun _ _ _ _ _ => pts_nil) (fun _ _ _ _ _ => (pe_op op_and (pe_op op_shr (pv 14) (pe_op op_sub pe_int (pv 19))) pe_int))))))) (pss_cons (ps_set (i := 13) sc_law.nd rfl (Or.inr rfl) (pe_op op_cat (pe_op op_cat (pe_slice (r := rSlL K) sl_list (pv 13) po_none (po_some (pv 4))) (pe_call G__law_told_bits (hr.mono (by decide)) (by rfl) T.g__law_told_bits T.F__law_told_bits.kp T.b__law_told_bits .nil pass0 (pa_cons (pe_call G__law_draw (hr.mono (by decide)) (by rfl) T.g__law_draw T.F__law_draw.kp T.b__law_draw .nil pass0 (pa_cons (pv 0) (pa_cons pe_int (pa_cons pe_int pa_nil)))) pa_nil))) (pe_slice (r := rSlL K) sl_list (pv 13) (po_some (pe_op op_add (pv 4) pe_int)) po_none))) (pss_one (ps_setLc (i := 2) (own := [("k", 19)]) (g := gName 19) (tt := tYes) rfl sc_law.nd rfl rfl (sw_true rfl rfl rfl (by decide +kernel)) (pi_range1 (by rfl) T.z_range (pa_cons (pe_callB (r := rLenQ K) call_lenQ (by rfl) T.z_len PySem.boot_len (pa_cons (pv 2) pa_nil)) pa_nil)) (blkOk_by (own := [("k", 19)]) (N := N_law) (sc := defScope s_law) (by decide +kernel)) (fun _ _ _ _ _ => pg_name (i := 19) sc_law.nd rfl (Or.inl rfl)) (fun _ _ _ _ _ => pts_nil) (fun _ _ _ _ _ => (pe_call G__law_number (hr.mono (by decide)) (by rfl) T.g__law_number T.F__law_number.kp T.b__law_number .nil pass0 (pa_cons (pe_slice (r := rSlL K) sl_list (pv 13) (po_some (pe_op op_mul pe_int (pv 19))) (po_some (pe_op op_add (pe_op op_mul pe_int (pv 19)) pe_int))) pa_nil)))))))))) pss_nil) (pss_cons (ps_set (i := 5) sc_law.nd rfl (Or.inl rfl) (pe_call G__law_wire (hr.mono (by decide)) (by rfl) T.g__law_wire T.F__law_wire.kp T.b__law_wire .nil pass0 (pa_cons (pe_call G__law_frame_bits (hr.mono (by decide)) (by rfl) T.g__law_frame_bits T.F__law_frame_bits.kp T.b__law_frame_bits .nil pass0 (pa_cons (pv 1) (pa_cons (pv 2) pa_nil))) pa_nil))) (pss_cons (ps_set (i := 6) sc_law.nd rfl (Or.inl rfl) (pe_ix (r := rIxT K) ix_tup (pv 5) pe_int (fun _ _ => rfl))) (pss_cons (ps_set (i := 7) sc_law.nd rfl (Or.inl rfl) (pe_lstQ (pe_lst pa_nil))) (Evl.pss_cut (ps_if (pt_val (pv 3)) (pss_one (ps_set (i := 7) sc_law.nd rfl (Or.inl rfl) (pe_lstQ (pe_lst (pa_cons (pe_bm (r := rIndexD K) PySem.F.plainAttrs_list PySem.F.slot_list_index PySem.F.type_list_index (mt_indexD (room65 hr)) (pe_ix (r := rIxT K) ix_tup (pv 5) pe_int (fun _ _ => rfl)) (pa_cons (pe_op op_add (pe_op op_add pe_int (pv 4)) pe_int) pa_nil)) (pa_cons (pe_bm (r := rIndexD K) PySem.F.plainAttrs_list PySem.F.slot_list_index PySem.F.type_list_index (mt_indexD (room65 hr)) (pe_ix (r := rIxT K) ix_tup (pv 5) pe_int (fun _ _ => rfl)) (pa_cons (pe_op op_add (pe_op op_add pe_int (pv 4)) pe_int) pa_nil)) pa_nil)))))) pss_nil) (pss_cons (ps_set (i := 7) sc_law.nd rfl (Or.inl rfl) (pe_call G__law_places (hr.mono (by decide)) (by rfl) T.g__law_places T.F__law_places.kp T.b__law_places .nil pass0 (pa_cons (pv 0) (pa_cons (pv 6) (pa_cons (pv 7) pa_nil))))) (pss_cons (ps_set (i := 8) sc_law.nd rfl (Or.inl rfl) (pe_lstQ (pe_lst pa_nil))) (pss_cons (ps_for PassesOwn.never rfl (pi_list (pe_call G__law_rows (hr.mono (by decide)) (by rfl) T.g__law_rows T.F__law_rows.kp T.b__law_rows .nil pass0 (pa_cons (pv 7) (pa_cons (pe_call G__law_draw (hr.mono (by decide)) (by rfl) T.g__law_draw T.F__law_draw.kp T.b__law_draw .nil pass0 (pa_cons (pv 0) (pa_cons pe_int (pa_cons pe_int pa_nil)))) pa_nil)))) (pg_name (i := 9) sc_law.nd rfl (Or.inl rfl)) (pss_cons (ps_set (i := 15) sc_law.nd rfl (Or.inl rfl) (pe_callTy (r := rListQ K) call_listQ (by rfl) T.z_list (by decide +kernel) (pa_cons (pv 6) pa_nil))) (pss_cons (ps_for PassesOwn.never rfl (pi_list (pv 9)) (pg_name (i := 16) sc_law.nd rfl (Or.inl rfl)) (pss_one (ps_asg (pe_op op_sub pe_int (pe_ix (r := rIxL K) ix_list (pv 15) (pv 16) (fun _ _ => rfl))) (pg_sub (pv 15) (pv 16) set_list)))) (pss_cons (ps_set (i := 17) sc_law.nd rfl (Or.inl rfl) (pe_call G__law_read (hr.mono (by decide)) (by rfl) T.g__law_read T.F__law_read.kp T.b__law_read .nil pass0 (pa_cons (pv 15) pa_nil))) (pss_one (ps_if (PW.pt (pw_and (pt_cmpR (r := rNotN) op_notNq (pv 17) pe_non (nomark _)) (pw_and1 (pt_cmpR (r := rNeD K) (op_neD hr.units) (pv 17) (pe_tupQ (pe_tup (pa_cons (pv 1) (pa_cons (pv 2) pa_nil)))) (nomark _))))) (pss_one (ps_expr (pe_bm PySem.F.plainAttrs_list PySem.F.slot_list_append PySem.F.type_list_append mt_append (pv 8) (pa_cons (pe_tupQ (pe_tup (pa_cons (pv 9) (pa_cons (pv 17) pa_nil)))) pa_nil)))) pss_nil)))))) (pss_cons (ps_set (i := 10) sc_law.nd rfl (Or.inl rfl) (pe_lstQ (pe_lst (pa_cons (pe_callTy (r := rListQ K) call_listQ (by rfl) T.z_list (by decide +kernel) (pa_cons (pv 2) pa_nil)) (pa_cons (pe_callTy (r := rListQ K) call_listQ (by rfl) T.z_list (by decide +kernel) (pa_cons (pv 7) pa_nil)) pa_nil))))) (pss_cons (ps_set (i := 11) sc_law.nd rfl (Or.inl rfl) (pe_call G_slips (hr.mono (by decide)) (by rfl) T.g_slips T.F_slips.kp T.b_slips .nil passN (pa_cons (pv 1) (pa_cons (pe_ix (r := rIxL K) ix_list (pv 10) pe_int (fun _ _ => rfl)) (pa_cons (pe_ix (r := rIxL K) ix_list (pv 10) pe_int (fun _ _ => rfl)) (pa_cons (pe_call G__law_draw (hr.mono (by decide)) (by rfl) T.g__law_draw T.F__law_draw.kp T.b__law_draw .nil pass0 (pa_cons (pv 0) (pa_cons pe_int (pa_cons pe_int pa_nil)))) pa_nil)))))) (pss_cons (ps_if (PW.pt (pw_or (pt_not (pt_val (pe_callB (r := rIsi K) call_isi (by rfl) T.z_isinstance (by decide +kernel) (pa_cons (pv 11) (pa_cons (pe_bltn (v := V.ty "list") (u := .type "list") (by rfl) T.z_list (by decide +kernel) rfl) pa_nil))))) (pw_or (pt_cmpR (r := rNeD K) (op_neD hr.units) (pv 11) (pv 8) (nomark _)) (pw_or1 (pt_cmpR (r := rNeD K) (op_neD hr.units) (pv 10) (pe_lstQ (pe_lst (pa_cons (pv 2) (pa_cons (pv 7) pa_nil)))) (nomark _)))))) (pss_one (ps_ret pe_bl)) pss_nil) (pss_cons (ps_for PassesOwn.never rfl (pi_list (pv 11)) (pg_name (i := 12) sc_law.nd rfl (Or.inl rfl)) (pss_cons (ps_for PassesOwn.never rfl (pi_list (pe_op op_cat (pe_op op_cat (pe_ix (r := rIxT K) ix_tup (pv 12) pe_int (fun _ _ => rfl)) (pe_lstQ (pe_lst (pa_cons (pe_ix (r := rIxT K) ix_tup (pe_ix (r := rIxT K) ix_tup (pv 12) pe_int (fun _ _ => rfl)) pe_int (fun _ _ => rfl)) pa_nil)))) (pe_ix (r := rIxT K) ix_tup (pe_ix (r := rIxT K) ix_tup (pv 12) pe_int (fun _ _ => rfl)) pe_int (fun _ _ => rfl)))) (pg_name (i := 18) sc_law.nd rfl (Or.inl rfl)) (pss_one (ps_if (pt_val (pe_callB (r := rIsi K) call_isi (by rfl) T.z_isinstance (by decide +kernel) (pa_cons (pv 18) (pa_cons (pe_bltn (v := V.ty "bool") (u := .type "bool") (by rfl) T.z_bool (by decide +kernel) rfl) pa_nil)))) (pss_one (ps_ret pe_bl)) pss_nil))) (pss_cons (ps_expr (pe_bm PySem.F.plainAttrs_list PySem.F.slot_list_append PySem.F.type_list_append mt_append (pe_ix (r := rIxT K) ix_tup (pv 12) pe_int (fun _ _ => rfl)) (pa_cons pe_int pa_nil))) (pss_one (ps_expr (pe_bm PySem.F.plainAttrs_list PySem.F.slot_list_append PySem.F.type_list_append mt_append (pe_ix (r := rIxT K) ix_tup (pe_ix (r := rIxT K) ix_tup (pv 12) pe_int (fun _ _ => rfl)) pe_int (fun _ _ => rfl)) (pa_cons pe_int pa_nil))))))) (pss_one (ps_ret (pe_cmpR (r := rEqD K) (op_eqD hr.units) (pe_call G_slips (hr.mono (by decide)) (by rfl) T.g_slips T.F_slips.kp T.b_slips .nil passN (pa_cons (pv 1) (pa_cons (pe_callTy (r := rListQ K) call_listQ (by rfl) T.z_list (by decide +kernel) (pa_cons (pv 2) pa_nil)) (pa_cons (pe_callTy (r := rListQ K) call_listQ (by rfl) T.z_list (by decide +kernel) (pa_cons (pv 7) pa_nil)) (pa_cons (pe_call G__law_draw (hr.mono (by decide)) (by rfl) T.g__law_draw T.F__law_draw.kp T.b__law_draw .nil pass0 (pa_cons (pv 0) (pa_cons pe_int (pa_cons pe_int pa_nil)))) pa_nil))))) (pv 8) (nomark _)))))))))))))))))))), ?_⟩
    -- 226
    refine o_seq ?_
    refine o_asg ?_
    obtain ⟨law_dr_3, h4, hm⟩ := bndE hm
    refine ⟨_, rfl, ?_⟩
    refine o_cons ?_
    refine o_c ?_
    refine o_cons ?_
    refine o_c ?_
    refine x_nil ?_
    refine ⟨_, _, _, _, law_dr_3, rfl, (O.ex.l hp_a_2), h4, ?_⟩
    refine O.retV fun H O => ?_
    -- 227
    refine o_seq ?_
    refine o_asg ?_
    obtain ⟨law_dr_5, h6, hm⟩ := bndE hm
    refine ⟨_, rfl, ?_⟩
    refine o_cons ?_
    refine o_c ?_
    refine o_cons ?_
    refine o_c ?_
    refine x_nil ?_
    refine ⟨_, _, _, _, law_dr_5, rfl, (O.ex.l hp_a_2), h6, ?_⟩
    refine O.retV fun H O => ?_
    obtain ⟨rg_7, h8, hm⟩ := bndE hm
    refine x_nil ?_
    obtain ⟨c1, c2, rfl⟩ := rng1E h8
    obtain ⟨l_10, h11, hm⟩ := bndE hm
    refine ⟨_, rfl, c1, c2, fun p_12 hD => k_lcR (fun r H => ∃ (R_ : Hp) (acc : List Int), Ex H0 R_ ∧ Own R_ H [(p_12, .lst (List.map V.int acc))] ∧ compM (m_law_C0 script_1) r acc = some l_10) ⟨H0, [], Ex.refl _, O.new hD, h11⟩ ?_ ?_⟩
    · rintro k_9 r H ⟨H0, acc, eC12, O, hC⟩
      replace hp_a_2 := eC12.l hp_a_2
      replace eB := eB.trans eC12
      obtain ⟨y, hm, hz, hC⟩ := compM_cons hC
      refine ⟨rfl, ?_⟩
      unfold m_law_C0 at hm
      obtain ⟨law_dr_17, h18, hm⟩ := bndE hm
      refine ⟨_, rfl, _, rfl, _, _, rfl, rfl, ?_⟩
      refine o_cons ?_
      refine o_c ?_
      refine x_nil ?_
      refine ⟨_, _, _, _, law_dr_17, rfl, (O.ex.l hp_a_2), h18, ?_⟩
      refine O.retV fun H O => ?_
      obtain rfl := Option.some.inj hm
      refine ⟨_, O.mem (hd_), (by rw [List.length_map]; exact hz), H0, _, eC12, ?_, hC⟩
      rw [map_snoc]
      exact O.put0
    rintro H ⟨H0, acc, eC12, O, hC⟩
    replace hp_a_2 := eC12.l hp_a_2
    replace eB := eB.trans eC12
    obtain rfl := compM_nil hC
    -- 228
    refine o_seq ?_
    refine o_asg ?_
    obtain ⟨law_dr_19, h20, hm⟩ := bndE hm
    refine ⟨_, rfl, ?_⟩
    refine o_cons ?_
    refine o_c ?_
    refine o_cons ?_
    refine o_c ?_
    refine x_nil ?_
    refine ⟨_, _, _, _, law_dr_19, rfl, (O.ex.l hp_a_2), h20, ?_⟩
    refine O.retV fun H O => ?_
    refine o_c ?_
    refine k_eqI ?_
    obtain ⟨told_21, h22, hm⟩ := ltvE hm
    refine a_set (congrArg V.bl h22) ?_
    -- 229
    refine o_seq ?_
    refine o_asg ?_
    refine o_c ?_
    -- 230
    obtain ⟨⟨data_92, at_94⟩, h25, hm⟩ := bndE hm
    refine o_cut (fun σ H => ∃ (R_ : Hp) (p_93 : Addr) (j_95 : Option V) (j_96 : Option V), σ = [some (.ref a_2), some (.int law_dr_3), some (.ref p_93), some (.bl told_21), some (.int at_94), none, none, none, none, none, none, none, none, j_95, j_96, none, none, none, none, none] ∧ Ex H0 R_ ∧ Own R_ H [(p_93, .lst (List.map V.int data_92))]) ?_ ?_
    · have eJ23 : Ex H0 H0 := Ex.refl _
      refine o_ifs ?_
      refine ⟨_, rfl, _, rfl, ?_⟩
      refine iteS (c := told_21) (fun h24 => ?_) (fun h24 => ?_)
      · replace hm := ifT h25 h24
        -- 231
        refine o_seq ?_
        refine o_asg ?_
        obtain ⟨law_dr_26, h27, hm⟩ := bndE hm
        refine ⟨_, rfl, ?_⟩
        refine o_cons ?_
        refine o_c ?_
        refine o_cons ?_
        refine o_c ?_
        refine x_nil ?_
        refine ⟨_, _, _, _, law_dr_26, rfl, (O.ex.l hp_a_2), h27, ?_⟩
        refine O.retV fun H O => ?_
        obtain ⟨rg_28, h29, hm⟩ := bndE hm
        refine ⟨_, _, rfl, rfl, ?_⟩
        refine x_nil ?_
        obtain ⟨c1, c2, rfl⟩ := rng1E h29
        obtain ⟨l_31, h32, hm⟩ := bndE hm
        refine ⟨_, rfl, c1, c2, fun p_33 hD => k_lcR (fun r H => ∃ (R_ : Hp) (acc : List Int), Ex H0 R_ ∧ Own R_ H [(p_33, .lst (List.map V.int acc)), (p_12, .lst (List.map V.int l_10))] ∧ compM (m_law_C1 script_1) r acc = some l_31) ⟨H0, [], Ex.refl _, O.new hD, h32⟩ ?_ ?_⟩
        · rintro k_30 r H ⟨H0, acc, eC33, O, hC⟩
          replace hp_a_2 := eC33.l hp_a_2
          replace eB := eB.trans eC33
          replace eJ23 := eJ23.trans eC33
          obtain ⟨y, hm, hz, hC⟩ := compM_cons hC
          refine ⟨rfl, ?_⟩
          unfold m_law_C1 at hm
          obtain ⟨law_dr_38, h39, hm⟩ := bndE hm
          refine ⟨_, rfl, _, rfl, _, _, rfl, rfl, ?_⟩
          refine o_cons ?_
          refine o_c ?_
          refine x_nil ?_
          refine ⟨_, _, _, _, law_dr_38, rfl, (O.ex.l hp_a_2), h39, ?_⟩
          refine O.retV fun H O => ?_
          obtain rfl := Option.some.inj hm
          refine ⟨_, O.mem (hd_), (by rw [List.length_map]; exact hz), H0, _, eC33, ?_, hC⟩
          rw [map_snoc]
          exact O.put0
        rintro H ⟨H0, acc, eC33, O, hC⟩
        replace hp_a_2 := eC33.l hp_a_2
        replace eB := eB.trans eC33
        replace eJ23 := eJ23.trans eC33
        obtain rfl := compM_nil hC
        -- 232
        refine o_seq ?_
        refine o_asg ?_
        refine ⟨_, rfl, _, rfl, ?_⟩
        refine x_nil ?_
        refine n_len (SqL.of (O.mem (hd_))) ?_
        obtain ⟨law_dr_40, h41, hm⟩ := bndE hm
        refine ⟨_, _, rfl, rfl, .inl ⟨by decide, by decide⟩, _, _, rfl, rfl, ?_⟩
        refine x_nil ?_
        refine ⟨_, _, _, _, law_dr_40, rfl, (O.ex.l hp_a_2), h41, ?_⟩
        refine O.retV fun H O => ?_
        -- 233
        refine o_seq ?_
        refine o_asg ?_
        refine x_nil ?_
        refine n_lst (f := V.int) (xs := ([] : List Int)) O rfl (Nat.zero_le _) fun p_42 H O => ?_
        -- 234
        refine o_seq ?_
        refine o_for ?_
        refine ⟨_, rfl, ?_⟩
        obtain ⟨bits_46, h47, hm⟩ := bndE hm
        refine ⟨_, rfl, ⟨_, (SqL.of (O.mem (tl_ (hd_))))⟩, q_forL (f := V.int) (xs := l_31) (fun r σ H => ∃ (R_ : Hp) (p_44 : Addr) (bits_43 : List Int) (j_45 : Option V), σ = [some (.ref a_2), some (.int law_dr_3), some (.ref p_33), some (.bl told_21), some (.int law_dr_40), none, none, none, none, none, none, none, none, some (.ref p_44), j_45, none, none, none, none, none] ∧ Ex H0 R_ ∧ Own R_ H [(p_33, .lst (List.map V.int l_31)), (p_44, .lst (List.map V.int bits_43))] ∧ loopM (fun byte_50 s => m_law_L2 byte_50 s) r bits_43 = some bits_46) ⟨H0, p_42, ([] : List Int), _, rfl, Ex.refl _, (Own.pk (L' := [(p_33, .lst (List.map V.int l_31)), (p_42, .lst (List.map V.int ([] : List Int)))]) O [1, 0] (by decide) rfl), h47⟩ (by rintro r σ H ⟨H0, p_44, bits_43, j_45, rfl, eJ_, O, hL⟩; replace hp_a_2 := eJ_.l hp_a_2; exact (SqL.of (O.mem (hd_)))) ?_ ?_⟩
        · rintro byte_50 r σ H ⟨H0, p_44, bits_43, j_45, rfl, eL51, O, hL⟩
          replace hp_a_2 := eL51.l hp_a_2
          replace eB := eB.trans eL51
          replace eJ23 := eJ23.trans eL51
          obtain ⟨s_, hm, h49⟩ := loopM_cons hL
          replace hm : m_law_L2 byte_50 bits_43 = some s_ := hm
          unfold m_law_L2 at hm
          -- 235
          refine o_asg ?_
          obtain ⟨rg_54, h55, hm⟩ := bndE hm
          refine ⟨_, rfl, ?_⟩
          refine o_ir1 ?_
          refine o_cons ?_
          refine o_c ?_
          refine x_nil ?_
          obtain ⟨c1, c2, rfl⟩ := rng1E h55
          obtain ⟨l_58, h59, hm⟩ := bndE hm
          refine ⟨_, rfl, c1, c2, fun p_60 hD => k_lcR (fun r H => ∃ acc : List Int, Own H0 H ((p_60, .lst (List.map V.int acc)) :: [(p_33, .lst (List.map V.int l_31)), (p_44, .lst (List.map V.int bits_43))]) ∧ compM (m_law_C3 byte_50) r acc = some l_58) ⟨[], O.new hD, h59⟩ ?_ ?_⟩
          · rintro k_56 r H ⟨acc, O, hC⟩
            obtain ⟨y, hm, hz, hC⟩ := compM_cons hC
            refine ⟨rfl, ?_⟩
            unfold m_law_C3 at hm
            obtain ⟨t_61, h62, hm⟩ := bndE hm
            refine ⟨_, rfl, _, rfl, _, _, rfl, rfl, ?_⟩
            refine k_shr h62 ?_
            refine ⟨_, _, rfl, rfl, ?_⟩
            obtain rfl := Option.some.inj hm
            refine ⟨_, O.mem (hd_), (by rw [List.length_map]; exact hz), _, ?_, hC⟩
            rw [map_snoc]
            exact O.put0
          rintro H ⟨acc, O, hC⟩
          obtain rfl := compM_nil hC
          obtain ⟨t_63, h64, hm⟩ := bndE hm
          refine k_cat (f := V.int) O (O.mem (tl_ (tl_ (hd_)))) (O.mem (hd_)) h64 fun p_65 H O => ?_
          have Oz := O
          obtain rfl := Option.some.inj hm
          exact ⟨H0, p_65, _, _, rfl, eL51, (Own.pk (L' := [(p_33, .lst (List.map V.int l_31)), (p_65, .lst (List.map V.int t_63))]) Oz [2, 0] (by decide) rfl), h49⟩
        rintro σ H ⟨H0, p_44, bits_43, j_45, rfl, eJ_, O, hL⟩
        replace hp_a_2 := eJ_.l hp_a_2
        replace eB := eB.trans eJ_
        replace eJ23 := eJ23.trans eJ_
        cases loopM_nil hL
        -- 236
        refine o_seq ?_
        refine o_asg ?_
        refine ⟨_, rfl, _, rfl, _, rfl, ?_⟩
        refine k_cut (f := V.int) O (SqL.of (O.mem (tl_ (hd_)))) fun p_66 H O => ?_
        obtain ⟨law_dr_67, h68, hm⟩ := bndE hm
        refine ⟨_, rfl, ?_⟩
        refine o_cons ?_
        refine o_c ?_
        refine o_cons ?_
        refine o_c ?_
        refine x_nil ?_
        refine ⟨_, _, _, _, law_dr_67, rfl, (O.ex.l hp_a_2), h68, ?_⟩
        refine O.retV fun H O => ?_
        obtain ⟨law_to_69, h70, hm⟩ := bndE hm
        refine x_nil ?_
        refine ⟨_, law_to_69, rfl, h70, ?_⟩
        refine O.retL fun p_71 H O => ?_
        obtain ⟨t_72, h73, hm⟩ := bndE hm
        refine k_cat (f := V.int) O (O.mem (tl_ (hd_))) (O.mem (hd_)) h73 fun p_74 H O => ?_
        refine ⟨_, rfl, _, rfl, _, _, rfl, rfl, _, rfl, ?_⟩
        refine x_np ?_
        refine k_cut (f := V.int) O (SqL.of (O.mem (tl_ (tl_ (tl_ (tl_ (hd_))))))) fun p_75 H O => ?_
        obtain ⟨t_76, h77, hm⟩ := bndE hm
        refine k_cat (f := V.int) O (O.mem (tl_ (hd_))) (O.mem (hd_)) h77 fun p_78 H O => ?_
        -- 237
        refine o_asg ?_
        refine ⟨_, rfl, ?_⟩
        refine x_nil ?_
        refine n_len (SqL.of (O.mem (tl_ (tl_ (tl_ (tl_ (tl_ (hd_)))))))) ?_
        obtain ⟨rg_79, h80, hm⟩ := bndE hm
        refine x_nil ?_
        obtain ⟨c1, c2, rfl⟩ := rng1E h80
        obtain ⟨l_82, h83, hm⟩ := bndE hm
        refine ⟨_, rfl, c1, c2, fun p_84 hD => k_lcR (fun r H => ∃ (R_ : Hp) (acc : List Int), Ex H0 R_ ∧ Own R_ H [(p_84, .lst (List.map V.int acc)), (p_78, .lst (List.map V.int t_76)), (p_75, .lst (List.map V.int (cutL bits_46 (some (law_dr_40 + (26 : Int))) none))), (p_74, .lst (List.map V.int t_72)), (p_71, .lst (List.map V.int law_to_69)), (p_66, .lst (List.map V.int (cutL bits_46 none (some law_dr_40)))), (p_33, .lst (List.map V.int l_31)), (p_44, .lst (List.map V.int bits_46))] ∧ compM (m_law_C4 t_76) r acc = some l_82) ⟨H0, [], Ex.refl _, O.new hD, h83⟩ ?_ ?_⟩
        · rintro k_81 r H ⟨H0, acc, eC84, O, hC⟩
          replace hp_a_2 := eC84.l hp_a_2
          replace eB := eB.trans eC84
          replace eJ23 := eJ23.trans eC84
          obtain ⟨y, hm, hz, hC⟩ := compM_cons hC
          refine ⟨rfl, ?_⟩
          unfold m_law_C4 at hm
          refine ⟨_, rfl, _, rfl, _, _, rfl, rfl, .inl ⟨by decide, by decide⟩, _, rfl, _, rfl, _, _, rfl, rfl, .inl ⟨by decide, by decide⟩, _, _, rfl, rfl, _, rfl, ?_⟩
          refine k_cut (f := V.int) O (SqL.of (O.mem (tl_ (hd_)))) fun p_89 H O => ?_
          obtain ⟨law_nu_90, h91, hm⟩ := bndE hm
          refine x_nil ?_
          refine ⟨_, _, law_nu_90, rfl, (O.mem (hd_)), h91, ?_⟩
          refine O.retV fun H O => ?_
          replace O := (Own.pk (L' := [(p_84, .lst (List.map V.int acc)), (p_78, .lst (List.map V.int t_76)), (p_75, .lst (List.map V.int (cutL bits_46 (some (law_dr_40 + (26 : Int))) none))), (p_74, .lst (List.map V.int t_72)), (p_71, .lst (List.map V.int law_to_69)), (p_66, .lst (List.map V.int (cutL bits_46 none (some law_dr_40)))), (p_33, .lst (List.map V.int l_31)), (p_44, .lst (List.map V.int bits_46))]) O [1, 2, 3, 4, 5, 6, 7, 8] (by decide) rfl)
          obtain rfl := Option.some.inj hm
          refine ⟨_, O.mem (hd_), (by rw [List.length_map]; exact hz), H0, _, eC84, ?_, hC⟩
          rw [map_snoc]
          exact O.put0
        rintro H ⟨H0, acc, eC84, O, hC⟩
        replace hp_a_2 := eC84.l hp_a_2
        replace eB := eB.trans eC84
        replace eJ23 := eJ23.trans eC84
        obtain rfl := compM_nil hC
        have Oz := O
        have hq_ := Option.some.inj hm
        replace hq_ := Prod.mk.inj hq_
        obtain ⟨hq1_, hq_⟩ := hq_
        subst hq1_
        subst hq_
        exact ⟨H0, p_84, _, _, rfl, eJ23, (Own.pk (L' := [(p_84, .lst (List.map V.int l_82))]) Oz [0] (by decide) rfl)⟩
      · replace hm := ifF h25 h24
        refine o_next ?_
        have Oz := O
        have hq_ := Option.some.inj hm
        replace hq_ := Prod.mk.inj hq_
        obtain ⟨hq1_, hq_⟩ := hq_
        subst hq1_
        subst hq_
        exact ⟨H0, p_12, _, _, rfl, eJ23, Oz⟩
    rintro σ H ⟨H0, p_93, j_95, j_96, rfl, eJ_, O⟩
    replace hp_a_2 := eJ_.l hp_a_2
    replace eB := eB.trans eJ_
    -- 238
    refine o_seq ?_
    refine o_asg ?_
    obtain ⟨law_fr_97, h98, hm⟩ := bndE hm
    refine ⟨_, rfl, _, rfl, ?_⟩
    refine x_nil ?_
    refine ⟨_, _, _, law_fr_97, rfl, (O.mem (hd_)), h98, ?_⟩
    refine O.retL fun p_99 H O => ?_
    obtain ⟨law_wi_100, h101, hm⟩ := bndE hm
    refine x_nil ?_
    have Oc : Own H0 H (hAppend [] [(p_99, .lst (List.map V.int law_fr_97)), (p_93, .lst (List.map V.int data_92))]) := (Own.pk O [0, 1] (by decide) rfl)
    refine ⟨law_fr_97, p_99, H0, law_wi_100, rfl, Oc.left, (Own.inC Oc (hd_)), h101, ?_⟩
    refine Oc.retX (mdP (mT2 (mL mI) (mL mI))) fun w_102 H H0 L_103 O e_ d_ => ?_
    replace hp_a_2 := e_.l hp_a_2
    replace eB := eB.trans e_
    obtain ⟨rfl, h104⟩ := d_
    try simp only [n1, n2, n3, n4, n5, n6, n7] at O
    obtain ⟨p_105, rfl⟩ := rT2_ref h104
    have hn_p_105 := h104
    -- 239
    refine o_seq ?_
    refine o_asg ?_
    refine ⟨_, rfl, ?_⟩
    refine o_c ?_
    obtain ⟨w_106, w_107, h108, h109, h110⟩ := rT2_at hn_p_105
    refine k_ixT (xs := [w_106, w_107]) (SqT.of (O.ex _ _ h108)) rfl ?_
    obtain ⟨p_111, rfl, hp_p_111⟩ := fI h109
    -- 240
    refine o_seq ?_
    refine o_asg ?_
    refine x_nil ?_
    refine n_lst (f := V.int) (xs := ([] : List Int)) O rfl (Nat.zero_le _) fun p_112 H O => ?_
    -- 241
    obtain ⟨places_136, h115, hm⟩ := bndE hm
    refine o_cut (fun σ H => ∃ (R_ : Hp) (p_137 : Addr) (j_133 : Option V) (j_134 : Option V) (j_135 : Option V) (j_138 : Option V) (j_139 : Option V), σ = [some (.ref a_2), some (.int law_dr_3), some (.ref p_93), j_133, j_134, j_135, some (.ref p_111), some (.ref p_137), none, none, none, none, none, j_138, j_139, none, none, none, none, none] ∧ Ex H0 R_ ∧ Own R_ H [(p_93, .lst (List.map V.int data_92)), (p_137, .lst (List.map V.int places_136))]) ?_ ?_
    · have eJ113 : Ex H0 H0 := Ex.refl _
      refine o_ifs ?_
      refine ⟨_, rfl, _, rfl, ?_⟩
      refine iteS (c := told_21) (fun h114 => ?_) (fun h114 => ?_)
      · replace hm := ifT h115 h114
        -- 242
        refine o_asg ?_
        refine ⟨_, rfl, ?_⟩
        refine o_c ?_
        obtain ⟨w_116, w_117, h118, h119, h120⟩ := rT2_at hn_p_105
        refine k_ixT (xs := [w_116, w_117]) (SqT.of (O.ex _ _ h118)) rfl ?_
        obtain ⟨p_121, rfl, hp_p_121⟩ := fI h120
        refine ⟨.inl ⟨rfl, _, (SqL.of (O.ex _ _ hp_p_121))⟩, _, rfl, _, _, rfl, rfl, _, _, rfl, rfl, ?_⟩
        refine x_nil ?_
        obtain ⟨j_122, h123, hm⟩ := bndE hm
        refine k_indexD (De.q deI) (by decide) (okDeL deI law_wi_100.2) (okDe deI (((12 : Int) + at_94) + (23 : Int))) (gI (O.ex _ _ hp_p_121)) rfl h123 ?_
        refine ⟨_, rfl, ?_⟩
        refine o_c ?_
        obtain ⟨w_124, w_125, h126, h127, h128⟩ := rT2_at hn_p_105
        refine k_ixT (xs := [w_124, w_125]) (SqT.of (O.ex _ _ h126)) rfl ?_
        obtain ⟨p_129, rfl, hp_p_129⟩ := fI h128
        refine ⟨.inl ⟨rfl, _, (SqL.of (O.ex _ _ hp_p_129))⟩, _, rfl, _, _, rfl, rfl, _, _, rfl, rfl, ?_⟩
        refine x_nil ?_
        obtain ⟨j_130, h131, hm⟩ := bndE hm
        refine k_indexD (De.q deI) (by decide) (okDeL deI law_wi_100.2) (okDe deI (((12 : Int) + at_94) + (6 : Int))) (gI (O.ex _ _ hp_p_129)) rfl h131 ?_
        refine x_nil ?_
        refine n_lst (f := V.int) (xs := [j_122, j_130]) O rfl (by show 2 ≤ sizeLine; decide) fun p_132 H O => ?_
        have Oz := O
        have hq_ := Option.some.inj hm
        subst hq_
        exact ⟨H0, p_132, _, _, _, _, _, rfl, eJ113, (Own.pk (L' := [(p_93, .lst (List.map V.int data_92)), (p_132, .lst (List.map V.int ([j_122, j_130])))]) Oz [3, 0] (by decide) rfl)⟩
      · replace hm := ifF h115 h114
        refine o_next ?_
        have Oz := O
        have hq_ := Option.some.inj hm
        subst hq_
        exact ⟨H0, p_112, _, _, _, _, _, rfl, eJ113, (Own.pk (L' := [(p_93, .lst (List.map V.int data_92)), (p_112, .lst (List.map V.int ([] : List Int)))]) Oz [2, 0] (by decide) rfl)⟩
    rintro σ H ⟨H0, p_137, j_133, j_134, j_135, j_138, j_139, rfl, eJ_, O⟩
    replace hp_a_2 := eJ_.l hp_a_2
    replace hp_p_111 := eJ_ _ _ hp_p_111
    replace eB := eB.trans eJ_
    -- 243
    refine o_seq ?_
    refine o_asg ?_
    obtain ⟨law_pl_140, h141, hm⟩ := bndE hm
    refine ⟨_, rfl, _, rfl, _, rfl, ?_⟩
    refine x_nil ?_
    refine ⟨_, _, _, _, _, _, law_pl_140, rfl, (O.ex.l hp_a_2), (O.ex _ _ hp_p_111), (O.mem (tl_ (hd_))), h141, ?_⟩
    refine O.retL fun p_142 H O => ?_
    -- 244
    refine o_seq ?_
    refine o_asg ?_
    refine x_nil ?_
    refine n_lstV O (by show 0 ≤ sizeLine; decide) fun p_143 H O => ?_
    have ha_p_143 : All2 ((rT2 (rL rI) (rO (rT2 rI (rL rI)))) (H0)) ([] : List V) (([] : List ((List Int) × (Option (Int × (List Int))))) : List ((List Int) × (Option (Int × (List Int))))) := .nil
    -- 245
    refine o_seq ?_
    replace O := (Own.pk (L' := [(p_93, .lst (List.map V.int data_92)), (p_143, .lst ([] : List V)), (p_142, .lst (List.map V.int law_pl_140)), (p_137, .lst (List.map V.int places_136))]) O [2, 0, 1, 3] (by decide) rfl)
    obtain ⟨H0, O, e_, hp_p_93⟩ := O.frz
    replace hp_a_2 := e_.l hp_a_2
    replace hp_p_111 := e_ _ _ hp_p_111
    replace ha_p_143 := mA (mT2 (mL mI) (mO (mT2 mI (mL mI)))) e_ ha_p_143
    replace eB := eB.trans e_
    refine o_for ?_
    obtain ⟨law_dr_144, h145, hm⟩ := bndE hm
    refine ⟨_, rfl, _, rfl, ?_⟩
    refine o_cons ?_
    refine o_c ?_
    refine o_cons ?_
    refine o_c ?_
    refine x_nil ?_
    refine ⟨_, _, _, _, law_dr_144, rfl, (O.ex.l hp_a_2), h145, ?_⟩
    refine O.retV fun H O => ?_
    obtain ⟨law_ro_146, h147, hm⟩ := bndE hm
    refine x_nil ?_
    have Oc : Own H0 H (hAppend [] [(p_143, .lst ([] : List V)), (p_142, .lst (List.map V.int law_pl_140)), (p_137, .lst (List.map V.int places_136))]) := (Own.pk O [0, 1, 2] (by decide) rfl)
    refine ⟨law_pl_140, p_142, law_dr_144, H0, law_ro_146, rfl, Oc.left, (Own.inC Oc (tl_ (hd_))), h147, ?_⟩
    refine Oc.retX (mdP (mL (mL mI))) fun w_148 H H0 L_149 O e_ d_ => ?_
    replace hp_a_2 := e_.l hp_a_2
    replace hp_p_111 := e_ _ _ hp_p_111
    replace ha_p_143 := mA (mT2 (mL mI) (mO (mT2 mI (mL mI)))) e_ ha_p_143
    replace hp_p_93 := e_ _ _ hp_p_93
    replace eB := eB.trans e_
    obtain ⟨rfl, h150⟩ := d_
    try simp only [n1, n2, n3, n4, n5, n6, n7] at O
    obtain ⟨p_151, rfl⟩ := rL_ref h150
    have hn_p_151 := h150
    obtain ⟨vs_152, h153, h154⟩ := rL_at hn_p_151
    obtain ⟨due_166, h167, hm⟩ := bndE hm
    refine ⟨_, rfl, ⟨_, (SqL.of (O.ex _ _ h153))⟩, q_forA (b := fun _ _ => False) (k := fun _ _ => False) h154 (fun r σ H => ∃ (R_ : Hp) (due_158 : List ((List Int) × (Option (Int × (List Int))))) (vs_159 : List V) (j_155 : Option V) (j_156 : Option V) (j_157 : Option V) (j_160 : Option V) (j_161 : Option V) (j_162 : Option V) (j_163 : Option V) (j_164 : Option V) (j_165 : Option V), σ = [some (.ref a_2), some (.int law_dr_3), some (.ref p_93), j_155, j_156, j_157, some (.ref p_111), some (.ref p_142), some (.ref p_143), j_160, none, none, none, j_161, j_162, j_163, j_164, j_165, none, none] ∧ Ex H0 R_ ∧ Own R_ H [(p_142, .lst (List.map V.int law_pl_140)), (p_143, .lst vs_159)] ∧ All2 ((rT2 (rL rI) (rO (rT2 rI (rL rI)))) (R_)) vs_159 due_158 ∧ loopM (fun row_170 s => m_law_L5 law_dr_3 data_92 law_wi_100 row_170 s) r due_158 = some due_166) ⟨H0, ([] : List ((List Int) × (Option (Int × (List Int))))), (([] : List V)), _, _, _, _, _, _, _, _, _, rfl, Ex.refl _, (Own.pk (L' := [(p_142, .lst (List.map V.int law_pl_140)), (p_143, .lst ([] : List V))]) O [1, 0] (by decide) rfl), ha_p_143, h167⟩ (by rintro r σ H ⟨H0, due_158, vs_159, j_155, j_156, j_157, j_160, j_161, j_162, j_163, j_164, j_165, rfl, eJ_, O, ha_p_143, hL⟩; exact (SqL.of (O.ex _ _ (eJ_ _ _ h153)))) ?_ ?_⟩
    · rintro row_170 w_172 r σ H h173 ⟨H0, due_158, vs_159, j_155, j_156, j_157, j_160, j_161, j_162, j_163, j_164, j_165, rfl, eL171, O, ha_p_143, hL⟩
      replace hp_a_2 := eL171.l hp_a_2
      replace hp_p_93 := eL171 _ _ hp_p_93
      replace hp_p_111 := eL171 _ _ hp_p_111
      replace eB := eB.trans eL171
      obtain ⟨s_, hm, h169⟩ := loopM_cons hL
      replace hm : m_law_L5 law_dr_3 data_92 law_wi_100 row_170 due_158 = some s_ := hm
      unfold m_law_L5 at hm
      replace h173 := (mL mI) _ _ _ _ eL171 h173
      obtain ⟨p_174, rfl, hp_p_174⟩ := fI h173
      -- 246
      refine o_seq ?_
      refine o_asg ?_
      refine ⟨_, rfl, ?_⟩
      refine x_nil ?_
      refine n_list O (SqL.of (O.ex _ _ hp_p_111)) fun p_175 H O => ?_
      -- 247
      refine o_seq ?_
      refine o_for ?_
      refine ⟨_, rfl, ?_⟩
      obtain ⟨turned_184, h185, hm⟩ := bndE hm
      refine ⟨_, rfl, ⟨_, (SqL.of (O.ex _ _ hp_p_174))⟩, q_forL (f := V.int) (xs := row_170) (fun r σ H => ∃ (R_ : Hp) (turned_181 : List Int) (j_176 : Option V) (j_177 : Option V) (j_178 : Option V) (j_179 : Option V) (j_180 : Option V) (j_182 : Option V) (j_183 : Option V), σ = [some (.ref a_2), some (.int law_dr_3), some (.ref p_93), j_176, j_177, j_178, some (.ref p_111), some (.ref p_142), some (.ref p_143), some (.ref p_174), none, none, none, j_179, j_180, some (.ref p_175), j_182, j_183, none, none] ∧ Ex H0 R_ ∧ Own R_ H [(p_142, .lst (List.map V.int law_pl_140)), (p_143, .lst vs_159), (p_175, .lst (List.map V.int turned_181))] ∧ loopM (fun place_188 s => m_law_L6 place_188 s) r turned_181 = some turned_184) ⟨H0, _, _, _, _, _, _, _, _, rfl, Ex.refl _, (Own.pk (L' := [(p_142, .lst (List.map V.int law_pl_140)), (p_143, .lst vs_159), (p_175, .lst (List.map V.int law_wi_100.1))]) O [1, 2, 0] (by decide) rfl), h185⟩ (by rintro r σ H ⟨H0, turned_181, j_176, j_177, j_178, j_179, j_180, j_182, j_183, rfl, eJ_, O, hL⟩; replace hp_a_2 := eJ_.l hp_a_2; replace hp_p_93 := eJ_ _ _ hp_p_93; replace hp_p_111 := eJ_ _ _ hp_p_111; replace hp_p_174 := eJ_ _ _ hp_p_174; replace ha_p_143 := mA (mT2 (mL mI) (mO (mT2 mI (mL mI)))) eJ_ ha_p_143; exact (SqL.of (O.ex _ _ hp_p_174))) ?_ ?_⟩
      · rintro place_188 r σ H ⟨H0, turned_181, j_176, j_177, j_178, j_179, j_180, j_182, j_183, rfl, eL189, O, hL⟩
        replace hp_a_2 := eL189.l hp_a_2
        replace hp_p_93 := eL189 _ _ hp_p_93
        replace hp_p_111 := eL189 _ _ hp_p_111
        replace hp_p_174 := eL189 _ _ hp_p_174
        replace ha_p_143 := mA (mT2 (mL mI) (mO (mT2 mI (mL mI)))) eL189 ha_p_143
        replace eB := eB.trans eL189
        replace eL171 := eL171.trans eL189
        obtain ⟨s_, hm, h187⟩ := loopM_cons hL
        replace hm : m_law_L6 place_188 turned_181 = some s_ := hm
        unfold m_law_L6 at hm
        -- 248
        refine o_sub ?_
        obtain ⟨e_192, h193, hm⟩ := bndE hm
        refine ⟨_, rfl, _, rfl, ?_⟩
        refine k_ixL (f := V.int) (SqL.of (O.mem (tl_ (tl_ (hd_))))) h193 ?_
        obtain ⟨l_194, h195, hm⟩ := bndE hm
        refine ⟨_, _, rfl, rfl, _, rfl, _, rfl, ?_⟩
        refine k_setL (f := V.int) (O.mem (tl_ (tl_ (hd_)))) (fun _ => O.put2) h195 fun H O => ?_
        have Oz := O
        obtain rfl := Option.some.inj hm
        exact ⟨H0, _, _, _, _, _, _, _, _, rfl, eL189, Oz, h187⟩
      rintro σ H ⟨H0, turned_181, j_176, j_177, j_178, j_179, j_180, j_182, j_183, rfl, eJ_, O, hL⟩
      replace hp_a_2 := eJ_.l hp_a_2
      replace hp_p_93 := eJ_ _ _ hp_p_93
      replace hp_p_111 := eJ_ _ _ hp_p_111
      replace hp_p_174 := eJ_ _ _ hp_p_174
      replace ha_p_143 := mA (mT2 (mL mI) (mO (mT2 mI (mL mI)))) eJ_ ha_p_143
      replace eB := eB.trans eJ_
      replace eL171 := eL171.trans eJ_
      cases loopM_nil hL
      -- 249
      refine o_seq ?_
      refine o_asg ?_
      obtain ⟨law_re_196, h197, hm⟩ := bndE hm
      refine ⟨_, rfl, ?_⟩
      refine x_nil ?_
      have Oc : Own H0 H (hAppend [] [(p_142, .lst (List.map V.int law_pl_140)), (p_143, .lst vs_159), (p_175, .lst (List.map V.int turned_184))]) := (Own.pk O [0, 1, 2] (by decide) rfl)
      refine ⟨turned_184, p_175, H0, law_re_196, rfl, Oc.left, (Own.inC Oc (tl_ (tl_ (hd_)))), h197, ?_⟩
      refine Oc.retX (mdP (mO (mT2 mI (mL mI)))) fun w_198 H H0 L_199 O e_ d_ => ?_
      replace hp_a_2 := e_.l hp_a_2
      replace hp_p_93 := e_ _ _ hp_p_93
      replace hp_p_111 := e_ _ _ hp_p_111
      replace hp_p_174 := e_ _ _ hp_p_174
      replace ha_p_143 := mA (mT2 (mL mI) (mO (mT2 mI (mL mI)))) e_ ha_p_143
      replace eB := eB.trans e_
      replace eL171 := eL171.trans e_
      obtain ⟨rfl, h200⟩ := d_
      try simp only [n1, n2, n3, n4, n5, n6, n7] at O
      have hn_w_198 := h200
      -- 250
      refine o_ifs ?_
      refine x_andJ (c := (!Option.isNone law_re_196)) (e := (!decide ((law_re_196 : Option (Int × (List Int))) = (some (law_dr_3, data_92))))) (d := ((!Option.isNone law_re_196) && (!decide ((law_re_196 : Option (Int × (List Int))) = (some (law_dr_3, data_92)))))) (fun H => ∃ (R_ : Hp), Ex H0 R_ ∧ Own R_ H [(p_142, .lst (List.map V.int law_pl_140)), (p_143, .lst vs_159), (p_175, .lst (List.map V.int turned_184))]) (fun Q1 k1 => ?_) (fun h201 => ⟨by rw [h201]; rfl, fun H hJ Q2 k2 => ?_⟩) (fun h201 => by rw [h201]; rfl) (fun H hJ => ?_)
      · have eJ202 : Ex H0 H0 := Ex.refl _
        refine ⟨_, rfl, ?_⟩
        refine o_c ?_
        refine k_notN nnT2 hn_w_198 ?_
        refine ⟨_, rfl, ?_⟩
        exact k1 _ ⟨H0, eJ202, O⟩
      · obtain ⟨H0, eJ202, O⟩ := hJ
        replace hp_a_2 := eJ202.l hp_a_2
        replace hp_p_93 := eJ202 _ _ hp_p_93
        replace hp_p_111 := eJ202 _ _ hp_p_111
        replace hp_p_174 := eJ202 _ _ hp_p_174
        replace ha_p_143 := mA (mT2 (mL mI) (mO (mT2 mI (mL mI)))) eJ202 ha_p_143
        replace hn_w_198 := (mO (mT2 mI (mL mI))) _ _ _ _ eJ202 hn_w_198
        replace eB := eB.trans eJ202
        replace eL171 := eL171.trans eJ202
        refine ⟨_, rfl, _, rfl, _, rfl, ?_⟩
        refine x_nil ?_
        refine n_tup O (by show 2 ≤ sizeLine; decide) fun p_203 H O => ?_
        obtain ⟨H0, O, e_, hp_p_203⟩ := O.frz
        replace hp_a_2 := e_.l hp_a_2
        replace hp_p_93 := e_ _ _ hp_p_93
        replace hp_p_111 := e_ _ _ hp_p_111
        replace hp_p_174 := e_ _ _ hp_p_174
        replace ha_p_143 := mA (mT2 (mL mI) (mO (mT2 mI (mL mI)))) e_ ha_p_143
        replace hn_w_198 := (mO (mT2 mI (mL mI))) _ _ _ _ e_ hn_w_198
        replace eB := eB.trans e_
        replace eL171 := eL171.trans e_
        replace eJ202 := eJ202.trans e_
        have hn_p_203 : (rT2 rI (rL rI)) (H0) (.ref p_203) ((law_dr_3, data_92) : Int × (List Int)) := ⟨_, _, _, rfl, hp_p_203, rfl, (gI hp_p_93)⟩
        refine k_neN (x := law_re_196) (y := (some (law_dr_3, data_92))) (deO (deT2 deI (deL deI)) (by intro a; first | (constructor <;> simp [deI, deB, deL, deT2, deT3, deU, dqS, De.q, dqL, dqT2, dqT3, dqU, sumD, PyData.eqv, PyData.eqvAll]) | (cases a <;> constructor <;> simp [deI, deB, deL, deT2, deT3, deU, dqS, De.q, dqL, dqT2, dqT3, dqU, sumD, PyData.eqv, PyData.eqvAll]))) (mO (mT2 mI (mL mI))) (by decide) ((mO (mT2 mI (mL mI))) _ _ _ _ O.ex hn_w_198) (Ex.refl _) ((mT2 mI (mL mI)) _ _ _ _ O.ex hn_p_203) (Ex.refl _) ?_
        refine ⟨_, rfl, ?_⟩
        exact k2 _ ⟨H0, eJ202, O⟩
      obtain ⟨H0, eJ202, O⟩ := hJ
      replace hp_a_2 := eJ202.l hp_a_2
      replace hp_p_93 := eJ202 _ _ hp_p_93
      replace hp_p_111 := eJ202 _ _ hp_p_111
      replace hp_p_174 := eJ202 _ _ hp_p_174
      replace ha_p_143 := mA (mT2 (mL mI) (mO (mT2 mI (mL mI)))) eJ202 ha_p_143
      replace hn_w_198 := (mO (mT2 mI (mL mI))) _ _ _ _ eJ202 hn_w_198
      replace eB := eB.trans eJ202
      replace eL171 := eL171.trans eJ202
      refine iteS (c := ((!Option.isNone law_re_196) && (!decide ((law_re_196 : Option (Int × (List Int))) = (some (law_dr_3, data_92)))))) (fun h204 => ?_) (fun h204 => ?_)
      · replace hm := ifT hm h204
        -- 251
        refine o_drop ?_
        refine ⟨_, rfl, .inl ⟨rfl, _, (SqL.of (O.mem (tl_ (hd_))))⟩, _, rfl, _, rfl, ?_⟩
        refine x_nil ?_
        refine n_tup O (by show 2 ≤ sizeLine; decide) fun p_205 H O => ?_
        obtain ⟨H0, O, e_, hp_p_205⟩ := O.frz
        replace hp_a_2 := e_.l hp_a_2
        replace hp_p_93 := e_ _ _ hp_p_93
        replace hp_p_111 := e_ _ _ hp_p_111
        replace hp_p_174 := e_ _ _ hp_p_174
        replace ha_p_143 := mA (mT2 (mL mI) (mO (mT2 mI (mL mI)))) e_ ha_p_143
        replace hn_w_198 := (mO (mT2 mI (mL mI))) _ _ _ _ e_ hn_w_198
        replace eB := eB.trans e_
        replace eL171 := eL171.trans e_
        have hn_p_205 : (rT2 (rL rI) (rO (rT2 rI (rL rI)))) (H0) (.ref p_205) ((row_170, law_re_196) : (List Int) × (Option (Int × (List Int)))) := ⟨_, _, _, rfl, hp_p_205, (gI hp_p_174), hn_w_198⟩
        refine x_nil ?_
        obtain ⟨l_206, h207, hm⟩ := bndE hm
        refine k_appA (O.mem (tl_ (hd_))) ha_p_143 (fun _ => O.put1) h207 hn_p_205 fun H O ha_p_143 => ?_
        have Oz := O
        obtain rfl := Option.some.inj hm
        exact ⟨H0, _, ((vs_159 ++ [.ref p_205])), _, _, _, _, _, _, _, _, _, rfl, eL171, (Own.pk (L' := [(p_142, .lst (List.map V.int law_pl_140)), (p_143, .lst (vs_159 ++ [.ref p_205]))]) Oz [0, 1] (by decide) rfl), ha_p_143, h169⟩
      · replace hm := ifF hm h204
        refine o_next ?_
        have Oz := O
        obtain rfl := Option.some.inj hm
        exact ⟨H0, _, (vs_159), _, _, _, _, _, _, _, _, _, rfl, eL171, (Own.pk (L' := [(p_142, .lst (List.map V.int law_pl_140)), (p_143, .lst vs_159)]) Oz [0, 1] (by decide) rfl), ha_p_143, h169⟩
    rintro σ H ⟨H0, due_158, vs_159, j_155, j_156, j_157, j_160, j_161, j_162, j_163, j_164, j_165, rfl, eJ_, O, ha_p_143, hL⟩
    replace hp_a_2 := eJ_.l hp_a_2
    replace hp_p_93 := eJ_ _ _ hp_p_93
    replace hp_p_111 := eJ_ _ _ hp_p_111
    replace eB := eB.trans eJ_
    cases loopM_nil hL
    -- 252
    refine o_seq ?_
    refine o_asg ?_
    refine ⟨_, rfl, ?_⟩
    refine x_nil ?_
    refine n_list O (SqL.of (O.ex _ _ hp_p_93)) fun p_208 H O => ?_
    refine ⟨_, rfl, ?_⟩
    refine x_nil ?_
    refine n_list O (SqL.of (O.mem (tl_ (hd_)))) fun p_209 H O => ?_
    refine x_nil ?_
    replace O := (Own.pk (L' := [(p_208, .lst (List.map V.int data_92)), (p_209, .lst (List.map V.int law_pl_140)), (p_142, .lst (List.map V.int law_pl_140)), (p_143, .lst vs_159)]) O [1, 0, 2, 3] (by decide) rfl)
    obtain ⟨H0, O, e_, hp_p_208⟩ := O.frz
    replace hp_a_2 := e_.l hp_a_2
    replace hp_p_93 := e_ _ _ hp_p_93
    replace hp_p_111 := e_ _ _ hp_p_111
    replace ha_p_143 := mA (mT2 (mL mI) (mO (mT2 mI (mL mI)))) e_ ha_p_143
    replace eB := eB.trans e_
    obtain ⟨H0, O, e_, hp_p_209⟩ := O.frz
    replace hp_a_2 := e_.l hp_a_2
    replace hp_p_93 := e_ _ _ hp_p_93
    replace hp_p_111 := e_ _ _ hp_p_111
    replace ha_p_143 := mA (mT2 (mL mI) (mO (mT2 mI (mL mI)))) e_ ha_p_143
    replace hp_p_208 := e_ _ _ hp_p_208
    replace eB := eB.trans e_
    refine n_lstV O (by show 2 ≤ sizeLine; decide) fun p_210 H O => ?_
    have ha_p_210 : All2 ((rL rI) (H0)) ([.ref p_208, .ref p_209] : List V) ([data_92, law_pl_140] : List (List Int)) := (.cons (gI hp_p_208) (.cons (gI hp_p_209) .nil))
    -- 253
    refine o_seq ?_
    refine o_asg ?_
    obtain ⟨e_211, h212, hm⟩ := bndE hm
    refine ⟨_, rfl, _, rfl, ?_⟩
    refine o_c ?_
    refine k_ixA (SqL.of (O.mem (hd_))) ha_p_210 h212 fun w_213 h214 => ?_
    obtain ⟨p_215, rfl, hp_p_215⟩ := fI h214
    obtain ⟨e_216, h217, hm⟩ := bndE hm
    refine ⟨_, rfl, ?_⟩
    refine o_c ?_
    refine k_ixA (SqL.of (O.mem (hd_))) ha_p_210 h217 fun w_218 h219 => ?_
    obtain ⟨p_220, rfl, hp_p_220⟩ := fI h219
    obtain ⟨law_dr_221, h222, hm⟩ := bndE hm
    refine ⟨_, rfl, ?_⟩
    refine o_cons ?_
    refine o_c ?_
    refine o_cons ?_
    refine o_c ?_
    refine x_nil ?_
    refine ⟨_, _, _, _, law_dr_221, rfl, (O.ex.l hp_a_2), h222, ?_⟩
    refine O.retV fun H O => ?_
    obtain ⟨slips_223, h224, hm⟩ := bndOE hm
    refine x_nil ?_
    replace O := (Own.pk (L' := [(p_142, .lst (List.map V.int law_pl_140)), (p_210, .lst ([.ref p_208, .ref p_209] : List V)), (p_143, .lst vs_159)]) O [1, 0, 2] (by decide) rfl)
    obtain ⟨H0, O, e_, hp_p_142⟩ := O.frz
    replace hp_a_2 := e_.l hp_a_2
    replace hp_p_93 := e_ _ _ hp_p_93
    replace hp_p_111 := e_ _ _ hp_p_111
    replace ha_p_143 := mA (mT2 (mL mI) (mO (mT2 mI (mL mI)))) e_ ha_p_143
    replace hp_p_208 := e_ _ _ hp_p_208
    replace hp_p_209 := e_ _ _ hp_p_209
    replace ha_p_210 := mA (mL mI) e_ ha_p_210
    replace hp_p_215 := e_ _ _ hp_p_215
    replace hp_p_220 := e_ _ _ hp_p_220
    replace eB := eB.trans e_
    obtain ⟨Hs_225, hHs_225⟩ : ∃ Hs : Hp, Hs = H0 := ⟨_, rfl⟩
    have eS_225 : Ex Hs_225 H0 := by rw [hHs_225]; exact Ex.refl _
    have s225_hp_a_2 := hp_a_2
    have s225_hp_p_93 := hp_p_93
    have s225_hp_p_111 := hp_p_111
    have s225_ha_p_143 := ha_p_143
    have s225_hp_p_208 := hp_p_208
    have s225_hp_p_209 := hp_p_209
    have s225_ha_p_210 := ha_p_210
    have s225_hp_p_215 := hp_p_215
    have s225_hp_p_220 := hp_p_220
    have s225_hp_p_142 := hp_p_142
    have s225_eB := eB
    rw [← hHs_225] at s225_hp_a_2 s225_hp_p_93 s225_hp_p_111 s225_ha_p_143 s225_hp_p_208 s225_hp_p_209 s225_ha_p_210 s225_hp_p_215 s225_hp_p_220 s225_hp_p_142
    rw [← hHs_225] at s225_eB
    have Oc : Own H0 H (hAppend [] [(p_210, .lst ([.ref p_208, .ref p_209] : List V)), (p_143, .lst vs_159)]) := (Own.pk O [0, 1] (by decide) rfl)
    refine ⟨law_dr_3, e_211, p_215, e_216, p_220, law_dr_221, (fun _ => none), (.ok slips_223), rfl, (Own.shrink Oc.left exE), (Oc.left.subR _ _ hp_p_215), (Oc.left.subR _ _ hp_p_220), h224, ?_⟩
    refine RetR.ok ?_
    have eH_225 : Ex Hs_225 (hsub H []) := eS_225.trans Oc.left.subR
    obtain ⟨Hc_225, hHc_⟩ : ∃ Hc : Hp, Hc = hsub H [] := ⟨_, rfl⟩
    rw [← hHc_] at eH_225
    have eC_ : Ex H0 Hc_225 := by rw [hHc_]; exact Oc.left.subR
    refine Oc.retX0 (mdP (mL (mT2 (mL mI) (mO (mT2 mI (mL mI)))))) hHc_ fun w_226 H H0 L_227 O e_ d_ => ?_
    replace hp_a_2 := e_.l hp_a_2
    replace hp_p_93 := e_ _ _ hp_p_93
    replace hp_p_111 := e_ _ _ hp_p_111
    replace ha_p_143 := mA (mT2 (mL mI) (mO (mT2 mI (mL mI)))) e_ ha_p_143
    replace hp_p_208 := e_ _ _ hp_p_208
    replace hp_p_209 := e_ _ _ hp_p_209
    replace ha_p_210 := mA (mL mI) e_ ha_p_210
    replace hp_p_215 := e_ _ _ hp_p_215
    replace hp_p_220 := e_ _ _ hp_p_220
    replace hp_p_142 := e_ _ _ hp_p_142
    replace eB := eB.trans e_
    replace eS_225 := eS_225.trans e_
    obtain ⟨rfl, h228⟩ := d_
    try simp only [n1, n2, n3, n4, n5, n6, n7] at O
    have hfr_225 := h228
    replace h228 := (mL (mT2 (mL mI) (mO (mT2 mI (mL mI))))) _ _ _ _ ovr_ex h228
    obtain ⟨p_229, rfl⟩ := rL_ref h228
    have hn_p_229 := h228
    -- 254
    refine o_seq ?_
    refine o_ifs ?_
    refine x_orJ (c := (!true)) (e := ((!decide ((slips_223 : List ((List Int) × (Option (Int × (List Int))))) = due_166)) || (!decide (([data_92, law_pl_140] : List (List Int)) = [data_92, law_pl_140])))) (d := ((!true) || ((!decide ((slips_223 : List ((List Int) × (Option (Int × (List Int))))) = due_166)) || (!decide (([data_92, law_pl_140] : List (List Int)) = [data_92, law_pl_140]))))) (fun H => ∃ (R_ : Hp), Ex H0 R_ ∧ Own R_ H [(p_210, .lst ([.ref p_208, .ref p_209] : List V)), (p_143, .lst vs_159)]) (fun Q1 k1 => ?_) (fun h230 => ⟨by rw [h230]; rfl, fun H hJ Q2 k2 => ?_⟩) (fun h230 => by rw [h230]; rfl) (fun H hJ => ?_)
    · have eJ231 : Ex H0 H0 := Ex.refl _
      refine ⟨_, rfl, ?_⟩
      obtain ⟨_, h232, _⟩ := rL_at hn_p_229
      refine ⟨_, _, _, _, true, rfl, .ty _, .base (.lst (O.ex _ _ h232)), kit_ty (by decide +kernel), _, rfl, ?_⟩
      exact k1 _ ⟨H0, eJ231, O⟩
    · obtain ⟨H0, eJ231, O⟩ := hJ
      replace hp_a_2 := eJ231.l hp_a_2
      replace hp_p_93 := eJ231 _ _ hp_p_93
      replace hp_p_111 := eJ231 _ _ hp_p_111
      replace ha_p_143 := mA (mT2 (mL mI) (mO (mT2 mI (mL mI)))) eJ231 ha_p_143
      replace hp_p_208 := eJ231 _ _ hp_p_208
      replace hp_p_209 := eJ231 _ _ hp_p_209
      replace ha_p_210 := mA (mL mI) eJ231 ha_p_210
      replace hp_p_215 := eJ231 _ _ hp_p_215
      replace hp_p_220 := eJ231 _ _ hp_p_220
      replace hp_p_142 := eJ231 _ _ hp_p_142
      replace hfr_225 := (mL (mT2 (mL mI) (mO (mT2 mI (mL mI))))) _ _ _ _ (ovr_mono eJ231) hfr_225
      replace hn_p_229 := (mL (mT2 (mL mI) (mO (mT2 mI (mL mI))))) _ _ _ _ eJ231 hn_p_229
      replace eB := eB.trans eJ231
      replace eS_225 := eS_225.trans eJ231
      refine x_orJ (c := (!decide ((slips_223 : List ((List Int) × (Option (Int × (List Int))))) = due_166))) (e := (!decide (([data_92, law_pl_140] : List (List Int)) = [data_92, law_pl_140]))) (d := ((!decide ((slips_223 : List ((List Int) × (Option (Int × (List Int))))) = due_166)) || (!decide (([data_92, law_pl_140] : List (List Int)) = [data_92, law_pl_140])))) (fun H => ∃ (R_ : Hp), Ex H0 R_ ∧ Own R_ H [(p_210, .lst ([.ref p_208, .ref p_209] : List V)), (p_143, .lst vs_159)]) (fun Q1 k1 => ?_) (fun h233 => ⟨by rw [h233]; rfl, fun H hJ Q2 k2 => ?_⟩) (fun h233 => by rw [h233]; rfl) (fun H hJ => ?_)
      · have eJ234 : Ex H0 H0 := Ex.refl _
        refine ⟨_, rfl, _, rfl, ?_⟩
        refine k_neN (x := slips_223) (y := due_166) (deL (deT2 (deL deI) (deO (deT2 deI (deL deI)) (by intro a; first | (constructor <;> simp [deI, deB, deL, deT2, deT3, deU, dqS, De.q, dqL, dqT2, dqT3, dqU, sumD, PyData.eqv, PyData.eqvAll]) | (cases a <;> constructor <;> simp [deI, deB, deL, deT2, deT3, deU, dqS, De.q, dqL, dqT2, dqT3, dqU, sumD, PyData.eqv, PyData.eqvAll]))))) (mL (mT2 (mL mI) (mO (mT2 mI (mL mI))))) (by decide) ((mL (mT2 (mL mI) (mO (mT2 mI (mL mI))))) _ _ _ _ O.ex hn_p_229) (Ex.refl _) ⟨_, _, rfl, (O.mem (tl_ (hd_))), (mA (mT2 (mL mI) (mO (mT2 mI (mL mI)))) O.ex ha_p_143)⟩ (Ex.refl _) ?_
        refine ⟨_, rfl, ?_⟩
        exact k1 _ ⟨H0, eJ234, O⟩
      · obtain ⟨H0, eJ234, O⟩ := hJ
        replace hp_a_2 := eJ234.l hp_a_2
        replace hp_p_93 := eJ234 _ _ hp_p_93
        replace hp_p_111 := eJ234 _ _ hp_p_111
        replace ha_p_143 := mA (mT2 (mL mI) (mO (mT2 mI (mL mI)))) eJ234 ha_p_143
        replace hp_p_208 := eJ234 _ _ hp_p_208
        replace hp_p_209 := eJ234 _ _ hp_p_209
        replace ha_p_210 := mA (mL mI) eJ234 ha_p_210
        replace hp_p_215 := eJ234 _ _ hp_p_215
        replace hp_p_220 := eJ234 _ _ hp_p_220
        replace hp_p_142 := eJ234 _ _ hp_p_142
        replace hfr_225 := (mL (mT2 (mL mI) (mO (mT2 mI (mL mI))))) _ _ _ _ (ovr_mono eJ234) hfr_225
        replace hn_p_229 := (mL (mT2 (mL mI) (mO (mT2 mI (mL mI))))) _ _ _ _ eJ234 hn_p_229
        replace eB := eB.trans eJ234
        replace eS_225 := eS_225.trans eJ234
        replace eJ231 := eJ231.trans eJ234
        refine ⟨_, rfl, _, rfl, _, rfl, ?_⟩
        refine x_nil ?_
        refine n_lstV O (by show 2 ≤ sizeLine; decide) fun p_235 H O => ?_
        have ha_p_235 : All2 ((rL rI) (H0)) ([.ref p_93, .ref p_142] : List V) ([data_92, law_pl_140] : List (List Int)) := (.cons (gI hp_p_93) (.cons (gI hp_p_142) .nil))
        refine k_neN (x := ([data_92, law_pl_140])) (y := ([data_92, law_pl_140])) (deL (deL deI)) (mL (mL mI)) (by decide) ⟨_, _, rfl, (O.mem (tl_ (hd_))), (mA (mL mI) O.ex ha_p_210)⟩ (Ex.refl _) ⟨_, _, rfl, (O.mem (hd_)), (mA (mL mI) O.ex ha_p_235)⟩ (Ex.refl _) ?_
        refine ⟨_, rfl, ?_⟩
        replace O := O.tl
        exact k2 _ ⟨H0, eJ234, O⟩
      obtain ⟨H0, eJ234, O⟩ := hJ
      replace hp_a_2 := eJ234.l hp_a_2
      replace hp_p_93 := eJ234 _ _ hp_p_93
      replace hp_p_111 := eJ234 _ _ hp_p_111
      replace ha_p_143 := mA (mT2 (mL mI) (mO (mT2 mI (mL mI)))) eJ234 ha_p_143
      replace hp_p_208 := eJ234 _ _ hp_p_208
      replace hp_p_209 := eJ234 _ _ hp_p_209
      replace ha_p_210 := mA (mL mI) eJ234 ha_p_210
      replace hp_p_215 := eJ234 _ _ hp_p_215
      replace hp_p_220 := eJ234 _ _ hp_p_220
      replace hp_p_142 := eJ234 _ _ hp_p_142
      replace hfr_225 := (mL (mT2 (mL mI) (mO (mT2 mI (mL mI))))) _ _ _ _ (ovr_mono eJ234) hfr_225
      replace hn_p_229 := (mL (mT2 (mL mI) (mO (mT2 mI (mL mI))))) _ _ _ _ eJ234 hn_p_229
      replace eB := eB.trans eJ234
      replace eS_225 := eS_225.trans eJ234
      replace eJ231 := eJ231.trans eJ234
      exact k2 _ ⟨H0, eJ231, O⟩
    obtain ⟨H0, eJ231, O⟩ := hJ
    replace hp_a_2 := eJ231.l hp_a_2
    replace hp_p_93 := eJ231 _ _ hp_p_93
    replace hp_p_111 := eJ231 _ _ hp_p_111
    replace ha_p_143 := mA (mT2 (mL mI) (mO (mT2 mI (mL mI)))) eJ231 ha_p_143
    replace hp_p_208 := eJ231 _ _ hp_p_208
    replace hp_p_209 := eJ231 _ _ hp_p_209
    replace ha_p_210 := mA (mL mI) eJ231 ha_p_210
    replace hp_p_215 := eJ231 _ _ hp_p_215
    replace hp_p_220 := eJ231 _ _ hp_p_220
    replace hp_p_142 := eJ231 _ _ hp_p_142
    replace hfr_225 := (mL (mT2 (mL mI) (mO (mT2 mI (mL mI))))) _ _ _ _ (ovr_mono eJ231) hfr_225
    replace hn_p_229 := (mL (mT2 (mL mI) (mO (mT2 mI (mL mI))))) _ _ _ _ eJ231 hn_p_229
    replace eB := eB.trans eJ231
    replace eS_225 := eS_225.trans eJ231
    refine iteS (c := ((!true) || ((!decide ((slips_223 : List ((List Int) × (Option (Int × (List Int))))) = due_166)) || (!decide (([data_92, law_pl_140] : List (List Int)) = [data_92, law_pl_140]))))) (fun h236 => ?_) (fun h236 => ?_)
    · replace hm := ifT hm h236
      -- 255
      refine o_ret ?_
      refine o_c ?_
      obtain rfl := Option.some.inj hm
      exact RetV.goR k O eB
    · replace hm := ifF hm h236
      refine o_next ?_
      -- 256
      refine o_seq ?_
      have hn_f_225 := hfr_225
      obtain ⟨u_238, h237, hm⟩ := bndE hm
      refine o_for ?_
      refine ⟨_, rfl, ?_⟩
      obtain ⟨vs_239, h240, h241⟩ := rL_at hn_f_225
      refine ⟨_, rfl, ⟨_, (SqL.of ((ovr_ex.trans O.ex) _ _ h240))⟩, q_forSl (fun σ_ => ∃ (jz0_ jz1_ jz2_ jz3_ jz4_ jz5_ jz6_ jz7_ jz8_ jz9_ jz10_ : Option V), σ_ = [some (.ref a_2), some (.int law_dr_3), some (.ref p_93), jz0_, jz1_, jz2_, some (.ref p_111), some (.ref p_142), some (.ref p_143), jz3_, some (.ref p_210), some (.ref p_229), jz4_, jz5_, jz6_, jz7_, jz8_, jz9_, jz10_, none]) h241.len (sl_start O eS_225 eH_225 h240 h241 h237) ⟨_, _, _, _, _, _, _, _, _, _, _, rfl⟩ ?_ ?_⟩
      · rintro σ_ v_ m_ B_ Hw_ H ⟨jz0_, jz1_, jz2_, jz3_, jz4_, jz5_, jz6_, jz7_, jz8_, jz9_, jz10_, rfl⟩ O hP_ hm_ hB_
        obtain ⟨x_, hx_, hb1_⟩ := hP_.2.2 v_ hm_
        obtain ⟨s_, hs_, hm⟩ : ∃ s_, s_ = Fl.nx () ∧ m_law_S7 x_ = some s_ := ⟨_, rfl, m_law_S7_ok (hb1_.le (by omega))⟩
        unfold m_law_S7 at hm
        obtain ⟨H0, hq_⟩ : ∃ H0 : Hp, H0 = Hw_ := ⟨_, rfl⟩
        rw [← hq_] at O hx_
        have eW_ : Ex Hw_ H0 := by rw [hq_]; exact Ex.refl _
        have eB := s225_eB.trans (hP_.1.trans eW_)
        obtain ⟨p_242, rfl⟩ := rT2_ref hx_
        have hn_p_242 := hx_
        -- 257
        refine o_seq ?_
        refine o_for ?_
        refine ⟨_, rfl, ?_⟩
        refine o_c ?_
        obtain ⟨w_243, w_244, h245, h246, h247⟩ := rT2_at hn_p_242
        refine k_ixT (xs := [w_243, w_244]) (SqT.of ((ovr_ex.trans O.ex) _ _ h245)) rfl ?_
        obtain ⟨p_248, rfl, hp_p_248⟩ := fI h246
        refine ⟨_, rfl, ?_⟩
        refine o_c ?_
        obtain ⟨w_249, w_250, h251, h252, h253⟩ := rT2_at hn_p_242
        refine k_ixT (xs := [w_249, w_250]) (SqT.of ((ovr_ex.trans O.ex) _ _ h251)) rfl ?_
        have hn_w_250 := h253
        obtain ⟨y_254, h255, hm⟩ := bndE hm
        have h256 := rO_some hn_w_250 h255
        obtain ⟨p_257, rfl⟩ := rT2_ref h256
        have hn_p_257 := h256
        refine o_c ?_
        obtain ⟨w_258, w_259, h260, h261, h262⟩ := rT2_at hn_p_257
        refine k_ixT (xs := [w_258, w_259]) (SqT.of ((ovr_ex.trans O.ex) _ _ h260)) rfl ?_
        obtain rfl := h261
        refine x_nil ?_
        refine n_lst (f := V.int) (xs := [y_254.1]) O rfl (by show 1 ≤ sizeLine; decide) fun p_263 H O => ?_
        obtain ⟨t_264, h265, hm⟩ := bndE hm
        refine k_cat (f := V.int) O (O.ex _ _ (ovr_ex _ _ hp_p_248)) (O.mem (hd_)) h265 fun p_266 H O => ?_
        refine ⟨_, rfl, ?_⟩
        refine o_c ?_
        obtain ⟨w_267, w_268, h269, h270, h271⟩ := rT2_at hn_p_242
        refine k_ixT (xs := [w_267, w_268]) (SqT.of ((ovr_ex.trans O.ex) _ _ h269)) rfl ?_
        have hn_w_268 := h271
        obtain ⟨y_272, h273, hm⟩ := bndE hm
        have h274 := rO_some hn_w_268 h273
        obtain ⟨p_275, rfl⟩ := rT2_ref h274
        have hn_p_275 := h274
        refine o_c ?_
        obtain ⟨w_276, w_277, h278, h279, h280⟩ := rT2_at hn_p_275
        refine k_ixT (xs := [w_276, w_277]) (SqT.of ((ovr_ex.trans O.ex) _ _ h278)) rfl ?_
        obtain ⟨p_281, rfl, hp_p_281⟩ := fI h280
        obtain ⟨t_282, h283, hm⟩ := bndE hm
        refine k_cat (f := V.int) O (O.mem (hd_)) (O.ex _ _ (ovr_ex _ _ hp_p_281)) h283 fun p_284 H O => ?_
        obtain ⟨out_299, h295, h296⟩ := bndE hm
        refine ⟨_, rfl, ⟨_, (SqL.of (O.mem (hd_)))⟩, q_forL (f := V.int) (xs := t_282) (fun r σ H => ∃ (R_ : Hp) (j_285 : Option V) (j_286 : Option V) (j_287 : Option V) (j_288 : Option V) (j_289 : Option V) (j_290 : Option V) (j_291 : Option V) (j_292 : Option V) (j_293 : Option V) (j_294 : Option V), σ = [some (.ref a_2), some (.int law_dr_3), some (.ref p_93), j_285, j_286, j_287, some (.ref p_111), some (.ref p_142), some (.ref p_143), j_288, some (.ref p_210), some (.ref p_229), some (.ref p_242), j_289, j_290, j_291, j_292, j_293, j_294, none] ∧ Ex H0 R_ ∧ Own R_ H [(p_143, .lst vs_159), (p_210, .lst ([.ref p_208, .ref p_209] : List V)), (p_284, .lst (List.map V.int t_282)), (p_266, .lst (List.map V.int t_264)), (p_263, .lst (List.map V.int ([y_254.1])))] ∧ loopF (fun number_298 (_ : Unit) => m_law_L8 number_298) r () = some out_299) ⟨H0, _, _, _, _, _, _, _, _, _, _, rfl, Ex.refl _, (Own.pk (L' := [(p_143, .lst vs_159), (p_210, .lst ([.ref p_208, .ref p_209] : List V)), (p_284, .lst (List.map V.int t_282)), (p_266, .lst (List.map V.int t_264)), (p_263, .lst (List.map V.int ([y_254.1])))]) O [4, 3, 0, 1, 2] (by decide) rfl), h295⟩ (by rintro r σ H ⟨H0, j_285, j_286, j_287, j_288, j_289, j_290, j_291, j_292, j_293, j_294, rfl, eJ_, O, hL⟩; replace hn_p_242 := (mT2 (mL mI) (mO (mT2 mI (mL mI)))) _ _ _ _ (ovr_mono eJ_) hn_p_242; exact (SqL.of (O.mem (tl_ (tl_ (hd_)))))) ?_ ?_⟩
        · rintro number_298 r σ H ⟨H0, j_285, j_286, j_287, j_288, j_289, j_290, j_291, j_292, j_293, j_294, rfl, eL299, O, hL⟩
          replace hn_p_242 := (mT2 (mL mI) (mO (mT2 mI (mL mI)))) _ _ _ _ (ovr_mono eL299) hn_p_242
          replace eB := eB.trans eL299
          replace eW_ := eW_.trans eL299
          obtain ⟨s_, hm, h297⟩ := loopF_cons hL
          replace hm : m_law_L8 number_298 = some s_ := hm
          unfold m_law_L8 at hm
          -- 258
          refine o_ifs ?_
          refine ⟨_, rfl, _, _, _, _, false, rfl, .ty _, .base (.int _), kit_ty (by decide +kernel), _, rfl, ?_⟩
          refine iteS (c := false) (fun h302 => ?_) (fun h302 => ?_)
          · replace hm := ifT hm h302
            -- 259
            refine o_ret ?_
            refine o_c ?_
            obtain rfl := Option.some.inj hm
            obtain rfl := contRt h297
            obtain rfl := floRt h296
            cases hs_
          · replace hm := ifF hm h302
            refine o_next ?_
            have Oz := O
            obtain rfl := Option.some.inj hm
            exact ⟨H0, _, _, _, _, _, _, _, _, _, _, rfl, eL299, Oz, h297⟩
        rintro σ H ⟨H0, j_285, j_286, j_287, j_288, j_289, j_290, j_291, j_292, j_293, j_294, rfl, eJ_, O, hL⟩
        replace hn_p_242 := (mT2 (mL mI) (mO (mT2 mI (mL mI)))) _ _ _ _ (ovr_mono eJ_) hn_p_242
        replace eB := eB.trans eJ_
        replace eW_ := eW_.trans eJ_
        obtain rfl := loopF_nil hL
        replace hm := floNx h296
        replace O := (Own.pk (L' := [(p_143, .lst vs_159), (p_210, .lst ([.ref p_208, .ref p_209] : List V))]) O [0, 1] (by decide) rfl)
        -- 260
        refine o_seq ?_
        refine o_drop ?_
        replace hP_ := SlR.mono eW_ hP_
        obtain ⟨l1_, f1_, hx1_, hb11_, hb12_⟩ := SlR.at hP_ hm_
        have hn_sl1 := hx1_
        refine ⟨_, rfl, ?_⟩
        refine o_c ?_
        obtain ⟨w_303, w_304, h305, h306, h307⟩ := rT2_at hn_sl1
        refine k_ixT (xs := [w_303, w_304]) (SqT.of ((ovr_ex.trans O.ex) _ _ h305)) rfl ?_
        obtain ⟨p_308, rfl, hp_p_308⟩ := fI h306
        refine ⟨.inl ⟨rfl, _, (SqL.of (O.ex _ _ (ovr_ex _ _ hp_p_308)))⟩, ?_⟩
        refine o_cons ?_
        refine o_c ?_
        refine x_nil ?_
        refine k_slapp O hP_ hm_ hp_p_308 hb11_ (by omega) fun H H0 O hP_ => ?_
        have eW_ : Ex H0 H0 := Ex.refl _
        -- 261
        refine o_drop ?_
        replace hP_ := SlR.mono eW_ hP_
        obtain ⟨l2_, f2_, hx2_, hb21_, hb22_⟩ := SlR.at hP_ hm_
        have hn_sl2 := hx2_
        refine ⟨_, rfl, ?_⟩
        refine o_c ?_
        obtain ⟨w_309, w_310, h311, h312, h313⟩ := rT2_at hn_sl2
        refine k_ixT (xs := [w_309, w_310]) (SqT.of ((ovr_ex.trans O.ex) _ _ h311)) rfl ?_
        obtain ⟨p_314, rfl⟩ := rT2_ref h313
        have hn_p_314 := h313
        refine o_c ?_
        obtain ⟨w_315, w_316, h317, h318, h319⟩ := rT2_at hn_p_314
        refine k_ixT (xs := [w_315, w_316]) (SqT.of ((ovr_ex.trans O.ex) _ _ h317)) rfl ?_
        obtain ⟨p_320, rfl, hp_p_320⟩ := fI h319
        refine ⟨.inl ⟨rfl, _, (SqL.of (O.ex _ _ (ovr_ex _ _ hp_p_320)))⟩, ?_⟩
        refine o_cons ?_
        refine o_c ?_
        refine x_nil ?_
        refine k_slapp O hP_ hm_ hp_p_320 hb22_ (by omega) fun H H0 O hP_ => ?_
        have eW_ : Ex H0 H0 := Ex.refl _
        exact ⟨⟨_, _, _, _, _, _, _, _, _, _, _, rfl⟩, _, _, (by omega), (Own.pk (L' := [(p_210, .lst ([.ref p_208, .ref p_209] : List V)), (p_143, .lst vs_159)]) O [1, 0] (by decide) rfl), hP_⟩
      rintro σ_ H ⟨jz0_, jz1_, jz2_, jz3_, jz4_, jz5_, jz6_, jz7_, jz8_, jz9_, jz10_, rfl⟩ O
      obtain ⟨H0, hZ_⟩ : ∃ H0 : Hp, H0 = Hs_225 := ⟨_, rfl⟩
      rw [← hZ_] at O s225_ha_p_143 s225_ha_p_210 s225_hp_a_2 s225_hp_p_142 s225_hp_p_93 s225_eB
      have ha_p_143 := s225_ha_p_143
      have ha_p_210 := s225_ha_p_210
      have hp_a_2 := s225_hp_a_2
      have hp_p_142 := s225_hp_p_142
      have hp_p_93 := s225_hp_p_93
      have eB := s225_eB
      -- 262
      refine o_ret ?_
      refine ⟨_, rfl, _, rfl, ?_⟩
      refine x_nil ?_
      refine n_list O (SqL.of (O.ex _ _ hp_p_93)) fun p_321 H O => ?_
      refine ⟨_, rfl, ?_⟩
      refine x_nil ?_
      refine n_list O (SqL.of (O.ex _ _ hp_p_142)) fun p_322 H O => ?_
      obtain ⟨law_dr_323, h324, hm⟩ := bndE hm
      refine ⟨_, rfl, ?_⟩
      refine o_cons ?_
      refine o_c ?_
      refine o_cons ?_
      refine o_c ?_
      refine x_nil ?_
      refine ⟨_, _, _, _, law_dr_323, rfl, (O.ex.l hp_a_2), h324, ?_⟩
      refine O.retV fun H O => ?_
      obtain ⟨slips_325, h326, hm⟩ := bndOE hm
      refine x_nil ?_
      have Oc : Own H0 H (hAppend [] [(p_322, .lst (List.map V.int law_pl_140)), (p_321, .lst (List.map V.int data_92)), (p_210, .lst ([.ref p_208, .ref p_209] : List V)), (p_143, .lst vs_159)]) := (Own.pk O [0, 1, 2, 3] (by decide) rfl)
      refine ⟨law_dr_3, data_92, p_321, law_pl_140, p_322, law_dr_323, H0, (.ok slips_325), rfl, Oc.left, (Own.inC Oc (tl_ (hd_))), (Own.inC Oc (hd_)), h326, ?_⟩
      refine RetR.ok ?_
      refine Oc.retX (mdP (mL (mT2 (mL mI) (mO (mT2 mI (mL mI)))))) fun w_327 H H0 L_328 O e_ d_ => ?_
      replace ha_p_143 := mA (mT2 (mL mI) (mO (mT2 mI (mL mI)))) e_ ha_p_143
      replace ha_p_210 := mA (mL mI) e_ ha_p_210
      replace hp_a_2 := e_.l hp_a_2
      replace hp_p_142 := e_ _ _ hp_p_142
      replace hp_p_93 := e_ _ _ hp_p_93
      replace eB := eB.trans e_
      obtain ⟨rfl, h329⟩ := d_
      try simp only [n1, n2, n3, n4, n5, n6, n7] at O
      obtain ⟨p_330, rfl⟩ := rL_ref h329
      have hn_p_330 := h329
      refine ⟨_, rfl, ?_⟩
      refine k_eqN (x := slips_325) (y := due_166) (deL (deT2 (deL deI) (deO (deT2 deI (deL deI)) (by intro a; first | (constructor <;> simp [deI, deB, deL, deT2, deT3, deU, dqS, De.q, dqL, dqT2, dqT3, dqU, sumD, PyData.eqv, PyData.eqvAll]) | (cases a <;> constructor <;> simp [deI, deB, deL, deT2, deT3, deU, dqS, De.q, dqL, dqT2, dqT3, dqU, sumD, PyData.eqv, PyData.eqvAll]))))) (mL (mT2 (mL mI) (mO (mT2 mI (mL mI))))) (by decide) ((mL (mT2 (mL mI) (mO (mT2 mI (mL mI))))) _ _ _ _ O.ex hn_p_330) (Ex.refl _) ⟨_, _, rfl, (O.mem (tl_ (tl_ (tl_ (hd_))))), (mA (mT2 (mL mI) (mO (mT2 mI (mL mI)))) O.ex ha_p_143)⟩ (Ex.refl _) ?_
      replace O := O.tl.tl
      obtain rfl := Option.some.inj hm
      exact RetV.goR k O eB
end
theorem walk {l : PySem.W.OpenLaw} {q : Program} {loose : List Str} {XP : (Str → Option Value) → Heap → Prop} {YP : World → Heap → Prop} {d : DefRec} {K : Params → PySem.W.Frag} (M : ∀ ns : List Int, ns.length ≤ 63 → m_law ns = some true) (hn : l.most = some 63) (hdf : d.params.defaults = [])
    (hY : ∀ (w : World) (h : Heap), YP w h → (K w.params).In h)
    (F : ∀ (w : World) (mg : Str → Option Value) (fa : Addr) (h : Heap), (K w.params).In h → h.Ns mainGlobals mg → mg d.name = some (.ref fa) →
      ∃ fd : FuncData, (∀ (s : Shared) (u : Value), BindsTo s fd ⟨[u], []⟩ [("script", u)]) ∧ ∀ base : Heap, (K w.params).In base → base.Ns mainGlobals mg → FnOk l.prog w (K w.params) mg base CX0 7 fa fd ["script"] (sp_law (K w.params))) :
    PySem.W.WalkO q loose XP YP l.row.toRowW d [] (fun f vs => PySem.call f vs) :=
  L2.walk_of (n := 63) (k := 7) (x := "script") (CX := fun _ => CX0) (sp := fun w => sp_law (K w.params)) hn (by decide) hdf ⟨rfl, by decide, by decide⟩ hY F (fun _ _ a ns hl _ hS => ⟨ns, a, true, rfl, hS, M ns hl, fun _ _ => rfl⟩) fun _ _ _ _ _ z => z
theorem pack {K : PySem.W.Frag} {h : Heap} {mg : Str → Option Value} (X : K.In h) (G : h.Ns mainGlobals mg) {A_NoBits A_NoFrame A_NoKey A_NoWire A_RailError : Addr} {F_NoWire : Addr} {oc_NoWire kV_NoWire doc_NoWire pm_NoWire cdv_NoWire ct_NoWire : Value} {od_NoWire an_NoWire : Option Addr} {osl_NoWire : Array (Option Value)} (a_NoBits : PySem.W.nsIn K mainGlobals "NoBits" = some (some (.ref A_NoBits))) (a_NoFrame : PySem.W.nsIn K mainGlobals "NoFrame" = some (some (.ref A_NoFrame))) (a_NoKey : PySem.W.nsIn K mainGlobals "NoKey" = some (some (.ref A_NoKey))) (a_NoWire : PySem.W.nsIn K mainGlobals "NoWire" = some (some (.ref A_NoWire))) (a_RailError : PySem.W.nsIn K mainGlobals "RailError" = some (some (.ref A_RailError))) (s_NoWire : PySem.W.subIn K (.ref A_NoWire) (.type "BaseException") = some true) (t_NoWire : PySem.W.typeIn K (.ref A_NoWire) = some (.type "type")) (e_NoBits : PySem.W.excIn K A_NoBits [.type "ValueError", .type "Exception", .type "BaseException", .type "object"] "ValueError.__new__" = true) (k_NoBits : PySem.W.keepIn K (.ref A_NoBits) = true) (s_NoBits : PySem.W.subIn K (.ref A_NoBits) (.type "BaseException") = some true) (t_NoBits : PySem.W.typeIn K (.ref A_NoBits) = some (.type "type")) (e_NoFrame : PySem.W.excIn K A_NoFrame [.type "ValueError", .type "Exception", .type "BaseException", .type "object"] "ValueError.__new__" = true) (k_NoFrame : PySem.W.keepIn K (.ref A_NoFrame) = true) (s_NoFrame : PySem.W.subIn K (.ref A_NoFrame) (.type "BaseException") = some true) (t_NoFrame : PySem.W.typeIn K (.ref A_NoFrame) = some (.type "type")) (e_NoKey : PySem.W.excIn K A_NoKey [.type "ValueError", .type "Exception", .type "BaseException", .type "object"] "ValueError.__new__" = true) (k_NoKey : PySem.W.keepIn K (.ref A_NoKey) = true) (s_NoKey : PySem.W.subIn K (.ref A_NoKey) (.type "BaseException") = some true) (t_NoKey : PySem.W.typeIn K (.ref A_NoKey) = some (.type "type")) (d_NoFrame : PySem.W.hasDictIn K A_NoFrame = true) (d_NoWire : PySem.W.hasDictIn K A_NoWire = true) (xp_NoFrame_NoFrame : PySem.W.subIn K (.ref A_NoFrame) (.ref A_NoFrame) = some true) (xp_NoFrame_NoWire : PySem.W.subIn K (.ref A_NoFrame) (.ref A_NoWire) = some false) (xp_NoWire_NoWire : PySem.W.subIn K (.ref A_NoWire) (.ref A_NoWire) = some true) (iga : PySem.W.specialIn K (.ref A_RailError) "__getattribute__" = some (some (.builtin "type.__getattribute__"))) (ird : PySem.W.readsIn K A_RailError (.type "type") = true) (ivV : PySem.W.findCls K (.ref A_RailError) (.type "type") "__init__" = some (.val (.builtin "ValueError.__init__"))) (lo_NoWire : ∃ nm q N bs bm sn sub ab col dd k0 k1 k2 k3 k5, K.lookup A_NoWire = some (excClassObj nm q A_NoWire N bs bm true sn sub ab col dd k0 k1 k2 k3 k5 "ValueError.__new__") ∧ PySem.HandSPX.refsVE bm = true) (sa_NoWire : PySem.W.findIn K (.ref A_NoWire) "__setattr__" = some (some (.builtin "object.__setattr__"))) (xs_NoWire : PySem.W.subIn K (.ref A_NoWire) (.type "BaseException") = some true) (xt_NoWire : PySem.W.typeIn K (.ref A_NoWire) = some (.type "type")) (xk_NoWire : PySem.W.keepIn K (.ref A_NoWire) = true) (ii_NoWire : PySem.W.findIn K (.ref A_NoWire) "__init__" = some (some (.ref F_NoWire))) (it_NoWire : PySem.W.typeIn K (.ref F_NoWire) = some (.type "function")) (in_NoWire : PySem.W.findIn K (.ref A_NoWire) "at" = some none) (il_NoWire : K.lookup F_NoWire = some ⟨oc_NoWire, od_NoWire, .func (PySem.W.fnOf "__init__" "NoWire.__init__" (defArgs s_NoWire_init) (defBody s_NoWire_init) (defScope s_NoWire_init) .none kV_NoWire doc_NoWire pm_NoWire an_NoWire cdv_NoWire ct_NoWire), osl_NoWire⟩) (ic_NoWire : PySem.W.codeIn K cdv_NoWire "NoWire.__init__" = true) (ik_NoWire : PySem.W.keepIn K (.ref F_NoWire) = true) :
  ∃ (es : Eds) (f_NoWire_init : Addr) (fd_NoWire_init : FuncData), mg "NoBits" = some (.ref es.NoBits) ∧ mg "NoFrame" = some (.ref es.NoFrame) ∧ mg "NoKey" = some (.ref es.NoKey) ∧ mg "NoWire" = some (.ref es.NoWire) ∧ mg "RailError" = some (.ref es.RailError) ∧ ErrC K mg "NoBits" es.NoBits ∧ ErrC K mg "NoFrame" es.NoFrame ∧ ErrC K mg "NoKey" es.NoKey ∧ PySem.W.exmOne K (.ref es.NoFrame) (.ref es.NoFrame) = some true ∧ PySem.W.exmOne K (.ref es.NoFrame) (.ref es.NoWire) = some false ∧ PySem.W.exmOne K (.ref es.NoWire) (.ref es.NoWire) = some true ∧ L2.Fun K "__init__" "NoWire.__init__" s_NoWire_init f_NoWire_init fd_NoWire_init ∧ InF K mg es.NoWire es.RailError f_NoWire_init "at" :=
  ⟨(⟨A_NoBits, A_NoBits, A_NoKey, A_NoFrame, A_NoBits, A_NoBits, A_NoBits, A_NoBits, A_NoWire, A_NoBits, A_RailError⟩ : Eds), _, _, PySem.W.mg_of X G a_NoBits, PySem.W.mg_of X G a_NoFrame, PySem.W.mg_of X G a_NoKey, PySem.W.mg_of X G a_NoWire, PySem.W.mg_of X G a_RailError, ⟨PySem.W.mg_of X G a_NoBits, e_NoBits, k_NoBits, s_NoBits, t_NoBits⟩, ⟨PySem.W.mg_of X G a_NoFrame, e_NoFrame, k_NoFrame, s_NoFrame, t_NoFrame⟩, ⟨PySem.W.mg_of X G a_NoKey, e_NoKey, k_NoKey, s_NoKey, t_NoKey⟩, PySem.W.exm_ref s_NoFrame d_NoFrame t_NoFrame xp_NoFrame_NoFrame, PySem.W.exm_ref s_NoWire d_NoWire t_NoWire xp_NoFrame_NoWire, PySem.W.exm_ref s_NoWire d_NoWire t_NoWire xp_NoWire_NoWire, L2.fun_mk il_NoWire ic_NoWire ik_NoWire, ⟨⟨lo_NoWire, sa_NoWire, xs_NoWire, xt_NoWire, xk_NoWire⟩, ii_NoWire, it_NoWire, in_NoWire, iga, ird, ivV, PySem.W.mg_of X G a_RailError⟩⟩
end Bt

/-! Sums without carries, over Nat. -/
namespace Bt
open PySem L2
theorem bx (a b : Nat) : Builtin.bitXor (a : Int) (b : Int) = ((a ^^^ b : Nat) : Int) := Bits.bitXor_pp (Int.natCast_nonneg a) (Int.natCast_nonneg b)
theorem ba (a b : Nat) : Builtin.bitAnd (a : Int) (b : Int) = ((a &&& b : Nat) : Int) := PyProof.Rows.bitAnd_pp (Int.natCast_nonneg a) (Int.natCast_nonneg b)
theorem ba1 (a : Nat) : Builtin.bitAnd (a : Int) 1 = ((a % 2 : Nat) : Int) := by
  have h := ba a 1
  rw [Nat.and_one_is_mod] at h
  exact h
/-- the product without carries -/
def clm (a b : Nat) : Nat := if h : b = 0 then 0 else (if b % 2 = 1 then a else 0) ^^^ clm (2 * a) (b / 2)
termination_by b
decreasing_by omega
theorem clm_zero (a : Nat) : clm a 0 = 0 := by unfold clm; rfl
theorem clm_step (a b : Nat) : clm a b = (if b % 2 = 1 then a else 0) ^^^ clm (2 * a) (b / 2) := by
  by_cases h : b = 0
  · subst h
    rw [clm_zero]
    simp [clm_zero]
  · rw [clm]
    simp [h]
theorem xor4 (a b c d : Nat) : (a ^^^ b) ^^^ (c ^^^ d) = (a ^^^ c) ^^^ (b ^^^ d) := by
  rw [Nat.xor_assoc, Nat.xor_assoc, ← Nat.xor_assoc b c d, Nat.xor_comm b c, Nat.xor_assoc c b d]
theorem two_xor (a b : Nat) : 2 * (a ^^^ b) = (2 * a) ^^^ (2 * b) := by
  have h1 := Nat.xor_div_two (a := 2 * a) (b := 2 * b)
  have h2 := Nat.xor_mod_two_eq_one (a := 2 * a) (b := 2 * b)
  rw [show 2 * a / 2 = a from by omega, show 2 * b / 2 = b from by omega] at h1
  have h3 : ¬ (2 * a ^^^ 2 * b) % 2 = 1 := by rw [h2]; omega
  omega
theorem two_xor1 (k : Nat) : (2 * k) ^^^ 1 = 2 * k + 1 := by
  have h1 := Nat.xor_div_two (a := 2 * k) (b := 1)
  have h2 := Nat.xor_mod_two_eq_one (a := 2 * k) (b := 1)
  rw [show 2 * k / 2 = k from by omega, show 1 / 2 = 0 from rfl, Nat.xor_zero] at h1
  have h3 : (2 * k ^^^ 1) % 2 = 1 := by rw [h2]; omega
  omega
theorem clm_xor_right : ∀ (n : Nat) (a b c : Nat), b + c ≤ n → clm a (b ^^^ c) = clm a b ^^^ clm a c
  | 0, a, b, c, h => by
    obtain ⟨rfl, rfl⟩ : b = 0 ∧ c = 0 := by omega
    simp [clm_zero]
  | n + 1, a, b, c, h => by
    by_cases h0 : b = 0 ∧ c = 0
    · obtain ⟨rfl, rfl⟩ := h0
      simp [clm_zero]
    rw [clm_step a (b ^^^ c), clm_step a b, clm_step a c, Nat.xor_div_two, clm_xor_right n (2 * a) (b / 2) (c / 2) (by omega), xor4]
    congr 1
    have hm := Nat.xor_mod_two_eq_one (a := b) (b := c)
    by_cases h1 : b % 2 = 1 <;> by_cases h2 : c % 2 = 1
    · rw [if_neg (by rw [hm]; simp [h1, h2]), if_pos h1, if_pos h2, Nat.xor_self]
    · rw [if_pos (by rw [hm]; simp [h1, h2]), if_pos h1, if_neg h2, Nat.xor_zero]
    · rw [if_pos (by rw [hm]; simp [h1, h2]), if_neg h1, if_pos h2, Nat.zero_xor]
    · rw [if_neg (by rw [hm]; simp [h1, h2]), if_neg h1, if_neg h2, Nat.xor_zero]
theorem clm_xr (a b c : Nat) : clm a (b ^^^ c) = clm a b ^^^ clm a c := clm_xor_right _ a b c (Nat.le_refl _)
theorem clm_two : ∀ (n a b : Nat), b ≤ n → clm (2 * a) b = 2 * clm a b
  | 0, a, b, h => by
    obtain rfl : b = 0 := by omega
    rw [clm_zero, clm_zero]
  | n + 1, a, b, h => by
    by_cases h0 : b = 0
    · subst h0; rw [clm_zero, clm_zero]
    rw [clm_step (2 * a) b, clm_step a b, clm_two n (2 * a) (b / 2) (by omega), two_xor]
    congr 1
    by_cases h1 : b % 2 = 1
    · rw [if_pos h1, if_pos h1]
    · rw [if_neg h1, if_neg h1]
theorem clm_tl (a b : Nat) : clm (2 * a) b = 2 * clm a b := clm_two b a b (Nat.le_refl _)
theorem clm_xl : ∀ (n a b c : Nat), c ≤ n → clm (a ^^^ b) c = clm a c ^^^ clm b c
  | 0, a, b, c, h => by
    obtain rfl : c = 0 := by omega
    simp [clm_zero]
  | n + 1, a, b, c, h => by
    by_cases h0 : c = 0
    · subst h0; simp [clm_zero]
    rw [clm_step (a ^^^ b) c, clm_step a c, clm_step b c, two_xor, clm_xl n (2 * a) (2 * b) (c / 2) (by omega), xor4]
    congr 1
    by_cases h1 : c % 2 = 1
    · rw [if_pos h1, if_pos h1, if_pos h1]
    · rw [if_neg h1, if_neg h1, if_neg h1, Nat.xor_zero]
theorem clm_xl' (a b c : Nat) : clm (a ^^^ b) c = clm a c ^^^ clm b c := clm_xl c a b c (Nat.le_refl _)
theorem clm_tr (a b : Nat) : clm a (2 * b) = 2 * clm a b := by
  rw [clm_step a (2 * b), if_neg (by omega), Nat.zero_xor, show 2 * b / 2 = b from by omega, clm_tl]
theorem zero_clm : ∀ (n b : Nat), b ≤ n → clm 0 b = 0
  | 0, b, h => by
    obtain rfl : b = 0 := by omega
    exact clm_zero 0
  | n + 1, b, h => by
    by_cases h0 : b = 0
    · subst h0; exact clm_zero 0
    rw [clm_step, zero_clm n (b / 2) (by omega)]
    split <;> rfl
theorem clm_zl (b : Nat) : clm 0 b = 0 := zero_clm b b (Nat.le_refl _)
theorem one_clm : ∀ (n b : Nat), b ≤ n → clm 1 b = b
  | 0, b, h => by
    obtain rfl : b = 0 := by omega
    exact clm_zero 1
  | n + 1, b, h => by
    by_cases h0 : b = 0
    · subst h0; exact clm_zero 1
    rw [clm_step, clm_tl 1, one_clm n (b / 2) (by omega)]
    by_cases h1 : b % 2 = 1
    · rw [if_pos h1]
      rw [Nat.xor_comm, two_xor1]
      omega
    · rw [if_neg h1, Nat.zero_xor]
      omega
theorem clm_ol (b : Nat) : clm 1 b = b := one_clm b b (Nat.le_refl _)
theorem clm_or (a : Nat) : clm a 1 = a := by
  rw [clm_step, if_pos rfl, show 1 / 2 = 0 from rfl, clm_zero, Nat.xor_zero]
theorem split_bit (b : Nat) : b = (2 * (b / 2)) ^^^ (b % 2) := by
  rcases Nat.mod_two_eq_zero_or_one b with h | h
  · rw [h, Nat.xor_zero]; omega
  · rw [h, two_xor1]
    omega
theorem clm_cm : ∀ (n a b : Nat), b ≤ n → clm a b = clm b a
  | 0, a, b, h => by
    obtain rfl : b = 0 := by omega
    rw [clm_zero, clm_zl]
  | n + 1, a, b, h => by
    by_cases h0 : b = 0
    · subst h0; rw [clm_zero, clm_zl]
    have e := split_bit b
    have ih := clm_cm n a (b / 2) (by omega)
    have h1 : clm a b = 2 * clm a (b / 2) ^^^ clm a (b % 2) := by
      conv => lhs; rw [e]
      rw [clm_xr, clm_tr]
    have h2 : clm b a = 2 * clm (b / 2) a ^^^ clm (b % 2) a := by
      conv => lhs; rw [e]
      rw [clm_xl', clm_tl]
    rw [h1, h2, ih]
    congr 1
    rcases Nat.mod_two_eq_zero_or_one b with q | q
    · rw [q, clm_zero, clm_zl]
    · rw [q, clm_or, clm_ol]
theorem clm_comm (a b : Nat) : clm a b = clm b a := clm_cm b a b (Nat.le_refl _)
/-- the same, power by power -/
def pws (a b : Nat) : Nat → Nat
  | 0 => 0
  | n + 1 => pws a b n ^^^ (if b / 2 ^ n % 2 = 1 then a * 2 ^ n else 0)
theorem pws_shift (a b : Nat) : ∀ n : Nat, pws a b (n + 1) = (if b % 2 = 1 then a else 0) ^^^ pws (2 * a) (b / 2) n
  | 0 => by simp [pws]
  | n + 1 => by
    have ih := pws_shift a b n
    show pws a b (n + 1) ^^^ _ = _ ^^^ (pws (2 * a) (b / 2) n ^^^ _)
    rw [ih, Nat.xor_assoc]
    have e1 : b / 2 ^ (n + 1) = b / 2 / 2 ^ n := by rw [Nat.div_div_eq_div_mul, Nat.pow_succ, Nat.mul_comm]
    have e2 : a * 2 ^ (n + 1) = 2 * a * 2 ^ n := by rw [Nat.pow_succ]; ac_rfl
    rw [e1, e2]
theorem pws_clm : ∀ (n a b : Nat), b < 2 ^ n → pws a b n = clm a b
  | 0, a, b, h => by
    obtain rfl : b = 0 := by simp at h; omega
    rw [clm_zero]; rfl
  | n + 1, a, b, h => by
    rw [pws_shift, clm_step, pws_clm n (2 * a) (b / 2) (by rw [Nat.pow_succ] at h; omega)]
end Bt
namespace Bt
open PySem L2
theorem shrN (a k : Nat) : shrG (a : Int) (k : Int) = some ((a / 2 ^ k : Nat) : Int) := by
  rw [shrG_ok (by omega), Int.toNat_natCast, Int.natCast_ediv, Int.natCast_pow]; rfl
theorem shlN {a n : Nat} (k : Nat) (h : a < 2 ^ n) (hn : n + k ≤ 90000000) : shlG (a : Int) (k : Int) = some ((a * 2 ^ k : Nat) : Int) := by
  rw [shlG_ok (n := n) (by omega) (by omega) (by omega), Int.toNat_natCast, Int.natCast_mul, Int.natCast_pow]; rfl
theorem emod_nat {z m : Int} (hm : 0 < m) : ∃ n : Nat, z % m = (n : Int) ∧ (n : Int) < m := by
  obtain ⟨n, hn⟩ := Int.eq_ofNat_of_zero_le (Int.emod_nonneg z (by omega : m ≠ 0))
  exact ⟨n, hn, by rw [← hn]; exact Int.emod_lt_of_pos z hm⟩
theorem testBit_div (x k : Nat) : x.testBit k = decide (x / 2 ^ k % 2 = 1) := by
  rw [Nat.testBit_eq_decide_div_mod_eq]
end Bt

/-! The laws' own draw: the same text in all of them. -/
namespace Bt
open PySem L2
theorem draw_ok (ns : List Int) (k many : Int) (hk : 0 ≤ k) (hk2 : k ≤ 1000000000) (hm : 0 < many) : ∃ v, m__law_draw ns k many = some v ∧ 0 ≤ v ∧ v < many := by
  have hc : ∃ c, (ifB (decide ((0 : Int) < (List.length ns : Int))) (bnd (modG k (List.length ns : Int)) fun t => bnd (atI ns t) fun e => some e) (some (0 : Int))) = some c := by
    by_cases h : (0 : Int) < (List.length ns : Int)
    · rw [decide_eq_true h, ifB_t, modG_ok h, bnd_some]
      obtain ⟨x, hx, _⟩ := atI_mem (xs := ns) (i := k % (ns.length : Int)) (Int.emod_nonneg _ (by omega)) (Int.emod_lt_of_pos _ h)
      exact ⟨x, by rw [hx]; rfl⟩
    · rw [decide_eq_false h]
      exact ⟨0, rfl⟩
  obtain ⟨c, hc⟩ := hc
  refine ⟨(((c % 1000003 + 31 * k * k + 1) * 48271 % 999983) * 7919 % 524287) % many, ?_, Int.emod_nonneg _ (by omega), Int.emod_lt_of_pos _ hm⟩
  unfold m__law_draw
  rw [bnd_of hc, mulG_ok (a := 40) (b := 40) (by omega) (by omega) (by omega), bnd_some, ltv_eq, modG_ok hm, bnd_some]
end Bt

namespace Bt
open PySem L2
def Bits (xs : List Int) : Prop := ∀ b ∈ xs, b = 0 ∨ b = 1
theorem Bits.app {xs ys : List Int} (h : Bits xs) (k : Bits ys) : Bits (xs ++ ys) := fun b hb => by
  rcases List.mem_append.mp hb with q | q
  · exact h b q
  · exact k b q
theorem Bits.one {b : Int} (h : b = 0 ∨ b = 1) : Bits [b] := fun c hc => by rw [List.mem_singleton.mp hc]; exact h
theorem Bits.drop {xs : List Int} (h : Bits xs) (n : Nat) : Bits (xs.drop n) := fun b hb => h b (List.mem_of_mem_drop hb)
theorem Bits.rep {b : Int} (h : b = 0 ∨ b = 1) (n : Nat) : Bits (List.replicate n b) := fun c hc => by rw [List.eq_of_mem_replicate hc]; exact h
def ci (qs : List Nat) : List Int := qs.map fun (q : Nat) => (q : Int)
theorem ci_of : ∀ (l : List Int) (m : Nat), (∀ y ∈ l, ∃ n : Nat, y = (n : Int) ∧ n < m) → ∃ D, l = ci D ∧ ∀ d ∈ D, d < m
  | [], _, _ => ⟨[], rfl, fun _ h => (nomatch h)⟩
  | y :: r, m, h => by
    obtain ⟨n, rfl, hn⟩ := h y (List.Mem.head _)
    obtain ⟨D, rfl, hD⟩ := ci_of r m fun z hz => h z (List.Mem.tail _ hz)
    refine ⟨n :: D, rfl, fun d hd => ?_⟩
    rcases List.mem_cons.mp hd with rfl | hd
    · exact hn
    · exact hD d hd
theorem ci_len (D : List Nat) : (ci D).length = D.length := by simp [ci]
theorem ci_mem {D : List Nat} {x : Int} (h : x ∈ ci D) : ∃ d ∈ D, x = (d : Int) := by
  obtain ⟨d, hd, rfl⟩ := List.mem_map.mp h
  exact ⟨d, hd, rfl⟩
theorem cut_mem {α : Type} {xs : List α} {lo hi : Option Int} {x : α} (h : x ∈ cutL xs lo hi) : x ∈ xs := by
  unfold cutL at h
  exact List.mem_of_mem_drop (List.mem_of_mem_take h)
theorem cut_len {α : Type} (xs : List α) (lo hi : Option Int) : (cutL xs lo hi).length ≤ xs.length := by
  unfold cutL
  rw [List.length_take, List.length_drop]
  omega
theorem draw2 (ns : List Int) (k : Int) (hk : 0 ≤ k) (hk2 : k ≤ 1000000000) : ∃ v, m__law_draw ns k 2 = some v ∧ (v = 0 ∨ v = 1) := by
  obtain ⟨v, h1, h2, h3⟩ := draw_ok ns k 2 hk hk2 (by decide)
  exact ⟨v, h1, by omega⟩
end Bt

/-! Rests by a key, over Nat, and numbers of bits. -/
namespace Bt
open PySem L2
theorem xor_top {x y m : Nat} (h1 : 2 ^ m ≤ x) (h2 : x < 2 ^ (m + 1)) (h3 : y < 2 ^ m) : 2 ^ m ≤ x ^^^ y ∧ x ^^^ y < 2 ^ (m + 1) := by
  have e := Nat.xor_div_two_pow (a := x) (b := y) (n := m)
  rw [Nat.pow_succ] at h2 ⊢
  have hp : 0 < 2 ^ m := Nat.two_pow_pos m
  have e1 : x / 2 ^ m = 1 := by
    rw [Nat.div_eq_iff hp]; omega
  have e2 : y / 2 ^ m = 0 := Nat.div_eq_of_lt h3
  rw [e1, e2, Nat.xor_zero] at e
  have h4 := (Nat.div_eq_iff hp).mp e
  omega
theorem xor_cancel {x y m : Nat} (h1 : 2 ^ m ≤ x) (h2 : x < 2 ^ (m + 1)) (h3 : 2 ^ m ≤ y) (h4 : y < 2 ^ (m + 1)) : x ^^^ y < 2 ^ m := by
  have e := Nat.xor_div_two_pow (a := x) (b := y) (n := m)
  rw [Nat.pow_succ] at h2 h4
  have hp : 0 < 2 ^ m := Nat.two_pow_pos m
  have e1 : x / 2 ^ m = 1 := by
    rw [Nat.div_eq_iff hp]; omega
  have e2 : y / 2 ^ m = 1 := by
    rw [Nat.div_eq_iff hp]; omega
  rw [e1, e2, Nat.xor_self] at e
  exact (Nat.div_eq_zero_iff_lt hp).mp e
theorem clm_top : ∀ (t a b s : Nat), 2 ^ s ≤ a → a < 2 ^ (s + 1) → 2 ^ t ≤ b → b < 2 ^ (t + 1) → 2 ^ (s + t) ≤ clm a b ∧ clm a b < 2 ^ (s + t + 1)
  | 0, a, b, s, h1, h2, h3, h4 => by
    obtain rfl : b = 1 := by simp at h3 h4; omega
    rw [clm_or]
    exact ⟨h1, h2⟩
  | t + 1, a, b, s, h1, h2, h3, h4 => by
    have e := split_bit b
    have ih := clm_top t a (b / 2) s h1 h2 (by rw [Nat.pow_succ] at h3; omega) (by rw [Nat.pow_succ] at h4; omega)
    have h5 : clm a b = 2 * clm a (b / 2) ^^^ clm a (b % 2) := by
      conv => lhs; rw [e]
      rw [clm_xr, clm_tr]
    rw [h5]
    have h6 : clm a (b % 2) < 2 ^ (s + (t + 1)) := by
      have : 2 ^ (s + 1) ≤ 2 ^ (s + (t + 1)) := Nat.pow_le_pow_right (by decide) (by omega)
      rcases Nat.mod_two_eq_zero_or_one b with q | q
      · rw [q, clm_zero]; exact Nat.two_pow_pos _
      · rw [q, clm_or]; omega
    refine xor_top ?_ ?_ h6
    · rw [show s + (t + 1) = s + t + 1 from rfl, Nat.pow_succ]; omega
    · rw [show s + (t + 1) + 1 = s + t + 1 + 1 from rfl, Nat.pow_succ]; omega
theorem log_of {n : Nat} (h : n ≠ 0) : ∃ t, 2 ^ t ≤ n ∧ n < 2 ^ (t + 1) := ⟨n.log2, Nat.log2_self_le h, Nat.lt_log2_self⟩
theorem clm_small {a w s : Nat} (h1 : 2 ^ s ≤ a) (h2 : a < 2 ^ (s + 1)) (h3 : clm a w < 2 ^ s) : w = 0 := by
  by_cases h : w = 0
  · exact h
  · obtain ⟨t, h4, h5⟩ := log_of h
    have h6 := (clm_top t a w s h1 h2 h4 h5).1
    have : 2 ^ s ≤ 2 ^ (s + t) := Nat.pow_le_pow_right (by decide) (by omega)
    omega
theorem xor_zero_eq {a b : Nat} (h : a ^^^ b = 0) : a = b := by
  have h2 : a ^^^ b ^^^ b = b := by rw [h, Nat.zero_xor]
  rw [Nat.xor_assoc, Nat.xor_self, Nat.xor_zero] at h2
  exact h2
theorem xor_move {a b c d : Nat} (h : a ^^^ b = c ^^^ d) : a ^^^ c = b ^^^ d := by
  have : (a ^^^ b) ^^^ (c ^^^ d) = 0 := by rw [h, Nat.xor_self]
  rw [xor4] at this
  exact xor_zero_eq this
theorem rest_one {key s w r w' r' : Nat} (h1 : 2 ^ s ≤ key) (h2 : key < 2 ^ (s + 1)) (h3 : r < 2 ^ s) (h4 : r' < 2 ^ s) (h : clm key w ^^^ r = clm key w' ^^^ r') : w = w' ∧ r = r' := by
  have h5 := xor_move h
  rw [← clm_xr] at h5
  have h6 : clm key (w ^^^ w') < 2 ^ s := by rw [h5]; exact Nat.xor_lt_two_pow h3 h4
  have h7 := clm_small h1 h2 h6
  refine ⟨xor_zero_eq h7, xor_zero_eq ?_⟩
  rw [← h5, h7, clm_zero]
/-- r is the rest of n by the key of the checks -/
def IsR (n r : Nat) : Prop := r < 32768 ∧ ∃ w, n = clm 64647 w ^^^ r
theorem IsR.uniq {n r r' : Nat} (h : IsR n r) (k : IsR n r') : r = r' := by
  obtain ⟨h1, w, h2⟩ := h
  obtain ⟨h3, w', h4⟩ := k
  exact (rest_one (s := 15) (key := 64647) (by decide) (by decide) h1 h3 (h2.symm.trans h4)).2
theorem IsR.xor {n m r s : Nat} (h : IsR n r) (k : IsR m s) : IsR (n ^^^ m) (r ^^^ s) := by
  obtain ⟨h1, w, h2⟩ := h
  obtain ⟨h3, w', h4⟩ := k
  refine ⟨Nat.xor_lt_two_pow (n := 15) h1 h3, w ^^^ w', ?_⟩
  rw [h2, h4, clm_xr, xor4]
theorem IsR.small {r : Nat} (h : r < 32768) : IsR r r := ⟨h, 0, by rw [clm_zero, Nat.zero_xor]⟩
/-- one bit more behind -/
def hst (r b : Nat) : Nat := if 32768 ≤ 2 * r + b then (2 * r + b) ^^^ 64647 else 2 * r + b
theorem add_bit {a b : Nat} (h : b ≤ 1) : 2 * a + b = 2 * a ^^^ b := by
  rcases (show b = 0 ∨ b = 1 by omega) with rfl | rfl
  · rw [Nat.xor_zero]; rfl
  · rw [two_xor1]
theorem IsR.step {n r b : Nat} (h : IsR n r) (hb : b ≤ 1) : IsR (2 * n + b) (hst r b) := by
  obtain ⟨h1, w, h2⟩ := h
  have e : 2 * n + b = clm 64647 (2 * w) ^^^ (2 * r + b) := by
    rw [add_bit hb, add_bit hb, h2, two_xor, clm_tr, Nat.xor_assoc]
  unfold hst
  by_cases c : 32768 ≤ 2 * r + b
  · rw [if_pos c]
    refine ⟨xor_cancel (m := 15) c (by show _ < 65536; omega) (by decide) (by decide), 2 * w + 1, ?_⟩
    rw [e, add_bit (a := w) (by decide), clm_xr, clm_or, Nat.xor_comm (2 * r + b), Nat.xor_assoc, ← Nat.xor_assoc 64647 64647, Nat.xor_self, Nat.zero_xor]
  · rw [if_neg c]
    exact ⟨by omega, 2 * w, e⟩
/-- the number that bits write, behind a number -/
def hn (a : Nat) : List Int → Nat
  | [] => a
  | b :: r => hn (2 * a + b.toNat) r
def hr (a : Nat) : List Int → Nat
  | [] => a
  | b :: r => hr (hst a b.toNat) r
theorem bit_le {b : Int} (h : b = 0 ∨ b = 1) : b.toNat ≤ 1 := by omega
theorem Bits.hd {b : Int} {r : List Int} (h : Bits (b :: r)) : b = 0 ∨ b = 1 := h b (List.Mem.head _)
theorem Bits.tl {b : Int} {r : List Int} (h : Bits (b :: r)) : Bits r := fun c hc => h c (List.Mem.tail _ hc)
theorem hr_is : ∀ (xs : List Int) (a r : Nat), Bits xs → IsR a r → IsR (hn a xs) (hr r xs)
  | [], a, r, _, h => h
  | b :: xs, a, r, hb, h => hr_is xs (2 * a + b.toNat) (hst r b.toNat) hb.tl (h.step (bit_le hb.hd))
theorem hn_app : ∀ (xs ys : List Int) (a : Nat), hn a (xs ++ ys) = hn (hn a xs) ys
  | [], _, _ => rfl
  | b :: xs, ys, a => hn_app xs ys _
theorem hn_lt : ∀ (xs : List Int) (a n : Nat), Bits xs → a < 2 ^ n → hn a xs < 2 ^ (n + xs.length)
  | [], a, n, _, h => h
  | b :: xs, a, n, hb, h => by
    have := hn_lt xs (2 * a + b.toNat) (n + 1) hb.tl (by have := bit_le hb.hd; rw [Nat.pow_succ]; omega)
    rw [show n + (b :: xs).length = n + 1 + xs.length by simp only [List.length_cons]; omega]
    exact this
def zs (n : Nat) : List Int := List.replicate n 0
theorem zs_bits (n : Nat) : Bits (zs n) := Bits.rep (.inl rfl) n
theorem hn_xor : ∀ (ys : List Int) (a c : Nat), Bits ys → hn (a ^^^ c) ys = hn a (zs ys.length) ^^^ hn c ys
  | [], a, c, _ => rfl
  | b :: ys, a, c, hb => by
    show hn (2 * (a ^^^ c) + b.toNat) ys = hn (2 * a) (zs ys.length) ^^^ hn (2 * c + b.toNat) ys
    rw [← hn_xor ys (2 * a) (2 * c + b.toNat) hb.tl]
    congr 1
    have h := bit_le hb.hd
    rw [add_bit h, add_bit h, two_xor, Nat.xor_assoc]
theorem hn_tail (xs ys : List Int) (hy : Bits ys) : hn 0 (xs ++ ys) = hn 0 (xs ++ zs ys.length) ^^^ hn 0 ys := by
  rw [hn_app, hn_app, ← hn_xor ys (hn 0 xs) 0 hy, Nat.xor_zero]
/-- the bits of a number -/
def bl (c n : Nat) : List Int := (List.range n).map fun k => ((c / 2 ^ (n - 1 - k) % 2 : Nat) : Int)
theorem bl_len (c n : Nat) : (bl c n).length = n := by simp [bl]
theorem bl_bits (c n : Nat) : Bits (bl c n) := fun b hb => by
  obtain ⟨k, _, rfl⟩ := List.mem_map.mp hb
  omega
theorem bl_succ (c n : Nat) : bl c (n + 1) = bl (c / 2) n ++ [((c % 2 : Nat) : Int)] := by
  unfold bl
  rw [List.range_succ, List.map_append]
  congr 1
  · refine List.map_congr_left fun k hk => ?_
    have := List.mem_range.mp hk
    rw [Nat.div_div_eq_div_mul, show n + 1 - 1 - k = (n - 1 - k) + 1 by omega, Nat.pow_succ, Nat.mul_comm]
  · simp
theorem hn_bl : ∀ (n c a : Nat), hn a (bl c n) = a * 2 ^ n + c % 2 ^ n
  | 0, c, a => by simp [bl, hn, Nat.mod_one]
  | n + 1, c, a => by
    rw [bl_succ, hn_app, hn_bl n (c / 2) a]
    show 2 * (a * 2 ^ n + c / 2 % 2 ^ n) + (((c % 2 : Nat) : Int)).toNat = _
    rw [Int.toNat_natCast, Nat.pow_succ, Nat.mul_comm (2 ^ n) 2, Nat.mod_mul]
    have : a * (2 * 2 ^ n) = 2 * (a * 2 ^ n) := by ac_rfl
    omega
theorem hn_bl0 {n c : Nat} (h : c < 2 ^ n) : hn 0 (bl c n) = c := by
  rw [hn_bl, Nat.zero_mul, Nat.zero_add, Nat.mod_eq_of_lt h]
theorem nb_small {a t : Nat} (h : a < 2 ^ t) : Builtin.Int.intBits (a : Int) ≤ t := bits_le (by omega)
theorem nb_big {a t : Nat} (h : 2 ^ t ≤ a) : t < Builtin.Int.intBits (a : Int) := by
  have hp : 0 < 2 ^ t := Nat.two_pow_pos t
  unfold Builtin.Int.intBits
  split
  · rename_i h0
    simp at h0
    omega
  · rename_i h0
    have h1 : a ≠ 0 := by omega
    have h2 : ¬ a.log2 < t := fun q => by
      have := (Nat.log2_lt h1).mp q
      omega
    rw [Int.natAbs_natCast]
    omega
theorem nb_eq {a t : Nat} (h1 : 2 ^ t ≤ a) (h2 : a < 2 ^ (t + 1)) : Builtin.Int.intBits (a : Int) = t + 1 := by
  have := nb_small h2
  have := nb_big h1
  omega
theorem nb_lt {a t : Nat} : Builtin.Int.intBits (a : Int) ≤ t → a < 2 ^ t := fun h => by
  by_cases q : a < 2 ^ t
  · exact q
  · have := nb_big (Nat.le_of_not_lt q)
    omega
end Bt

/-! The program's own number_of. -/
namespace Bt
open PySem L2
theorem bor1 {b : Nat} (a : Nat) (h : b ≤ 1) : Builtin.bitOr ((2 * a : Nat) : Int) (b : Int) = ((2 * a + b : Nat) : Int) := by
  rw [PyProof.Rows.bitOr_and, ba]
  have e : 2 * a &&& b = 0 := by
    rcases (show b = 0 ∨ b = 1 by omega) with rfl | rfl
    · exact Nat.and_zero _
    · rw [Nat.and_one_is_mod]; omega
  rw [e]
  omega
theorem number_loop : ∀ (xs : List Int) (a n : Nat), Bits xs → a < 2 ^ n → n + xs.length ≤ 1000000 → loopM (fun b s => m_number_of_L0 b s) xs (a : Int) = some ((hn a xs : Nat) : Int)
  | [], a, n, _, _, _ => rfl
  | b :: xs, a, n, hb, ha, hz => by
    simp only [List.length_cons] at hz
    have h1 := bit_le hb.hd
    have hf : m_number_of_L0 b a = some ((2 * a + b.toNat : Nat) : Int) := by
      unfold m_number_of_L0
      rw [shlG_ok (n := n) (by omega) (by decide) (by omega), bnd_some]
      have e : (a : Int) * 2 ^ (1 : Int).toNat = ((2 * a : Nat) : Int) := by
        rw [show (2 : Int) ^ (1 : Int).toNat = 2 from rfl]; omega
      have e2 : b = ((b.toNat : Nat) : Int) := by have := hb.hd; omega
      rw [e]
      conv => lhs; rw [e2]
      rw [bor1 a h1]
    rw [loopM_go hf]
    exact number_loop xs (2 * a + b.toNat) (n + 1) hb.tl (by rw [Nat.pow_succ]; omega) (by omega)
theorem number_ok (xs : List Int) (hb : Bits xs) (hz : xs.length ≤ 900000) : m_number_of xs = some ((hn 0 xs : Nat) : Int) := by
  unfold m_number_of
  rw [show (0 : Int) = ((0 : Nat) : Int) from rfl, number_loop xs 0 0 hb (by decide) (by omega), bnd_some]
end Bt

/-! The program's own bits_of. -/
namespace Bt
open PySem L2
theorem bits_of_ok {c n : Nat} (h : c < 2 ^ n) (hn : n ≤ 100000) : m_bits_of c n = some (.ok (bl c n)) := by
  unfold m_bits_of
  have := nb_small h
  rw [decide_eq_false (show ¬ (c : Int) < 0 by omega), decide_eq_false (show ¬ (n : Int) < (Builtin.Int.intBits (c : Int) : Int) by omega), Bool.or_false, ifB_f, rng1_ok (by omega) (by omega), bnd_some]
  have e : compM (m_bits_of_C0 c n) (rangeI 0 n) [] = some ([] ++ (rangeI 0 n).map fun k => ((c / 2 ^ (n - 1 - k.toNat) % 2 : Nat) : Int)) := by
    refine compM_ok _ _ (fun k hk => ?_) (by rw [rangeI_length]; simp; omega)
    have := mem_rangeI hk
    unfold m_bits_of_C0
    have e : (n : Int) - 1 - k = ((n - 1 - k.toNat : Nat) : Int) := by omega
    rw [e, shrN, bnd_some, ba1]
  rw [e, bnd_some]
  congr 2
  unfold bl rangeI
  rw [List.nil_append, List.map_map, show ((n : Int) - 0).toNat = n by omega]
  refine List.map_congr_left fun k _ => ?_
  simp only [Function.comp]
  rw [show ((0 : Int) + (k : Int)).toNat = k by omega]
end Bt

/-! The program's own divided. -/
namespace Bt
open PySem L2
theorem clm_pow (a : Nat) : ∀ t : Nat, clm a (2 ^ t) = a * 2 ^ t
  | 0 => by rw [Nat.pow_zero, clm_or, Nat.mul_one]
  | t + 1 => by rw [Nat.pow_succ, Nat.mul_comm (2 ^ t) 2, clm_tr, clm_pow a t]; ac_rfl
theorem div_loop {key s : Nat} (h1 : 2 ^ s ≤ key) (h2 : key < 2 ^ (s + 1)) (hs : s ≤ 10000) : ∀ (N n w fuel : Nat), n < 2 ^ N → N < fuel → N ≤ 1000000 →
    ∃ n' w' : Nat, whileM (fun s' => m_divided_W0c (key : Int) ((s + 1 : Nat) : Int) s'.1 s'.2) (fun s' => m_divided_W0 (key : Int) ((s + 1 : Nat) : Int) s'.1 s'.2) fuel ((n : Int), (w : Int)) = some ((n' : Int), (w' : Int)) ∧ n' < 2 ^ s ∧ n' ^^^ clm key w' = n ^^^ clm key w
  | _, _, _, 0, _, h, _ => absurd h (Nat.not_lt_zero _)
  | N, n, w, fuel + 1, hn, hf, hN => by
    by_cases c : n < 2 ^ s
    · have := nb_small c
      rw [whileM_stop (by show m_divided_W0c _ _ (n : Int) (w : Int) = some false; unfold m_divided_W0c; rw [decide_eq_false (by omega)])]
      exact ⟨n, w, rfl, c, rfl⟩
    · cases N with
      | zero =>
        have := Nat.two_pow_pos s
        simp at hn
        omega
      | succ N =>
        by_cases d : n < 2 ^ N
        · exact div_loop h1 h2 hs N n w (fuel + 1) d (by omega) (by omega)
        · have hsN : s ≤ N := by
            by_cases q : s ≤ N
            · exact q
            · have : 2 ^ (N + 1) ≤ 2 ^ s := Nat.pow_le_pow_right (by decide) (by omega)
              omega
          have hb := nb_eq (Nat.le_of_not_lt d) hn
          have hw : m_divided_W0 (key : Int) ((s + 1 : Nat) : Int) (n : Int) (w : Int) = some (((n ^^^ key * 2 ^ (N - s) : Nat) : Int), ((w ^^^ 2 ^ (N - s) : Nat) : Int)) := by
            unfold m_divided_W0
            have e : ((Builtin.Int.intBits (n : Int) : Int) - ((s + 1 : Nat) : Int)) = ((N - s : Nat) : Int) := by omega
            rw [ltv_eq, e, show (1 : Int) = ((1 : Nat) : Int) from rfl, shlN (n := 1) (N - s) (by decide) (by omega), bnd_some, ltv_eq, shlN (n := s + 1) (N - s) h2 (by omega), bnd_some, bx, bx, Nat.one_mul]
          rw [whileM_go (s' := (((n ^^^ key * 2 ^ (N - s) : Nat) : Int), ((w ^^^ 2 ^ (N - s) : Nat) : Int))) (by show m_divided_W0c _ _ (n : Int) (w : Int) = some true; unfold m_divided_W0c; rw [decide_eq_true (by omega)]) hw]
          have e3 : 2 ^ s * 2 ^ (N - s) = 2 ^ N := by rw [← Nat.pow_add, show s + (N - s) = N by omega]
          have e4 : 2 ^ (s + 1) * 2 ^ (N - s) = 2 ^ (N + 1) := by rw [← Nat.pow_add, show s + 1 + (N - s) = N + 1 by omega]
          have hp : 0 < 2 ^ (N - s) := Nat.two_pow_pos _
          have k1 : 2 ^ N ≤ key * 2 ^ (N - s) := by rw [← e3]; exact Nat.mul_le_mul_right _ h1
          have k2 : key * 2 ^ (N - s) < 2 ^ (N + 1) := by rw [← e4]; exact Nat.mul_lt_mul_of_pos_right h2 hp
          have h5 := xor_cancel (Nat.le_of_not_lt d) hn k1 k2
          obtain ⟨n', w', e5, e6, e7⟩ := div_loop h1 h2 hs N (n ^^^ key * 2 ^ (N - s)) (w ^^^ 2 ^ (N - s)) fuel h5 (by omega) (by omega)
          refine ⟨n', w', e5, e6, ?_⟩
          rw [e7, clm_xr, clm_pow, Nat.xor_comm (clm key w), Nat.xor_assoc, ← Nat.xor_assoc (key * 2 ^ (N - s)), Nat.xor_self, Nat.zero_xor]
termination_by N n w fuel => (fuel, N)
theorem divided_ok {key s n N : Nat} (h1 : 2 ^ s ≤ key) (h2 : key < 2 ^ (s + 1)) (hs : s ≤ 10000) (hn : n < 2 ^ N) (hN : N < 90000) :
    ∃ w r : Nat, m_divided n key = some (.ok ((w : Int), (r : Int))) ∧ r < 2 ^ s ∧ n = clm key w ^^^ r := by
  obtain ⟨r, w, e1, e2, e3⟩ := div_loop h1 h2 hs N n 0 FUEL hn (by unfold FUEL; omega) (by omega)
  have hp := Nat.two_pow_pos s
  refine ⟨w, r, ?_, e2, ?_⟩
  · unfold m_divided
    rw [decide_eq_false (by omega), ifB_f, ltv_eq, nb_eq h1 h2, show (0 : Int) = ((0 : Nat) : Int) from rfl, e1, bnd_some]
  · rw [clm_zero, Nat.xor_zero] at e3
    rw [← e3, Nat.xor_comm]
end Bt

/-! The program's own rest_of. -/
namespace Bt
open PySem L2
theorem rest_of_ok (xs : List Int) (hb : Bits xs) (hz : xs.length ≤ 80000) : m_rest_of xs = some ((hr 0 xs : Nat) : Int) := by
  have hl := hn_lt xs 0 0 hb (by decide)
  rw [Nat.zero_add] at hl
  obtain ⟨w, r, e1, e2, e3⟩ := divided_ok (key := 64647) (s := 15) (n := hn 0 xs) (N := xs.length) (by decide) (by decide) (by decide) hl (by omega)
  have hi := hr_is xs 0 0 hb (IsR.small (by decide))
  have e4 : r = hr 0 xs := IsR.uniq (n := hn 0 xs) ⟨e2, w, e3⟩ hi
  unfold m_rest_of
  rw [number_ok xs hb (by omega), bnd_some, show (64647 : Int) = ((64647 : Nat) : Int) from rfl, e1]
  show some (r : Int) = _
  rw [e4]
end Bt

/-! The program's own check_of. -/
namespace Bt
open PySem L2
/-- the check as a number -/
def ck (xs : List Int) : Nat := hr 0 (xs ++ zs 15)
theorem ck_is (xs : List Int) (hb : Bits xs) : IsR (hn 0 (xs ++ zs 15)) (ck xs) := hr_is _ 0 0 (hb.app (zs_bits 15)) (IsR.small (by decide))
theorem ck_lt (xs : List Int) (hb : Bits xs) : ck xs < 32768 := (ck_is xs hb).1
theorem check_of_ok (xs : List Int) (hb : Bits xs) (hz : xs.length ≤ 70000) : m_check_of xs = some (bl (ck xs) 15) := by
  unfold m_check_of
  rw [repG_ok (by decide) (by decide) (by decide), bnd_some]
  have e : (List.replicate (15 : Int).toNat [(0 : Int)]).flatten = zs 15 := by decide
  rw [e, catG_ok (by simp [zs]; omega), bnd_some, rest_of_ok _ (hb.app (zs_bits 15)) (by simp [zs]; omega), bnd_some]
  show bndO (m_bits_of (ck xs : Int) ((15 : Nat) : Int)) _ = _
  rw [bits_of_ok (ck_lt xs hb) (by decide)]
  rfl
/-- the rest of bits with fifteen others behind -/
theorem hr_with (xs : List Int) (hb : Bits xs) {c : Nat} (hc : c < 32768) : hr 0 (xs ++ bl c 15) = ck xs ^^^ c := by
  have h1 := hr_is (xs ++ bl c 15) 0 0 (hb.app (bl_bits c 15)) (IsR.small (by decide))
  have h2 := hn_tail xs (bl c 15) (bl_bits c 15)
  rw [bl_len, hn_bl0 (n := 15) hc] at h2
  rw [h2] at h1
  exact IsR.uniq h1 ((ck_is xs hb).xor (IsR.small hc))
theorem hr_lt (xs : List Int) (hb : Bits xs) : hr 0 xs < 32768 := (hr_is xs 0 0 hb (IsR.small (by decide))).1
end Bt

/-! What a frame's bits are, plain. -/
namespace Bt
open PySem L2
def seg (xs : List Int) (a n : Nat) : List Int := (xs.drop a).take n
theorem seg_bits {xs : List Int} (h : Bits xs) (a n : Nat) : Bits (seg xs a n) := fun b hb => h b (List.mem_of_mem_drop (List.mem_of_mem_take hb))
theorem seg_len (xs : List Int) (a n : Nat) : (seg xs a n).length ≤ n := by
  unfold seg
  rw [List.length_take]
  omega
theorem cut_nat (xs : List Int) (a b : Nat) (h : a ≤ b) : cutL xs (some (a : Int)) (some (b : Int)) = seg xs a (b - a) := by
  unfold cutL seg
  rw [HT.sIx_nat, HT.sIx_nat]
  by_cases ha : a ≤ xs.length
  · rw [show min a xs.length = a by omega]
    by_cases hb : b ≤ xs.length
    · rw [show min b xs.length = b by omega]
    · rw [show min b xs.length = xs.length by omega, List.take_of_length_le (by rw [List.length_drop]; omega), List.take_of_length_le (by rw [List.length_drop]; omega)]
  · rw [show min a xs.length = xs.length by omega, List.drop_length, List.drop_eq_nil_of_le (by omega)]
    simp
theorem hn_seg3 {xs : List Int} (h : Bits xs) : hn 0 (seg xs 9 3) < 8 := by
  have h1 := hn_lt (seg xs 9 3) 0 0 (seg_bits h _ _) (by decide)
  have h2 := seg_len xs 9 3
  have : 2 ^ (0 + (seg xs 9 3).length) ≤ 2 ^ 3 := Nat.pow_le_pow_right (by decide) (by omega)
  omega
def RF (xs : List Int) : Option (Int × List Int) :=
  if xs.length < 27 ∨ xs[0]? = some 1 then none else
  if xs.length ≠ 27 + 8 * hn 0 (seg xs 9 3) ∨ hr 0 xs ≠ 0 then none else
  some (((hn 0 (seg xs 1 8) : Nat) : Int), (List.range (hn 0 (seg xs 9 3))).map fun k => ((hn 0 (seg xs (12 + 8 * k) 8) : Nat) : Int))
def rsF (x : Option (Int × List Int)) : Rs (Int × List Int) := match x with
  | some f => .ok f
  | none => .er .NoFrame
theorem range_snoc {α : Type} (f : Nat → α) (k : Nat) : (List.range (k + 1)).map f = (List.range k).map f ++ [f k] := by
  rw [List.range_succ, List.map_append]; rfl
end Bt

/-! The program's own read_frame. -/
namespace Bt
open PySem L2
theorem read_frame_ok (xs : List Int) (hb : Bits xs) (hz : xs.length ≤ 70000) : m_read_frame xs = some (rsF (RF xs)) := by
  unfold m_read_frame RF
  by_cases h1 : xs.length < 27
  · rw [if_pos (.inl h1)]
    have h2 : (xs.length : Int) < 27 := by omega
    rw [decide_eq_true h2, ifB_t, bnd_some, ifB_t]
    rfl
  · have h27 : ¬ ((xs.length : Int) < 27) := by omega
    have h0 : xs[0]? = some (xs[0]'(by omega)) := List.getElem?_eq_getElem (by omega)
    have ha : atI xs 0 = some (xs[0]'(by omega)) := by rw [atI_ok (by omega) (by omega)]; exact h0
    have hx : xs[0]'(by omega) = 0 ∨ xs[0]'(by omega) = 1 := hb _ (List.getElem_mem _)
    have hs3 := number_ok (seg xs 9 3) (seg_bits hb _ _) (by have := seg_len xs 9 3; omega)
    have hc : cutL xs (some (9 : Int)) (some (12 : Int)) = seg xs 9 3 := cut_nat xs 9 12 (by omega)
    have h8 := hn_seg3 hb
    have hrest := rest_of_ok xs hb (by omega)
    rw [decide_eq_false h27, ifB_f, ha, bnd_some, bnd_some]
    rcases hx with hx | hx
    · rw [hx, decide_eq_false (by decide), ifB_f, hc, hs3, bnd_some]
      rw [if_neg (by rw [h0, hx]; simp; omega)]
      generalize hn 0 (seg xs 9 3) = n at h8
      by_cases hl : xs.length = 27 + 8 * n
      · have hl' : (xs.length : Int) = 27 + 8 * (n : Int) := by omega
        rw [decide_eq_true hl', Bool.not_true, ifB_f, hrest, bnd_some, bnd_some]
        by_cases hr0 : hr 0 xs = 0
        · rw [hr0, if_neg (by simp [hl])]
          have e0 : (!decide (((0 : Nat) : Int) = 0)) = false := by simp
          rw [e0, ifB_f, rng1_ok (by omega) (by omega), bnd_some]
          obtain ⟨out, e1, k, hk, e2⟩ := loopM_rng (f := fun k_27 (s : List Int) => m_read_frame_L0 xs k_27 s) (hi := (n : Int)) (fun i s => ∃ k : Nat, i = k ∧ s = (List.range k).map fun k => ((hn 0 (seg xs (12 + 8 * k) 8) : Nat) : Int)) (by
            rintro i s hi ⟨k, rfl, rfl⟩
            unfold m_read_frame_L0
            have hc2 : cutL xs (some ((12 : Int) + 8 * (k : Int))) (some ((12 : Int) + 8 * (k : Int) + 8)) = seg xs (12 + 8 * k) 8 := by
              have := cut_nat xs (12 + 8 * k) (12 + 8 * k + 8) (by omega)
              rw [show 12 + 8 * k + 8 - (12 + 8 * k) = 8 by omega] at this
              rw [← this]
              congr 2 <;> omega
            rw [hc2, number_ok _ (seg_bits hb _ _) (by have := seg_len xs (12 + 8 * k) 8; omega), bnd_some, appG_ok (by simp; omega), bnd_some]
            exact ⟨_, rfl, k + 1, by omega, (range_snoc _ k).symm⟩) n 0 [] (by omega) (by omega) ⟨0, rfl, rfl⟩
          have hkn : k = n := by omega
          subst hkn
          rw [e1, bnd_some, e2]
          have hc3 : cutL xs (some (1 : Int)) (some (9 : Int)) = seg xs 1 8 := cut_nat xs 1 9 (by omega)
          rw [hc3, number_ok _ (seg_bits hb _ _) (by have := seg_len xs 1 8; omega), bnd_some]
          rfl
        · rw [if_pos (.inr hr0)]
          have e0 : (!decide (((hr 0 xs : Nat) : Int) = 0)) = true := by simp; omega
          rw [e0, ifB_t]
          rfl
      · have hl' : ¬ ((xs.length : Int) = 27 + 8 * (n : Int)) := by omega
        rw [decide_eq_false hl', Bool.not_false, ifB_t, bnd_some, ifB_t, if_pos (.inl hl)]
        rfl
    · rw [hx, decide_eq_true rfl, ifB_t, if_pos (.inr (by rw [h0, hx]))]
      rfl
end Bt

/-! The program's own frame_bits. -/
set_option maxRecDepth 100000
namespace Bt
open PySem L2
def bs (D : List Nat) : List Int := (D.map fun d => bl d 8).flatten
theorem bs_bits (D : List Nat) : Bits (bs D) := fun b hb => by
  obtain ⟨l, hl, hb⟩ := List.mem_flatten.mp hb
  obtain ⟨d, _, rfl⟩ := List.mem_map.mp hl
  exact bl_bits _ _ b hb
theorem bs_len : ∀ D : List Nat, (bs D).length = 8 * D.length
  | [] => rfl
  | d :: r => by
    show (bl d 8 ++ bs r).length = _
    rw [List.length_append, bl_len, bs_len r, List.length_cons]
    omega
def hd (name : Nat) (D : List Nat) : List Int := [0] ++ bl name 8 ++ bl D.length 3 ++ bs D
theorem hd_bits (name : Nat) (D : List Nat) : Bits (hd name D) := (((Bits.one (.inl rfl)).app (bl_bits _ _)).app (bl_bits _ _)).app (bs_bits D)
theorem hd_len (name : Nat) (D : List Nat) : (hd name D).length = 12 + 8 * D.length := by
  unfold hd
  rw [List.length_append, List.length_append, List.length_append, bl_len, bl_len, bs_len]
  simp only [List.length_cons, List.length_nil]
def fb (name : Nat) (D : List Nat) : List Int := hd name D ++ bl (ck (hd name D)) 15
theorem fb_bits (name : Nat) (D : List Nat) : Bits (fb name D) := (hd_bits name D).app (bl_bits _ _)
theorem fb_len (name : Nat) (D : List Nat) : (fb name D).length = 27 + 8 * D.length := by
  unfold fb
  rw [List.length_append, hd_len, bl_len]
  omega
theorem fb_rest (name : Nat) (D : List Nat) : hr 0 (fb name D) = 0 := by
  unfold fb
  rw [hr_with _ (hd_bits name D) (ck_lt _ (hd_bits name D)), Nat.xor_self]
theorem frame_step {b : Nat} (hb : b < 256) (bits : List Int) (hz : bits.length ≤ 10000) : m_frame_bits_L0 b bits = some (.nx (bits ++ bl b 8)) := by
  unfold m_frame_bits_L0
  rw [decide_eq_false (show ¬ (b : Int) < 0 by omega), decide_eq_false (show ¬ (255 : Int) < (b : Int) by omega), Bool.or_false, ifB_f]
  have e := bits_of_ok (n := 8) hb (by decide)
  rw [show (8 : Int) = ((8 : Nat) : Int) from rfl, e]
  show bnd (catG bits (bl b 8)) _ = _
  rw [catG_ok (by rw [bl_len]; omega), bnd_some]
theorem frame_loop : ∀ (D : List Nat) (bits : List Int), (∀ d ∈ D, d < 256) → bits.length + 8 * D.length ≤ 10000 → loopF (fun b s => m_frame_bits_L0 b s) (ci D) bits = some (.nx (bits ++ bs D))
  | [], bits, _, _ => by rw [show bs [] = [] from rfl, List.append_nil]; rfl
  | d :: r, bits, h, hz => by
    simp only [List.length_cons] at hz
    show loopF _ ((d : Int) :: ci r) _ = _
    rw [loopF_go (frame_step (h d (List.Mem.head _)) bits (by omega)), frame_loop r (bits ++ bl d 8) (fun z hz => h z (List.Mem.tail _ hz)) (by rw [List.length_append, bl_len]; omega), List.append_assoc]
    rfl
theorem frame_start {name n : Nat} (hn : name < 256) (hl : n < 8) {β : Type} (f : List Int → Option (Rs β)) :
    (bndR (m_bits_of (name : Int) (8 : Int)) fun a => bnd (catG [(0 : Int)] a) fun b => bndR (m_bits_of (n : Int) (3 : Int)) fun c => bnd (catG b c) f) = f ([0] ++ bl name 8 ++ bl n 3) := by
  have e1 := bits_of_ok (n := 8) hn (by decide)
  have e2 := bits_of_ok (n := 3) (c := n) (by omega) (by decide)
  rw [show (8 : Int) = ((8 : Nat) : Int) from rfl, e1, show (3 : Int) = ((3 : Nat) : Int) from rfl, e2, bndR_ok, catG_ok (by rw [bl_len]; decide), bnd_some, bndR_ok, catG_ok (by rw [List.length_append, bl_len, bl_len]; decide), bnd_some]
theorem frame_ok (name : Nat) (D : List Nat) (hn : name < 256) (hD : ∀ d ∈ D, d < 256) (hl : D.length ≤ 7) : m_frame_bits name (ci D) = some (.ok (fb name D)) := by
  unfold m_frame_bits m_is_name
  rw [bnd_some, decide_eq_true (show (0 : Int) ≤ (name : Int) by omega), decide_eq_true (show (name : Int) ≤ 255 by omega), ci_len, decide_eq_false (show ¬ (7 : Int) < (D.length : Int) by omega)]
  show (bndR _ _) = _
  rw [frame_start hn (by omega), frame_loop D _ hD (by simp [bl_len]; omega), fin_nx]
  show bnd (m_check_of (hd name D)) _ = _
  have hz := hd_len name D
  rw [check_of_ok _ (hd_bits name D) (by omega), bnd_some, catG_ok (by unfold hd at hz; rw [bl_len]; omega), bnd_some]
  rfl
theorem no_name {x : Int} (h : x < 0 ∨ 255 < x) (xs : List Int) : m_frame_bits x xs = some (.er .NoFrame) := by
  unfold m_frame_bits m_is_name
  have e : (decide ((0 : Int) ≤ x) && decide (x ≤ (255 : Int))) = false := by
    rw [Bool.and_eq_false_iff, decide_eq_false_iff_not, decide_eq_false_iff_not]
    omega
  rw [bnd_some, e]
  rfl
theorem too_many (x : Int) {xs : List Int} (h : 7 < xs.length) : m_frame_bits x xs = some (.er .NoFrame) := by
  unfold m_frame_bits m_is_name
  rw [bnd_some, decide_eq_true (show (7 : Int) < (xs.length : Int) by omega), Bool.or_true, ifB_t]
theorem bad_loop {x : Int} (h : x < 0 ∨ 255 < x) (post : List Int) : ∀ (D : List Nat) (bits : List Int), (∀ d ∈ D, d < 256) → bits.length + 8 * D.length ≤ 10000 → loopF (fun b s => m_frame_bits_L0 b s) (ci D ++ (x :: post)) bits = some (.rt (.er .NoFrame))
  | [], bits, _, _ => by
    show bnd (m_frame_bits_L0 x bits) (contF _) = _
    have e : m_frame_bits_L0 x bits = some (.rt (.er .NoFrame)) := by
      unfold m_frame_bits_L0
      have e : (decide (x < (0 : Int)) || decide ((255 : Int) < x)) = true := by
        rw [Bool.or_eq_true, decide_eq_true_eq, decide_eq_true_eq]
        exact h
      rw [e, ifB_t]
    rw [e]
    rfl
  | d :: r, bits, hd, hz => by
    simp only [List.length_cons] at hz
    show loopF _ ((d : Int) :: (ci r ++ (x :: post))) _ = _
    rw [loopF_go (frame_step (hd d (List.Mem.head _)) bits (by omega))]
    exact bad_loop h post r (bits ++ bl d 8) (fun z hz => hd z (List.Mem.tail _ hz)) (by rw [List.length_append, bl_len]; omega)
theorem bad_byte (name : Nat) (hn : name < 256) {x : Int} (h : x < 0 ∨ 255 < x) (D : List Nat) (post : List Int) (hD : ∀ d ∈ D, d < 256) (hl : D.length + post.length ≤ 6) : m_frame_bits name (ci D ++ (x :: post)) = some (.er .NoFrame) := by
  have hz : (ci D ++ (x :: post)).length = D.length + post.length + 1 := by rw [List.length_append, ci_len, List.length_cons]; omega
  unfold m_frame_bits m_is_name
  rw [bnd_some, decide_eq_true (show (0 : Int) ≤ (name : Int) by omega), decide_eq_true (show (name : Int) ≤ 255 by omega), hz, decide_eq_false (show ¬ (7 : Int) < ((D.length + post.length + 1 : Nat) : Int) by omega)]
  show (bndR _ _) = _
  rw [frame_start hn (by omega), bad_loop h post D _ hD (by simp [bl_len]; omega)]
  rfl
end Bt

/-! A frame's own bits read as the frame. -/
namespace Bt
open PySem L2
theorem seg_mid (A B C : List Int) : seg (A ++ B ++ C) A.length B.length = B := by
  unfold seg
  rw [List.append_assoc, List.drop_left, List.take_left]
theorem seg_bs : ∀ (D : List Nat) (A C : List Int) (k d : Nat), D[k]? = some d → seg (A ++ bs D ++ C) (A.length + 8 * k) 8 = bl d 8
  | d' :: D, A, C, 0, d, h => by
    have h := Option.some.inj h
    subst h
    have e : A ++ bs (d' :: D) ++ C = A ++ bl d' 8 ++ (bs D ++ C) := by
      show A ++ (bl d' 8 ++ bs D) ++ C = _
      simp
    rw [e]
    have := seg_mid A (bl d' 8) (bs D ++ C)
    rw [bl_len] at this
    exact this
  | d' :: D, A, C, k + 1, d, h => by
    have e : A ++ bs (d' :: D) ++ C = (A ++ bl d' 8) ++ bs D ++ C := by
      show A ++ (bl d' 8 ++ bs D) ++ C = _
      simp
    rw [e]
    have := seg_bs D (A ++ bl d' 8) C k d (by simpa using h)
    rw [List.length_append, bl_len] at this
    rw [show A.length + 8 * (k + 1) = A.length + 8 + 8 * k by omega]
    exact this
theorem RF_fb (name : Nat) (D : List Nat) (hN : name < 256) (hD : ∀ d ∈ D, d < 256) (hl : D.length ≤ 7) : RF (fb name D) = some ((name : Int), ci D) := by
  have e0 : fb name D = [0] ++ bl name 8 ++ (bl D.length 3 ++ bs D ++ bl (ck (hd name D)) 15) := by unfold fb hd; simp
  have e1 : fb name D = ([0] ++ bl name 8) ++ bl D.length 3 ++ (bs D ++ bl (ck (hd name D)) 15) := by unfold fb hd; simp
  have e2 : fb name D = ([0] ++ bl name 8 ++ bl D.length 3) ++ bs D ++ bl (ck (hd name D)) 15 := by unfold fb hd; simp
  have s1 : seg (fb name D) 1 8 = bl name 8 := by
    rw [e0]
    have := seg_mid [0] (bl name 8) (bl D.length 3 ++ bs D ++ bl (ck (hd name D)) 15)
    rw [bl_len] at this
    exact this
  have s2 : seg (fb name D) 9 3 = bl D.length 3 := by
    rw [e1]
    have := seg_mid ([0] ++ bl name 8) (bl D.length 3) (bs D ++ bl (ck (hd name D)) 15)
    rw [bl_len, List.length_append, bl_len] at this
    exact this
  have n2 : hn 0 (bl D.length 3) = D.length := hn_bl0 (by omega)
  have n1 : hn 0 (bl name 8) = name := hn_bl0 (by omega)
  unfold RF
  rw [s1, s2, n1, n2, if_neg (by
    have h0 : (fb name D)[0]? = some 0 := by rw [e0]; rfl
    rw [h0, fb_len]
    simp), if_neg (by
    rw [fb_rest, fb_len]
    omega)]
  congr 2
  unfold ci
  refine List.ext_getElem? fun k => ?_
  rw [List.getElem?_map, List.getElem?_map]
  by_cases h : k < D.length
  · rw [List.getElem?_range h, List.getElem?_eq_getElem h]
    have s3 := seg_bs D ([0] ++ bl name 8 ++ bl D.length 3) (bl (ck (hd name D)) 15) k D[k] (List.getElem?_eq_getElem h)
    rw [← e2, List.length_append, List.length_append, bl_len, bl_len] at s3
    rw [show [(0 : Int)].length + 8 + 3 + 8 * k = 12 + 8 * k by simp] at s3
    show some (((hn 0 (seg (fb name D) (12 + 8 * k) 8) : Nat)) : Int) = some ((D[k] : Nat) : Int)
    rw [s3, hn_bl0 (hD _ (List.getElem_mem h))]
  · rw [List.getElem?_eq_none (by simp; omega), List.getElem?_eq_none (by omega)]
    rfl
end Bt

/-! Bits put in: the plain scan of a wire. -/
namespace Bt
open PySem L2
theorem sum_bits : ∀ {xs : List Int}, Bits xs → 0 ≤ xs.sum ∧ xs.sum ≤ xs.length
  | [], _ => by simp
  | x :: r, h => by
    have ih := sum_bits (xs := r) fun b hb => h b (List.Mem.tail _ hb)
    have hx := h x (List.Mem.head _)
    simp only [List.sum_cons, List.length_cons]
    omega
theorem sum_rep (n : Nat) (b : Int) : (List.replicate n b).sum = n * b := by
  induction n with
  | zero => simp
  | succ n ih =>
    rw [List.replicate_succ, List.sum_cons, ih]
    rw [Int.natCast_succ, Int.add_mul, Int.one_mul, Int.add_comm]
def Ends' (wire : List Int) (n : Nat) (b : Int) : Prop := ∃ t : List Int, wire = t ++ List.replicate n b ∧ ∀ u x, t = u ++ [x] → x ≠ b
theorem ends_more {wire : List Int} {n : Nat} {b : Int} (e : Ends' wire n b) : Ends' (wire ++ [b]) (n + 1) b := by
  obtain ⟨t, rfl, ht⟩ := e
  exact ⟨t, by rw [List.append_assoc, List.replicate_succ'], ht⟩
theorem ends_new {wire : List Int} {b : Int} (h : ∀ u x, wire = u ++ [x] → x ≠ b) : Ends' (wire ++ [b]) 1 b := ⟨wire, rfl, h⟩
theorem ends_last {wire : List Int} {n : Nat} {b : Int} (e : Ends' wire n b) (h1 : 1 ≤ n) : ∀ u x, wire = u ++ [x] → x = b := fun u x q => by
  obtain ⟨t, rfl, _⟩ := e
  obtain ⟨m, rfl⟩ : ∃ m, n = m + 1 := ⟨n - 1, by omega⟩
  rw [List.replicate_succ', ← List.append_assoc] at q
  exact (List.append_inj_right' q rfl |> List.singleton_inj.mp).symm
theorem Ends'.le {p : List Int} {n : Nat} {b : Int} (e : Ends' p n b) : n ≤ p.length := by
  obtain ⟨t, rfl, _⟩ := e
  simp
theorem lastk {p : List Int} {n k : Nat} {b : Int} (hb : b = 0 ∨ b = 1) (hw : Bits p) (e : Ends' p n b) (h1 : 1 ≤ n) (hk : n ≤ k) (hl : k ≤ p.length) :
    (n = k → (p.drop (p.length - k)).sum = k * b) ∧ (n ≠ k → 0 < (p.drop (p.length - k)).sum ∧ (p.drop (p.length - k)).sum < k) := by
  obtain ⟨t, rfl, ht⟩ := e
  have hlen : (t ++ List.replicate n b).length = t.length + n := by simp
  rw [hlen] at hl ⊢
  refine ⟨fun h => ?_, fun h => ?_⟩
  · subst h
    rw [Nat.add_sub_cancel, List.drop_left, sum_rep]
  · have ht0 : t ≠ [] := fun q => by subst q; simp at hl; omega
    obtain ⟨u, x, rfl⟩ : ∃ u x, t = u ++ [x] := ⟨t.dropLast, t.getLast ht0, (List.dropLast_concat_getLast ht0).symm⟩
    have hx := ht u x rfl
    have hx2 : x = 0 ∨ x = 1 := hw x (by simp)
    have e1 : (u ++ [x] ++ List.replicate n b).drop ((u ++ [x]).length + n - k) = u.drop (u.length + 1 + n - k) ++ ([x] ++ List.replicate n b) := by
      rw [List.append_assoc, List.length_append, List.length_singleton]
      rw [List.drop_append_of_le_length (by omega)]
    rw [e1, List.sum_append, List.sum_append, sum_rep]
    have hu := sum_bits (xs := u.drop (u.length + 1 + n - k)) (fun c hc => hw c (by
      have := List.mem_of_mem_drop hc
      simp [this]))
    have hlu : (u.drop (u.length + 1 + n - k)).length = k - 1 - n := by
      rw [List.length_drop]
      simp only [List.length_append, List.length_singleton] at hl
      omega
    rw [hlu] at hu
    have hs : [x].sum = x := by simp
    rw [hs]
    rcases hb with rfl | rfl <;> rcases hx2 with rfl | rfl <;> simp at hx ⊢ <;> omega
/-- a wire so far, without six alike -/
def PI (p : List Int) (n : Nat) (b : Int) : Prop := (p = [] ∧ n = 0 ∧ b = -1) ∨ (Ends' p n b ∧ 1 ≤ n ∧ n ≤ 5 ∧ (b = 0 ∨ b = 1))
def nr (n : Nat) (b x : Int) : Nat := if x = b then n + 1 else 1
theorem PI.go {p : List Int} {n : Nat} {b x : Int} (I : PI p n b) (hx : x = 0 ∨ x = 1) : Ends' (p ++ [x]) (nr n b x) x := by
  unfold nr
  rcases I with ⟨rfl, rfl, rfl⟩ | ⟨e, h1, h5, hb⟩
  · rw [if_neg (by omega)]
    exact ends_new (fun u x q => by simp at q)
  · by_cases q : x = b
    · subst q
      rw [if_pos rfl]
      exact ends_more e
    · rw [if_neg q]
      exact ends_new (fun u y z => by
        rw [ends_last e h1 u y z]
        exact fun z => q z.symm)
theorem PI.le {p : List Int} {n : Nat} {b : Int} (I : PI p n b) : n ≤ 5 := by
  rcases I with ⟨_, rfl, _⟩ | ⟨_, _, h, _⟩ <;> omega
theorem nr_pos {n : Nat} {b x : Int} : 1 ≤ nr n b x := by unfold nr; split <;> omega
theorem nr_le {n : Nat} {b x : Int} (h : n ≤ 5) : nr n b x ≤ 6 := by unfold nr; split <;> omega
theorem nr_5 {n : Nat} {b x : Int} (h : n ≤ 5) (q : ¬ (n = 5 ∧ x = b)) : nr n b x ≤ 5 := by
  unfold nr
  split
  · by_cases c : n = 5
    · exact absurd ⟨c, by assumption⟩ q
    · omega
  · omega
theorem PI.step {p : List Int} {n : Nat} {b x : Int} (I : PI p n b) (hx : x = 0 ∨ x = 1) (q : ¬ (n = 5 ∧ x = b)) : PI (p ++ [x]) (nr n b x) x :=
  .inr ⟨I.go hx, nr_pos, nr_5 I.le q, hx⟩
/-- the wire read: the place of a sixth alike one, or how many alike ones it ends with and the bits without those put in -/
def scan : Nat → Int → Nat → List Int → List Int → Nat ⊕ (Nat × List Int)
  | n, _, _, acc, [] => .inr (n, acc)
  | n, b, at_, acc, x :: r => if n = 5 ∧ x = b then .inl at_ else scan (nr n b x) x (at_ + 1) (if n = 5 then acc else acc ++ [x]) r
theorem scan_in {n : Nat} {b x : Int} {at_ : Nat} {acc r : List Int} (h : n = 5 ∧ x = b) : scan n b at_ acc (x :: r) = .inl at_ := by
  rw [scan, if_pos h]
theorem scan_go {n : Nat} {b x : Int} {at_ : Nat} {acc r : List Int} (h : ¬ (n = 5 ∧ x = b)) : scan n b at_ acc (x :: r) = scan (nr n b x) x (at_ + 1) (if n = 5 then acc else acc ++ [x]) r := by
  rw [scan, if_neg h]
/-- what is told of a wire -/
def UT (w : List Int) : Nat ⊕ List Int := match scan 0 (-1) 0 [] w with
  | .inl a => .inl a
  | .inr x => if x.1 = 5 then .inl w.length else .inr x.2
theorem scan_len : ∀ (r : List Int) (n : Nat) (b : Int) (at_ : Nat) (acc : List Int) (m : Nat) (out : List Int), scan n b at_ acc r = .inr (m, out) → out.length ≤ acc.length + r.length
  | [], n, b, at_, acc, m, out, h => by
    cases h
    simp
  | x :: r, n, b, at_, acc, m, out, h => by
    by_cases q : n = 5 ∧ x = b
    · rw [scan_in q] at h
      cases h
    · rw [scan_go q] at h
      have := scan_len r _ _ _ _ m out h
      split at this <;> simp at this ⊢ <;> omega
theorem scan_at : ∀ (r : List Int) (n : Nat) (b : Int) (at_ : Nat) (acc : List Int) (a : Nat), scan n b at_ acc r = .inl a → at_ ≤ a ∧ a < at_ + r.length
  | [], n, b, at_, acc, a, h => by cases h
  | x :: r, n, b, at_, acc, a, h => by
    by_cases q : n = 5 ∧ x = b
    · rw [scan_in q] at h
      cases h
      simp
    · rw [scan_go q] at h
      have := scan_at r _ _ _ _ a h
      simp
      omega
theorem scan_bits : ∀ (r : List Int) (n : Nat) (b : Int) (at_ : Nat) (acc : List Int) (m : Nat) (out : List Int), Bits r → Bits acc → scan n b at_ acc r = .inr (m, out) → Bits out
  | [], n, b, at_, acc, m, out, _, hb, h => by
    cases h
    exact hb
  | x :: r, n, b, at_, acc, m, out, hr, hb, h => by
    by_cases q : n = 5 ∧ x = b
    · rw [scan_in q] at h
      cases h
    · rw [scan_go q] at h
      refine scan_bits r _ _ _ _ m out (fun c hc => hr c (List.Mem.tail _ hc)) ?_ h
      split
      · exact hb
      · exact hb.app (Bits.one (hr x (List.Mem.head _)))
theorem UT_bits {w out : List Int} (h : Bits w) (e : UT w = .inr out) : Bits out ∧ out.length ≤ w.length := by
  unfold UT at e
  cases hs : scan 0 (-1) 0 [] w with
  | inl a => rw [hs] at e; cases e
  | inr x =>
    rw [hs] at e
    dsimp only at e
    split at e
    · cases e
    · cases e
      exact ⟨scan_bits w _ _ _ [] _ _ h (show Bits [] from fun _ h => nomatch h) hs, by have := scan_len w _ _ _ _ _ _ hs; simpa using this⟩
/-- the law's look at places behind -/
theorem win (p r : List Int) (k : Nat) (h : k ≤ p.length) : cutL (p ++ r) (some ((p.length : Int) - (k : Int))) (some (p.length : Int)) = p.drop (p.length - k) := by
  unfold cutL
  rw [show ((p.length : Int) - (k : Int)) = ((p.length - k : Nat) : Int) by omega, HT.sIx_nat, HT.sIx_nat]
  rw [show min (p.length - k) (p ++ r).length = p.length - k by simp; omega, show min p.length (p ++ r).length = p.length by simp]
  rw [List.drop_append_of_le_length (by omega)]
  exact List.take_left' (by rw [List.length_drop])
theorem cutk (w : List Int) (k : Nat) (h : k ≤ w.length) : cutL w (some ((w.length : Int) - (k : Int))) none = w.drop (w.length - k) := by
  unfold cutL
  rw [show ((w.length : Int) - (k : Int)) = ((w.length - k : Nat) : Int) by omega, HT.sIx_nat, show HT.sIx w.length w.length none = w.length from rfl, show min (w.length - k) w.length = w.length - k by omega]
  exact List.take_of_length_le (by simp)
theorem five {p : List Int} {n : Nat} {b : Int} (hp : Bits p) (I : PI p n b) : ((decide ((4 : Int) < (List.length p : Int))) && (decide (((List.sum (cutL p (some ((List.length p : Int) - (5 : Int))) none)) % (5 : Int)) = (0 : Int)))) = decide (n = 5) := by
  rcases I with ⟨rfl, rfl, rfl⟩ | ⟨e, h1, h5, hb⟩
  · rfl
  · have hle := e.le
    by_cases hl : 5 ≤ p.length
    · have h := lastk hb hp e h1 h5 hl
      have hc := cutk p 5 hl
      rw [show ((p.length : Int) - ((5 : Nat) : Int)) = (p.length : Int) - 5 from rfl] at hc
      rw [hc, decide_eq_true (by omega), Bool.true_and]
      by_cases q : n = 5
      · rw [h.1 q, decide_eq_true q, decide_eq_true (by omega)]
      · have := h.2 q
        rw [decide_eq_false q, decide_eq_false (by omega)]
    · rw [decide_eq_false (by omega), Bool.false_and, decide_eq_false (by omega)]
end Bt

/-! The program's own put_in. -/
namespace Bt
open PySem L2
theorem xor1' {b : Int} (h : b = 0 ∨ b = 1) : Builtin.bitXor b 1 = 1 - b := by
  rcases h with rfl | rfl <;> decide
theorem pi_step {p : List Int} {n : Nat} {b x : Int} (hx : x = 0 ∨ x = 1) (hz : p.length ≤ 100000) :
    m_put_in_L0 x p (n : Int) b = some (if nr n b x = 5 then (p ++ [x] ++ [1 - x], 1, 1 - x) else (p ++ [x], ((nr n b x : Nat) : Int), x)) := by
  have e1 : (ifB (decide (x = b)) ((n : Int) + 1) 1) = ((nr n b x : Nat) : Int) := by
    unfold nr
    by_cases c : x = b
    · rw [decide_eq_true c, if_pos c]; rfl
    · rw [decide_eq_false c, if_neg c]; rfl
  unfold m_put_in_L0
  simp only [ltv_eq]
  rw [appG_ok (by omega), bnd_some, e1]
  by_cases c : nr n b x = 5
  · rw [decide_eq_true (show ((nr n b x : Nat) : Int) = 5 by omega), ifB_t, if_pos c, xor1' hx, appG_ok (by simp; omega), bnd_some]
  · rw [decide_eq_false (show ¬ ((nr n b x : Nat) : Int) = 5 by omega), ifB_f, if_neg c]
theorem pi_on : ∀ (xs p : List Int) (n : Nat) (b : Int), Bits p → Bits xs → PI p n b → n ≤ 4 → p.length + 2 * xs.length ≤ 90000 →
    ∃ r k l, loopM (fun x s => m_put_in_L0 x s.1 s.2.1 s.2.2) xs (p, (n : Int), b) = some (p ++ r, k, l) ∧ Bits r ∧ r.length ≤ 2 * xs.length ∧ xs.length ≤ r.length ∧ (∀ at_ acc, ∃ m, scan n b at_ acc r = .inr (m, acc ++ xs) ∧ m ≤ 4) ∧ ∀ x t, xs = x :: t → ∃ u, r = x :: u
  | [], p, n, b, hp, hx, I, h4, hz => ⟨[], _, _, by simp [loopM]; exact ⟨rfl, rfl⟩, fun _ h => (nomatch h), by simp, by simp, fun at_ acc => ⟨n, by simp [scan], h4⟩, fun x t h => (nomatch h)⟩
  | x :: xs, p, n, b, hp, hxs, I, h4, hz => by
    simp only [List.length_cons] at hz
    have hx := hxs x (List.Mem.head _)
    have hx' : Bits xs := fun c hc => hxs c (List.Mem.tail _ hc)
    have hs := pi_step (p := p) (n := n) (b := b) hx (by omega)
    have I2 := I.step hx (by omega)
    have h5 : nr n b x ≤ 5 := nr_5 I.le (by omega)
    have hgo : loopM (fun (x : Int) (s : List Int × Int × Int) => m_put_in_L0 x s.1 s.2.1 s.2.2) (x :: xs) (p, (n : Int), b) = loopM (fun x s => m_put_in_L0 x s.1 s.2.1 s.2.2) xs (if nr n b x = 5 then (p ++ [x] ++ [1 - x], 1, 1 - x) else (p ++ [x], ((nr n b x : Nat) : Int), x)) :=
      loopM_go (f := fun (x : Int) (s : List Int × Int × Int) => m_put_in_L0 x s.1 s.2.1 s.2.2) hs
    rw [hgo]
    by_cases c : nr n b x = 5
    · rw [if_pos c]
      have hy : 1 - x = 0 ∨ 1 - x = 1 := by omega
      have hne : 1 - x ≠ x := by omega
      have I3 := I2.step hy (fun h => hne h.2)
      have e1 : nr (nr n b x) x (1 - x) = 1 := by rw [nr, if_neg hne]
      rw [e1] at I3
      obtain ⟨r, k, l, h1, h2, h3, h3', h4', _⟩ := pi_on xs (p ++ [x] ++ [1 - x]) 1 (1 - x) ((hp.app (Bits.one hx)).app (Bits.one hy)) hx' I3 (by decide) (by simp; omega)
      rw [show (((1 : Nat)) : Int) = 1 from rfl] at h1
      refine ⟨x :: (1 - x) :: r, k, l, by rw [h1]; simp, ?_, by simp; omega, by simp; omega, fun at_ acc => ?_, fun y t e => by cases e; exact ⟨_, rfl⟩⟩
      · intro c hc
        rcases List.mem_cons.mp hc with rfl | hc
        · exact hx
        · rcases List.mem_cons.mp hc with rfl | hc
          · exact hy
          · exact h2 c hc
      · obtain ⟨m, e2, e3⟩ := h4' (at_ + 1 + 1) (acc ++ [x])
        refine ⟨m, ?_, e3⟩
        rw [scan_go (by omega), if_neg (by omega), scan_go (fun h => hne h.2), if_pos c, e1, e2]
        simp
    · rw [if_neg c]
      obtain ⟨r, k, l, h1, h2, h3, h3', h4', _⟩ := pi_on xs (p ++ [x]) _ x (hp.app (Bits.one hx)) hx' I2 (by omega) (by simp; omega)
      refine ⟨x :: r, k, l, by rw [h1]; simp, ?_, by simp; omega, by simp; omega, fun at_ acc => ?_, fun y t e => by cases e; exact ⟨_, rfl⟩⟩
      · intro c hc
        rcases List.mem_cons.mp hc with rfl | hc
        · exact hx
        · exact h2 c hc
      · obtain ⟨m, e2, e3⟩ := h4' (at_ + 1) (acc ++ [x])
        refine ⟨m, ?_, e3⟩
        rw [scan_go (by omega), if_neg (by omega), e2]
        simp
theorem put_in_ok (xs : List Int) (h : Bits xs) (hz : xs.length ≤ 40000) : ∃ w, m_put_in xs = some w ∧ Bits w ∧ w.length ≤ 2 * xs.length ∧ xs.length ≤ w.length ∧ UT w = .inr xs ∧ ∀ x t, xs = x :: t → ∃ u, w = x :: u := by
  obtain ⟨r, k, l, h1, h2, h3, h3', h4, h5⟩ := pi_on xs [] 0 (-1) (fun _ h => nomatch h) h (.inl ⟨rfl, rfl, rfl⟩) (by decide) (by simp; omega)
  obtain ⟨m, e1, e2⟩ := h4 0 []
  refine ⟨r, ?_, h2, h3, h3', ?_, h5⟩
  · unfold m_put_in
    rw [show (((0 : Nat)) : Int) = 0 from rfl] at h1
    rw [ltv_eq, h1, bnd_some]
    rfl
  · unfold UT
    rw [e1]
    dsimp only
    rw [if_neg (by omega)]
    rfl
end Bt

/-! The program's own taken_out. -/
namespace Bt
open PySem L2
def rsW (x : Nat ⊕ List Int) : Rs (List Int) := match x with
  | .inl a => .er (.NoWire (a : Int))
  | .inr ys => .ok ys
theorem tk_loop : ∀ (r : List Int) (n : Nat) (b : Int) (at_ : Nat) (acc : List Int), acc.length + r.length ≤ 100000 →
    (∀ a, scan n b at_ acc r = .inl a → loopF (fun q_ s => m_taken_out_L0 q_.1 q_.2 s.1 s.2.1 s.2.2) (enumI at_ r) (acc, (n : Int), b) = some (.rt (.er (.NoWire (a : Int))))) ∧
    (∀ m out, scan n b at_ acc r = .inr (m, out) → ∃ l, loopF (fun q_ s => m_taken_out_L0 q_.1 q_.2 s.1 s.2.1 s.2.2) (enumI at_ r) (acc, (n : Int), b) = some (.nx (out, (m : Int), l)))
  | [], n, b, at_, acc, _ => ⟨fun a h => (by cases h), fun m out h => (by cases h; exact ⟨b, rfl⟩)⟩
  | x :: r, n, b, at_, acc, hz => by
    simp only [List.length_cons] at hz
    by_cases q : n = 5 ∧ x = b
    · rw [scan_in q]
      have hs : m_taken_out_L0 (at_ : Int) x acc (n : Int) b = some (.rt (.er (.NoWire (at_ : Int)))) := by
        unfold m_taken_out_L0
        rw [decide_eq_true (show (n : Int) = 5 by omega), decide_eq_true q.2, Bool.and_self, ifB_t]
      refine ⟨fun a h => ?_, fun m out h => by cases h⟩
      cases h
      show bnd (m_taken_out_L0 (at_ : Int) x acc (n : Int) b) _ = _
      rw [hs, bnd_some]
      rfl
    · have hs : m_taken_out_L0 (at_ : Int) x acc (n : Int) b = some (.nx (if n = 5 then acc else acc ++ [x], ((nr n b x : Nat) : Int), x)) := by
        unfold m_taken_out_L0
        have e0 : ((decide ((n : Int) = 5)) && (decide (x = b))) = false := by
          by_cases c : n = 5
          · rw [decide_eq_false (fun h => q ⟨c, h⟩), Bool.and_false]
          · rw [decide_eq_false (by omega), Bool.false_and]
        have e1 : (ifB (decide (x = b)) ((n : Int) + 1) 1) = ((nr n b x : Nat) : Int) := by
          unfold nr
          by_cases c : x = b
          · rw [decide_eq_true c, if_pos c]; rfl
          · rw [decide_eq_false c, if_neg c]; rfl
        simp only [e0, ifB_f, ltv_eq, e1]
        by_cases c : n = 5
        · rw [decide_eq_true (show (n : Int) = 5 by omega), Bool.not_true, ifB_f, bnd_some, if_pos c]
        · rw [decide_eq_false (show ¬ (n : Int) = 5 by omega), Bool.not_false, ifB_t, appG_ok (by omega), bnd_some, bnd_some, if_neg c]
      rw [scan_go q]
      have hgo : loopF (fun (q_ : Int × Int) (s : List Int × Int × Int) => m_taken_out_L0 q_.1 q_.2 s.1 s.2.1 s.2.2) (enumI at_ (x :: r)) (acc, (n : Int), b) = loopF (fun q_ s => m_taken_out_L0 q_.1 q_.2 s.1 s.2.1 s.2.2) (enumI (at_ + 1) r) (if n = 5 then acc else acc ++ [x], ((nr n b x : Nat) : Int), x) :=
        loopF_go (f := fun (q_ : Int × Int) (s : List Int × Int × Int) => m_taken_out_L0 q_.1 q_.2 s.1 s.2.1 s.2.2) (x := ((at_ : Int), x)) hs
      rw [hgo]
      exact tk_loop r _ _ _ _ (by split <;> (try simp) <;> omega)
theorem taken_ok (w : List Int) (hz : w.length ≤ 50000) : m_taken_out w = some (rsW (UT w)) := by
  unfold m_taken_out UT
  rw [ltv_eq]
  have h := tk_loop w 0 (-1) 0 [] (by simp; omega)
  cases hs : scan 0 (-1) 0 [] w with
  | inl a =>
    have := h.1 a hs
    rw [show (((0 : Nat)) : Int) = 0 from rfl] at this
    rw [this, fin_rt]
    rfl
  | inr x =>
    obtain ⟨l, e⟩ := h.2 x.1 x.2 hs
    rw [show (((0 : Nat)) : Int) = 0 from rfl] at e
    rw [e, fin_nx]
    dsimp only
    by_cases c : x.1 = 5
    · rw [decide_eq_true (show (x.1 : Int) = 5 by omega), ifB_t, if_pos c]
      rfl
    · rw [decide_eq_false (show ¬ (x.1 : Int) = 5 by omega), ifB_f, if_neg c]
      rfl
end Bt

/-! The program's own wire_of and read_wire. -/
namespace Bt
open PySem L2
theorem wire_of_ok (name : Nat) (D : List Nat) (hn : name < 256) (hD : ∀ d ∈ D, d < 256) (hl : D.length ≤ 7) : ∃ w, m_wire_of (name : Int) (ci D) = some (.ok w) ∧ Bits w ∧ w.length ≤ 166 ∧ 27 ≤ w.length ∧ UT w = .inr (fb name D) ∧ ∃ t, w = 0 :: t := by
  have hz := fb_len name D
  obtain ⟨w, h1, h2, h3, h4, h5, h6⟩ := put_in_ok (fb name D) (fb_bits name D) (by omega)
  unfold m_wire_of
  rw [frame_ok name D hn hD hl]
  show ∃ w, (bnd (m_put_in (fb name D)) fun put_in_9 => some (Rs.ok put_in_9)) = _ ∧ _
  rw [h1, bnd_some]
  exact ⟨w, rfl, h2, by omega, by omega, h5, h6 0 (bl name 8 ++ bl D.length 3 ++ bs D ++ bl (ck (hd name D)) 15) (by unfold fb hd; simp)⟩
def rdW (w : List Int) : Rs (Int × List Int) := match UT w with
  | .inl a => .er (.NoWire (a : Int))
  | .inr xs => rsF (RF xs)
theorem read_wire_ok (w : List Int) (hw : Bits w) (hz : w.length ≤ 50000) : m_read_wire w = some (rdW w) := by
  unfold m_read_wire rdW
  rw [taken_ok w hz]
  cases h : UT w with
  | inl a => rfl
  | inr xs =>
    obtain ⟨h1, h2⟩ := UT_bits hw h
    show (bndR (m_read_frame xs) fun x => some (Rs.ok x)) = _
    rw [read_frame_ok xs h1 (by omega)]
    show _ = some (rsF (RF xs))
    cases RF xs <;> rfl
end Bt

/-! The laws' own walk of the rest. -/
namespace Bt
open PySem L2
theorem hst_lt {r b : Nat} (h : r < 32768) (hb : b ≤ 1) : hst r b < 32768 := (IsR.step (IsR.small h) hb).1
theorem law_rest_loop : ∀ (xs : List Int) (r : Nat), Bits xs → r < 32768 → loopM (fun b s => m__law_rest_L0 b s) xs (r : Int) = some ((hr r xs : Nat) : Int)
  | [], r, _, _ => rfl
  | b :: xs, r, hb, h => by
    have h1 := bit_le hb.hd
    have hf : m__law_rest_L0 b r = some ((hst r b.toNat : Nat) : Int) := by
      unfold m__law_rest_L0
      have e : (r : Int) * 2 + b = ((2 * r + b.toNat : Nat) : Int) := by have := hb.hd; omega
      rw [ltv_eq, e, ifB_dec]
      unfold hst
      by_cases c : 32768 ≤ 2 * r + b.toNat
      · rw [if_pos (by omega), if_pos c, show (64647 : Int) = ((64647 : Nat) : Int) from rfl, bx]
      · rw [if_neg (by omega), if_neg c]
    rw [loopM_go hf]
    exact law_rest_loop xs _ hb.tl (hst_lt h h1)
theorem law_rest_ok (xs : List Int) (hb : Bits xs) : m__law_rest xs = some ((hr 0 xs : Nat) : Int) := by
  unfold m__law_rest
  rw [show (0 : Int) = ((0 : Nat) : Int) from rfl, law_rest_loop xs 0 hb (by decide), bnd_some]
end Bt

/-! The laws' own number of bits. -/
namespace Bt
open PySem L2
theorem law_number_loop : ∀ (xs : List Int) (a : Nat), Bits xs → loopM (fun b s => m__law_number_L0 b s) xs (a : Int) = some ((hn a xs : Nat) : Int)
  | [], a, _ => rfl
  | b :: xs, a, hb => by
    have h1 := bit_le hb.hd
    have hf : m__law_number_L0 b a = some ((2 * a + b.toNat : Nat) : Int) := by
      unfold m__law_number_L0
      congr 1
      have := hb.hd
      omega
    rw [loopM_go hf]
    exact law_number_loop xs _ hb.tl
theorem law_number_ok (xs : List Int) (hb : Bits xs) : m__law_number xs = some ((hn 0 xs : Nat) : Int) := by
  unfold m__law_number
  rw [show (0 : Int) = ((0 : Nat) : Int) from rfl, law_number_loop xs 0 hb, bnd_some]
end Bt

/-! Rows of whole numbers. -/
namespace Bt
abbrev RT := Int
def rt0 : RT := 0
end Bt

/-! All rows of some things, the shorter ones first: the program's and the law's. -/
namespace Bt
open PySem L2
def gt (P : List RT) (k : Int) : RT := P.getD k.toNat rt0
theorem gt_at {P : List RT} {k : Int} (h0 : 0 ≤ k) (h1 : k < P.length) : atI P k = some (gt P k) := by
  rw [atI_ok h0 h1]
  unfold gt
  rw [List.getD_eq_getElem?_getD, List.getElem?_eq_getElem (show k.toNat < P.length by omega)]
  rfl
theorem gt_mem {P : List RT} {k : Int} (h0 : 0 ≤ k) (h1 : k < P.length) : gt P k ∈ P := by
  obtain ⟨x, hx, hm⟩ := atI_mem h0 h1
  rw [gt_at h0 h1] at hx
  cases hx
  exact hm
theorem gt_all (P : List RT) : (rangeI 0 (P.length : Int)).map (gt P) = P := by
  unfold rangeI
  rw [List.map_map, show ((P.length : Int) - 0).toNat = P.length by omega]
  refine List.ext_getElem (by simp) fun i h1 h2 => ?_
  simp only [List.getElem_map, List.getElem_range, Function.comp]
  unfold gt
  rw [List.getD_eq_getElem?_getD, show ((0 : Int) + (i : Int)).toNat = i by omega, List.getElem?_eq_getElem h2]
  rfl
abbrev Rw := List RT × Int
def ext (P : List RT) (z : Rw) : List Rw := (rangeI (z.2 + 1) (P.length : Int)).map fun k => (z.1 ++ [gt P k], k)
def lev (P : List RT) : Nat → List Rw
  | 0 => [([], -1)]
  | d + 1 => (lev P d).flatMap (ext P)
def lvs (P : List RT) (d : Nat) : Nat → List Rw
  | 0 => lev P d
  | e + 1 => lev P d ++ lvs P (d + 1) e
theorem lev_ok (P : List RT) : ∀ (d : Nat) (z : Rw), z ∈ lev P d → z.1.length = d ∧ (-1 ≤ z.2 ∧ z.2 ≤ P.length) ∧ ∀ q ∈ z.1, q ∈ P
  | 0, z, h => by
    rw [List.mem_singleton.mp h]
    exact ⟨rfl, ⟨by decide, by show (-1 : Int) ≤ _; omega⟩, fun _ h => nomatch h⟩
  | d + 1, z, h => by
    obtain ⟨y, hy, hz⟩ := List.mem_flatMap.mp h
    obtain ⟨h1, h2, h3⟩ := lev_ok P d y hy
    obtain ⟨k, hk, rfl⟩ := List.mem_map.mp hz
    have := mem_rangeI hk
    refine ⟨by simp [h1], ⟨by show -1 ≤ k; omega, by show k ≤ _; omega⟩, fun q hq => ?_⟩
    rcases List.mem_append.mp hq with h | h
    · exact h3 q h
    · rw [List.mem_singleton.mp h]
      exact gt_mem (by omega) (by omega)
theorem flat_len {α β : Type} {f : α → List β} {c : Nat} : ∀ (xs : List α), (∀ x ∈ xs, (f x).length ≤ c) → (xs.flatMap f).length ≤ xs.length * c
  | [], _ => by simp
  | x :: r, h => by
    have ih := flat_len (f := f) (c := c) r fun y hy => h y (List.Mem.tail _ hy)
    have h1 := h x (List.Mem.head _)
    rw [List.flatMap_cons, List.length_append, List.length_cons, Nat.succ_mul]
    omega
theorem lev_len (P : List RT) (d : Nat) : (lev P (d + 1)).length ≤ (lev P d).length * P.length := flat_len _ fun z hz => by
  obtain ⟨_, ⟨h, _⟩, _⟩ := lev_ok P d z hz
  unfold ext
  rw [List.length_map, rangeI_length]
  omega
theorem lvs_ok (P : List RT) : ∀ (e d : Nat) (z : Rw), z ∈ lvs P d e → ∀ q ∈ z.1, q ∈ P
  | 0, d, z, h => (lev_ok P d z h).2.2
  | e + 1, d, z, h => by
    rcases List.mem_append.mp h with h | h
    · exact (lev_ok P d z h).2.2
    · exact lvs_ok P e (d + 1) z h
theorem rows_in (P : List RT) (at_ : Nat) (r : List RT) (hr : r.length ≤ 100) : ∀ (n : Nat) (lo : Int) (R : List (List RT)) (E : List Int), ((P.length : Int) - lo).toNat = n → 0 ≤ lo → R[at_]? = some r → R.length = E.length → R.length + n ≤ 16777216 →
    loopM (fun k (s : List (List RT) × List Int) => m_rows_of_L1 P at_ k s.1 s.2) (rangeI lo (P.length : Int)) (R, E) = some (R ++ (rangeI lo (P.length : Int)).map (fun k => r ++ [gt P k]), E ++ rangeI lo (P.length : Int))
  | 0, lo, R, E, e, h0, ha, hl, hz => by
    rw [rangeI_nil (by omega), List.map_nil, List.append_nil, List.append_nil]
    rfl
  | n + 1, lo, R, E, e, h0, ha, hl, hz => by
    obtain ⟨hlt, _⟩ := List.getElem?_eq_some_iff.mp ha
    have hst : m_rows_of_L1 P at_ lo R E = some (R ++ [r ++ [gt P lo]], E ++ [lo]) := by
      unfold m_rows_of_L1
      rw [atI_ok (by omega) (by omega), show ((at_ : Int)).toNat = at_ from rfl, ha, bnd_some, gt_at h0 (by omega), bnd_some, catG_ok (by simp; omega), bnd_some, appG_ok (by omega), bnd_some, appG_ok (by omega), bnd_some]
    rw [rangeI_cons (by omega), loopM_go (f := fun k (s : List (List RT) × List Int) => m_rows_of_L1 P at_ k s.1 s.2) (s := (R, E)) (s' := (R ++ [r ++ [gt P lo]], E ++ [lo])) hst]
    rw [rows_in P at_ r hr n (lo + 1) _ _ (by omega) (by omega) (by rw [List.getElem?_append_left hlt]; exact ha) (by simp [hl]) (by simp; omega)]
    simp
def rowsW (P : List RT) (most : Int) (n : Nat) (Z : List Rw) (at_ : Nat) : Option (List (List RT) × List Int × Int) :=
  whileM (fun s => m_rows_of_W0c P most s.1 s.2.1 s.2.2) (fun s => m_rows_of_W0 P most s.1 s.2.1 s.2.2) n (Z.map Prod.fst, Z.map Prod.snd, (at_ : Int))
theorem rowsW_go {P : List RT} {most : Int} {n : Nat} {Z : List Rw} {at_ : Nat} {z : Rw} (hz : Z[at_]? = some z) (h1 : (z.1.length : Int) < most) (hm : most ≤ 100) (h2 : -1 ≤ z.2) (h3 : z.2 ≤ 1000) (hP : P.length ≤ 1000) (hl : Z.length + (ext P z).length ≤ 16777216) : rowsW P most (n + 1) Z at_ = rowsW P most n (Z ++ ext P z) (at_ + 1) := by
  obtain ⟨hlt, _⟩ := List.getElem?_eq_some_iff.mp hz
  have hf : (Z.map Prod.fst)[at_]? = some z.1 := by rw [List.getElem?_map, hz]; rfl
  have hs : (Z.map Prod.snd)[at_]? = some z.2 := by rw [List.getElem?_map, hz]; rfl
  have hc : m_rows_of_W0c P most (Z.map Prod.fst) (Z.map Prod.snd) (at_ : Int) = some true := by
    unfold m_rows_of_W0c
    rw [decide_eq_true (by simp; omega), ifB_t, atI_ok (by omega) (by simp; omega), show ((at_ : Int)).toNat = at_ from rfl, hf, bnd_some, decide_eq_true h1]
    rfl
  have hb : m_rows_of_W0 P most (Z.map Prod.fst) (Z.map Prod.snd) (at_ : Int) = some ((Z ++ ext P z).map Prod.fst, (Z ++ ext P z).map Prod.snd, ((at_ + 1 : Nat) : Int)) := by
    unfold m_rows_of_W0
    unfold ext at hl ⊢
    rw [List.length_map, rangeI_length] at hl
    rw [atI_ok (by omega) (by simp; omega), show ((at_ : Int)).toNat = at_ from rfl, hs, bnd_some]
    rw [rng2_ok (by omega) (by omega) (by omega) (by omega), bnd_some, rows_in P at_ z.1 (by omega) _ (z.2 + 1) _ _ rfl (by omega) hf (by simp) (by simp; omega), bnd_some]
    simp [List.map_append, List.map_map, Function.comp_def]
  unfold rowsW
  rw [whileM_go (c := fun s => m_rows_of_W0c P most s.1 s.2.1 s.2.2) (f := fun s => m_rows_of_W0 P most s.1 s.2.1 s.2.2) (s := (Z.map Prod.fst, Z.map Prod.snd, (at_ : Int))) hc hb]
theorem rowsW_lev {P : List RT} {most : Int} {d : Nat} (hd : (d : Int) < most) (hm : most ≤ 100) (hP : P.length ≤ 1000) : ∀ (rest A T : List Rw) (n : Nat), (∀ z ∈ rest, z ∈ lev P d) → A.length + rest.length + T.length + (rest.flatMap (ext P)).length ≤ 16777216 →
    rowsW P most (rest.length + n) (A ++ rest ++ T) A.length = rowsW P most n (A ++ rest ++ T ++ rest.flatMap (ext P)) (A.length + rest.length)
  | [], A, T, n, _, _ => by simp
  | z :: r, A, T, n, h, hl => by
    obtain ⟨a1, ⟨a2, a3⟩, _⟩ := lev_ok P d z (h z (List.Mem.head _))
    rw [List.flatMap_cons, List.length_append, List.length_cons] at hl
    rw [List.length_cons, show r.length + 1 + n = (r.length + n) + 1 by omega, rowsW_go (z := z) (by rw [List.append_assoc, List.getElem?_append_right (Nat.le_refl _)]; simp) (by omega) hm a2 (by omega) hP (by simp; omega)]
    have ih := rowsW_lev (P := P) hd hm hP r (A ++ [z]) (T ++ ext P z) n (fun y hy => h y (List.Mem.tail _ hy)) (by simp only [List.length_append, List.length_cons, List.length_nil]; omega)
    rw [show A ++ z :: r ++ T ++ ext P z = A ++ [z] ++ r ++ (T ++ ext P z) by simp, show A.length + 1 = (A ++ [z]).length by simp, ih]
    congr 1
    · simp
    · simp; omega
theorem rowsW_all {P : List RT} {m : Nat} (hm : m ≤ 100) (hP : P.length ≤ 1000) : ∀ (e d : Nat) (A : List Rw) (n : Nat), d + e = m → A.length + (lvs P d e).length ≤ 16777216 → (lvs P d e).length < n →
    ∃ E k, rowsW P m n (A ++ lev P d) A.length = some ((A ++ lvs P d e).map Prod.fst, E, k)
  | 0, d, A, n, e, hl, hn => by
    obtain ⟨n, rfl⟩ : ∃ k, n = k + 1 := ⟨n - 1, by omega⟩
    refine ⟨(A ++ lev P d).map Prod.snd, A.length, ?_⟩
    unfold rowsW
    rw [whileM_stop]
    · rfl
    · unfold m_rows_of_W0c
      dsimp only
      cases hL : lev P d with
      | nil =>
        rw [decide_eq_false (by simp), ifB_f, bnd_some]
      | cons z r =>
        obtain ⟨a1, _, _⟩ := lev_ok P d z (by rw [hL]; exact List.Mem.head _)
        rw [decide_eq_true (by simp; omega), ifB_t, atI_ok (by omega) (by simp; omega), show ((A.length : Int)).toNat = A.length from rfl]
        rw [show ((A ++ z :: r).map Prod.fst)[A.length]? = some z.1 by rw [List.getElem?_map, List.getElem?_append_right (Nat.le_refl _)]; simp, bnd_some, decide_eq_false (by omega)]
        rfl
  | e + 1, d, A, n, h, hl, hn => by
    have hl' : A.length + ((lev P d).length + (lvs P (d + 1) e).length) ≤ 16777216 := by
      rw [← List.length_append]; exact hl
    have hn' : (lev P d).length + (lvs P (d + 1) e).length < n := by
      rw [← List.length_append]; exact hn
    have hsub : (lev P (d + 1)).length ≤ (lvs P (d + 1) e).length := by
      cases e with
      | zero => exact Nat.le_refl _
      | succ e => show _ ≤ (lev P (d + 1) ++ _).length; rw [List.length_append]; omega
    have h1 := rowsW_lev (P := P) (most := (m : Int)) (d := d) (by omega) (by omega) hP (lev P d) A [] (n - (lev P d).length) (fun _ h => h) (by
      show A.length + (lev P d).length + 0 + (lev P (d + 1)).length ≤ _
      omega)
    rw [List.append_nil, show (lev P d).length + (n - (lev P d).length) = n by omega] at h1
    obtain ⟨E, k, h2⟩ := rowsW_all hm hP e (d + 1) (A ++ lev P d) (n - (lev P d).length) (by omega) (by simp; omega) (by omega)
    refine ⟨E, k, ?_⟩
    rw [h1, show A.length + (lev P d).length = (A ++ lev P d).length by simp]
    rw [show (lvs P d (e + 1)) = lev P d ++ lvs P (d + 1) e from rfl, ← List.append_assoc]
    exact h2
theorem rows_of_ok {P : List RT} {m : Nat} (hm : m ≤ 100) (hP : P.length ≤ 1000) (hl : (lvs P 0 m).length < 100000) : m_rows_of P m = some ((lvs P 0 m).map Prod.fst) := by
  obtain ⟨E, k, h⟩ := rowsW_all (P := P) hm hP m 0 [] FUEL (by omega) (by simp; omega) hl
  unfold m_rows_of
  unfold rowsW at h
  rw [show ((([] : List Rw) ++ lev P 0).map Prod.fst) = [[]] from rfl, show ((([] : List Rw) ++ lev P 0).map Prod.snd) = [(-(1 : Int))] from rfl] at h
  rw [show ((([] : List Rw).length : Nat) : Int) = 0 from rfl] at h
  rw [h, bnd_some, List.nil_append]
theorem lvs_small {P : List RT} {m : Nat} (hm : m ≤ 3) (hP : P.length ≤ 12) : ∀ z ∈ lvs P 0 m, z.1.length ≤ 3 := by
  have key : ∀ (e d : Nat) (z : Rw), z ∈ lvs P d e → z.1.length ≤ d + e := fun e => by
    induction e with
    | zero => exact fun d z h => by have := (lev_ok P d z h).1; omega
    | succ e ih =>
      intro d z h
      rcases List.mem_append.mp h with h | h
      · have := (lev_ok P d z h).1; omega
      · have := ih (d + 1) z h; omega
  intro z hz
  have := key m 0 z hz
  omega
theorem lvs_len {P : List RT} {m : Nat} (hm : m ≤ 3) (hP : P.length ≤ 12) : (lvs P 0 m).length ≤ 1885 := by
  have h0 : (lev P 0).length = 1 := rfl
  have h1 : (lev P 1).length ≤ (lev P 0).length * P.length := lev_len P 0
  have h2 : (lev P 2).length ≤ (lev P 1).length * P.length := lev_len P 1
  have h3 : (lev P 3).length ≤ (lev P 2).length * P.length := lev_len P 2
  rw [h0] at h1
  have e1 : (lev P 1).length ≤ 12 := by omega
  have e2 : (lev P 2).length ≤ 144 := Nat.le_trans h2 (Nat.mul_le_mul e1 hP)
  have e3 : (lev P 3).length ≤ 1728 := Nat.le_trans h3 (Nat.mul_le_mul e2 hP)
  obtain rfl | rfl | rfl | rfl : m = 0 ∨ m = 1 ∨ m = 2 ∨ m = 3 := by omega
  · show (lev P 0).length ≤ _; omega
  · show (lev P 0 ++ lev P 1).length ≤ _; rw [List.length_append]; omega
  · show (lev P 0 ++ (lev P 1 ++ lev P 2)).length ≤ _; rw [List.length_append, List.length_append]; omega
  · show (lev P 0 ++ (lev P 1 ++ (lev P 2 ++ lev P 3))).length ≤ _; rw [List.length_append, List.length_append, List.length_append]; omega
end Bt

/-! Slices by whole numbers. -/
namespace Bt
open PySem L2
section
variable {α : Type}
theorem cut_seg (xs : List α) (a b : Nat) (h : a ≤ b) : cutL xs (some (a : Int)) (some (b : Int)) = (xs.drop a).take (b - a) := by
  unfold cutL
  rw [HT.sIx_nat, HT.sIx_nat]
  by_cases h1 : a ≤ xs.length
  · rw [Nat.min_eq_left h1]
    by_cases h2 : b ≤ xs.length
    · rw [Nat.min_eq_left h2]
    · rw [Nat.min_eq_right (by omega), List.take_of_length_le (by simp), List.take_of_length_le (by simp; omega)]
  · rw [Nat.min_eq_right (by omega), Nat.min_eq_right (by omega), List.drop_of_length_le (Nat.le_refl _), List.drop_of_length_le (by omega)]
    simp
theorem cut_to (xs : List α) (n : Nat) : cutL xs none (some (n : Int)) = xs.take n := by
  unfold cutL
  rw [show HT.sIx xs.length 0 none = 0 from rfl, HT.sIx_nat, List.drop_zero, Nat.sub_zero]
  by_cases h : n ≤ xs.length
  · rw [Nat.min_eq_left h]
  · rw [Nat.min_eq_right (by omega), List.take_of_length_le (Nat.le_refl _), List.take_of_length_le (by omega)]
theorem cut_fr (xs : List α) (n : Nat) : cutL xs (some (n : Int)) none = xs.drop n := by
  unfold cutL
  rw [HT.sIx_nat, show HT.sIx xs.length xs.length none = xs.length from rfl]
  by_cases h : n ≤ xs.length
  · rw [Nat.min_eq_left h, List.take_of_length_le (by simp)]
  · rw [Nat.min_eq_right (by omega), List.drop_of_length_le (Nat.le_refl _), List.drop_of_length_le (by omega)]
    simp
end
end Bt

/-! What slips are, plain. -/
namespace Bt
open PySem L2
def outP (w : List Int) (p : Int) : Bool := decide (p < (0 : Int)) || decide ((w.length : Int) ≤ p)
theorem place_loop (w ps : List Int) : loopF (fun p (_ : Unit) => m_slips_L0 w p) ps () = some (if ps.any (outP w) = true then .rt (.er .NoBits) else .nx ()) := by
  induction ps with
  | nil => rfl
  | cons q r ih =>
    show bnd (m_slips_L0 w q) (contF (loopF (fun p (_ : Unit) => m_slips_L0 w p) r)) = _
    unfold m_slips_L0
    rw [List.any_cons]
    show bnd (ifB (outP w q) _ _) _ = _
    cases h : outP w q with
    | true => rfl
    | false =>
      show loopF (fun p (_ : Unit) => m_slips_L0 w p) r () = _
      rw [ih, Bool.false_or]
theorem bitXor01 {b : Int} (h : b = 0 ∨ b = 1) : Builtin.bitXor b 1 = 0 ∨ Builtin.bitXor b 1 = 1 := by
  rw [xor1' h]
  omega
/-- a wire with one bit turned -/
def fl1 (s : List Int) (i : Nat) : List Int := s.set i (Builtin.bitXor (s.getD i 0) 1)
def tn (w row : List Int) : List Int := row.foldl (fun s p => fl1 s p.toNat) w
theorem fl1_len (s : List Int) (i : Nat) : (fl1 s i).length = s.length := by simp [fl1]
theorem fl1_bits {s : List Int} (h : Bits s) {i : Nat} (hi : i < s.length) : Bits (fl1 s i) := fun b hb => by
  rcases List.mem_or_eq_of_mem_set hb with q | q
  · exact h b q
  · rw [q]
    refine bitXor01 (h _ ?_)
    rw [List.getD_eq_getElem?_getD, List.getElem?_eq_getElem hi]
    exact List.getElem_mem hi
theorem changed_on : ∀ (row w : List Int), Bits w → (∀ p ∈ row, outP w p = false) → loopF (fun p s => m_changed_L0 p s) row w = some (.nx (tn w row)) ∧ Bits (tn w row) ∧ (tn w row).length = w.length
  | [], w, hw, _ => ⟨rfl, hw, rfl⟩
  | p :: r, w, hw, hr => by
    have hp := hr p (List.Mem.head _)
    unfold outP at hp
    rw [Bool.or_eq_false_iff, decide_eq_false_iff_not, decide_eq_false_iff_not] at hp
    have hlt : p.toNat < w.length := by omega
    have hx : atI w p = some (w.getD p.toNat 0) := by
      rw [atI_ok (by omega) (by omega), List.getD_eq_getElem?_getD, List.getElem?_eq_getElem hlt]
      rfl
    have hst : m_changed_L0 p w = some (.nx (fl1 w p.toNat)) := by
      unfold m_changed_L0
      rw [decide_eq_false (by omega), decide_eq_false (by omega), Bool.or_false, ifB_f, hx, bnd_some, setG_ok (by omega) (by omega), bnd_some]
      rfl
    obtain ⟨h1, h2, h3⟩ := changed_on r (fl1 w p.toNat) (fl1_bits hw hlt) (fun q hq => by
      have := hr q (List.Mem.tail _ hq)
      unfold outP at this ⊢
      rw [fl1_len]
      exact this)
    refine ⟨?_, h2, by rw [← fl1_len w p.toNat]; exact h3⟩
    rw [loopF_go (f := fun p s => m_changed_L0 p s) hst]
    exact h1
theorem changed_is {w row : List Int} (hw : Bits w) (hr : ∀ p ∈ row, outP w p = false) : m_changed w row = some (.ok (tn w row)) ∧ Bits (tn w row) ∧ (tn w row).length = w.length := by
  obtain ⟨h1, h2, h3⟩ := changed_on row w hw hr
  refine ⟨?_, h2, h3⟩
  unfold m_changed
  rw [h1, fin_nx]
/-- the other frame that a wire is read as -/
def ot (w : List Int) (own : Int × List Int) : Option (Int × List Int) := match UT w with
  | .inl _ => none
  | .inr xs => match RF xs with
    | none => none
    | some f => if f = own then none else some f
theorem other_is {w : List Int} (hw : Bits w) (hz : w.length ≤ 50000) (own : Int × List Int) : m_other_frame w own = some (ot w own) := by
  unfold m_other_frame ot
  rw [read_wire_ok w hw hz, bnd_some]
  unfold rdW
  cases UT w with
  | inl a => rfl
  | inr xs =>
    dsimp only
    cases RF xs with
    | none => rfl
    | some f =>
      show tryR (.ok f) _ _ = _
      rw [tryR_ok]
      dsimp only
      by_cases c : f = own
      · rw [if_pos c, decide_eq_true c]; rfl
      · rw [if_neg c, decide_eq_false c]; rfl
abbrev SL := List Int × Option (Int × List Int)
def gs (w : List Int) (own : Int × List Int) (row : List Int) : Option SL := (ot (tn w row) own).map fun f => (row, some f)
theorem slips_on {name : Int} {data w : List Int} (hb : Bits w) (hz : w.length ≤ 50000) : ∀ (R : List (List Int)) (acc : List SL), (∀ r ∈ R, ∀ p ∈ r, outP w p = false) → acc.length + R.length ≤ 100000 →
    loopF (fun row s => m_slips_L1 name data w row s) R acc = some (.nx (acc ++ R.filterMap (gs w (name, data))))
  | [], acc, _, _ => by simp [loopF]
  | row :: R, acc, h, hl => by
    rw [List.length_cons] at hl
    obtain ⟨c1, c2, c3⟩ := changed_is hb (h row (List.Mem.head _))
    have c4 := other_is c2 (by omega) (name, data)
    rw [List.filterMap_cons]
    unfold gs
    have hst : m_slips_L1 name data w row acc = some (.nx (match (ot (tn w row) (name, data)).map fun f => (row, some f) with | none => acc | some y => acc ++ [y])) := by
      unfold m_slips_L1
      rw [c1]
      show bnd (m_other_frame (tn w row) (name, data)) _ = _
      rw [c4, bnd_some]
      cases ot (tn w row) (name, data) with
      | none => rfl
      | some f =>
        show bnd (appG acc (row, some f)) _ = _
        rw [appG_ok (by omega), bnd_some]
        rfl
    rw [loopF_go (f := fun row s => m_slips_L1 name data w row s) hst]
    have ih := fun acc hl => slips_on (name := name) (data := data) hb hz R acc (fun r hr => h r (List.Mem.tail _ hr)) hl
    unfold gs at ih
    cases ot (tn w row) (name, data) with
    | none => exact ih acc (by omega)
    | some f =>
      show loopF _ R (acc ++ [(row, some f)]) = _
      rw [ih _ (by simp; omega)]
      simp
theorem slips_is {name : Nat} {D : List Nat} {w P : List Int} {mo : Nat} (hw : m_wire_of (name : Int) (ci D) = some (.ok w)) (hb : Bits w) (hz : w.length ≤ 50000) (hmo : mo ≤ 3) (hP : P.length ≤ 12) (hp : ∀ p ∈ P, outP w p = false) :
    m_slips (name : Int) (ci D) P mo = some (.ok (((lvs P 0 mo).map Prod.fst).filterMap (gs w ((name : Int), ci D)))) := by
  unfold m_slips
  have hl := lvs_len hmo hP
  rw [hw, bndR_ok, place_loop, if_neg (fun z => by
    obtain ⟨p, hpm, h⟩ := List.any_eq_true.mp z
    rw [hp p hpm] at h
    cases h), fin_nx, rows_of_ok (by omega) (by omega) (by omega), bnd_some]
  have hall : ∀ r ∈ (lvs P 0 mo).map Prod.fst, ∀ p ∈ r, outP w p = false := fun r hr p hpr => by
    obtain ⟨z, hz, rfl⟩ := List.mem_map.mp hr
    exact hp p (lvs_ok P mo 0 z hz p hpr)
  have hlen : ((lvs P 0 mo).map Prod.fst).length ≤ 1885 := by rw [List.length_map]; exact hl
  rw [slips_on hb hz _ [] hall (by rw [List.length_nil]; omega), fin_nx, List.nil_append]
end Bt

/-! The law's own rows. -/
namespace Bt
open PySem L2
theorem loop_flat {α β : Type} {f : α → List β → Option (List β)} {g : α → List β} {c : Nat} : ∀ (xs : List α) (acc : List β), (∀ x ∈ xs, ∀ acc, acc.length + (g x).length ≤ c → f x acc = some (acc ++ g x)) → acc.length + (xs.flatMap g).length ≤ c → loopM f xs acc = some (acc ++ xs.flatMap g)
  | [], acc, _, _ => by simp [loopM]
  | x :: r, acc, h, hl => by
    rw [List.flatMap_cons, List.length_append] at hl
    rw [loopM_go (h x (List.Mem.head _) acc (by omega)), loop_flat r _ (fun y hy => h y (List.Mem.tail _ hy)) (by simp only [List.length_append]; omega)]
    simp
theorem lev1 (P : List Int) : (lev P 1).map Prod.fst = P.map fun x => [x] := by
  show ((ext P ([], -1)) ++ []).map Prod.fst = _
  unfold ext
  rw [List.append_nil, List.map_map, show ((-1 : Int) + 1) = 0 from rfl]
  conv => rhs; rw [← gt_all P]
  rw [List.map_map]
  rfl
theorem lev_map (P : List Int) (d : Nat) : (lev P (d + 1)).map Prod.fst = (lev P d).flatMap fun z => (rangeI (z.2 + 1) (P.length : Int)).map fun k => z.1 ++ [gt P k] := by
  show ((lev P d).flatMap (ext P)).map Prod.fst = _
  rw [List.map_flatMap]
  congr 1
  funext z
  unfold ext
  rw [List.map_map]
  rfl
theorem lev1r (P : List Int) : lev P 1 = (rangeI 0 (P.length : Int)).map fun k => ([gt P k], k) := by
  show (ext P ([], -1)) ++ [] = _
  rw [List.append_nil]
  rfl
theorem lev2 (P : List Int) : (lev P 2).map Prod.fst = (rangeI 0 (P.length : Int)).flatMap fun a => (rangeI (a + 1) (P.length : Int)).map fun b => [gt P a, gt P b] := by
  rw [lev_map, lev1r, List.flatMap_map]
  rfl
theorem lev3 (P : List Int) : (lev P 3).map Prod.fst = (rangeI 0 (P.length : Int)).flatMap fun a => (rangeI (a + 1) (P.length : Int)).flatMap fun b => (rangeI (b + 1) (P.length : Int)).map fun c => [gt P a, gt P b, gt P c] := by
  rw [lev_map]
  show ((lev P 1).flatMap (ext P)).flatMap _ = _
  rw [lev1r, List.flatMap_map, List.flatMap_assoc]
  congr 1
  funext a
  unfold ext
  rw [List.flatMap_map]
  rfl
theorem flat_single {α β : Type} (f : α → β) (xs : List α) : xs.flatMap (fun x => [f x]) = xs.map f := by
  induction xs with
  | nil => rfl
  | cons x r ih => rw [List.flatMap_cons, ih]; rfl
theorem law_two {P : List Int} (hP : P.length ≤ 12) {acc : List (List Int)} (hl : acc.length + ((lev P 2).map Prod.fst).length ≤ 1000000) : loopM (fun a s => m__law_rows_L1 P (P.length : Int) a s) (rangeI 0 (P.length : Int)) acc = some (acc ++ (lev P 2).map Prod.fst) := by
  rw [lev2] at hl ⊢
  refine loop_flat (c := 1000000) _ _ (fun a ha acc hacc => ?_) hl
  have ha := mem_rangeI ha
  show m__law_rows_L1 P (P.length : Int) a acc = _
  unfold m__law_rows_L1
  rw [rng2_ok (by omega) (by omega) (by omega) (by omega), bnd_some, ← flat_single]
  rw [← flat_single] at hacc
  rw [loop_flat (c := 1000000) (f := fun b s => m__law_rows_L2 P a b s) _ _ (fun b hb acc hacc => ?_) hacc, bnd_some]
  have hb := mem_rangeI hb
  show m__law_rows_L2 P a b acc = _
  unfold m__law_rows_L2
  simp only [List.length_singleton] at hacc
  rw [gt_at (by omega) (by omega), bnd_some, gt_at (by omega) (by omega), bnd_some, appG_ok (by omega), bnd_some]
theorem law_three {P : List Int} (hP : P.length ≤ 12) {acc : List (List Int)} (hl : acc.length + ((lev P 3).map Prod.fst).length ≤ 1000000) : loopM (fun a s => m__law_rows_L3 P (P.length : Int) a s) (rangeI 0 (P.length : Int)) acc = some (acc ++ (lev P 3).map Prod.fst) := by
  rw [lev3] at hl ⊢
  refine loop_flat (c := 1000000) _ _ (fun a ha acc hacc => ?_) hl
  have ha := mem_rangeI ha
  show m__law_rows_L3 P (P.length : Int) a acc = _
  unfold m__law_rows_L3
  rw [rng2_ok (by omega) (by omega) (by omega) (by omega), bnd_some]
  rw [loop_flat (c := 1000000) (f := fun b s => m__law_rows_L4 P (P.length : Int) a b s) _ _ (fun b hb acc hacc => ?_) hacc, bnd_some]
  have hb := mem_rangeI hb
  show m__law_rows_L4 P (P.length : Int) a b acc = _
  unfold m__law_rows_L4
  rw [rng2_ok (by omega) (by omega) (by omega) (by omega), bnd_some, ← flat_single]
  rw [← flat_single] at hacc
  rw [loop_flat (c := 1000000) (f := fun c s => m__law_rows_L5 P a b c s) _ _ (fun c hc acc hacc => ?_) hacc, bnd_some]
  have hc := mem_rangeI hc
  show m__law_rows_L5 P a b c acc = _
  unfold m__law_rows_L5
  simp only [List.length_singleton] at hacc
  rw [gt_at (by omega) (by omega), bnd_some, gt_at (by omega) (by omega), bnd_some, gt_at (by omega) (by omega), bnd_some, appG_ok (by omega), bnd_some]
theorem law_rows_ok {P : List Int} {mo : Nat} (hmo : mo ≤ 3) (hP : P.length ≤ 12) : m__law_rows P mo = some ((lvs P 0 mo).map Prod.fst) := by
  have hlen := lvs_len hmo hP
  have c1 := compM_ok (f := m__law_rows_C0) (g := fun x => [x]) P [] (fun x _ => rfl) (by simp; omega)
  rw [List.nil_append] at c1
  unfold m__law_rows
  obtain rfl | rfl | rfl | rfl : mo = 0 ∨ mo = 1 ∨ mo = 2 ∨ mo = 3 := by omega
  · rfl
  · show bnd (bnd (compM m__law_rows_C0 P []) _) _ = _
    rw [c1, bnd_some, catG_ok (by simp; omega), bnd_some, ← lev1]
    rfl
  · have hl : ((lev P 0 ++ (lev P 1 ++ lev P 2)) : List Rw).length ≤ 1885 := hlen
    simp only [List.length_append] at hl
    rw [show decide ((0 : Int) < ((2 : Nat) : Int)) = true from rfl, ifB_t, c1, bnd_some, catG_ok (by simp; omega), bnd_some, ← lev1, bnd_some, ltv_eq]
    rw [show decide ((1 : Int) < ((2 : Nat) : Int)) = true from rfl, ifB_t, rng1_ok (by omega) (by omega), bnd_some, law_two hP (by simp at hl ⊢; omega), bnd_some, bnd_some]
    rw [show decide ((2 : Int) < ((2 : Nat) : Int)) = false from rfl, ifB_f, bnd_some]
    rw [show lvs P 0 2 = lev P 0 ++ (lev P 1 ++ lev P 2) from rfl, List.map_append, List.map_append, ← List.append_assoc, show (lev P 0).map Prod.fst = [([] : List Int)] from rfl]
  · have hl : ((lev P 0 ++ (lev P 1 ++ (lev P 2 ++ lev P 3))) : List Rw).length ≤ 1885 := hlen
    simp only [List.length_append] at hl
    rw [show decide ((0 : Int) < ((3 : Nat) : Int)) = true from rfl, ifB_t, c1, bnd_some, catG_ok (by simp; omega), bnd_some, ← lev1, bnd_some, ltv_eq]
    rw [show decide ((1 : Int) < ((3 : Nat) : Int)) = true from rfl, ifB_t, rng1_ok (by omega) (by omega), bnd_some, law_two hP (by simp at hl ⊢; omega), bnd_some, bnd_some]
    rw [show decide ((2 : Int) < ((3 : Nat) : Int)) = true from rfl, ifB_t, bnd_some, law_three hP (by simp at hl ⊢; omega), bnd_some, bnd_some]
    rw [show lvs P 0 3 = lev P 0 ++ (lev P 1 ++ (lev P 2 ++ lev P 3)) from rfl, List.map_append, List.map_append, List.map_append, ← List.append_assoc, ← List.append_assoc, show (lev P 0).map Prod.fst = [([] : List Int)] from rfl]
end Bt

/-! The law's own reading of a wire. -/
namespace Bt
open PySem L2
/-- the frame that a wire is read as -/
def rd (w : List Int) : Option (Int × List Int) := match UT w with
  | .inl _ => none
  | .inr xs => RF xs
theorem lread_loop : ∀ (r : List Int) (n : Nat) (b : Int) (at_ : Nat) (acc : List Int), acc.length + r.length ≤ 100000 → n ≤ 5 →
    (∀ a, scan n b at_ acc r = .inl a → loopF (fun x s => m__law_read_L0 x s.1 s.2.1 s.2.2) r (acc, (n : Int), b) = some (.rt none)) ∧
    (∀ m out, scan n b at_ acc r = .inr (m, out) → ∃ l, loopF (fun x s => m__law_read_L0 x s.1 s.2.1 s.2.2) r (acc, (n : Int), b) = some (.nx (out, (m : Int), l)))
  | [], n, b, at_, acc, _, _ => ⟨fun a h => (by cases h), fun m out h => (by cases h; exact ⟨b, rfl⟩)⟩
  | x :: r, n, b, at_, acc, hz, h5 => by
    simp only [List.length_cons] at hz
    by_cases q : n = 5 ∧ x = b
    · rw [scan_in q]
      have hs : m__law_read_L0 x acc (n : Int) b = some (.rt none) := by
        unfold m__law_read_L0
        rw [decide_eq_true (show (n : Int) = 5 by omega), decide_eq_true q.2, Bool.and_self, ifB_t]
      refine ⟨fun a h => ?_, fun m out h => by cases h⟩
      show bnd (m__law_read_L0 x acc (n : Int) b) _ = _
      rw [hs, bnd_some]
      rfl
    · have hs : m__law_read_L0 x acc (n : Int) b = some (.nx (if n = 5 then acc else acc ++ [x], ((nr n b x : Nat) : Int), x)) := by
        unfold m__law_read_L0
        have e0 : ((decide ((n : Int) = 5)) && (decide (x = b))) = false := by
          by_cases c : n = 5
          · rw [decide_eq_false (fun h => q ⟨c, h⟩), Bool.and_false]
          · rw [decide_eq_false (by omega), Bool.false_and]
        have e1 : (ifB (decide (x = b)) ((n : Int) + 1) 1) = ((nr n b x : Nat) : Int) := by
          unfold nr
          by_cases c : x = b
          · rw [decide_eq_true c, if_pos c]; rfl
          · rw [decide_eq_false c, if_neg c]; rfl
        rw [e0, ifB_f]
        by_cases c : n = 5
        · rw [decide_eq_false (show ¬ (n : Int) < 5 by omega), ifB_f, bnd_some, ltv_eq, e1, if_pos c]
        · rw [decide_eq_true (show (n : Int) < 5 by omega), ifB_t, appG_ok (by omega), bnd_some, bnd_some, ltv_eq, e1, if_neg c]
      rw [scan_go q]
      have hgo : loopF (fun (x : Int) (s : List Int × Int × Int) => m__law_read_L0 x s.1 s.2.1 s.2.2) (x :: r) (acc, (n : Int), b) = loopF (fun x s => m__law_read_L0 x s.1 s.2.1 s.2.2) r (if n = 5 then acc else acc ++ [x], ((nr n b x : Nat) : Int), x) :=
        loopF_go (f := fun (x : Int) (s : List Int × Int × Int) => m__law_read_L0 x s.1 s.2.1 s.2.2) (x := x) hs
      rw [hgo]
      exact lread_loop r _ _ _ _ (by split <;> (try simp) <;> omega) (nr_5 h5 q)
theorem law_read_ok (w : List Int) (hw : Bits w) (hz : w.length ≤ 50000) : m__law_read w = some (rd w) := by
  unfold m__law_read rd UT
  rw [ltv_eq]
  have h := lread_loop w 0 (-1) 0 [] (by simp; omega) (by decide)
  cases hs : scan 0 (-1) 0 [] w with
  | inl a =>
    have := h.1 a hs
    rw [show (((0 : Nat)) : Int) = 0 from rfl] at this
    rw [this, fin_rt]
  | inr y =>
    obtain ⟨m, xs⟩ := y
    obtain ⟨l, e⟩ := h.2 m xs hs
    rw [show (((0 : Nat)) : Int) = 0 from rfl] at e
    have hb : Bits xs := scan_bits w _ _ _ [] _ _ hw (show Bits [] from fun _ h => nomatch h) hs
    have hlx : xs.length ≤ 50000 := by have := scan_len w _ _ _ _ _ _ hs; simp at this; omega
    rw [e, fin_nx]
    dsimp only
    by_cases c : m = 5
    · rw [decide_eq_true (show (m : Int) = 5 by omega), ifB_t, bnd_some, ifB_t, if_pos c]
    · rw [decide_eq_false (show ¬ (m : Int) = 5 by omega), ifB_f, if_neg c]
      dsimp only
      unfold RF
      by_cases h1 : xs.length < 27
      · rw [decide_eq_true (by omega), ifB_t, bnd_some, bnd_some, ifB_t, if_pos (.inl h1)]
      · have h0 : xs[0]? = some (xs[0]'(by omega)) := List.getElem?_eq_getElem (by omega)
        have ha : atI xs 0 = some (xs[0]'(by omega)) := by rw [atI_ok (by omega) (by omega)]; exact h0
        rw [decide_eq_false (by omega), ifB_f, ha, bnd_some, bnd_some, bnd_some]
        have hc : cutL xs (some (9 : Int)) (some (12 : Int)) = seg xs 9 3 := cut_nat xs 9 12 (by omega)
        have h8 := hn_seg3 hb
        by_cases c1 : xs[0]'(by omega) = 1
        · rw [decide_eq_true c1, ifB_t, if_pos (.inr (by rw [h0, c1]))]
        · rw [decide_eq_false c1, ifB_f, if_neg (by rw [h0]; simp [c1]; omega), hc, law_number_ok _ (seg_bits hb _ _), bnd_some]
          generalize hn 0 (seg xs 9 3) = n at h8
          by_cases c2 : xs.length = 27 + 8 * n
          · rw [decide_eq_true (show (xs.length : Int) = 27 + 8 * (n : Int) by omega), Bool.not_true, ifB_f, law_rest_ok xs hb, bnd_some, bnd_some]
            by_cases c3 : hr 0 xs = 0
            · have hc2 : cutL xs (some (1 : Int)) (some (9 : Int)) = seg xs 1 8 := cut_nat xs 1 9 (by omega)
              rw [c3, show (!decide (((0 : Nat) : Int) = (0 : Int))) = false from rfl, ifB_f, if_neg (by simp [c2]), hc2, law_number_ok _ (seg_bits hb _ _), bnd_some, rng1_ok (by omega) (by omega), bnd_some]
              rw [compM_ok (f := m__law_read_C1 xs) (g := fun k => ((hn 0 (seg xs (12 + 8 * k.toNat) 8) : Nat) : Int)) _ _ (fun k hk => by
                have := mem_rangeI hk
                obtain ⟨k, rfl⟩ := Int.eq_ofNat_of_zero_le this.1
                unfold m__law_read_C1
                have hc3 := cut_nat xs (12 + 8 * k) (20 + 8 * k) (by omega)
                rw [show 20 + 8 * k - (12 + 8 * k) = 8 by omega] at hc3
                rw [show (12 : Int) + 8 * (k : Int) = ((12 + 8 * k : Nat) : Int) by omega, show (20 : Int) + 8 * (k : Int) = ((20 + 8 * k : Nat) : Int) by omega, hc3, law_number_ok _ (seg_bits hb _ _), bnd_some]
                rfl) (by rw [rangeI_length]; simp; omega), bnd_some]
              congr 3
              unfold rangeI
              rw [List.nil_append, List.map_map, show ((n : Int) - 0).toNat = n by omega]
              refine List.map_congr_left fun k _ => ?_
              simp only [Function.comp]
              rw [show ((0 : Int) + (k : Int)).toNat = k by omega]
            · rw [show (!decide (((hr 0 xs : Nat) : Int) = (0 : Int))) = true by rw [decide_eq_false (by omega)]; rfl, ifB_t, if_pos (.inr c3)]
          · rw [decide_eq_false (show ¬ (xs.length : Int) = 27 + 8 * (n : Int) by omega), Bool.not_false, ifB_t, bnd_some, ifB_t, if_pos (.inl c2)]
end Bt

/-! The bits put in, plain. -/
namespace Bt
open PySem L2
def stf : Nat → Int → List Int → List Int × Nat × Int
  | n, b, [] => ([], n, b)
  | n, b, x :: r => if nr n b x = 5 then (x :: (1 - x) :: (stf 1 (1 - x) r).1, (stf 1 (1 - x) r).2) else (x :: (stf (nr n b x) x r).1, (stf (nr n b x) x r).2)
theorem stf_5 {n : Nat} {b x : Int} {r : List Int} (c : nr n b x = 5) : stf n b (x :: r) = (x :: (1 - x) :: (stf 1 (1 - x) r).1, (stf 1 (1 - x) r).2) := by rw [stf, if_pos c]
theorem stf_4 {n : Nat} {b x : Int} {r : List Int} (c : nr n b x ≠ 5) : stf n b (x :: r) = (x :: (stf (nr n b x) x r).1, (stf (nr n b x) x r).2) := by rw [stf, if_neg c]
theorem stf_app : ∀ (xs ys : List Int) (n : Nat) (b : Int), stf n b (xs ++ ys) = ((stf n b xs).1 ++ (stf (stf n b xs).2.1 (stf n b xs).2.2 ys).1, (stf (stf n b xs).2.1 (stf n b xs).2.2 ys).2)
  | [], ys, n, b => rfl
  | x :: r, ys, n, b => by
    rw [List.cons_append]
    by_cases c : nr n b x = 5
    · rw [stf_5 c, stf_5 c, stf_app r ys]
      rfl
    · rw [stf_4 c, stf_4 c, stf_app r ys]
      rfl
theorem stf_one (n : Nat) (b x : Int) : stf n b [x] = if nr n b x = 5 then ([x, 1 - x], 1, 1 - x) else ([x], nr n b x, x) := by
  by_cases c : nr n b x = 5
  · rw [stf_5 c, if_pos c]; rfl
  · rw [stf_4 c, if_neg c]; rfl
theorem stf_put : ∀ (xs p : List Int) (n : Nat) (b : Int), Bits xs → p.length + 2 * xs.length ≤ 90000 → loopM (fun x s => m_put_in_L0 x s.1 s.2.1 s.2.2) xs (p, (n : Int), b) = some (p ++ (stf n b xs).1, (((stf n b xs).2.1 : Nat) : Int), (stf n b xs).2.2)
  | [], p, n, b, _, _ => by simp [loopM, stf]
  | x :: xs, p, n, b, hb, hz => by
    simp only [List.length_cons] at hz
    have hs := pi_step (p := p) (n := n) (b := b) hb.hd (by omega)
    have hgo : loopM (fun (x : Int) (s : List Int × Int × Int) => m_put_in_L0 x s.1 s.2.1 s.2.2) (x :: xs) (p, (n : Int), b) = loopM (fun x s => m_put_in_L0 x s.1 s.2.1 s.2.2) xs (if nr n b x = 5 then (p ++ [x] ++ [1 - x], 1, 1 - x) else (p ++ [x], ((nr n b x : Nat) : Int), x)) :=
      loopM_go (f := fun (x : Int) (s : List Int × Int × Int) => m_put_in_L0 x s.1 s.2.1 s.2.2) hs
    rw [hgo]
    by_cases c : nr n b x = 5
    · have ih := stf_put xs (p ++ [x] ++ [1 - x]) 1 (1 - x) hb.tl (by simp; omega)
      rw [show (((1 : Nat)) : Int) = 1 from rfl] at ih
      rw [if_pos c, ih, stf_5 c]
      simp
    · rw [if_neg c, stf_put xs (p ++ [x]) _ x hb.tl (by simp; omega), stf_4 c]
      simp
def wr (xs : List Int) : List Int := (stf 0 (-1) xs).1
theorem put_wr (xs : List Int) (h : Bits xs) (hz : xs.length ≤ 40000) : m_put_in xs = some (wr xs) ∧ Bits (wr xs) ∧ (wr xs).length ≤ 2 * xs.length ∧ xs.length ≤ (wr xs).length ∧ UT (wr xs) = .inr xs := by
  have e : m_put_in xs = some (wr xs) := by
    have h1 := stf_put xs [] 0 (-1) h (by simp; omega)
    unfold m_put_in
    rw [show (((0 : Nat)) : Int) = 0 from rfl] at h1
    rw [ltv_eq, h1, bnd_some]
    rfl
  obtain ⟨w, h1, h2, h3, h4, h5, _⟩ := put_in_ok xs h hz
  rw [e] at h1
  cases h1
  exact ⟨e, h2, h3, h4, h5⟩
end Bt

/-! The law's own frame, its own wire with owners, its own change of places. -/
namespace Bt
open PySem L2
theorem comp_bl {c n : Nat} {f : Int → Option Int} (hf : ∀ k : Int, 0 ≤ k → k < n → f k = some ((c / 2 ^ (n - 1 - k.toNat) % 2 : Nat) : Int)) (hn : n ≤ 100000) : compM f (rangeI 0 (n : Int)) [] = some (bl c n) := by
  have e : compM f (rangeI 0 n) [] = some ([] ++ (rangeI 0 n).map fun k => ((c / 2 ^ (n - 1 - k.toNat) % 2 : Nat) : Int)) := by
    refine compM_ok _ _ (fun k hk => ?_) (by rw [rangeI_length]; simp; omega)
    have := mem_rangeI hk
    exact hf k this.1 this.2
  rw [e]
  congr 1
  unfold bl rangeI
  rw [List.nil_append, List.map_map, show ((n : Int) - 0).toNat = n by omega]
  refine List.map_congr_left fun k _ => ?_
  simp only [Function.comp]
  rw [show ((0 : Int) + (k : Int)).toNat = k by omega]
theorem lfb_loop : ∀ (D : List Nat) (bits : List Int), bits.length + 8 * D.length ≤ 10000 → loopM (fun b s => m__law_frame_bits_L2 b s) (ci D) bits = some (bits ++ bs D)
  | [], bits, _ => by rw [show bs [] = [] from rfl, List.append_nil]; rfl
  | d :: r, bits, hz => by
    simp only [List.length_cons] at hz
    show loopM _ ((d : Int) :: ci r) _ = _
    have hst : m__law_frame_bits_L2 (d : Int) bits = some (bits ++ bl d 8) := by
      unfold m__law_frame_bits_L2
      rw [rng1_ok (by decide) (by decide), bnd_some, show (8 : Int) = ((8 : Nat) : Int) from rfl, comp_bl (c := d) (n := 8) (fun k k0 k1 => by
        unfold m__law_frame_bits_C3
        rw [show (7 : Int) - k = ((8 - 1 - k.toNat : Nat) : Int) by omega, shrN, bnd_some, ba1]) (by decide), bnd_some, catG_ok (by rw [bl_len]; omega), bnd_some]
    rw [loopM_go hst, lfb_loop r (bits ++ bl d 8) (by rw [List.length_append, bl_len]; omega), List.append_assoc]
    rfl
theorem law_frame_bits_ok (name : Nat) (D : List Nat) (hl : D.length ≤ 7) : m__law_frame_bits (name : Int) (ci D) = some (fb name D) := by
  unfold m__law_frame_bits
  rw [rng1_ok (by decide) (by decide), bnd_some, show (8 : Int) = ((8 : Nat) : Int) from rfl, comp_bl (c := name) (n := 8) (fun k k0 k1 => by
    unfold m__law_frame_bits_C0
    rw [show (7 : Int) - k = ((8 - 1 - k.toNat : Nat) : Int) by omega, shrN, bnd_some, ba1]) (by decide), bnd_some, catG_ok (by rw [bl_len]; decide), bnd_some]
  rw [rng1_ok (by decide) (by decide), bnd_some, show (3 : Int) = ((3 : Nat) : Int) from rfl, comp_bl (c := D.length) (n := 3) (fun k k0 k1 => by
    unfold m__law_frame_bits_C1
    rw [ci_len, show (2 : Int) - k = ((3 - 1 - k.toNat : Nat) : Int) by omega, shrN, bnd_some, ba1]) (by decide), bnd_some, catG_ok (by rw [List.length_append, bl_len, bl_len]; decide), bnd_some]
  rw [lfb_loop D _ (by simp [bl_len]; omega), bnd_some]
  show bnd (repG [(0 : Int)] 15) (fun t_54 => bnd (catG (hd name D) t_54) _) = _
  rw [repG_ok (by decide) (by decide) (by decide), bnd_some]
  show bnd (catG (hd name D) (zs 15)) _ = _
  have hlen := hd_len name D
  rw [catG_ok (by unfold zs; simp; omega), bnd_some, law_rest_ok _ ((hd_bits name D).app (zs_bits 15)), bnd_some]
  show bnd (rng1 15) _ = _
  rw [rng1_ok (by decide) (by decide), bnd_some]
  show bnd (compM (m__law_frame_bits_C4 ((ck (hd name D) : Nat) : Int)) (rangeI 0 ((15 : Nat) : Int)) []) _ = _
  rw [comp_bl (c := ck (hd name D)) (n := 15) (fun k k0 k1 => by
    unfold m__law_frame_bits_C4
    rw [show (14 : Int) - k = ((15 - 1 - k.toNat : Nat) : Int) by omega, shrN, bnd_some, ba1]) (by decide), bnd_some]
  show bnd (catG (hd name D) (bl (ck (hd name D)) 15)) _ = _
  rw [catG_ok (by rw [bl_len]; omega), bnd_some]
  rfl
theorem stf_last : ∀ (xs : List Int) (n : Nat) (b : Int), xs ≠ [] → ∃ t, (stf n b xs).1 = t ++ [(stf n b xs).2.2]
  | [], _, _, h => absurd rfl h
  | x :: r, n, b, _ => by
    by_cases c : nr n b x = 5
    · rw [stf_5 c]
      cases r with
      | nil => exact ⟨[x], rfl⟩
      | cons y s =>
        obtain ⟨t, ht⟩ := stf_last (y :: s) 1 (1 - x) (by simp)
        exact ⟨x :: (1 - x) :: t, by dsimp only; rw [ht]; rfl⟩
    · rw [stf_4 c]
      cases r with
      | nil => exact ⟨[], rfl⟩
      | cons y s =>
        obtain ⟨t, ht⟩ := stf_last (y :: s) (nr n b x) x (by simp)
        exact ⟨x :: t, by dsimp only; rw [ht]; rfl⟩
theorem stf_len : ∀ (xs : List Int) (n : Nat) (b : Int), xs.length ≤ (stf n b xs).1.length ∧ (stf n b xs).1.length ≤ 2 * xs.length
  | [], _, _ => by simp [stf]
  | x :: r, n, b => by
    by_cases c : nr n b x = 5
    · rw [stf_5 c]
      have := stf_len r 1 (1 - x)
      simp only [List.length_cons]
      omega
    · rw [stf_4 c]
      have := stf_len r (nr n b x) x
      simp only [List.length_cons]
      omega
/-- the law's own wire: the bits put in, and for each bit its place among the owners -/
theorem law_wire_ok {bits : List Int} (hb : Bits bits) (hz : bits.length ≤ 1000) : ∃ ow : List Int, m__law_wire bits = some (wr bits, ow) ∧ ow.length = (wr bits).length ∧ ∀ k : Nat, k < bits.length → (k : Int) ∈ ow := by
  unfold m__law_wire
  rw [rng1_ok (by omega) (by omega), bnd_some]
  obtain ⟨out, e, k, hk, ow, ho, hl, hm⟩ := loopM_rng (f := fun k (s : List Int × List Int × Int) => m__law_wire_L0 bits k s.1 s.2.1 s.2.2) (hi := (bits.length : Int)) (fun i (s : List Int × List Int × Int) => ∃ k : Nat, i = k ∧ ∃ ow : List Int, s = ((stf 0 (-1) (bits.take k)).1, ow, (((stf 0 (-1) (bits.take k)).2.1 : Nat) : Int)) ∧ ow.length = (stf 0 (-1) (bits.take k)).1.length ∧ ∀ j : Nat, j < k → (j : Int) ∈ ow) (by
    rintro i s hi ⟨k, rfl, ow, rfl, hl, hm⟩
    have hk : k < bits.length := by omega
    have he : atI bits (k : Int) = some bits[k] := by rw [atI_ok (by omega) (by omega)]; exact List.getElem?_eq_getElem hk
    have hx : bits[k] = 0 ∨ bits[k] = 1 := hb _ (List.getElem_mem hk)
    have ht : bits.take (k + 1) = bits.take k ++ [bits[k]] := by rw [List.take_add_one, List.getElem?_eq_getElem hk]; rfl
    generalize bits[k] = x at he ht hx
    have hsl := stf_len (bits.take k) 0 (-1)
    have hkl : (bits.take k).length = k := by rw [List.length_take]; omega
    have hlast : k ≠ 0 → ∃ t, (stf 0 (-1) (bits.take k)).1 = t ++ [(stf 0 (-1) (bits.take k)).2.2] := fun h => stf_last _ _ _ (fun z => by rw [z] at hkl; simp at hkl; omega)
    have h00 : k = 0 → stf 0 (-1) (bits.take k) = ([], 0, -1) := fun h => by subst h; rfl
    refine ⟨_, ?_, k + 1, by omega, if nr (stf 0 (-1) (bits.take k)).2.1 (stf 0 (-1) (bits.take k)).2.2 x = 5 then ow ++ [(k : Int)] ++ [-1] else ow ++ [(k : Int)], rfl, ?_, fun j hj => ?_⟩
    · rw [ht, stf_app, stf_one]
      generalize stf 0 (-1) (bits.take k) = q at hsl hlast h00 hl
      obtain ⟨u, n, b⟩ := q
      dsimp only at hsl hlast h00 hl ⊢
      unfold m__law_wire_L0
      have ec : (ifB (decide ((0 : Int) < (List.length u : Int))) (bnd (atI u ((List.length u : Int) - (1 : Int))) fun e_27 => bnd (atI bits (k : Int)) fun e_29 => some (decide (e_27 = e_29))) (some false)) = some (decide (x = b)) := by
        by_cases c : k = 0
        · have := h00 c
          cases this
          rw [decide_eq_false (by simp), ifB_f, decide_eq_false (by omega)]
        · obtain ⟨t, rfl⟩ := hlast c
          have ea : atI (t ++ [b]) (((t ++ [b]).length : Int) - 1) = some b := by
            rw [atI_ok (by simp) (by omega), show (((t ++ [b]).length : Int) - 1).toNat = t.length by simp]
            simp
          rw [decide_eq_true (by simp), ifB_t, ea, bnd_some, he, bnd_some]
          congr 1
          exact decide_eq_decide.mpr ⟨fun h => h.symm, fun h => h.symm⟩
      have e1 : (ifB (decide (x = b)) (some ((n : Int) + 1)) (some (1 : Int))) = some ((nr n b x : Nat) : Int) := by
        unfold nr
        by_cases c : x = b
        · rw [decide_eq_true c, if_pos c]; rfl
        · rw [decide_eq_false c, if_neg c]; rfl
      rw [ec, bnd_some, e1, bnd_some, he, bnd_some, appG_ok (by omega), bnd_some, appG_ok (by omega), bnd_some]
      by_cases c : nr n b x = 5
      · rw [decide_eq_true (show ((nr n b x : Nat) : Int) = 5 by omega), ifB_t, bnd_some, appG_ok (by simp; omega), bnd_some, appG_ok (by simp; omega), bnd_some, if_pos c, if_pos c]
        simp
      · rw [decide_eq_false (show ¬ ((nr n b x : Nat) : Int) = 5 by omega), ifB_f, if_neg c, if_neg c]
    · rw [ht, stf_app, stf_one]
      split <;> simp <;> omega
    · have : (j : Int) ∈ ow ++ [(k : Int)] := by
        by_cases c : j < k
        · exact List.mem_append_left _ (hm j c)
        · exact List.mem_append_right _ (by rw [show j = k by omega]; exact List.Mem.head _)
      split
      · exact List.mem_append_left _ this
      · exact this) bits.length 0 (([] : List Int), ([] : List Int), (0 : Int)) (by omega) (by omega) ⟨0, rfl, [], rfl, rfl, fun j h => absurd h (by omega)⟩
  have hkb : k = bits.length := by omega
  subst hkb
  rw [List.take_length] at ho hl
  rw [e, bnd_some, ho]
  exact ⟨ow, rfl, hl, hm⟩
end Bt

namespace Bt
open PySem L2
theorem idx_in : ∀ {xs : List Int} {x : Int}, x ∈ xs → ∃ j, idxL xs x = some j ∧ 0 ≤ j ∧ j < (xs.length : Int)
  | [], _, h => nomatch h
  | y :: r, x, h => by
    by_cases c : y = x
    · exact ⟨0, by unfold idxL; rw [if_pos c], by decide, by rw [List.length_cons]; omega⟩
    · obtain ⟨j, h1, h2, h3⟩ := idx_in (xs := r) (x := x) (by
        rcases List.mem_cons.mp h with z | z
        · exact absurd z.symm c
        · exact z)
      exact ⟨j + 1, by unfold idxL; rw [if_neg c, h1], by omega, by rw [List.length_cons]; omega⟩
theorem lb_loop : ∀ (D : List Nat) (bits : List Int), bits.length + 8 * D.length ≤ 10000 → loopM (fun b s => m_law_L2 b s) (ci D) bits = some (bits ++ bs D)
  | [], bits, _ => by rw [show bs [] = [] from rfl, List.append_nil]; rfl
  | d :: r, bits, hz => by
    simp only [List.length_cons] at hz
    show loopM _ ((d : Int) :: ci r) _ = _
    have hst : m_law_L2 (d : Int) bits = some (bits ++ bl d 8) := by
      unfold m_law_L2
      rw [rng1_ok (by decide) (by decide), bnd_some, show (8 : Int) = ((8 : Nat) : Int) from rfl, comp_bl (c := d) (n := 8) (fun k k0 k1 => by
        unfold m_law_C3
        rw [show (7 : Int) - k = ((8 - 1 - k.toNat : Nat) : Int) by omega, shrN, bnd_some, ba1]) (by decide), bnd_some, catG_ok (by rw [bl_len]; omega), bnd_some]
    rw [loopM_go hst, lb_loop r (bits ++ bl d 8) (by rw [List.length_append, bl_len]; omega), List.append_assoc]
    rfl
theorem told_len {z : Int} (hz : z = 0 ∨ z = 1) : ∃ T, m__law_told_bits z = some T ∧ Bits T ∧ T.length = 26 := by
  rcases hz with rfl | rfl
  · exact ⟨[0,1,0,0,0,0,0,1,1,0,1,0,0,1,1,0,0,1,1,0,0,0,0,1,1,0], by decide, by unfold Bits; decide, rfl⟩
  · exact ⟨[1,0,1,1,1,1,1,0,0,1,0,1,1,0,0,1,1,0,0,1,1,1,1,0,0,1], by decide, by unfold Bits; decide, rfl⟩
theorem bytes_ok (ns : List Int) {f : Int → Option Int} (hf : ∀ k, f k = bnd (m__law_draw ns ((20 : Int) + k) (256 : Int)) fun d => some d) {n : Int} (h0 : 0 ≤ n) (h1 : n ≤ 7) : ∃ D : List Nat, compM f (rangeI 0 n) [] = some (ci D) ∧ (∀ d ∈ D, d < 256) ∧ (D.length : Int) = n := by
  obtain ⟨out, e2, lo, ho⟩ := compM_all (f := f) (P := fun y => ∃ n : Nat, y = (n : Int) ∧ n < 256) (rangeI 0 n) [] (fun k hk => by
    have := mem_rangeI hk
    obtain ⟨v, e, v0, v1⟩ := draw_ok ns (20 + k) 256 (by omega) (by omega) (by decide)
    obtain ⟨n, rfl⟩ := Int.eq_ofNat_of_zero_le v0
    exact ⟨_, by rw [hf, e, bnd_some], n, rfl, by omega⟩) (by rw [rangeI_length]; simp; omega) (fun _ h => (nomatch h))
  obtain ⟨D, rfl, hD⟩ := ci_of out 256 ho
  rw [rangeI_length, ci_len, List.length_nil] at lo
  exact ⟨D, e2, hD, by omega⟩
def PIn (n : Nat) (P : List Int) : Prop := ∀ p ∈ P, 0 ≤ p ∧ p < (n : Int)
theorem places_ok (ns : List Int) {w some_ : List Int} (hw : 0 < w.length) (hz : w.length ≤ 1000) (hs : PIn w.length some_) (hl : some_.length ≤ 2) : ∃ P, m__law_places ns w some_ = some P ∧ PIn w.length P ∧ P.length ≤ 12 := by
  unfold m__law_places
  obtain ⟨a, e1, a0, a1⟩ := draw_ok ns 5 5 (by decide) (by decide) (by decide)
  obtain ⟨b, e2, b0, b1⟩ := draw_ok ns 6 8 (by decide) (by decide) (by decide)
  obtain ⟨c, e3, c0, c1⟩ := draw_ok ns 5 8 (by decide) (by decide) (by decide)
  obtain ⟨d, e4, d0, d1⟩ := draw_ok ns 7 (w.length : Int) (by decide) (by decide) (by omega)
  obtain ⟨s1, f1, g1⟩ : ∃ s1, (ifB (decide (b = (0 : Int))) (bnd (m__law_draw ns (5 : Int) (8 : Int)) fun law_dr_15 => some law_dr_15) (some a)) = some s1 ∧ 0 ≤ s1 ∧ s1 ≤ 12 := by
    by_cases q : b = 0
    · exact ⟨c, by rw [decide_eq_true q, ifB_t, e3, bnd_some], by omega, by omega⟩
    · exact ⟨a, by rw [decide_eq_false q, ifB_f], by omega, by omega⟩
  obtain ⟨cc, f2⟩ : ∃ cc, (ifB (decide ((List.length w : Int) < (48 : Int))) (bnd (m__law_draw ns (6 : Int) (8 : Int)) fun law_dr_20 => some (decide (law_dr_20 = (1 : Int)))) (some false)) = some cc := by
    by_cases q : (w.length : Int) < 48
    · exact ⟨_, by rw [decide_eq_true q, ifB_t, e2, bnd_some]⟩
    · exact ⟨_, by rw [decide_eq_false q, ifB_f]⟩
  obtain ⟨s2, f3, g3⟩ : ∃ s2, (ifB cc (bnd (m__law_draw ns (5 : Int) (5 : Int)) fun law_dr_26 => some ((8 : Int) + law_dr_26)) (some s1)) = some s2 ∧ 0 ≤ s2 ∧ s2 ≤ 12 := by
    cases cc with
    | true => exact ⟨8 + a, by rw [ifB_t, e1, bnd_some], by omega, by omega⟩
    | false => exact ⟨s1, rfl, g1⟩
  obtain ⟨s2m, hs2m⟩ : ∃ q : Int, q = s2 - (some_.length : Int) := ⟨_, rfl⟩
  have f3' := f3
  rw [e1, bnd_some, e2, bnd_some, f1, bnd_some]
  have f2' := f2
  rw [e2] at f2'
  rw [f2', bnd_some]
  have f4 := f3
  rw [e1] at f4
  rw [f4, bnd_some, e4, bnd_some, ← hs2m]
  have step : ∀ (i : Int) (s : List Int), i < s2m → (0 ≤ i ∧ PIn w.length s ∧ (s.length : Int) ≤ some_.length + i) → ∃ s', m__law_places_L0 ns w d i s = some s' ∧ (0 ≤ i + 1 ∧ PIn w.length s' ∧ (s'.length : Int) ≤ some_.length + (i + 1)) := by
    rintro i s hi ⟨i0, hp, hsl⟩
    obtain ⟨p, k1, p0, p1⟩ := draw_ok ns ((40 : Int) + (2 : Int) * i) (w.length : Int) (by omega) (by omega) (by omega)
    obtain ⟨q, k2, _, _⟩ := draw_ok ns 8 2 (by decide) (by decide) (by decide)
    obtain ⟨t, k3, t0, _⟩ := draw_ok ns ((40 : Int) + (2 : Int) * i) 12 (by omega) (by omega) (by decide)
    obtain ⟨j, k4, j0, j1⟩ := draw_ok ns ((41 : Int) + (2 : Int) * i) ((s.length : Int) + 1) (by omega) (by omega) (by omega)
    obtain ⟨j, rfl⟩ := Int.eq_ofNat_of_zero_le j0
    obtain ⟨v, k5, v0, v1⟩ : ∃ v, (ifB (decide (q = (0 : Int))) (bnd (m__law_draw ns ((40 : Int) + ((2 : Int) * i)) (12 : Int)) fun law_dr_51 => bnd (modG (d + law_dr_51) (List.length w : Int)) fun t_53 => some t_53) (some p)) = some v ∧ 0 ≤ v ∧ v < (w.length : Int) := by
      by_cases z : q = 0
      · refine ⟨(d + t) % (w.length : Int), by rw [decide_eq_true z, ifB_t, k3, bnd_some, modG_ok (by omega), bnd_some], Int.emod_nonneg _ (by omega), Int.emod_lt_of_pos _ (by omega)⟩
      · exact ⟨p, by rw [decide_eq_false z, ifB_f], p0, p1⟩
    unfold m__law_places_L0
    rw [k1, bnd_some, k2, bnd_some, k5, bnd_some]
    by_cases z : v ∈ s
    · rw [decide_eq_true z]
      exact ⟨s, rfl, by omega, hp, by omega⟩
    · have hi : insG s (j : Int) v = some (s.take j ++ [v] ++ s.drop j) := grd_of ⟨by show _ < 16777216; omega, by omega, by omega⟩
      rw [decide_eq_false z, Bool.not_false, ifB_t, k4, bnd_some, hi, bnd_some]
      refine ⟨_, rfl, by omega, fun x hx => ?_, by simp; omega⟩
      rcases List.mem_append.mp hx with h | h
      · rcases List.mem_append.mp h with h | h
        · exact hp x (List.mem_of_mem_take h)
        · rw [List.mem_singleton.mp h]; exact ⟨v0, v1⟩
      · exact hp x (List.mem_of_mem_drop h)
  rw [rng1_ok (by omega) (by omega), bnd_some]
  by_cases hneg : s2m ≤ 0
  · rw [rangeI_nil hneg]
    exact ⟨some_, rfl, hs, by omega⟩
  · obtain ⟨P, h1, _, h2, h3⟩ := loopM_rng (f := fun k_40 s => m__law_places_L0 ns w d k_40 s) (hi := s2m) (fun i s => 0 ≤ i ∧ PIn w.length s ∧ (s.length : Int) ≤ some_.length + i) step s2m.toNat 0 some_ (by omega) (by omega) ⟨by omega, hs, by omega⟩
    rw [h1, bnd_some]
    exact ⟨P, rfl, h2, by omega⟩
theorem turned_ok : ∀ (row w : List Int), Bits w → (∀ p ∈ row, outP w p = false) → loopM (fun p s => m_law_L6 p s) row w = some (tn w row)
  | [], w, _, _ => rfl
  | p :: r, w, hw, hr => by
    have hp := hr p (List.Mem.head _)
    unfold outP at hp
    rw [Bool.or_eq_false_iff, decide_eq_false_iff_not, decide_eq_false_iff_not] at hp
    have hlt : p.toNat < w.length := by omega
    have hx : atI w p = some (w.getD p.toNat 0) := by
      rw [atI_ok (by omega) (by omega), List.getD_eq_getElem?_getD, List.getElem?_eq_getElem hlt]
      rfl
    have hb : w.getD p.toNat 0 = 0 ∨ w.getD p.toNat 0 = 1 := by
      rw [List.getD_eq_getElem?_getD, List.getElem?_eq_getElem hlt]
      exact hw _ (List.getElem_mem hlt)
    have hst : m_law_L6 p w = some (fl1 w p.toNat) := by
      unfold m_law_L6 fl1
      rw [hx, bnd_some, setG_ok (by omega) (by omega), bnd_some, xor1' hb]
    rw [loopM_go hst]
    exact turned_ok r (fl1 w p.toNat) (fl1_bits hw hlt) (fun q hq => by
      have := hr q (List.Mem.tail _ hq)
      unfold outP at this ⊢
      rw [fl1_len]
      exact this)
theorem ot_rd (w : List Int) (own : Int × List Int) : ot w own = match rd w with | none => none | some f => if f = own then none else some f := by
  unfold ot rd
  cases UT w <;> rfl
theorem due_ok {name : Int} {data w ow : List Int} (hb : Bits w) (hz : w.length ≤ 50000) : ∀ (R : List (List Int)) (acc : List SL), (∀ r ∈ R, ∀ p ∈ r, outP w p = false) → acc.length + R.length ≤ 100000 →
    loopM (fun row s => m_law_L5 name data (w, ow) row s) R acc = some (acc ++ R.filterMap (gs w (name, data)))
  | [], acc, _, _ => by simp [loopM]
  | row :: R, acc, h, hl => by
    rw [List.length_cons] at hl
    have hr := h row (List.Mem.head _)
    obtain ⟨_, c2, c3⟩ := changed_is hb hr
    have ih := fun acc hl => due_ok (name := name) (data := data) (ow := ow) hb hz R acc (fun r hr => h r (List.Mem.tail _ hr)) hl
    rw [List.filterMap_cons]
    have hst : m_law_L5 name data (w, ow) row acc = some (match gs w (name, data) row with | none => acc | some y => acc ++ [y]) := by
      unfold m_law_L5 gs
      rw [turned_ok row w hb hr, bnd_some, law_read_ok _ c2 (by omega), bnd_some, ot_rd]
      cases rd (tn w row) with
      | none => rfl
      | some f =>
        dsimp only
        by_cases c : f = (name, data)
        · rw [if_pos c, decide_eq_true (by rw [c])]; rfl
        · rw [if_neg c, decide_eq_false (fun e => c (Option.some.inj e))]
          show ifB true _ _ = _
          rw [ifB_t, appG_ok (by omega), bnd_some]
          rfl
    rw [loopM_go hst]
    cases gs w (name, data) row with
    | none => exact ih acc (by omega)
    | some f =>
      show loopM _ R (acc ++ [f]) = _
      rw [ih _ (by simp; omega)]
      simp
theorem RF_small {xs : List Int} (hb : Bits xs) {f : Int × List Int} (h : RF xs = some f) : f.2.length ≤ 7 := by
  have h8 := hn_seg3 hb
  unfold RF at h
  split at h
  · cases h
  · split at h
    · cases h
    · cases h
      simp
      omega
set_option maxHeartbeats 800000 in
theorem law_true (ns : List Int) (_hns : ns.length ≤ 63) : m_law ns = some true := by
  unfold m_law
  obtain ⟨name, e1, t0, t1⟩ := draw_ok ns 0 256 (by decide) (by decide) (by decide)
  obtain ⟨name, rfl⟩ := Int.eq_ofNat_of_zero_le t0
  obtain ⟨n, e2, n0, n1⟩ := draw_ok ns 1 8 (by decide) (by decide) (by decide)
  obtain ⟨D0, e3, hD0, lD0⟩ := bytes_ok ns (f := m_law_C0 ns) (fun k => rfl) n0 (by omega)
  obtain ⟨td, e4, _, _⟩ := draw_ok ns 2 2 (by decide) (by decide) (by decide)
  have hname : name < 256 := by omega
  rw [e1, bnd_some, e2, bnd_some, rng1_ok (by omega) (by omega), bnd_some, e3, bnd_some, e4, bnd_some, ltv_eq]
  obtain ⟨told, htd⟩ : ∃ b, b = decide (td = (0 : Int)) := ⟨_, rfl⟩
  rw [← htd]
  obtain ⟨D, a, e5, hD, lD, hat⟩ : ∃ (D : List Nat) (a : Int), (ifB told (
    bnd (m__law_draw ns (1 : Int) (4 : Int)) fun law_dr_26 =>
    bnd (rng1 ((4 : Int) + law_dr_26)) fun rg_28 =>
    bnd (compM (m_law_C1 ns) rg_28 []) fun l_31 =>
    bnd (m__law_draw ns (3 : Int) (((8 : Int) * (List.length l_31 : Int)) - (25 : Int))) fun law_dr_40 =>
    bnd (loopM (fun byte_50 s => m_law_L2 byte_50 s) l_31 ([] : List Int)) fun bits_46 =>
    bnd (m__law_draw ns (4 : Int) (2 : Int)) fun law_dr_67 =>
    bnd (m__law_told_bits law_dr_67) fun law_to_69 =>
    bnd (catG (cutL bits_46 none (some law_dr_40)) law_to_69) fun t_72 =>
    bnd (catG t_72 (cutL bits_46 (some (law_dr_40 + (26 : Int))) none)) fun t_76 =>
    bnd (rng1 (List.length l_31 : Int)) fun rg_79 =>
    bnd (compM (m_law_C4 t_76) rg_79 []) fun l_82 =>
    some (l_82, law_dr_40)) (
    some (ci D0, (0 : Int)))) = some (ci D, a) ∧ (∀ d ∈ D, d < 256) ∧ D.length ≤ 7 ∧ (told = true → 0 ≤ a ∧ a + 26 ≤ 8 * (D.length : Int)) := by
    cases told with
    | false => exact ⟨D0, 0, rfl, hD0, by omega, fun h => nomatch h⟩
    | true =>
      obtain ⟨m, g1, m0, m1⟩ := draw_ok ns 1 4 (by decide) (by decide) (by decide)
      obtain ⟨D1, g2, hD1, lD1⟩ := bytes_ok ns (f := m_law_C1 ns) (fun k => rfl) (n := 4 + m) (by omega) (by omega)
      obtain ⟨a, g3, a0, a1⟩ := draw_ok ns 3 (8 * (D1.length : Int) - 25) (by decide) (by decide) (by omega)
      obtain ⟨a, rfl⟩ := Int.eq_ofNat_of_zero_le a0
      obtain ⟨z, g4, z0, z1⟩ := draw_ok ns 4 2 (by decide) (by decide) (by decide)
      obtain ⟨T, g5, hT, lT⟩ := told_len (z := z) (by omega)
      have hl := bs_len D1
      rw [ifB_t, g1, bnd_some, rng1_ok (by omega) (by omega), bnd_some, g2, bnd_some, ci_len, g3, bnd_some, lb_loop D1 [] (by simp; omega), bnd_some, List.nil_append, g4, bnd_some, g5, bnd_some]
      rw [cut_to, show (a : Int) + 26 = ((a + 26 : Nat) : Int) from rfl, cut_fr]
      have lX : ((bs D1).take a).length = a := by rw [List.length_take]; omega
      have lY : ((bs D1).drop (a + 26)).length = 8 * D1.length - a - 26 := by rw [List.length_drop]; omega
      have hX : Bits ((bs D1).take a) := fun b q => bs_bits D1 b (List.mem_of_mem_take q)
      have hY : Bits ((bs D1).drop (a + 26)) := fun b q => bs_bits D1 b (List.mem_of_mem_drop q)
      generalize (bs D1).take a = X at lX hX
      generalize (bs D1).drop (a + 26) = Y at lY hY
      rw [catG_ok (by omega), bnd_some, catG_ok (by rw [List.length_append]; omega), bnd_some, rng1_ok (by omega) (by omega), bnd_some]
      have hb : Bits (X ++ T ++ Y) := (hX.app hT).app hY
      generalize X ++ T ++ Y = t at hb
      rw [compM_ok (f := m_law_C4 t) (g := fun k => ((hn 0 (seg t (8 * k.toNat) 8) : Nat) : Int)) _ _ (fun k hk => by
        have := mem_rangeI hk
        obtain ⟨k, rfl⟩ := Int.eq_ofNat_of_zero_le this.1
        unfold m_law_C4
        have hc := cut_nat t (8 * k) (8 * k + 8) (by omega)
        rw [show 8 * k + 8 - 8 * k = 8 by omega] at hc
        rw [show (8 : Int) * (k : Int) = ((8 * k : Nat) : Int) by omega, show ((8 * k : Nat) : Int) + 8 = ((8 * k + 8 : Nat) : Int) by omega, hc, law_number_ok _ (seg_bits hb _ _), bnd_some]
        rfl) (by rw [rangeI_length]; simp; omega), bnd_some]
      have eL : ([] ++ (rangeI 0 ((D1.length : Nat) : Int)).map fun k => ((hn 0 (seg t (8 * k.toNat) 8) : Nat) : Int)) = ci ((List.range D1.length).map fun k => hn 0 (seg t (8 * k) 8)) := by
        unfold ci rangeI
        rw [List.nil_append, List.map_map, List.map_map, show ((D1.length : Int) - 0).toNat = D1.length by omega]
        refine List.map_congr_left fun k _ => ?_
        simp only [Function.comp]
        rw [show ((0 : Int) + (k : Int)).toNat = k by omega]
      rw [eL]
      refine ⟨(List.range D1.length).map fun k => hn 0 (seg t (8 * k) 8), (a : Int), rfl, fun d hd => ?_, by rw [List.length_map, List.length_range]; omega, fun _ => ⟨by omega, by rw [List.length_map, List.length_range]; omega⟩⟩
      · obtain ⟨k, _, rfl⟩ := List.mem_map.mp hd
        have h1 := hn_lt (seg t (8 * k) 8) 0 0 (seg_bits hb _ _) (by decide)
        have h2 := seg_len t (8 * k) 8
        have : 2 ^ (0 + (seg t (8 * k) 8).length) ≤ 2 ^ 8 := Nat.pow_le_pow_right (by decide) (by omega)
        omega
  rw [e5, bnd_some]
  dsimp only
  have lfb := fb_len name D
  obtain ⟨g1, g2, g3, g4, g5⟩ := put_wr (fb name D) (fb_bits name D) (by omega)
  obtain ⟨ow, e6, lo, ho⟩ := law_wire_ok (fb_bits name D) (by omega)
  rw [law_frame_bits_ok name D lD, bnd_some, e6, bnd_some]
  dsimp only
  have hwire : m_wire_of (name : Int) (ci D) = some (.ok (wr (fb name D))) := by
    unfold m_wire_of
    rw [frame_ok name D hname hD (by omega), bndR_ok, g1, bnd_some]
  generalize wr (fb name D) = w at *
  obtain ⟨P0, e7, hP0, lP0⟩ : ∃ P0, (ifB told (
    bnd (idxL ow (((12 : Int) + a) + (23 : Int))) fun j_122 =>
    bnd (idxL ow (((12 : Int) + a) + (6 : Int))) fun j_130 =>
    some [j_122, j_130]) (
    some ([] : List Int))) = some P0 ∧ PIn w.length P0 ∧ P0.length ≤ 2 := by
    cases told with
    | false => exact ⟨[], rfl, (fun _ h => nomatch h), by decide⟩
    | true =>
      obtain ⟨a0, a1⟩ := hat rfl
      obtain ⟨j1, q1, q2, q3⟩ := idx_in (xs := ow) (x := 12 + a + 23) (by
        have := ho (12 + a + 23).toNat (by omega)
        rw [Int.toNat_of_nonneg (by omega)] at this
        exact this)
      obtain ⟨j2, r1, r2, r3⟩ := idx_in (xs := ow) (x := 12 + a + 6) (by
        have := ho (12 + a + 6).toNat (by omega)
        rw [Int.toNat_of_nonneg (by omega)] at this
        exact this)
      refine ⟨[j1, j2], by rw [ifB_t, q1, bnd_some, r1, bnd_some], fun p hp => ?_, by simp⟩
      simp only [List.mem_cons, List.not_mem_nil, or_false] at hp
      omega
  obtain ⟨P, e8, hP, lP⟩ := places_ok ns (w := w) (some_ := P0) (by omega) (by omega) hP0 lP0
  obtain ⟨mo, e9, m0, m1⟩ := draw_ok ns 9 4 (by decide) (by decide) (by decide)
  obtain ⟨mo, rfl⟩ := Int.eq_ofNat_of_zero_le m0
  have hPo : ∀ p ∈ P, outP w p = false := fun p hp => by
    have := hP p hp
    unfold outP
    rw [decide_eq_false (by omega), decide_eq_false (by omega)]
    rfl
  have hrow : ∀ r ∈ (lvs P 0 mo).map Prod.fst, ∀ p ∈ r, outP w p = false := fun r hr p hpr => by
    obtain ⟨z, hz, rfl⟩ := List.mem_map.mp hr
    exact hPo p (lvs_ok P mo 0 z hz p hpr)
  have hlen : ((lvs P 0 mo).map Prod.fst).length ≤ 1885 := by rw [List.length_map]; exact lvs_len (by omega) lP
  rw [e7, bnd_some, e8, bnd_some, e9, bnd_some, law_rows_ok (by omega) lP, bnd_some, due_ok g2 (by omega) _ [] hrow (by rw [List.length_nil]; omega), bnd_some, List.nil_append]
  have hsl := slips_is hwire g2 (by omega) (mo := mo) (by omega) lP hPo
  rw [show atI [ci D, P] 0 = some (ci D) from rfl, bnd_some, show atI [ci D, P] 1 = some P from rfl, bnd_some, bnd_some, hsl, bndO_ok]
  have hslG : slG (((lvs P 0 mo).map Prod.fst).filterMap (gs w ((name : Int), ci D))) = some () := by
    refine grd_of ⟨List.all_eq_true.mpr fun x hx => ?_, ?_⟩
    · obtain ⟨r, hr, hg⟩ := List.mem_filterMap.mp hx
      unfold gs at hg
      cases ho2 : ot (tn w r) ((name : Int), ci D) with
      | none => rw [ho2] at hg; cases hg
      | some f =>
        rw [ho2] at hg
        cases hg
        obtain ⟨_, c2, c3⟩ := changed_is g2 (hrow r hr)
        obtain ⟨z, hz, rfl⟩ := List.mem_map.mp hr
        have h3 := lvs_small (P := P) (m := mo) (by omega) lP z hz
        have hf : f.2.length ≤ 7 := by
          unfold ot at ho2
          cases hu : UT (tn w z.1) with
          | inl q => rw [hu] at ho2; cases ho2
          | inr xs =>
            rw [hu] at ho2
            dsimp only at ho2
            cases hr2 : RF xs with
            | none => rw [hr2] at ho2; cases ho2
            | some f2 =>
              rw [hr2] at ho2
              dsimp only at ho2
              split at ho2
              · cases ho2
              · cases ho2
                exact RF_small (UT_bits c2 hu).1 hr2
        show (decide (z.1.length ≤ 1000) && decide (f.2.length ≤ 1000)) = true
        rw [decide_eq_true (by omega), decide_eq_true (by omega)]
        rfl
    · exact Nat.le_trans (List.length_filterMap_le _ _) (by omega)
  generalize ((lvs P 0 mo).map Prod.fst).filterMap (gs w ((name : Int), ci D)) = S at hslG hsl
  rw [decide_eq_true (show S = S from rfl), decide_eq_true (show [ci D, P] = [ci D, P] from rfl)]
  show bnd (slG S) _ = _
  rw [hslG, bnd_some, bnd_some, hsl, bndO_ok, decide_eq_true (show S = S from rfl)]
end Bt

open PySem PySem.W PyProof.Rows in
set_option maxRecDepth 100000 in
set_option maxHeartbeats 0 in
theorem PySem.Challenge.cw_bitrail_k65_slips_by_reading_holds : PySem.Challenge.rw_bitrail_k65_slips_by_reading.Holds := by
  w_on; o_law; k_head; (case hw => w_witness2)
  k_fill
  refine Bt.walk Bt.law_true (l := PySem.Challenge.rw_bitrail_k65_slips_by_reading) rfl rfl (fun w h Y => PySem.W.kIn_of Y) ?F
  case F =>
    intro w mg fa h KX G hmg
    obtain ⟨f__law_draw, fd__law_draw, F__law_draw, g__law_draw⟩ : ∃ f fd, L2.Fun _ "_law_draw" "_law_draw" Bt.s__law_draw f fd ∧ mg "_law_draw" = some (.ref f) := by
      refine' Bt.def_mk KX G ?a ?l ?c ?k
      (case a => k_is)
      (case l => k_is)
      (case c => k_is)
      (case k => k_is)
    obtain ⟨f__law_wire, fd__law_wire, F__law_wire, g__law_wire⟩ : ∃ f fd, L2.Fun _ "_law_wire" "_law_wire" Bt.s__law_wire f fd ∧ mg "_law_wire" = some (.ref f) := by
      refine' Bt.def_mk KX G ?a ?l ?c ?k
      (case a => k_is)
      (case l => k_is)
      (case c => k_is)
      (case k => k_is)
    obtain ⟨f__law_places, fd__law_places, F__law_places, g__law_places⟩ : ∃ f fd, L2.Fun _ "_law_places" "_law_places" Bt.s__law_places f fd ∧ mg "_law_places" = some (.ref f) := by
      refine' Bt.def_mk KX G ?a ?l ?c ?k
      (case a => k_is)
      (case l => k_is)
      (case c => k_is)
      (case k => k_is)
    obtain ⟨f__law_rows, fd__law_rows, F__law_rows, g__law_rows⟩ : ∃ f fd, L2.Fun _ "_law_rows" "_law_rows" Bt.s__law_rows f fd ∧ mg "_law_rows" = some (.ref f) := by
      refine' Bt.def_mk KX G ?a ?l ?c ?k
      (case a => k_is)
      (case l => k_is)
      (case c => k_is)
      (case k => k_is)
    obtain ⟨f_put_in, fd_put_in, F_put_in, g_put_in⟩ : ∃ f fd, L2.Fun _ "put_in" "put_in" Bt.s_put_in f fd ∧ mg "put_in" = some (.ref f) := by
      refine' Bt.def_mk KX G ?a ?l ?c ?k
      (case a => k_is)
      (case l => k_is)
      (case c => k_is)
      (case k => k_is)
    obtain ⟨f_bits_of, fd_bits_of, F_bits_of, g_bits_of⟩ : ∃ f fd, L2.Fun _ "bits_of" "bits_of" Bt.s_bits_of f fd ∧ mg "bits_of" = some (.ref f) := by
      refine' Bt.def_mk KX G ?a ?l ?c ?k
      (case a => k_is)
      (case l => k_is)
      (case c => k_is)
      (case k => k_is)
    obtain ⟨f_divided, fd_divided, F_divided, g_divided⟩ : ∃ f fd, L2.Fun _ "divided" "divided" Bt.s_divided f fd ∧ mg "divided" = some (.ref f) := by
      refine' Bt.def_mk KX G ?a ?l ?c ?k
      (case a => k_is)
      (case l => k_is)
      (case c => k_is)
      (case k => k_is)
    obtain ⟨f_number_of, fd_number_of, F_number_of, g_number_of⟩ : ∃ f fd, L2.Fun _ "number_of" "number_of" Bt.s_number_of f fd ∧ mg "number_of" = some (.ref f) := by
      refine' Bt.def_mk KX G ?a ?l ?c ?k
      (case a => k_is)
      (case l => k_is)
      (case c => k_is)
      (case k => k_is)
    obtain ⟨f_rest_of, fd_rest_of, F_rest_of, g_rest_of⟩ : ∃ f fd, L2.Fun _ "rest_of" "rest_of" Bt.s_rest_of f fd ∧ mg "rest_of" = some (.ref f) := by
      refine' Bt.def_mk KX G ?a ?l ?c ?k
      (case a => k_is)
      (case l => k_is)
      (case c => k_is)
      (case k => k_is)
    obtain ⟨f_check_of, fd_check_of, F_check_of, g_check_of⟩ : ∃ f fd, L2.Fun _ "check_of" "check_of" Bt.s_check_of f fd ∧ mg "check_of" = some (.ref f) := by
      refine' Bt.def_mk KX G ?a ?l ?c ?k
      (case a => k_is)
      (case l => k_is)
      (case c => k_is)
      (case k => k_is)
    obtain ⟨f_is_name, fd_is_name, F_is_name, g_is_name⟩ : ∃ f fd, L2.Fun _ "is_name" "is_name" Bt.s_is_name f fd ∧ mg "is_name" = some (.ref f) := by
      refine' Bt.def_mk KX G ?a ?l ?c ?k
      (case a => k_is)
      (case l => k_is)
      (case c => k_is)
      (case k => k_is)
    obtain ⟨f_frame_bits, fd_frame_bits, F_frame_bits, g_frame_bits⟩ : ∃ f fd, L2.Fun _ "frame_bits" "frame_bits" Bt.s_frame_bits f fd ∧ mg "frame_bits" = some (.ref f) := by
      refine' Bt.def_mk KX G ?a ?l ?c ?k
      (case a => k_is)
      (case l => k_is)
      (case c => k_is)
      (case k => k_is)
    obtain ⟨f_wire_of, fd_wire_of, F_wire_of, g_wire_of⟩ : ∃ f fd, L2.Fun _ "wire_of" "wire_of" Bt.s_wire_of f fd ∧ mg "wire_of" = some (.ref f) := by
      refine' Bt.def_mk KX G ?a ?l ?c ?k
      (case a => k_is)
      (case l => k_is)
      (case c => k_is)
      (case k => k_is)
    obtain ⟨f_rows_of, fd_rows_of, F_rows_of, g_rows_of⟩ : ∃ f fd, L2.Fun _ "rows_of" "rows_of" Bt.s_rows_of f fd ∧ mg "rows_of" = some (.ref f) := by
      refine' Bt.def_mk KX G ?a ?l ?c ?k
      (case a => k_is)
      (case l => k_is)
      (case c => k_is)
      (case k => k_is)
    obtain ⟨f_read_frame, fd_read_frame, F_read_frame, g_read_frame⟩ : ∃ f fd, L2.Fun _ "read_frame" "read_frame" Bt.s_read_frame f fd ∧ mg "read_frame" = some (.ref f) := by
      refine' Bt.def_mk KX G ?a ?l ?c ?k
      (case a => k_is)
      (case l => k_is)
      (case c => k_is)
      (case k => k_is)
    obtain ⟨f_taken_out, fd_taken_out, F_taken_out, g_taken_out⟩ : ∃ f fd, L2.Fun _ "taken_out" "taken_out" Bt.s_taken_out f fd ∧ mg "taken_out" = some (.ref f) := by
      refine' Bt.def_mk KX G ?a ?l ?c ?k
      (case a => k_is)
      (case l => k_is)
      (case c => k_is)
      (case k => k_is)
    obtain ⟨f_read_wire, fd_read_wire, F_read_wire, g_read_wire⟩ : ∃ f fd, L2.Fun _ "read_wire" "read_wire" Bt.s_read_wire f fd ∧ mg "read_wire" = some (.ref f) := by
      refine' Bt.def_mk KX G ?a ?l ?c ?k
      (case a => k_is)
      (case l => k_is)
      (case c => k_is)
      (case k => k_is)
    obtain ⟨f_other_frame, fd_other_frame, F_other_frame, g_other_frame⟩ : ∃ f fd, L2.Fun _ "other_frame" "other_frame" Bt.s_other_frame f fd ∧ mg "other_frame" = some (.ref f) := by
      refine' Bt.def_mk KX G ?a ?l ?c ?k
      (case a => k_is)
      (case l => k_is)
      (case c => k_is)
      (case k => k_is)
    obtain ⟨f_changed, fd_changed, F_changed, g_changed⟩ : ∃ f fd, L2.Fun _ "changed" "changed" Bt.s_changed f fd ∧ mg "changed" = some (.ref f) := by
      refine' Bt.def_mk KX G ?a ?l ?c ?k
      (case a => k_is)
      (case l => k_is)
      (case c => k_is)
      (case k => k_is)
    obtain ⟨f_slips, fd_slips, F_slips, g_slips⟩ : ∃ f fd, L2.Fun _ "slips" "slips" Bt.s_slips f fd ∧ mg "slips" = some (.ref f) := by
      refine' Bt.def_mk KX G ?a ?l ?c ?k
      (case a => k_is)
      (case l => k_is)
      (case c => k_is)
      (case k => k_is)
    obtain ⟨f__law_rest, fd__law_rest, F__law_rest, g__law_rest⟩ : ∃ f fd, L2.Fun _ "_law_rest" "_law_rest" Bt.s__law_rest f fd ∧ mg "_law_rest" = some (.ref f) := by
      refine' Bt.def_mk KX G ?a ?l ?c ?k
      (case a => k_is)
      (case l => k_is)
      (case c => k_is)
      (case k => k_is)
    obtain ⟨f__law_frame_bits, fd__law_frame_bits, F__law_frame_bits, g__law_frame_bits⟩ : ∃ f fd, L2.Fun _ "_law_frame_bits" "_law_frame_bits" Bt.s__law_frame_bits f fd ∧ mg "_law_frame_bits" = some (.ref f) := by
      refine' Bt.def_mk KX G ?a ?l ?c ?k
      (case a => k_is)
      (case l => k_is)
      (case c => k_is)
      (case k => k_is)
    obtain ⟨f__law_number, fd__law_number, F__law_number, g__law_number⟩ : ∃ f fd, L2.Fun _ "_law_number" "_law_number" Bt.s__law_number f fd ∧ mg "_law_number" = some (.ref f) := by
      refine' Bt.def_mk KX G ?a ?l ?c ?k
      (case a => k_is)
      (case l => k_is)
      (case c => k_is)
      (case k => k_is)
    obtain ⟨f__law_read, fd__law_read, F__law_read, g__law_read⟩ : ∃ f fd, L2.Fun _ "_law_read" "_law_read" Bt.s__law_read f fd ∧ mg "_law_read" = some (.ref f) := by
      refine' Bt.def_mk KX G ?a ?l ?c ?k
      (case a => k_is)
      (case l => k_is)
      (case c => k_is)
      (case k => k_is)
    obtain ⟨f__law_told_bits, fd__law_told_bits, F__law_told_bits, g__law_told_bits⟩ : ∃ f fd, L2.Fun _ "_law_told_bits" "_law_told_bits" Bt.s__law_told_bits f fd ∧ mg "_law_told_bits" = some (.ref f) := by
      refine' Bt.def_mk KX G ?a ?l ?c ?k
      (case a => k_is)
      (case l => k_is)
      (case c => k_is)
      (case k => k_is)
    obtain ⟨f_law, fd_law, F_law, g_law⟩ : ∃ f fd, L2.Fun _ "law" "law" Bt.s_law f fd ∧ mg "law" = some (.ref f) := by
      refine' Bt.def_mk KX G ?a ?l ?c ?k
      (case a => k_is)
      (case l => k_is)
      (case c => k_is)
      (case k => k_is)
    have z_bool : mg "bool" = none := PySem.W.mg_none_of KX G (by k_is)
    have z_enumerate : mg "enumerate" = none := PySem.W.mg_none_of KX G (by k_is)
    have z_isinstance : mg "isinstance" = none := PySem.W.mg_none_of KX G (by k_is)
    have z_len : mg "len" = none := PySem.W.mg_none_of KX G (by k_is)
    have z_list : mg "list" = none := PySem.W.mg_none_of KX G (by k_is)
    have z_range : mg "range" = none := PySem.W.mg_none_of KX G (by k_is)
    have g_BARE : Bt.Gv mg "BARE" (.int 27) := by
      refine' Bt.gv_int KX G ?a
      (case a => k_is)
    have g_HEAD : Bt.Gv mg "HEAD" (.int 12) := by
      refine' Bt.gv_int KX G ?a
      (case a => k_is)
    have g_KEY : Bt.Gv mg "KEY" (.int 64647) := by
      refine' Bt.gv_int KX G ?a
      (case a => k_is)
    have g_WIDE : Bt.Gv mg "WIDE" (.int 15) := by
      refine' Bt.gv_int KX G ?a
      (case a => k_is)
    obtain ⟨es, f_NoWire_init, fd_NoWire_init, n_NoBits, n_NoFrame, n_NoKey, n_NoWire, n_RailError, e_NoBits, e_NoFrame, e_NoKey, x_NoFrame_NoFrame, x_NoFrame_NoWire, x_NoWire_NoWire, F_NoWire_init, I_NoWire⟩ : ∃ (es : Bt.Eds) (f_NoWire_init : Addr) (fd_NoWire_init : FuncData), mg "NoBits" = some (.ref es.NoBits) ∧ mg "NoFrame" = some (.ref es.NoFrame) ∧ mg "NoKey" = some (.ref es.NoKey) ∧ mg "NoWire" = some (.ref es.NoWire) ∧ mg "RailError" = some (.ref es.RailError) ∧ Bt.ErrC _ mg "NoBits" es.NoBits ∧ Bt.ErrC _ mg "NoFrame" es.NoFrame ∧ Bt.ErrC _ mg "NoKey" es.NoKey ∧ PySem.W.exmOne _ (.ref es.NoFrame) (.ref es.NoFrame) = some true ∧ PySem.W.exmOne _ (.ref es.NoFrame) (.ref es.NoWire) = some false ∧ PySem.W.exmOne _ (.ref es.NoWire) (.ref es.NoWire) = some true ∧ L2.Fun _ "__init__" "NoWire.__init__" Bt.s_NoWire_init f_NoWire_init fd_NoWire_init ∧ Bt.InF _ mg es.NoWire es.RailError f_NoWire_init "at" := by
      refine' Bt.pack KX G ?a_NoBits ?a_NoFrame ?a_NoKey ?a_NoWire ?a_RailError ?s_NoWire ?t_NoWire ?e_NoBits ?k_NoBits ?s_NoBits ?t_NoBits ?e_NoFrame ?k_NoFrame ?s_NoFrame ?t_NoFrame ?e_NoKey ?k_NoKey ?s_NoKey ?t_NoKey ?d_NoFrame ?d_NoWire ?xp_NoFrame_NoFrame ?xp_NoFrame_NoWire ?xp_NoWire_NoWire ?iga ?ird ?ivV ?lo_NoWire ?sa_NoWire ?xs_NoWire ?xt_NoWire ?xk_NoWire ?ii_NoWire ?it_NoWire ?in_NoWire ?il_NoWire ?ic_NoWire ?ik_NoWire
      (case a_NoBits => k_is)
      (case a_NoFrame => k_is)
      (case a_NoKey => k_is)
      (case a_NoWire => k_is)
      (case a_RailError => k_is)
      (case s_NoWire => k_is)
      (case t_NoWire => k_is)
      (case e_NoBits => first | k_exc | k_is | decide +kernel)
      (case k_NoBits => k_is)
      (case s_NoBits => k_is)
      (case t_NoBits => k_is)
      (case e_NoFrame => first | k_exc | k_is | decide +kernel)
      (case k_NoFrame => k_is)
      (case s_NoFrame => k_is)
      (case t_NoFrame => k_is)
      (case e_NoKey => first | k_exc | k_is | decide +kernel)
      (case k_NoKey => k_is)
      (case s_NoKey => k_is)
      (case t_NoKey => k_is)
      (case d_NoFrame => k_is)
      (case d_NoWire => k_is)
      (case xp_NoFrame_NoFrame => k_is)
      (case xp_NoFrame_NoWire => k_is)
      (case xp_NoWire_NoWire => k_is)
      (case iga => k_is)
      (case ird => k_is)
      (case ivV => k_is)
      (case lo_NoWire => exact ⟨_, _, _, _, _, _, _, _, _, _, _, _, _, _, _, by k_is, by decide +kernel⟩)
      (case sa_NoWire => k_is)
      (case xs_NoWire => k_is)
      (case xt_NoWire => k_is)
      (case xk_NoWire => k_is)
      (case ii_NoWire => k_is)
      (case it_NoWire => k_is)
      (case in_NoWire => k_is)
      (case il_NoWire => k_is)
      (case ic_NoWire => k_is)
      (case ik_NoWire => k_is)
    cases hmg.symm.trans g_law
    refine ⟨fd_law, ?_, fun base _ _ => Bt.ok_law (ad := ⟨f__law_draw, fd__law_draw, f__law_wire, fd__law_wire, f__law_places, fd__law_places, f__law_rows, fd__law_rows, f_put_in, fd_put_in, f_bits_of, fd_bits_of, f_divided, fd_divided, f_number_of, fd_number_of, f_rest_of, fd_rest_of, f_check_of, fd_check_of, f_is_name, fd_is_name, f_frame_bits, fd_frame_bits, f_wire_of, fd_wire_of, f_rows_of, fd_rows_of, f_read_frame, fd_read_frame, f_NoWire_init, fd_NoWire_init, f_taken_out, fd_taken_out, f_read_wire, fd_read_wire, f_other_frame, fd_other_frame, f_changed, fd_changed, f_slips, fd_slips, f__law_rest, fd__law_rest, f__law_frame_bits, fd__law_frame_bits, f__law_number, fd__law_number, f__law_read, fd__law_read, f__law_told_bits, fd__law_told_bits, fa, fd_law, es⟩) ⟨F__law_draw, g__law_draw, F__law_draw.binds (ps := ["script", "k", "many"]) fun _ _ _ _ _ _ us hl => match us, hl with | [_, _, _], _ => rfl, F__law_wire, g__law_wire, F__law_wire.binds (ps := ["bits"]) fun _ _ _ _ _ _ us hl => match us, hl with | [_], _ => rfl, F__law_places, g__law_places, F__law_places.binds (ps := ["script", "wire", "some"]) fun _ _ _ _ _ _ us hl => match us, hl with | [_, _, _], _ => rfl, F__law_rows, g__law_rows, F__law_rows.binds (ps := ["some", "most"]) fun _ _ _ _ _ _ us hl => match us, hl with | [_, _], _ => rfl, F_put_in, g_put_in, F_put_in.binds (ps := ["bits"]) fun _ _ _ _ _ _ us hl => match us, hl with | [_], _ => rfl, F_bits_of, g_bits_of, F_bits_of.binds (ps := ["number", "many"]) fun _ _ _ _ _ _ us hl => match us, hl with | [_, _], _ => rfl, F_divided, g_divided, F_divided.binds (ps := ["number", "key"]) fun _ _ _ _ _ _ us hl => match us, hl with | [_, _], _ => rfl, F_number_of, g_number_of, F_number_of.binds (ps := ["bits"]) fun _ _ _ _ _ _ us hl => match us, hl with | [_], _ => rfl, F_rest_of, g_rest_of, F_rest_of.binds (ps := ["bits"]) fun _ _ _ _ _ _ us hl => match us, hl with | [_], _ => rfl, F_check_of, g_check_of, F_check_of.binds (ps := ["bits"]) fun _ _ _ _ _ _ us hl => match us, hl with | [_], _ => rfl, F_is_name, g_is_name, F_is_name.binds (ps := ["number"]) fun _ _ _ _ _ _ us hl => match us, hl with | [_], _ => rfl, F_frame_bits, g_frame_bits, F_frame_bits.binds (ps := ["name", "data"]) fun _ _ _ _ _ _ us hl => match us, hl with | [_, _], _ => rfl, F_wire_of, g_wire_of, F_wire_of.binds (ps := ["name", "data"]) fun _ _ _ _ _ _ us hl => match us, hl with | [_, _], _ => rfl, F_rows_of, g_rows_of, F_rows_of.binds (ps := ["some", "most"]) fun _ _ _ _ _ _ us hl => match us, hl with | [_, _], _ => rfl, F_read_frame, g_read_frame, F_read_frame.binds (ps := ["bits"]) fun _ _ _ _ _ _ us hl => match us, hl with | [_], _ => rfl, F_NoWire_init, F_NoWire_init.binds (ps := ["self", "at"]) fun _ _ _ _ _ _ us hl => match us, hl with | [_, _], _ => rfl, F_taken_out, g_taken_out, F_taken_out.binds (ps := ["wire"]) fun _ _ _ _ _ _ us hl => match us, hl with | [_], _ => rfl, F_read_wire, g_read_wire, F_read_wire.binds (ps := ["wire"]) fun _ _ _ _ _ _ us hl => match us, hl with | [_], _ => rfl, F_other_frame, g_other_frame, F_other_frame.binds (ps := ["wire", "own"]) fun _ _ _ _ _ _ us hl => match us, hl with | [_, _], _ => rfl, F_changed, g_changed, F_changed.binds (ps := ["bits", "places"]) fun _ _ _ _ _ _ us hl => match us, hl with | [_, _], _ => rfl, F_slips, g_slips, F_slips.binds (ps := ["name", "data", "places", "most"]) fun _ _ _ _ _ _ us hl => match us, hl with | [_, _, _, _], _ => rfl, F__law_rest, g__law_rest, F__law_rest.binds (ps := ["bits"]) fun _ _ _ _ _ _ us hl => match us, hl with | [_], _ => rfl, F__law_frame_bits, g__law_frame_bits, F__law_frame_bits.binds (ps := ["name", "data"]) fun _ _ _ _ _ _ us hl => match us, hl with | [_, _], _ => rfl, F__law_number, g__law_number, F__law_number.binds (ps := ["bits"]) fun _ _ _ _ _ _ us hl => match us, hl with | [_], _ => rfl, F__law_read, g__law_read, F__law_read.binds (ps := ["wire"]) fun _ _ _ _ _ _ us hl => match us, hl with | [_], _ => rfl, F__law_told_bits, g__law_told_bits, F__law_told_bits.binds (ps := ["turned"]) fun _ _ _ _ _ _ us hl => match us, hl with | [_], _ => rfl, F_law, g_law, F_law.binds (ps := ["script"]) fun _ _ _ _ _ _ us hl => match us, hl with | [_], _ => rfl, z_bool, z_enumerate, z_isinstance, z_len, z_list, z_range, g_BARE, g_HEAD, g_KEY, g_WIDE, e_NoBits, e_NoFrame, e_NoKey, x_NoFrame_NoFrame, x_NoFrame_NoWire, x_NoWire_NoWire, n_NoFrame, n_NoWire, n_RailError, I_NoWire⟩⟩
    obtain ⟨oc, od, kV, doc, pm, an, cdv, ct, osl, rfl, lk, hcd⟩ := F_law.ex
    exact fun s u => .of_eq rfl
