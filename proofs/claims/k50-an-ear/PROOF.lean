import PyProof.Rows.All
import Wide.All
import OpenK.AllK
import Wide.FinOn
import HandS.ForMost
import HandS.Exc
import HandS.TryOnly
import HandS.ExcOwn
import HandS.WordsExc
import HandS.IsInst
import HandS.Wide
import HandS.WideBits
import HandS.Flow
import HandS.Evl
import HandS.TryMany
import HandS.Style
import HandS.SortKw
import KE.DatumOrd
import HandS.ExcIs
import HandS.HotCalls
import KE.KExcIs
import HandS.ExcInit
import HandS.ExcField
import HandS.Deep
import HandS.Iter
import HandS.Text
import HandS.Codes
import HandS.StrMore
import HandS.Replace
import HandS.Zip
import HandS.SortInts
import KE.DataCmp
import HandS.Head0
import HandS.Head1
import HandS.Head2
import HandS.HeadEnd
import HandS.HeadHook1
import HandS.HeadHook2
import PyProof.ListOps
import HandS.More
import HandS.Nested
import HandS.EndBits
import HandS.EndTab
import HandS.HeadHook4
import PySem.Challenge.RW_bitrail_k50_an_ear
set_option Elab.async false
set_option linter.all false
set_option maxRecDepth 100000
set_option maxHeartbeats 4000000
/-! The base of all proofs over bitrail: owned cells over a frame, and the readings' steps, one a construct. -/
namespace Bt
open PySem L2
theorem n1 {α β : Type} {f : α → β} : List.map f [] = [] := rfl
theorem n2 {α : Type} {l : List α} {L : List (List α)} : (l :: L).flatten = l ++ L.flatten := List.flatten_cons
theorem n3 {α : Type} : ([] : List (List α)).flatten = [] := rfl
theorem n4 {α : Type} {a : α} {l m : List α} : (a :: l) ++ m = a :: (l ++ m) := rfl
theorem n5 {α : Type} {l : List α} : [] ++ l = l := rfl
theorem n6 {α : Type} {l : List α} : l ++ [] = l := List.append_nil l
theorem n7 {α : Type} {l m n : List α} : (l ++ m) ++ n = l ++ (m ++ n) := List.append_assoc l m n
theorem hd_ {α : Type} {a : α} {l : List α} : a ∈ a :: l := List.Mem.head _
theorem tl_ {α : Type} {a b : α} {l : List α} (h : a ∈ l) : a ∈ b :: l := List.Mem.tail _ h

/-! ### owned cells -/
abbrev Cell := Addr × HO
abbrev Ex (H H' : Hp) : Prop := ∀ a o, H a = some o → H' a = some o
theorem Ex.refl (H : Hp) : Ex H H := fun _ _ h => h
theorem Ex.trans {H H1 H2 : Hp} (a : Ex H H1) (b : Ex H1 H2) : Ex H H2 := fun x o h => b x o (a x o h)
theorem Ex.new {H : Hp} {p : Addr} {o : HO} (h : H p = none) : Ex H (upd H p o) := fun a u e => by
  rw [upd_ne (ne_of_none e h)]
  exact e
theorem Ex.back {H H' : Hp} {p : Addr} (e : Ex H H') (h : H' p = none) : H p = none := by
  cases h1 : H p with
  | none => rfl
  | some o =>
    rw [e p o h1] at h
    cases h
theorem Ex.rd {H H' : Hp} {a : Addr} {u : HO} (e : Ex H H') (h : Rd H a u) : Rd H' a u := by
  rcases h with h | ⟨o, h⟩
  · exact Or.inl (e a _ h)
  · exact Or.inr ⟨o, e a _ h⟩
theorem Ex.l {K : PySem.W.Frag} {H H' : Hp} {a : Addr} {xs : List V} (e : Ex H H') (h : SqL K H a xs) : SqL K H' a xs := by
  rcases h with h | h
  · exact Or.inl (e.rd h)
  · exact Or.inr h
theorem Ex.t {K : PySem.W.Frag} {H H' : Hp} {a : Addr} {xs : List V} (e : Ex H H') (h : SqT K H a xs) : SqT K H' a xs := by
  rcases h with h | h
  · exact Or.inl (e.rd h)
  · exact Or.inr h

/-- H holds the frame R, and beside it the cells L, at unlike places that R does not know -/
structure Own (R H : Hp) (L : List Cell) : Prop where
  ex : Ex R H
  at_ : ∀ c ∈ L, H c.1 = some c.2
  fr : ∀ c ∈ L, R c.1 = none
  nd : (L.map (·.1)).Nodup

section
variable {R H H' : Hp} {L L' A B C : List Cell} {a p q : Addr} {o o' : HO}
theorem Own.start (H : Hp) : Own H H [] := ⟨Ex.refl H, fun _ h => (nomatch h), fun _ h => (nomatch h), List.Pairwise.nil⟩
theorem Own.mem (O : Own R H L) (h : (a, o) ∈ L) : H a = some o := O.at_ _ h
theorem Own.g0 {c1 : Cell} (O : Own R H (c1 :: L)) : H c1.1 = some c1.2 := O.at_ _ (List.Mem.head _)
theorem Own.tl {c1 : Cell} (O : Own R H (c1 :: L)) : Own R H L :=
  ⟨O.ex, fun c h => O.at_ c (List.Mem.tail _ h), fun c h => O.fr c (List.Mem.tail _ h), (List.nodup_cons.mp O.nd).2⟩
theorem Own.ext (O : Own R H L) (e : Ex H H') : Own R H' L := ⟨O.ex.trans e, fun c h => e _ _ (O.at_ c h), O.fr, O.nd⟩
theorem Own.notin (O : Own R H L) (h : H p = none) : p ∉ L.map (·.1) := fun m => by
  obtain ⟨c, hc, e⟩ := List.mem_map.mp m
  have := O.at_ c hc
  rw [e, h] at this
  cases this
theorem Own.ext1 (O : Own R H L) (e : Ex H H') (h : H p = none) (h' : H' p = some o) : Own R H' ((p, o) :: L) :=
  ⟨O.ex.trans e, fun c hc => by
    rcases List.mem_cons.mp hc with rfl | hc
    · exact h'
    · exact e _ _ (O.at_ c hc), fun c hc => by
    rcases List.mem_cons.mp hc with rfl | hc
    · exact O.ex.back h
    · exact O.fr c hc, List.nodup_cons.mpr ⟨O.notin h, O.nd⟩⟩
theorem Own.new (O : Own R H L) (h : H p = none) : Own R (upd H p o) ((p, o) :: L) := O.ext1 (Ex.new h) h upd_same
/-- more cells, owned over H -/
theorem Own.app (O : Own R H L) (N : Own H H' A) : Own R H' (A ++ L) :=
  ⟨O.ex.trans N.ex, fun c hc => by
    rcases List.mem_append.mp hc with hc | hc
    · exact N.at_ c hc
    · exact N.ex _ _ (O.at_ c hc), fun c hc => by
    rcases List.mem_append.mp hc with hc | hc
    · exact O.ex.back (N.fr c hc)
    · exact O.fr c hc, by
    rw [List.map_append]
    refine List.nodup_append.mpr ⟨N.nd, O.nd, fun x hx y hy e => ?_⟩
    subst e
    obtain ⟨c, hc, e⟩ := List.mem_map.mp hx
    have := N.fr c hc
    rw [e] at this
    exact O.notin this hy⟩
theorem Own.put (O : Own R H (A ++ (p, o) :: B)) : Own R (upd H p o') (A ++ (p, o') :: B) := by
  have nd := O.nd
  rw [List.map_append, List.map_cons] at nd
  have nA : p ∉ A.map (·.1) := fun m => by
    have := (List.nodup_append.mp nd).2.2
    exact this _ m p (List.Mem.head _) rfl
  have nB : p ∉ B.map (·.1) := (List.nodup_cons.mp (List.nodup_append.mp nd).2.1).1
  have hp : R p = none := O.fr (p, o) (by simp)
  refine ⟨fun b u e => ?_, fun c hc => ?_, fun c hc => ?_, by rw [List.map_append, List.map_cons]; exact nd⟩
  · rw [upd_ne (ne_of_none e hp)]
    exact O.ex _ _ e
  · rcases List.mem_append.mp hc with hA | hc
    · rw [upd_ne (fun e : c.1 = p => nA (by rw [← e]; exact List.mem_map_of_mem hA))]
      exact O.at_ c (List.mem_append.mpr (Or.inl hA))
    · rcases List.mem_cons.mp hc with rfl | hB
      · exact upd_same
      · rw [upd_ne (fun e : c.1 = p => nB (by rw [← e]; exact List.mem_map_of_mem hB))]
        exact O.at_ c (List.mem_append.mpr (Or.inr (List.mem_cons_of_mem _ hB)))
  · rcases List.mem_append.mp hc with hA | hc
    · exact O.fr c (List.mem_append.mpr (Or.inl hA))
    · rcases List.mem_cons.mp hc with rfl | hB
      · exact hp
      · exact O.fr c (List.mem_append.mpr (Or.inr (List.mem_cons_of_mem _ hB)))
theorem Own.put0 (O : Own R H ((p, o) :: B)) : Own R (upd H p o') ((p, o') :: B) := Own.put (A := []) O
theorem Own.put1 {c1 : Cell} (O : Own R H (c1 :: (p, o) :: B)) : Own R (upd H p o') (c1 :: (p, o') :: B) := Own.put (A := [c1]) O
theorem Own.put2 {c1 c2 : Cell} (O : Own R H (c1 :: c2 :: (p, o) :: B)) : Own R (upd H p o') (c1 :: c2 :: (p, o') :: B) := Own.put (A := [c1, c2]) O
theorem Own.put3 {c1 c2 c3 : Cell} (O : Own R H (c1 :: c2 :: c3 :: (p, o) :: B)) : Own R (upd H p o') (c1 :: c2 :: c3 :: (p, o') :: B) := Own.put (A := [c1, c2, c3]) O
theorem Own.put4 {c1 c2 c3 c4 : Cell} (O : Own R H (c1 :: c2 :: c3 :: c4 :: (p, o) :: B)) : Own R (upd H p o') (c1 :: c2 :: c3 :: c4 :: (p, o') :: B) := Own.put (A := [c1, c2, c3, c4]) O
theorem Own.put5 {c1 c2 c3 c4 c5 : Cell} (O : Own R H (c1 :: c2 :: c3 :: c4 :: c5 :: (p, o) :: B)) : Own R (upd H p o') (c1 :: c2 :: c3 :: c4 :: c5 :: (p, o') :: B) := Own.put (A := [c1, c2, c3, c4, c5]) O
theorem Own.put6 {c1 c2 c3 c4 c5 c6 : Cell} (O : Own R H (c1 :: c2 :: c3 :: c4 :: c5 :: c6 :: (p, o) :: B)) : Own R (upd H p o') (c1 :: c2 :: c3 :: c4 :: c5 :: c6 :: (p, o') :: B) := Own.put (A := [c1, c2, c3, c4, c5, c6]) O
theorem Own.perm (O : Own R H L) (e : L.Perm L') : Own R H L' :=
  ⟨O.ex, fun c h => O.at_ c (e.mem_iff.mpr h), fun c h => O.fr c (e.mem_iff.mpr h), (e.map _).nodup_iff.mp O.nd⟩
/-- fewer cells -/
theorem Own.sub (O : Own R H L) (e : L'.Sublist L) : Own R H L' :=
  ⟨O.ex, fun c h => O.at_ c (e.subset h), fun c h => O.fr c (e.subset h), List.Nodup.sublist (e.map _) O.nd⟩
/-- THE FRAME: what is done to some of the cells, the others being its frame -/
theorem Own.focus (O : Own R H (A ++ B)) : ∃ R', Own R' H A ∧ Ex R R' ∧ (∀ c ∈ B, R' c.1 = some c.2) ∧ ∀ H' A', Own R' H' A' → Own R H' (A' ++ B) := by
  have nd := O.nd
  rw [List.map_append] at nd
  obtain ⟨ndA, ndB, dis⟩ := List.nodup_append.mp nd
  refine ⟨fun b => if b ∈ A.map (·.1) then none else H b, ⟨fun b u e => ?_, fun c h => O.at_ c (List.mem_append.mpr (Or.inl h)), fun c h => if_pos (List.mem_map_of_mem h), ndA⟩, fun b u e => ?_, fun c hc => ?_, fun H' A' O' => ?_⟩
  · by_cases hb : b ∈ A.map (·.1)
    · rw [if_pos hb] at e; cases e
    · rw [if_neg hb] at e; exact e
  · have hb : b ∉ A.map (·.1) := fun m => by
      obtain ⟨c, hc, e1⟩ := List.mem_map.mp m
      have := O.fr c (List.mem_append.mpr (Or.inl hc))
      rw [e1, e] at this
      cases this
    show (if b ∈ A.map (·.1) then none else H b) = some u
    rw [if_neg hb]
    exact O.ex _ _ e
  · have hb : c.1 ∉ A.map (·.1) := fun m => dis _ m _ (List.mem_map_of_mem hc) rfl
    show (if c.1 ∈ A.map (·.1) then none else H c.1) = some c.2
    rw [if_neg hb]
    exact O.at_ c (List.mem_append.mpr (Or.inr hc))
  · have hB : ∀ c ∈ B, (if c.1 ∈ A.map (·.1) then none else H c.1) = some c.2 := fun c hc => by
      have hb : c.1 ∉ A.map (·.1) := fun m => dis _ m _ (List.mem_map_of_mem hc) rfl
      rw [if_neg hb]
      exact O.at_ c (List.mem_append.mpr (Or.inr hc))
    have hR : ∀ b u, R b = some u → (if b ∈ A.map (·.1) then none else H b) = some u := fun b u e => by
      have hb : b ∉ A.map (·.1) := fun m => by
        obtain ⟨c, hc, e1⟩ := List.mem_map.mp m
        have := O.fr c (List.mem_append.mpr (Or.inl hc))
        rw [e1, e] at this
        cases this
      rw [if_neg hb]
      exact O.ex _ _ e
    refine ⟨fun b u e => O'.ex _ _ (hR b u e), fun c hc => ?_, fun c hc => ?_, ?_⟩
    · rcases List.mem_append.mp hc with hc | hc
      · exact O'.at_ c hc
      · exact O'.ex _ _ (hB c hc)
    · rcases List.mem_append.mp hc with hc | hc
      · cases e : R c.1 with
        | none => rfl
        | some u =>
          have := O'.fr c hc
          rw [hR _ _ e] at this
          cases this
      · exact O.fr c (List.mem_append.mpr (Or.inr hc))
    · rw [List.map_append]
      refine List.nodup_append.mpr ⟨O'.nd, ndB, fun x hx y hy e => ?_⟩
      subst e
      obtain ⟨c, hc, e⟩ := List.mem_map.mp hx
      obtain ⟨d, hd, e2⟩ := List.mem_map.mp hy
      have h1 := O'.fr c hc
      have h2 := hB d hd
      rw [e2, ← e, h1] at h2
      cases h2
/-- the frame may be what is there now: all else is kept -/
theorem Own.over (O : Own R H L) : Own H H [] := Own.start H
end

/-! ### what a call hands back: a value; a new list; a new tuple -/
def RetV (v : V) (H : Hp) (Q : VK) : Prop := ∀ H', Ex H H' → Q v H'
def RetL (xs : List V) (H : Hp) (Q : VK) : Prop := ∀ p H', H p = none → Ex H H' → H' p = some (.lst xs) → Q (.ref p) H'
def RetT (xs : List V) (H : Hp) (Q : VK) : Prop := ∀ p H', H p = none → Ex H H' → H' p = some (.tup xs) → Q (.ref p) H'
/-- any new cells, as D says -/
def RetN (D : V → List Cell → Prop) (H : Hp) (Q : VK) : Prop := ∀ v H' L, Own H H' L → D v L → Q v H'
section
variable {R H : Hp} {L : List Cell} {Q : VK} {v : V} {xs : List V}
theorem Own.retV (O : Own R H L) (k : ∀ H', Own R H' L → Q v H') : RetV v H Q := fun H' e => k H' (O.ext e)
theorem Own.retL (O : Own R H L) (k : ∀ p H', Own R H' ((p, .lst xs) :: L) → Q (.ref p) H') : RetL xs H Q := fun p H' h e h' => k p H' (O.ext1 e h h')
theorem Own.retT (O : Own R H L) (k : ∀ p H', Own R H' ((p, .tup xs) :: L) → Q (.ref p) H') : RetT xs H Q := fun p H' h e h' => k p H' (O.ext1 e h h')
theorem Own.retN {D : V → List Cell → Prop} (O : Own R H L) (k : ∀ v H' N, Own R H' (N ++ L) → D v N → Q v H') : RetN D H Q := fun v H' N o d => k v H' N (O.app o) d
/-- the end of a def that started at H: what it hands back is new -/
theorem RetV.go {H0 H : Hp} {L : List Cell} {v : V} {Q : VK} (k : RetV v H0 Q) (O : Own H0 H L) : Q v H := k H O.ex
theorem RetL.go {H0 H : Hp} {L : List Cell} {xs : List V} {Q : VK} {p : Addr} (k : RetL xs H0 Q) (O : Own H0 H L) (h : (p, HO.lst xs) ∈ L) : Q (.ref p) H := k p H (O.fr _ h) O.ex (O.at_ _ h)
theorem RetT.go {H0 H : Hp} {L : List Cell} {xs : List V} {Q : VK} {p : Addr} (k : RetT xs H0 Q) (O : Own H0 H L) (h : (p, HO.tup xs) ∈ L) : Q (.ref p) H := k p H (O.fr _ h) O.ex (O.at_ _ h)
theorem RetN.go {H0 H : Hp} {L N : List Cell} {D : V → List Cell → Prop} {Q : VK} {v : V} (k : RetN D H0 Q) (O : Own H0 H L) (e : N.Sublist L) (d : D v N) : Q v H := k v H N (O.sub e) d
end

end Bt

set_option Elab.async false
set_option linter.all false
set_option maxRecDepth 100000
set_option maxHeartbeats 4000000
/-! The mirror's words (partial functions: none where the program would stop), and the steps that join a reading with its mirror. -/
namespace Bt
open PySem L2

/-! ### the mirror's words -/
section
variable {α β γ S R T : Type}
def ltv (a : α) (f : α → Option β) : Option β := f a
theorem ltvE {a : α} {f : α → Option β} {r : β} (h : ltv a f = some r) : ∃ x, a = x ∧ f x = some r := ⟨a, rfl, h⟩
def bnd (a : Option α) (f : α → Option β) : Option β := match a with
  | some x => f x
  | none => none
theorem bndE {a : Option α} {f : α → Option β} {r : β} (h : bnd a f = some r) : ∃ x, a = some x ∧ f x = some r := by
  cases a with
  | none => cases h
  | some x => exact ⟨x, rfl, h⟩
def ifB (c : Bool) (a b : α) : α := match c with
  | true => a
  | false => b
theorem ifT {c : Bool} {a b r : α} (h : ifB c a b = r) (hc : c = true) : a = r := by subst hc; exact h
theorem ifF {c : Bool} {a b r : α} (h : ifB c a b = r) (hc : c = false) : b = r := by subst hc; exact h
inductive Fl (S R : Type) where
  | nx (s : S)
  | rt (r : R)
  | bk (s : S)
def finK (rest : S → Option R) : Fl S R → Option R
  | .nx s => rest s
  | .rt r => some r
  | .bk _ => none
def fin (a : Option (Fl S R)) (rest : S → Option R) : Option R := bnd a (finK rest)
def floK (rest : S → Option (Fl T R)) : Fl S R → Option (Fl T R)
  | .nx s => rest s
  | .rt r => some (.rt r)
  | .bk _ => none
def flo (a : Option (Fl S R)) (rest : S → Option (Fl T R)) : Option (Fl T R) := bnd a (floK rest)
theorem finRt {rest : S → Option R} {v r : R} (h : finK rest (.rt v) = some r) : v = r := Option.some.inj h
theorem floRt {rest : S → Option (Fl T R)} {v : R} {fl : Fl T R} (h : floK rest (.rt v) = some fl) : Fl.rt v = fl := Option.some.inj h
def loopM (f : α → S → Option S) : List α → S → Option S
  | [], s => some s
  | x :: r, s => bnd (f x s) (loopM f r)
theorem loopM_nil {f : α → S → Option S} {s out : S} (h : loopM f [] s = some out) : out = s := (Option.some.inj h).symm
theorem loopM_cons {f : α → S → Option S} {x : α} {r : List α} {s out : S} (h : loopM f (x :: r) s = some out) : ∃ s', f x s = some s' ∧ loopM f r s' = some out := bndE h
def contF (go : S → Option (Fl S R)) : Fl S R → Option (Fl S R)
  | .nx s => go s
  | .rt r => some (.rt r)
  | .bk s => some (.nx s)
def loopF (f : α → S → Option (Fl S R)) : List α → S → Option (Fl S R)
  | [], s => some (.nx s)
  | x :: r, s => bnd (f x s) (contF (loopF f r))
theorem loopF_nil {f : α → S → Option (Fl S R)} {s : S} {out : Fl S R} (h : loopF f [] s = some out) : Fl.nx s = out := Option.some.inj h
theorem loopF_cons {f : α → S → Option (Fl S R)} {x : α} {r : List α} {s : S} {out : Fl S R} (h : loopF f (x :: r) s = some out) : ∃ fl, f x s = some fl ∧ contF (loopF f r) fl = some out := bndE h
theorem contRt {go : S → Option (Fl S R)} {v : R} {out : Fl S R} (h : contF go (.rt v) = some out) : Fl.rt v = out := Option.some.inj h
theorem contBk {go : S → Option (Fl S R)} {s : S} {out : Fl S R} (h : contF go (.bk s) = some out) : Fl.nx s = out := Option.some.inj h
def whileM (c : S → Option Bool) (f : S → Option S) : Nat → S → Option S
  | 0, _ => none
  | n + 1, s => bnd (c s) fun b => ifB b (bnd (f s) (whileM c f n)) (some s)
theorem whileM_zero {c : S → Option Bool} {f : S → Option S} {s out : S} (h : whileM c f 0 s = some out) : False := nomatch h
theorem whileM_succ {c : S → Option Bool} {f : S → Option S} {n : Nat} {s out : S} (h : whileM c f (n + 1) s = some out) : ∃ b, c s = some b ∧ ifB b (bnd (f s) (whileM c f n)) (some s) = some out := bndE h
def whileF (c : S → Option Bool) (f : S → Option (Fl S R)) : Nat → S → Option (Fl S R)
  | 0, _ => none
  | n + 1, s => bnd (c s) fun b => ifB b (bnd (f s) (contF (whileF c f n))) (some (.nx s))
theorem whileF_succ {c : S → Option Bool} {f : S → Option (Fl S R)} {n : Nat} {s : S} {out : Fl S R} (h : whileF c f (n + 1) s = some out) : ∃ b, c s = some b ∧ ifB b (bnd (f s) (contF (whileF c f n))) (some (.nx s)) = some out := bndE h
/-- a comprehension: what is kept, in order -/
def compM (f : α → Option β) : List α → List β → Option (List β)
  | [], acc => some acc
  | x :: r, acc => bnd (f x) fun y => if acc.length < 16777216 then compM f r (acc ++ [y]) else none
theorem compM_cons {f : α → Option β} {x : α} {r : List α} {acc out : List β} (h : compM f (x :: r) acc = some out) : ∃ y, f x = some y ∧ acc.length < 16777216 ∧ compM f r (acc ++ [y]) = some out := by
  obtain ⟨y, h1, h2⟩ := bndE (show bnd (f x) (fun y => if acc.length < 16777216 then compM f r (acc ++ [y]) else none) = some out from h)
  by_cases c : acc.length < 16777216
  · rw [if_pos c] at h2
    exact ⟨y, h1, c, h2⟩
  · rw [if_neg c] at h2
    cases h2
theorem compM_nil {f : α → Option β} {acc out : List β} (h : compM f [] acc = some out) : out = acc := (Option.some.inj h).symm
/-- .. with a test -/
def compT (c : α → Option Bool) (f : α → Option β) : List α → List β → Option (List β)
  | [], acc => some acc
  | x :: r, acc => bnd (c x) fun b => ifB b (bnd (f x) fun y => if acc.length < 16777216 then compT c f r (acc ++ [y]) else none) (compT c f r acc)
theorem compT_nil {c : α → Option Bool} {f : α → Option β} {acc out : List β} (h : compT c f [] acc = some out) : out = acc := (Option.some.inj h).symm
theorem compT_cons {c : α → Option Bool} {f : α → Option β} {x : α} {r : List α} {acc out : List β} (h : compT c f (x :: r) acc = some out) :
    ∃ b, c x = some b ∧ ifB b (bnd (f x) fun y => if acc.length < 16777216 then compT c f r (acc ++ [y]) else none) (compT c f r acc) = some out := bndE h
theorem compT_yes {c : α → Option Bool} {f : α → Option β} {x : α} {r : List α} {acc out : List β} (h : (bnd (f x) fun y => if acc.length < 16777216 then compT c f r (acc ++ [y]) else none) = some out) :
    ∃ y, f x = some y ∧ acc.length < 16777216 ∧ compT c f r (acc ++ [y]) = some out := by
  obtain ⟨y, h1, h2⟩ := bndE h
  by_cases c : acc.length < 16777216
  · rw [if_pos c] at h2
    exact ⟨y, h1, c, h2⟩
  · rw [if_neg c] at h2
    cases h2
end
section
variable {α : Type}
def grd (c : Prop) [Decidable c] (a : α) : Option α := if c then some a else none
theorem grdE {c : Prop} [Decidable c] {a r : α} (h : grd c a = some r) : c ∧ a = r := by
  unfold grd at h
  by_cases hc : c
  · rw [if_pos hc] at h
    exact ⟨hc, Option.some.inj h⟩
  · rw [if_neg hc] at h
    cases h
theorem grd_of {c : Prop} [Decidable c] {a : α} (h : c) : grd c a = some a := if_pos h
def appG (xs : List α) (y : α) : Option (List α) := grd (xs.length < 16777216) (xs ++ [y])
def catG (xs ys : List α) : Option (List α) := grd (xs.length + ys.length ≤ 16777216) (xs ++ ys)
def repL (xs : List α) : Nat → List α
  | 0 => []
  | n + 1 => xs ++ repL xs n
def repG (xs : List α) (k : Int) : Option (List α) := grd (-(2 ^ 63) ≤ k ∧ k < 2 ^ 63 ∧ xs.length * k.toNat ≤ 16777216) (List.flatten (List.replicate k.toNat xs))
def setG (xs : List α) (i : Int) (y : α) : Option (List α) := match ixN xs.length i with
  | some j => some (xs.set j y)
  | none => none
def cutL (xs : List α) (lo hi : Option Int) : List α := (xs.drop (HT.sIx xs.length 0 lo)).take (HT.sIx xs.length xs.length hi - HT.sIx xs.length 0 lo)
def rangeI (lo hi : Int) : List Int := (List.range (hi - lo).toNat).map fun (i : Nat) => lo + (i : Int)
def rng1 (hi : Int) : Option (List Int) := grd (-(2 ^ 62) ≤ hi ∧ hi < 2 ^ 62) (rangeI 0 hi)
def rng2 (lo hi : Int) : Option (List Int) := grd (-(2 ^ 62) ≤ lo ∧ lo < 2 ^ 62 ∧ -(2 ^ 62) ≤ hi ∧ hi < 2 ^ 62) (rangeI lo hi)
end
def modG (i j : Int) : Option Int := grd (0 < j) (i % j)
def fdivG (i j : Int) : Option Int := grd (0 < j ∧ j.natAbs.log2 < 9000) (i / j)
def mulG (i j : Int) : Option Int := grd (i.natAbs.log2 + j.natAbs.log2 < 1000000) (i * j)
def shlG (i j : Int) : Option Int := grd (0 ≤ j ∧ (Builtin.Int.intBits i : Int) + j ≤ 2 ^ 27) (i * 2 ^ j.toNat)
def shrG (i j : Int) : Option Int := grd (0 ≤ j) (i / 2 ^ j.toNat)
def powG (i j : Int) : Option Int := grd (0 ≤ j ∧ j ≤ 1000000 ∧ i.natAbs < 2 ^ 64) (i ^ j.toNat)

/-! ### the steps -/
section
variable {K : PySem.W.Frag} {σ : St} {H R : Hp} {L : List Cell} {Q : VK} {i j t : Int} {x y z v : V} {a b p q : Addr} {α : Type} {f : α → V} {xs ys zs : List α} {xs' ys' : List Int}
theorem k_mul (h : mulG i j = some t) (k : Q (.int t) H) : rI CMulW (fun i j => .int (i * j)) (.int i) (.int j) H Q := by
  obtain ⟨c, rfl⟩ := grdE h
  exact ⟨_, _, rfl, rfl, c, k⟩
theorem k_mod (h : modG i j = some t) (k : Q (.int t) H) : rI (fun _ j => 0 < j) (fun i j => .int (i % j)) (.int i) (.int j) H Q := by
  obtain ⟨c, rfl⟩ := grdE h
  exact ⟨_, _, rfl, rfl, c, k⟩
theorem k_fdiv (h : fdivG i j = some t) (k : Q (.int t) H) : rI CDivW (fun i j => .int (i / j)) (.int i) (.int j) H Q := by
  obtain ⟨c, rfl⟩ := grdE h
  exact ⟨_, _, rfl, rfl, c, k⟩
theorem k_shl (h : shlG i j = some t) (k : Q (.int t) H) : rI CShl (fun i j => .int (i * 2 ^ j.toNat)) (.int i) (.int j) H Q := by
  obtain ⟨c, rfl⟩ := grdE h
  exact ⟨_, _, rfl, rfl, c, k⟩
theorem k_shr (h : shrG i j = some t) (k : Q (.int t) H) : rI (fun _ j => 0 ≤ j) (fun i j => .int (i / 2 ^ j.toNat)) (.int i) (.int j) H Q := by
  obtain ⟨c, rfl⟩ := grdE h
  exact ⟨_, _, rfl, rfl, c, k⟩
theorem k_pow (h : powG i j = some t) (k : Q (.int t) H) : rI CPow (fun i j => .int (i ^ j.toNat)) (.int i) (.int j) H Q := by
  obtain ⟨c, rfl⟩ := grdE h
  exact ⟨_, _, rfl, rfl, c, k⟩
theorem dec_int (i j : Int) : decide (V.int i = V.int j) = decide (i = j) := by
  by_cases h : i = j
  · subst h; simp
  · have : ¬ V.int i = V.int j := fun e => h (V.int.inj e)
    simp [h, this]
theorem dec_bl (i j : Bool) : decide (V.bl i = V.bl j) = decide (i = j) := by
  by_cases h : i = j
  · subst h; simp
  · have : ¬ V.bl i = V.bl j := fun e => h (V.bl.inj e)
    simp [h, this]
theorem dec_str (i j : Str) : decide (V.str i = V.str j) = decide (i = j) := by
  by_cases h : i = j
  · subst h; simp
  · have : ¬ V.str i = V.str j := fun e => h (V.str.inj e)
    simp [h, this]
theorem k_eqI (k : Q (.bl (decide (i = j))) H) : rEq (.int i) (.int j) H Q := ⟨rfl, by rw [dec_int]; exact k⟩
theorem k_neI (k : Q (.bl (!decide (i = j))) H) : rNe (.int i) (.int j) H Q := ⟨rfl, by rw [dec_int]; exact k⟩
theorem k_eqB {c d : Bool} (k : Q (.bl (decide (c = d))) H) : rEq (.bl c) (.bl d) H Q := ⟨rfl, by rw [dec_bl]; exact k⟩
theorem k_neB {c d : Bool} (k : Q (.bl (!decide (c = d))) H) : rNe (.bl c) (.bl d) H Q := ⟨rfl, by rw [dec_bl]; exact k⟩
theorem k_eqS {c d : Str} (k : Q (.bl (decide (c = d))) H) : rEq (.str c) (.str d) H Q := ⟨rfl, by rw [dec_str]; exact k⟩
theorem k_neS {c d : Str} (k : Q (.bl (!decide (c = d))) H) : rNe (.str c) (.str d) H Q := ⟨rfl, by rw [dec_str]; exact k⟩
/-! deep == of flat lists -/
theorem dpI : ∀ (ns : List Int), DpAll K H (ns.map V.int) (ns.map PyData.int)
  | [] => .nil
  | n :: r => .cons (.int n) (dpI r)
theorem dpB : ∀ (ns : List Bool), DpAll K H (ns.map V.bl) (ns.map PyData.bool)
  | [] => .nil
  | n :: r => .cons (.bl n) (dpB r)
theorem dpS : ∀ (ns : List Str), DpAll K H (ns.map V.str) (ns.map PyData.str)
  | [] => .nil
  | n :: r => .cons (.str n) (dpS r)

theorem sh_I (ns : List Int) : SeqAt.shaped (.list (ns.map PyData.int)) = true := by
  have h1 : ∀ ns : List Int, PyData.canLayAll0 (ns.map PyData.int) = true := fun ns => by
    induction ns with
    | nil => rfl
    | cons n r ih => simpa [PyData.canLayAll0, PyData.canLay0] using ih
  have h2 : ∀ ns : List Int, PyData.depthAll (ns.map PyData.int) = 0 := fun ns => by
    induction ns with
    | nil => rfl
    | cons n r ih => simpa [PyData.depthAll, PyData.depth] using ih
  simp [SeqAt.shaped, PyData.canLay0, h1, PyData.depth, h2]
theorem sh_B (ns : List Bool) : SeqAt.shaped (.list (ns.map PyData.bool)) = true := by
  have h1 : ∀ ns : List Bool, PyData.canLayAll0 (ns.map PyData.bool) = true := fun ns => by
    induction ns with
    | nil => rfl
    | cons n r ih => simpa [PyData.canLayAll0, PyData.canLay0] using ih
  have h2 : ∀ ns : List Bool, PyData.depthAll (ns.map PyData.bool) = 0 := fun ns => by
    induction ns with
    | nil => rfl
    | cons n r ih => simpa [PyData.depthAll, PyData.depth] using ih
  simp [SeqAt.shaped, PyData.canLay0, h1, PyData.depth, h2]
theorem ev_I : ∀ (ns ms : List Int), PyData.eqv (.list (ns.map PyData.int)) (.list (ms.map PyData.int)) = decide (ns = ms) := by
  have h : ∀ (ns ms : List Int), PyData.eqvAll (ns.map PyData.int) (ms.map PyData.int) = decide (ns = ms) := fun ns => by
    induction ns with
    | nil => intro ms; cases ms <;> simp [PyData.eqvAll]
    | cons n r ih =>
      intro ms
      cases ms with
      | nil => simp [PyData.eqvAll]
      | cons m s =>
        simp only [List.map_cons, PyData.eqvAll, PyData.eqv, ih, List.cons.injEq, Bool.decide_and]
        rw [Bool.beq_eq_decide_eq]
  exact fun ns ms => by simpa only [PyData.eqv] using h ns ms
theorem k_eqLI (ha : SqL K H a (xs'.map V.int)) (hb : SqL K H b (ys'.map V.int)) (k : Q (.bl (decide (xs' = ys'))) H) : rEqD K (.ref a) (.ref b) H Q :=
  ⟨_, _, .lst ha (dpI _), .lst hb (dpI _), sh_I _, sh_I _, by rw [ev_I]; exact k⟩
theorem k_neLI (ha : SqL K H a (xs'.map V.int)) (hb : SqL K H b (ys'.map V.int)) (k : Q (.bl (!decide (xs' = ys'))) H) : rNeD K (.ref a) (.ref b) H Q :=
  ⟨_, _, .lst ha (dpI _), .lst hb (dpI _), sh_I _, sh_I _, by rw [ev_I]; exact k⟩
/-! lists -/
theorem k_len (h : SqL K H a (xs.map f)) (k : Q (.int (xs.length : Int)) H) : ∃ p ys, [V.ref a] = [V.ref p] ∧ (SqL K H p ys ∨ SqT K H p ys) ∧ Q (.int ys.length) H :=
  ⟨a, _, rfl, .inl h, by rw [List.length_map]; exact k⟩
theorem k_list (O : Own R H L) {ys : List V} (h : SqL K H a ys) (k : ∀ p H', Own R H' ((p, .lst ys) :: L) → Q (.ref p) H') : ∃ p ys, [V.ref a] = [V.ref p] ∧ (SqL K H p ys ∨ SqT K H p ys) ∧ ∀ l, H l = none → Q (.ref l) (upd H l (.lst ys)) :=
  ⟨a, _, rfl, .inl h, fun l hl => k l _ (O.new hl)⟩
theorem k_sum (h : SqL K H a (xs'.map V.int)) (k : Q (.int xs'.sum) H) : rSum K [.ref a] H Q := ⟨a, _, rfl, h, k⟩
theorem k_new {zs : List V} (O : Own R H L) (k : ∀ p H', Own R H' ((p, .lst zs) :: L) → Q (.ref p) H') : ∀ p, H p = none → Q (.ref p) (upd H p (.lst zs)) := fun p hp => k p _ (O.new hp)
theorem k_newT {zs : List V} (O : Own R H L) (k : ∀ p H', Own R H' ((p, .tup zs) :: L) → Q (.ref p) H') : ∀ p, H p = none → Q (.ref p) (upd H p (.tup zs)) := fun p hp => k p _ (O.new hp)
theorem at_map {xs : List α} {i : Int} {x : α} (h : atI xs i = some x) (f : α → V) : atI (xs.map f) i = some (f x) := by
  unfold atI at h ⊢
  rw [List.length_map]
  cases e : ixN xs.length i with
  | none => rw [e] at h; cases h
  | some j =>
    rw [e] at h
    show (xs.map f)[j]? = some (f x)
    rw [List.getElem?_map, (show xs[j]? = some x from h)]
    rfl
theorem k_ixL {x : α} (hs : SqL K H a (xs.map f)) (h : atI xs i = some x) (k : Q (f x) H) : rIxL K (.ref a) (.int i) H Q := ⟨a, _, i, _, rfl, rfl, hs, at_map h f, k⟩
theorem map_snoc (xs : List α) (x : α) (f : α → V) : xs.map f ++ [f x] = (xs ++ [x]).map f := by rw [List.map_append]; rfl
theorem k_app {x : α} {g : HO → List Cell} (hl : H a = some (.lst (xs.map f))) (hp : ∀ o', Own R (upd H a o') (g o')) (h : appG xs x = some ys) (k : ∀ H', Own R H' (g (.lst (ys.map f))) → Q .non H') : rAppend (.ref a) [f x] H Q := by
  obtain ⟨c, rfl⟩ := grdE h
  refine ⟨a, _, _, rfl, rfl, hl, by rw [List.length_map]; exact c, ?_⟩
  rw [map_snoc]
  exact k _ (hp _)
theorem map_cut (xs : List α) (lo hi : Option Int) (f : α → V) : cutV (xs.map f) lo hi = (cutL xs lo hi).map f := by
  unfold cutV cutL
  rw [List.length_map, ← List.map_drop, ← List.map_take]
theorem k_cut {lo hi : Option Int} (O : Own R H L) (hs : SqL K H a (xs.map f)) (k : ∀ p H', Own R H' ((p, .lst ((cutL xs lo hi).map f)) :: L) → Q (.ref p) H') : rSlL K (.ref a) lo hi H Q :=
  ⟨a, _, rfl, hs, fun p hp => by rw [map_cut]; exact k p _ (O.new hp)⟩
theorem k_cat {ys zs : List α} (O : Own R H L) (h1 : H a = some (.lst (xs.map f))) (h2 : H b = some (.lst (ys.map f))) (h : catG xs ys = some zs) (k : ∀ p H', Own R H' ((p, .lst (zs.map f)) :: L) → Q (.ref p) H') : rCat (.ref a) (.ref b) H Q := by
  obtain ⟨c, rfl⟩ := grdE h
  exact ⟨a, b, _, _, rfl, rfl, h1, h2, by rw [List.length_map, List.length_map]; exact c, fun p hp => by rw [← List.map_append]; exact k p _ (O.new hp)⟩
theorem k_setL {x : α} {g : HO → List Cell} {QH : Hp → Prop} (hl : H a = some (.lst (xs.map f))) (hp : ∀ o', Own R (upd H a o') (g o')) (h : setG xs i x = some ys) (k : ∀ H', Own R H' (g (.lst (ys.map f))) → QH H') : rSetL (.ref a) (.int i) (f x) H QH := by
  unfold setG at h
  cases e : ixN xs.length i with
  | none => rw [e] at h; cases h
  | some j =>
    rw [e] at h
    cases h
    refine ⟨a, _, i, j, rfl, rfl, hl, by rw [List.length_map]; exact e, ?_⟩
    have e2 : (xs.map f).set j (f x) = (xs.set j x).map f := by rw [List.map_set]
    rw [e2]
    exact k _ (hp _)
/-! tests with two sides: what the one is asked for, the other is not seen -/
theorem x_and {c d e : Bool} {tt uu : TT} {QB : Bool → Hp → Prop} (O : Own R H L) (h1 : ∀ Q1 : Bool → Hp → Prop, (∀ H', Own R H' L → Q1 c H') → tt σ H Q1) (h2 : c = true → e = d ∧ ∀ H', Own R H' L → ∀ Q2 : Bool → Hp → Prop, (∀ H'', Own R H'' L → Q2 e H'') → uu σ H' Q2)
    (h3 : c = false → false = d) (k : ∀ H', Own R H' L → QB d H') : tAnd tt uu σ H QB := by
  refine h1 _ fun H' O' => ?_
  cases c with
  | true =>
    obtain ⟨e1, g2⟩ := h2 rfl
    subst e1
    exact g2 H' O' QB k
  | false =>
    rw [← h3 rfl] at k
    exact k H' O'
theorem x_or {c d e : Bool} {tt uu : TT} {QB : Bool → Hp → Prop} (O : Own R H L) (h1 : ∀ Q1 : Bool → Hp → Prop, (∀ H', Own R H' L → Q1 c H') → tt σ H Q1) (h2 : c = false → e = d ∧ ∀ H', Own R H' L → ∀ Q2 : Bool → Hp → Prop, (∀ H'', Own R H'' L → Q2 e H'') → uu σ H' Q2)
    (h3 : c = true → true = d) (k : ∀ H', Own R H' L → QB d H') : tOr tt uu σ H QB := by
  refine h1 _ fun H' O' => ?_
  cases c with
  | false =>
    obtain ⟨e1, g2⟩ := h2 rfl
    subst e1
    exact g2 H' O' QB k
  | true =>
    rw [← h3 rfl] at k
    exact k H' O'
theorem x_andV {c d e : Bool} {tt uu : TE} (O : Own R H L) (h1 : ∀ Q1 : VK, (∀ H', Own R H' L → Q1 (.bl c) H') → tt σ H Q1) (h2 : c = true → e = d ∧ ∀ H', Own R H' L → ∀ Q2 : VK, (∀ H'', Own R H'' L → Q2 (.bl e) H'') → uu σ H' Q2)
    (h3 : c = false → false = d) (k : ∀ H', Own R H' L → Q (.bl d) H') : tAndV tt uu σ H Q := by
  refine h1 _ fun H' O' => ⟨_, rfl, ?_⟩
  cases c with
  | true =>
    obtain ⟨e1, g2⟩ := h2 rfl
    subst e1
    exact g2 H' O' Q k
  | false =>
    rw [← h3 rfl] at k
    exact k H' O'
theorem x_orV {c d e : Bool} {tt uu : TE} (O : Own R H L) (h1 : ∀ Q1 : VK, (∀ H', Own R H' L → Q1 (.bl c) H') → tt σ H Q1) (h2 : c = false → e = d ∧ ∀ H', Own R H' L → ∀ Q2 : VK, (∀ H'', Own R H'' L → Q2 (.bl e) H'') → uu σ H' Q2)
    (h3 : c = true → true = d) (k : ∀ H', Own R H' L → Q (.bl d) H') : tOrV tt uu σ H Q := by
  refine h1 _ fun H' O' => ⟨_, rfl, ?_⟩
  cases c with
  | false =>
    obtain ⟨e1, g2⟩ := h2 rfl
    subst e1
    exact g2 H' O' Q k
  | true =>
    rw [← h3 rfl] at k
    exact k H' O'
/-- a < b < c -/
theorem x_chain {r r' : R2} {c d e : Bool} {ta tb tc : TE} (O : Own R H L) (h1 : ∀ Q1 : VK, (∀ H', Own R H' L → Q1 x H') → ta σ H Q1) (h2 : ∀ H', Own R H' L → ∀ Q1 : VK, (∀ H', Own R H' L → Q1 y H') → tb σ H' Q1) (h3 : ∀ H' (Q1 : VK), Q1 (.bl c) H' → r x y H' Q1)
    (h4 : c = true → e = d ∧ ∀ H', Own R H' L → ∀ Q1 : VK, (∀ H', Own R H' L → Q1 z H') → tc σ H' Q1) (h5 : ∀ H' (Q1 : VK), Q1 (.bl e) H' → r' y z H' Q1) (h6 : c = false → false = d) (k : ∀ H', Own R H' L → Q (.bl d) H') : tChain r r' ta tb tc σ H Q := by
  refine h1 _ fun H1 O1 => h2 H1 O1 _ fun H2 O2 => h3 H2 _ ⟨c, rfl, ?_⟩
  cases c with
  | true =>
    obtain ⟨e1, g4⟩ := h4 rfl
    subst e1
    exact g4 H2 O2 _ fun H3 O3 => h5 H3 _ (k H3 O3)
  | false =>
    rw [← h6 rfl] at k
    exact k H2 O2
/-- a if c else b, a value -/
theorem x_if {c : Bool} {tt : TT} {ta tb : TE} (O : Own R H L) (h1 : ∀ Q1 : Bool → Hp → Prop, (∀ H', Own R H' L → Q1 c H') → tt σ H Q1) (h2 : c = true → x = v ∧ ∀ H', Own R H' L → ∀ Q2 : VK, (∀ H'', Own R H'' L → Q2 x H'') → ta σ H' Q2)
    (h3 : c = false → y = v ∧ ∀ H', Own R H' L → ∀ Q2 : VK, (∀ H'', Own R H'' L → Q2 y H'') → tb σ H' Q2) (k : ∀ H', Own R H' L → Q v H') : tIf tt ta tb σ H Q := by
  refine h1 _ fun H' O' => ?_
  cases c with
  | true =>
    obtain ⟨e1, g2⟩ := h2 rfl
    subst e1
    exact g2 H' O' Q k
  | false =>
    obtain ⟨e1, g3⟩ := h3 rfl
    subst e1
    exact g3 H' O' Q k
theorem iteS {c : Bool} {A B : Prop} (h1 : c = true → A) (h2 : c = false → B) : if c = true then A else B := by
  cases c with
  | true => rw [if_pos rfl]; exact h1 rfl
  | false => rw [if_neg Bool.false_ne_true]; exact h2 rfl
/-! loops -/
theorem k_forL {g : TG} {tb : TS} {D : Ends} (J : List α → St → Hp → Prop) (h0 : J xs σ H) (hl : ∀ r σ H, J r σ H → SqL K H a (xs.map f))
    (hs : ∀ x r σ H, J (x :: r) σ H → g (f x) σ H fun σ2 H2 => tb { D with nx := J r, ct := J r, bk := D.nx } σ2 H2) (hd : ∀ σ H, J [] σ H → D.nx σ H) :
    ∃ W : Nat → Nat → St → Hp → Prop, (∃ m, W 0 m σ H) ∧ ∀ i m σ H, W i m σ H →
      ((Itl K a).stop i H ∧ D.nx σ H) ∨ ((Itl K a).go i H ∧ ∃ N : St → Hp → Prop, (∀ σ' H', N σ' H' → ∃ m', m' < m ∧ W (i + 1) m' σ' H') ∧ ∀ x H', (Itl K a).yld i H x H' → g x σ H' fun σ2 H2 => tb { D with nx := N, ct := N, bk := D.nx } σ2 H2) := by
  refine for_list (xs := xs.map f) (fun i σ H => J (xs.drop i) σ H) h0 (fun i σ H _ => hl _ σ H) (fun i x σ H hi hJ => ?_) fun σ H hJ => ?_
  · rw [List.getElem?_map] at hi
    cases e : xs[i]? with
    | none => rw [e] at hi; cases hi
    | some y =>
      rw [e] at hi
      cases hi
      have e2 : xs.drop i = y :: xs.drop (i + 1) := by
        obtain ⟨h1, h2⟩ := List.getElem?_eq_some_iff.mp e
        rw [← h2]
        exact List.drop_eq_getElem_cons h1
      rw [e2] at hJ
      exact hs y _ σ H hJ
  · rw [List.length_map, List.drop_length] at hJ
    exact hd σ H hJ
theorem k_forR {lo : Int} {n : Nat} {g : TG} {tb : TS} {D : Ends} (J : List Int → St → Hp → Prop) (h0 : J ((List.range n).map fun (i : Nat) => lo + (i : Int)) σ H)
    (hs : ∀ x r σ H, J (x :: r) σ H → g (.int x) σ H fun σ2 H2 => tb { D with nx := J r, ct := J r, bk := D.nx } σ2 H2) (hd : ∀ σ H, J [] σ H → D.nx σ H) :
    ∃ W : Nat → Nat → St → Hp → Prop, (∃ m, W 0 m σ H) ∧ ∀ i m σ H, W i m σ H →
      ((Itr lo n).stop i H ∧ D.nx σ H) ∨ ((Itr lo n).go i H ∧ ∃ N : St → Hp → Prop, (∀ σ' H', N σ' H' → ∃ m', m' < m ∧ W (i + 1) m' σ' H') ∧ ∀ x H', (Itr lo n).yld i H x H' → g x σ H' fun σ2 H2 => tb { D with nx := N, ct := N, bk := D.nx } σ2 H2) := by
  refine for_range (fun i σ H => J (((List.range n).map fun (i : Nat) => lo + (i : Int)).drop i) σ H) h0 (fun i σ H hi hJ => ?_) fun σ H hJ => ?_
  · have e2 : ((List.range n).map fun (i : Nat) => lo + (i : Int)).drop i = (lo + (i : Int)) :: ((List.range n).map fun (i : Nat) => lo + (i : Int)).drop (i + 1) := by
      have h1 : i < ((List.range n).map fun (i : Nat) => lo + (i : Int)).length := by simpa using hi
      rw [List.drop_eq_getElem_cons h1]
      simp
    rw [e2] at hJ
    exact hs _ _ σ H hJ
  · have e : ((List.range n).map fun (i : Nat) => lo + (i : Int)).drop n = [] := List.drop_eq_nil_of_le (by simp)
    rw [e] at hJ
    exact hd σ H hJ
theorem k_rng1 {RJ : It → Hp → Prop} (h : rng1 j = some xs') (k : xs' = ((List.range j.toNat).map fun (i : Nat) => (0 : Int) + (i : Int)) → RJ (Itr 0 j.toNat) H) : ∃ j' : Int, [V.int j] = [V.int j'] ∧ -(2 ^ 62) ≤ j' ∧ j' < 2 ^ 62 ∧ RJ (Itr 0 j'.toNat) H := by
  obtain ⟨⟨c1, c2⟩, rfl⟩ := grdE h
  exact ⟨j, rfl, c1, c2, k (by unfold rangeI; rw [Int.sub_zero])⟩
theorem k_rng2 {RJ : It → Hp → Prop} (h : rng2 i j = some xs') (k : xs' = ((List.range (j - i).toNat).map fun (n : Nat) => i + (n : Int)) → RJ (Itr i (j - i).toNat) H) :
    ∃ i' j' : Int, [V.int i, V.int j] = [V.int i', V.int j'] ∧ (-(2 ^ 62) ≤ i' ∧ i' < 2 ^ 62 ∧ -(2 ^ 62) ≤ j' ∧ j' < 2 ^ 62) ∧ RJ (Itr i' (j' - i').toNat) H := by
  obtain ⟨c, rfl⟩ := grdE h
  exact ⟨i, j, rfl, c, k rfl⟩
/-- while: J, by the turns that the mirror still has -/
theorem k_while {tc : TT} {tb : TS} {D : Ends} (J : Nat → St → Hp → Prop) (n : Nat) (h0 : J n σ H)
    (hs : ∀ n σ H, J n σ H → tc σ H fun b H1 => if b = true then ∃ N : St → Hp → Prop, (∀ σ' H', N σ' H' → ∃ m', m' < n ∧ J m' σ' H') ∧ tb { D with nx := N, ct := N, bk := D.nx } σ H1 else D.nx σ H1) : tWhile tc tb D σ H :=
  ⟨J, ⟨n, h0⟩, hs⟩
/-! comprehensions -/
theorem k_lcL {g : TG} {te : TE} {vs : List Nat} {D : Addr} {Qd : Hp → Prop} (J : List α → Hp → Prop) (h0 : J xs (upd H D (.lst []))) (hl : ∀ r H, J r H → SqL K H a (xs.map f))
    (hs : ∀ x r H, J (x :: r) H → g (f x) (wipe σ vs) H fun σ2 H2 => wipe σ2 vs = wipe σ vs ∧ te σ2 H2 fun y H4 => ∃ acc, H4 D = some (.lst acc) ∧ acc.length < sizeLine ∧ J r (upd H4 D (.lst (acc ++ [y])))) (hd : ∀ H, J [] H → Qd H) :
    ∃ W : Nat → Nat → Hp → Prop, (∃ m, W 0 m (upd H D (.lst []))) ∧ ∀ i m H, W i m H →
      ((Itl K a).stop i H ∧ Qd H) ∨ ((Itl K a).go i H ∧ ∃ Nx : Hp → Prop, (∀ H', Nx H' → ∃ m', m' < m ∧ W (i + 1) m' H') ∧ ∀ x H', (Itl K a).yld i H x H' → g x (wipe σ vs) H' fun σ2 H2 => wipe σ2 vs = wipe σ vs ∧ tYes σ2 H2 fun b H3 =>
        if b = true then te σ2 H3 fun y H4 => ∃ acc, H4 D = some (.lst acc) ∧ acc.length < sizeLine ∧ Nx (upd H4 D (.lst (acc ++ [y]))) else Nx H3) := by
  refine lc_list (xs := xs.map f) (fun i H => J (xs.drop i) H) h0 (fun i H _ => hl _ H) (fun i x H hi hJ => ?_) fun H hJ => ?_
  · rw [List.getElem?_map] at hi
    cases e : xs[i]? with
    | none => rw [e] at hi; cases hi
    | some y =>
      rw [e] at hi
      cases hi
      have e2 : xs.drop i = y :: xs.drop (i + 1) := by
        obtain ⟨h1, h2⟩ := List.getElem?_eq_some_iff.mp e
        rw [← h2]
        exact List.drop_eq_getElem_cons h1
      rw [e2] at hJ
      exact hs y _ H hJ
  · rw [List.length_map, List.drop_length] at hJ
    exact hd H hJ
theorem k_lcR {lo : Int} {n : Nat} {g : TG} {te : TE} {vs : List Nat} {D : Addr} {Qd : Hp → Prop} (J : List Int → Hp → Prop) (h0 : J ((List.range n).map fun (i : Nat) => lo + (i : Int)) (upd H D (.lst [])))
    (hs : ∀ x r H, J (x :: r) H → g (.int x) (wipe σ vs) H fun σ2 H2 => wipe σ2 vs = wipe σ vs ∧ te σ2 H2 fun y H4 => ∃ acc, H4 D = some (.lst acc) ∧ acc.length < sizeLine ∧ J r (upd H4 D (.lst (acc ++ [y])))) (hd : ∀ H, J [] H → Qd H) :
    ∃ W : Nat → Nat → Hp → Prop, (∃ m, W 0 m (upd H D (.lst []))) ∧ ∀ i m H, W i m H →
      ((Itr lo n).stop i H ∧ Qd H) ∨ ((Itr lo n).go i H ∧ ∃ Nx : Hp → Prop, (∀ H', Nx H' → ∃ m', m' < m ∧ W (i + 1) m' H') ∧ ∀ x H', (Itr lo n).yld i H x H' → g x (wipe σ vs) H' fun σ2 H2 => wipe σ2 vs = wipe σ vs ∧ tYes σ2 H2 fun b H3 =>
        if b = true then te σ2 H3 fun y H4 => ∃ acc, H4 D = some (.lst acc) ∧ acc.length < sizeLine ∧ Nx (upd H4 D (.lst (acc ++ [y]))) else Nx H3) := by
  refine lc_range (fun i H => J (((List.range n).map fun (i : Nat) => lo + (i : Int)).drop i) H) h0 (fun i H hi hJ => ?_) fun H hJ => ?_
  · have e2 : ((List.range n).map fun (i : Nat) => lo + (i : Int)).drop i = (lo + (i : Int)) :: ((List.range n).map fun (i : Nat) => lo + (i : Int)).drop (i + 1) := by
      have h1 : i < ((List.range n).map fun (i : Nat) => lo + (i : Int)).length := by simpa using hi
      rw [List.drop_eq_getElem_cons h1]
      simp
    rw [e2] at hJ
    exact hs _ _ H hJ
  · have e : ((List.range n).map fun (i : Nat) => lo + (i : Int)).drop n = [] := List.drop_eq_nil_of_le (by simp)
    rw [e] at hJ
    exact hd H hJ
end
end Bt

set_option Elab.async false
set_option linter.all false
set_option maxRecDepth 100000
set_option maxHeartbeats 4000000
/-! More steps. -/
namespace Bt
open PySem L2
/-- a name of the module that holds a value -/
def Gv (mg : Str → Option Value) (x : Str) (v : V) : Prop := ∃ u, mg x = some u ∧ RelV v u
theorem pe_gv {X : Cx} {x : Str} {v : V} {pos : Pos} (hg : Gl X x) (h : Gv X.mg x v) (hd : (x == ("__debug__" : Str)) = false := by decide) : PE X (.Name x pos) (tC v) := by
  obtain ⟨u, h1, h2⟩ := h
  exact pe_glob hg h1 h2 hd
section
variable {α S T R' : Type}
theorem finNx {rest : S → Option R'} {s : S} {r : R'} (h : finK rest (.nx s) = some r) : rest s = some r := h
theorem floNx {rest : S → Option (Fl T R')} {s : S} {fl : Fl T R'} (h : floK rest (.nx s) = some fl) : rest s = some fl := h
end
section
variable {K : PySem.W.Frag} {σ : St} {H R : Hp} {L L' : List Cell} {Q : VK} {a b p : Addr} {α : Type} {f : α → V} {xs ys zs : List α}
/-- some of the cells, by their places -/
theorem Own.sel (O : Own R H L) (is : List Nat) (hd : is.Nodup) (e : is.map (fun i => L[i]?) = L'.map some) : Own R H L' := by
  have hm : ∀ c ∈ L', c ∈ L := fun c hc => by
    have h1 : some c ∈ is.map (fun i => L[i]?) := by rw [e]; exact List.mem_map_of_mem hc
    obtain ⟨i, _, h2⟩ := List.mem_map.mp h1
    exact List.mem_of_getElem? h2
  refine ⟨O.ex, fun c h => O.at_ c (hm c h), fun c h => O.fr c (hm c h), ?_⟩
  clear hm
  induction is generalizing L' with
  | nil =>
    cases L' with
    | nil => exact List.Pairwise.nil
    | cons c r => simp at e
  | cons i is ih =>
    cases L' with
    | nil => simp at e
    | cons c r =>
      simp only [List.map_cons, List.cons.injEq] at e
      obtain ⟨e1, e2⟩ := e
      obtain ⟨n1, n2⟩ := List.nodup_cons.mp hd
      refine List.nodup_cons.mpr ⟨fun m => ?_, ih n2 e2⟩
      obtain ⟨d, hdm, ed⟩ := List.mem_map.mp m
      have h1 : some d ∈ is.map (fun i => L[i]?) := by rw [e2]; exact List.mem_map_of_mem hdm
      obtain ⟨j, hj, h2⟩ := List.mem_map.mp h1
      have g1 : (L.map (·.1))[i]? = some c.1 := by rw [List.getElem?_map, e1]; rfl
      have g2 : (L.map (·.1))[j]? = some c.1 := by
        rw [List.getElem?_map, h2]
        exact congrArg some ed
      have : i = j := nd_ix O.nd g1 g2
      subst this
      exact n1 hj
/-- the same, told by what is left -/
def pickL (L : List Cell) (is : List Nat) : List Cell := is.filterMap fun i => L[i]?
theorem pick_some (L : List Cell) : ∀ is : List Nat, (∀ i ∈ is, i < L.length) → is.map (fun i => L[i]?) = (pickL L is).map some
  | [], _ => rfl
  | i :: r, h => by
    have h1 := h i (List.Mem.head _)
    have ih := pick_some L r fun j hj => h j (List.Mem.tail _ hj)
    unfold pickL at ih ⊢
    rw [List.map_cons, List.filterMap_cons, ih, List.getElem?_eq_getElem h1]
    rfl
theorem Own.pk (O : Own R H L) (is : List Nat) (hd : is.Nodup) (e : pickL L is = L') : Own R H L' := by
  subst e
  have hm : pickL L is = pickL L (is.filter fun i => decide (i < L.length)) := by
    unfold pickL
    clear hd
    induction is with
    | nil => rfl
    | cons i r ih =>
      rw [List.filterMap_cons, List.filter_cons, ih]
      by_cases h : i < L.length
      · rw [decide_eq_true h, if_pos rfl, List.filterMap_cons]
      · rw [decide_eq_false h, if_neg (by simp), List.getElem?_eq_none (by omega)]
  rw [hm]
  exact O.sel _ (hd.filter _) (pick_some L _ fun i hi => by
    obtain ⟨_, h⟩ := List.mem_filter.mp hi
    exact of_decide_eq_true h)
theorem a_set {v v' : V} {nx : St → Hp → Prop} {i : Nat} (e : v = v') (k : nx (σ.set i (some v')) H) : nx (σ.set i (some v)) H := by rw [e]; exact k
theorem k_newM {zs : List V} (O : Own R H L) (e : xs.map f = zs) (k : ∀ p H', Own R H' ((p, .lst (xs.map f)) :: L) → Q (.ref p) H') : ∀ p, H p = none → Q (.ref p) (upd H p (.lst zs)) := by
  subst e
  exact fun p hp => k p _ (O.new hp)
theorem k_rep {k : Int} (O : Own R H L) (h1 : H a = some (.lst (xs.map f))) (h : repG xs k = some zs) (q : ∀ p H', Own R H' ((p, .lst (zs.map f)) :: L) → Q (.ref p) H') : rRep (.ref a) (.int k) H Q := by
  obtain ⟨⟨c1, c2, c3⟩, rfl⟩ := grdE h
  refine ⟨a, k, _, rfl, rfl, h1, c1, c2, by rw [List.length_map]; exact c3, fun p hp => ?_⟩
  have e : ∀ n : Nat, (List.replicate n (xs.map f)).flatten = (List.replicate n xs).flatten.map f := fun n => by
    induction n with
    | zero => rfl
    | succ n ih => rw [List.replicate_succ, List.flatten_cons, ih, List.replicate_succ, List.flatten_cons, List.map_append]
  first
    | (rw [e]; exact q p _ (O.new hp))
    | (show Q (.ref p) _; simpa only [e] using q p _ (O.new hp))
end
end Bt
namespace Bt
open PySem L2
/-! readings under a name of their own, so that what follows stands as an argument -/
@[irreducible] def rNewL (xs : List V) (H : Hp) (Q : VK) : Prop := xs.length ≤ sizeLine ∧ ∀ p, H p = none → Q (.ref p) (upd H p (.lst xs))
@[irreducible] def rNewT (xs : List V) (H : Hp) (Q : VK) : Prop := xs.length ≤ sizeLine ∧ ∀ p, H p = none → Q (.ref p) (upd H p (.tup xs))
@[irreducible] def rLenQ (K : PySem.W.Frag) (xs : List V) (H : Hp) (Q : VK) : Prop := ∃ p ys, xs = [V.ref p] ∧ (SqL K H p ys ∨ SqT K H p ys) ∧ Q (.int ys.length) H
@[irreducible] def rListQ (K : PySem.W.Frag) (xs : List V) (H : Hp) (Q : VK) : Prop := ∃ p ys, xs = [V.ref p] ∧ (SqL K H p ys ∨ SqT K H p ys) ∧ ∀ l, H l = none → Q (.ref l) (upd H l (.lst ys))
section
variable {X : Cx}
theorem pe_lstQ {es : List Expr} {t : TA} {pos : Pos} (h : PE X (.List es pos) (tLst t)) : PE X (.List es pos) (fun σ H Q => t σ H fun xs H1 => rNewL xs H1 Q) := by
  unfold rNewL
  exact h
theorem pe_tupQ {es : List Expr} {k : Nat} {t : TA} {pos : Pos} (h : PE X (.Tuple es k pos) (tTup t)) : PE X (.Tuple es k pos) (fun σ H Q => t σ H fun xs H1 => rNewT xs H1 Q) := by
  unfold rNewT
  exact h
theorem call_lenQ : CallR X (.builtin "len") (rLenQ X.K) := by
  have e : rLenQ X.K = fun xs H Q => ∃ p ys, xs = [V.ref p] ∧ (SqL X.K H p ys ∨ SqT X.K H p ys) ∧ Q (.int ys.length) H := by
    funext xs H Q
    unfold rLenQ
    rfl
  rw [e]
  exact call_len_seq
theorem call_listQ : CallR X (.type "list") (rListQ X.K) := by
  have e : rListQ X.K = fun xs H Q => ∃ p ys, xs = [V.ref p] ∧ (SqL X.K H p ys ∨ SqT X.K H p ys) ∧ ∀ l, H l = none → Q (.ref l) (upd H l (.lst ys)) := by
    funext xs H Q
    unfold rListQ
    rfl
  rw [e]
  exact call_list_of
end
section
variable {K : PySem.W.Frag} {σ : St} {H R : Hp} {L L' : List Cell} {Q : VK} {a b p : Addr} {α : Type} {f : α → V} {xs ys zs : List α}
theorem x_nil {QA : List V → Hp → Prop} (h : QA [] H) : tNil σ H QA := h
theorem x_np {QO : Option Int → Hp → Prop} (h : QO none H) : tNoPart σ H QO := h
theorem n_lst {zs : List V} (O : Own R H L) (e : xs.map f = zs) (hz : zs.length ≤ sizeLine) (k : ∀ p H', Own R H' ((p, .lst (xs.map f)) :: L) → Q (.ref p) H') : rNewL zs H Q := by
  subst e
  unfold rNewL
  exact ⟨hz, fun p hp => k p _ (O.new hp)⟩
theorem n_lenT {K : PySem.W.Frag} {H : Hp} {Q : VK} {a : Addr} {ys : List V} {n : Nat} (hs : SqT K H a ys) (hn : ys.length = n) (q : Q (.int (n : Int)) H) : rLenQ K [.ref a] H Q := by
  unfold rLenQ
  exact ⟨a, ys, rfl, .inr hs, by rw [hn]; exact q⟩
theorem n_len (h : SqL K H a (xs.map f)) (k : Q (.int (xs.length : Int)) H) : rLenQ K [.ref a] H Q := by
  unfold rLenQ
  exact ⟨a, _, rfl, .inl h, by rw [List.length_map]; exact k⟩
theorem n_list {ys : List V} (O : Own R H L) (h : SqL K H a ys) (k : ∀ p H', Own R H' ((p, .lst ys) :: L) → Q (.ref p) H') : rListQ K [.ref a] H Q := by
  unfold rListQ
  exact ⟨a, _, rfl, .inl h, fun l hl => k l _ (O.new hl)⟩
theorem rng1E {j : Int} {xs : List Int} (h : rng1 j = some xs) : -(2 ^ 62) ≤ j ∧ j < 2 ^ 62 ∧ ((List.range j.toNat).map fun (i : Nat) => (0 : Int) + (i : Int)) = xs := by
  obtain ⟨⟨c1, c2⟩, rfl⟩ := grdE h
  exact ⟨c1, c2, by unfold rangeI; rw [Int.sub_zero]⟩
theorem rng2E {i j : Int} {xs : List Int} (h : rng2 i j = some xs) : (-(2 ^ 62) ≤ i ∧ i < 2 ^ 62 ∧ -(2 ^ 62) ≤ j ∧ j < 2 ^ 62) ∧ ((List.range (j - i).toNat).map fun (n : Nat) => i + (n : Int)) = xs := by
  obtain ⟨c, rfl⟩ := grdE h
  exact ⟨c, rfl⟩
end
end Bt
namespace Bt
open PySem L2
/-! a reading opened by one step, by its head -/
section
variable {K : PySem.W.Frag} {σ : St} {H : Hp} {Q : VK} {D : Ends} {t u ts : TS} {te ta tb tl : TE} {tr : TA} {c : TT} {v : V} {i : Nat} {r : R2} {QB : Bool → Hp → Prop} {QA : List V → Hp → Prop} {QO : Option Int → Hp → Prop} {R : It → Hp → Prop}
theorem o_seq {n b k : St → Hp → Prop} {w : VK} (h : t (Ends.mk (u (Ends.mk n w b k)) w b k) σ H) : tSeq t u (Ends.mk n w b k) σ H := h
theorem o_asg {n b k : St → Hp → Prop} {w : VK} (h : te σ H fun x H1 => n (σ.set i (some x)) H1) : tAsg te (gName i) (Ends.mk n w b k) σ H := h
theorem o_drop {n b k : St → Hp → Prop} {w : VK} (h : te σ H fun _ H1 => n σ H1) : tDrop te (Ends.mk n w b k) σ H := h
theorem o_ret {n b k : St → Hp → Prop} {w : VK} (h : te σ H w) : tRet te (Ends.mk n w b k) σ H := h
theorem o_ifs {n b k : St → Hp → Prop} {w : VK} (h : c σ H fun z H1 => if z = true then t (Ends.mk n w b k) σ H1 else u (Ends.mk n w b k) σ H1) : tIfS c t u (Ends.mk n w b k) σ H := h
theorem o_next {n b k : St → Hp → Prop} {w : VK} (h : n σ H) : tNext (Ends.mk n w b k) σ H := h
theorem o_brk {n b k : St → Hp → Prop} {w : VK} (h : b σ H) : tBreak (Ends.mk n w b k) σ H := h
theorem o_cont {n b k : St → Hp → Prop} {w : VK} (h : k σ H) : tCont (Ends.mk n w b k) σ H := h
theorem o_retN {n b k : St → Hp → Prop} {w : VK} (h : w .non H) : tRetN (Ends.mk n w b k) σ H := h
theorem o_cut {n b k : St → Hp → Prop} {w : VK} (Mid : St → Hp → Prop) (h1 : t (Ends.mk Mid w b k) σ H) (h2 : ∀ σ' H', Mid σ' H' → u (Ends.mk n w b k) σ' H') : Evl.tCut t u (Ends.mk n w b k) σ H := ⟨Mid, h1, h2⟩
theorem o_op (h : ta σ H fun x H1 => tb σ H1 fun y H2 => r x y H2 Q) : tOp r ta tb σ H Q := h
theorem o_un {r : V → Hp → VK → Prop} (h : ta σ H fun x H1 => r x H1 Q) : tUn r ta σ H Q := h
theorem o_c (h : Q v H) : tC v σ H Q := h
theorem o_test (h : te σ H fun x H' => ∃ k, x = .bl k ∧ QB k H') : tTest te σ H QB := h
theorem o_B (h : te σ H fun x H' => ∃ k, x = .bl k ∧ QB k H') : tB te σ H QB := h
theorem o_not (h : c σ H fun b H1 => QB (!b) H1) : tNot c σ H QB := h
theorem o_notV (h : te σ H fun x H1 => ∃ c, x = .bl c ∧ Q (.bl (!c)) H1) : tNotV te σ H Q := h
theorem o_cons (h : ta σ H fun x H1 => tr σ H1 fun xs H2 => QA (x :: xs) H2) : tCons ta tr σ H QA := h
theorem o_cb {r : List V → Hp → VK → Prop} (h : tr σ H fun vs H1 => r vs H1 Q) : tCB r tr σ H Q := h
theorem o_call {sp : Sp} {dvs : List V} {E : XK} (h : tr σ H fun vs H1 => sp (vs ++ dvs) H1 Q E) : tCall sp dvs E tr σ H Q := h
theorem o_bm {T : String} {r : V → List V → Hp → VK → Prop} (h : te σ H fun x H1 => tyV K T x H1 ∧ tr σ H1 fun xs H2 => r x xs H2 Q) : tBM K T r te tr σ H Q := h
theorem o_bm0 {T : String} {r : V → List V → Hp → VK → Prop} (h : te σ H fun x H1 => tyV K T x H1 ∧ r x [] H1 Q) : tBM0 K T r te σ H Q := h
theorem o_sl {r : V → Option Int → Option Int → Hp → VK → Prop} {t1 t2 : TO} (h : te σ H fun x H1 => t1 σ H1 fun l H2 => t2 σ H2 fun u H3 => r x l u H3 Q) : tSl r te t1 t2 σ H Q := h
theorem o_part (h : te σ H fun x H1 => ∃ i, x = .int i ∧ QO (some i) H1) : tPart te σ H QO := h
theorem o_for {wi : TI} {g : TG} {n b k : St → Hp → Prop} {w : VK} (h : wi σ H fun J H1 => ∃ W : Nat → Nat → St → Hp → Prop, (∃ m, W 0 m σ H1) ∧ ∀ i m σ H, W i m σ H →
    (J.stop i H ∧ n σ H) ∨ (J.go i H ∧ ∃ N : St → Hp → Prop, (∀ σ' H', N σ' H' → ∃ m', m' < m ∧ W (i + 1) m' σ' H') ∧ ∀ x H', J.yld i H x H' → g x σ H' fun σ2 H2 => ts (Ends.mk N w n N) σ2 H2)) : tFor wi g ts (Ends.mk n w b k) σ H := h
theorem o_il (h : tl σ H fun x H1 => ∃ a, x = .ref a ∧ (∃ xs, SqL K H1 a xs) ∧ R (Itl K a) H1) : iList K tl σ H R := h
theorem o_ir1 (h : tr σ H fun vs H1 => ∃ j : Int, vs = [.int j] ∧ -(2 ^ 62) ≤ j ∧ j < 2 ^ 62 ∧ R (Itr 0 j.toNat) H1) : iRng1 tr σ H R := h
theorem o_ir2 (h : tr σ H fun vs H1 => ∃ i j : Int, vs = [.int i, .int j] ∧ (-(2 ^ 62) ≤ i ∧ i < 2 ^ 62 ∧ -(2 ^ 62) ≤ j ∧ j < 2 ^ 62) ∧ R (Itr i (j - i).toNat) H1) : iRng2 tr σ H R := h
theorem o_sub {to ti : TE} {tset : TSet} {n b k : St → Hp → Prop} {w : VK} (h : te σ H fun x H1 => to σ H1 fun o H2 => ti σ H2 fun i H3 => tset o i x H3 fun H4 => n σ H4) : tAsg te (gSub to ti tset) (Ends.mk n w b k) σ H := h
/-! the loops once more, their ends apart -/
variable {α : Type} {f : α → V} {xs : List α} {a : Addr} {g : TG} {n b k : St → Hp → Prop} {w : VK}
theorem q_forL {j : Nat} (J : List α → St → Hp → Prop) (h0 : J xs σ H) (hl : ∀ r σ H, J r σ H → SqL K H a (xs.map f))
    (hs : ∀ x r σ H, J (x :: r) σ H → ts (Ends.mk (J r) w n (J r)) (σ.set j (some (f x))) H) (hd : ∀ σ H, J [] σ H → n σ H) :
    ∃ W : Nat → Nat → St → Hp → Prop, (∃ m, W 0 m σ H) ∧ ∀ i m σ H, W i m σ H →
      ((Itl K a).stop i H ∧ n σ H) ∨ ((Itl K a).go i H ∧ ∃ N : St → Hp → Prop, (∀ σ' H', N σ' H' → ∃ m', m' < m ∧ W (i + 1) m' σ' H') ∧ ∀ x H', (Itl K a).yld i H x H' → gName j x σ H' fun σ2 H2 => ts (Ends.mk N w n N) σ2 H2) :=
  k_forL (D := Ends.mk n w (fun _ _ => False) fun _ _ => False) (g := gName j) (tb := ts) J h0 hl hs hd
theorem q_forR {j : Nat} {lo : Int} {m : Nat} (J : List Int → St → Hp → Prop) (h0 : J ((List.range m).map fun (i : Nat) => lo + (i : Int)) σ H)
    (hs : ∀ x r σ H, J (x :: r) σ H → ts (Ends.mk (J r) w n (J r)) (σ.set j (some (.int x))) H) (hd : ∀ σ H, J [] σ H → n σ H) :
    ∃ W : Nat → Nat → St → Hp → Prop, (∃ m, W 0 m σ H) ∧ ∀ i m' σ H, W i m' σ H →
      ((Itr lo m).stop i H ∧ n σ H) ∨ ((Itr lo m).go i H ∧ ∃ N : St → Hp → Prop, (∀ σ' H', N σ' H' → ∃ m'', m'' < m' ∧ W (i + 1) m'' σ' H') ∧ ∀ x H', (Itr lo m).yld i H x H' → gName j x σ H' fun σ2 H2 => ts (Ends.mk N w n N) σ2 H2) :=
  k_forR (D := Ends.mk n w (fun _ _ => False) fun _ _ => False) (g := gName j) (tb := ts) J h0 hs hd
end
end Bt
namespace Bt
open PySem L2
/-! what the head tells of a def -/
theorem def_mk {K : PySem.W.Frag} {h : Heap} {mg : Str → Option Value} {name qual : Str} {st : Stmt} {f : Addr} {od an : Option Addr} {sl : Array (Option Value)} {oc kV dc pm cd ct : Value} (X : K.In h) (G : h.Ns mainGlobals mg)
    (a : PySem.W.nsIn K mainGlobals name = some (some (.ref f))) (l : K.lookup f = some ⟨oc, od, .func (PySem.W.fnOf name qual (defArgs st) (defBody st) (defScope st) .none kV dc pm an cd ct), sl⟩) (c : PySem.W.codeIn K cd qual = true) (k : PySem.W.keepIn K (.ref f) = true) :
    ∃ f fd, Fun K name qual st f fd ∧ mg name = some (.ref f) := ⟨f, _, fun_mk l c k, PySem.W.mg_of X G a⟩
theorem gv_int {K : PySem.W.Frag} {h : Heap} {mg : Str → Option Value} {x : Str} {i : Int} {t : Tok} (X : K.In h) (G : h.Ns mainGlobals mg) (a : PySem.W.nsIn K mainGlobals x = some (some (.int i t))) : Gv mg x (.int i) := ⟨_, PySem.W.mg_of X G a, _, rfl⟩
end Bt
namespace Bt
open PySem L2
section
variable {K : PySem.W.Frag} {σ : St} {H R : Hp} {L : List Cell} {Q : VK} {a p : Addr} {i : Int} {x v : V} {S R' : Type}
def FUEL : Nat := 100000
theorem whileM_end {c : Bool} {s out : S} {f : Option S} (h : ifB c f (some s) = some out) (hc : c = false) : out = s := (Option.some.inj (ifF h hc)).symm
theorem whileF_end {c : Bool} {s : S} {out : Fl S R'} {f : Option (Fl S R')} (h : ifB c f (some (.nx s)) = some out) (hc : c = false) : Fl.nx s = out := Option.some.inj (ifF h hc)
/-- while: J, by the turns that the mirror still has -/
theorem q_while {tc : TT} {ts : TS} {n b k : St → Hp → Prop} {w : VK} (J : Nat → St → Hp → Prop) (m : Nat) (h0 : J m σ H) (hz : ∀ σ H, J 0 σ H → False)
    (hs : ∀ m σ H, J (m + 1) σ H → tc σ H fun z H1 => if z = true then ts (Ends.mk (J m) w n (J m)) σ H1 else n σ H1) (mono : ∀ σ H (Q Q' : Bool → Hp → Prop), (∀ z H1, Q z H1 → Q' z H1) → tc σ H Q → tc σ H Q') : tWhile tc ts (Ends.mk n w b k) σ H := by
  refine ⟨J, ⟨m, h0⟩, fun m σ H hJ => ?_⟩
  cases m with
  | zero => exact (hz σ H hJ).elim
  | succ m =>
    refine mono σ H _ _ (fun z H1 q => ?_) (hs m σ H hJ)
    cases z with
    | true =>
      rw [if_pos rfl] at q ⊢
      exact ⟨J m, fun σ' H' hJ' => ⟨m, Nat.lt_succ_self m, hJ'⟩, q⟩
    | false =>
      rw [if_neg Bool.false_ne_true] at q ⊢
      exact q
theorem o_while {tc : TT} {ts : TS} {n b k : St → Hp → Prop} {w : VK} (J : Nat → St → Hp → Prop) (m : Nat) (h0 : J m σ H) (hz : ∀ σ H, J 0 σ H → False)
    (hs : ∀ m σ H, J (m + 1) σ H → tc σ H fun z H1 => if z = true then ∃ N : St → Hp → Prop, (∀ σ' H', N σ' H' → ∃ m', m' < m + 1 ∧ J m' σ' H') ∧ ts (Ends.mk N w n N) σ H1 else n σ H1) : tWhile tc ts (Ends.mk n w b k) σ H := by
  refine ⟨J, ⟨m, h0⟩, fun m σ H hJ => ?_⟩
  cases m with
  | zero => exact (hz σ H hJ).elim
  | succ m => exact hs m σ H hJ
theorem o_turn {J : Nat → St → Hp → Prop} {m : Nat} {ts : TS} {n : St → Hp → Prop} {w : VK} (h : ts (Ends.mk (J m) w n (J m)) σ H) :
    ∃ N : St → Hp → Prop, (∀ σ' H', N σ' H' → ∃ m', m' < m + 1 ∧ J m' σ' H') ∧ ts (Ends.mk N w n N) σ H := ⟨J m, fun _ _ hJ => ⟨m, Nat.lt_succ_self m, hJ⟩, h⟩
theorem n_tup {zs : List V} (O : Own R H L) (hz : zs.length ≤ sizeLine) (k : ∀ p H', Own R H' ((p, .tup zs) :: L) → Q (.ref p) H') : rNewT zs H Q := by
  unfold rNewT
  exact ⟨hz, fun p hp => k p _ (O.new hp)⟩
theorem k_ixT {xs : List V} (hs : SqT K H a xs) (h : atI xs i = some v) (k : Q v H) : rIxT K (.ref a) (.int i) H Q := ⟨a, xs, i, v, rfl, rfl, hs, h, k⟩
end
end Bt
namespace Bt
open PySem L2
section
variable {K : PySem.W.Frag} {σ : St} {H R : Hp} {L : List Cell} {Q : VK} {a p : Addr} {i : Int} {x v : V} {α : Type} {f : α → V} {xs : List α}
theorem inV_int (i : Int) : ∀ xs : List Int, inV (.int i) (xs.map V.int) = decide (i ∈ xs)
  | [] => rfl
  | y :: r => by
    have ih := inV_int i r
    have e : inV (.int i) ((y :: r).map V.int) = (eqV (.int y) (.int i) || inV (.int i) (r.map V.int)) := rfl
    rw [e, ih]
    have e2 : eqV (.int y) (.int i) = decide (i = y) := by
      by_cases h : i = y
      · subst h; simp [eqV]
      · have : ¬ y = i := fun q => h q.symm
        simp [eqV, h, this]
    rw [e2]
    simp
theorem flat_int : ∀ xs : List Int, (xs.map V.int).all flatV = true
  | [] => rfl
  | y :: r => by
    have ih := flat_int r
    show (flatV (.int y) && (r.map V.int).all flatV) = true
    rw [ih]
    rfl
theorem k_inL {ns : List Int} (hs : SqL K H a (ns.map V.int)) (k : Q (.bl (decide (i ∈ ns))) H) : rIn K false (.int i) (.ref a) H Q :=
  ⟨a, _, rfl, .inl hs, rfl, flat_int _, by rw [inV_int]; exact k⟩
theorem k_niL {ns : List Int} (hs : SqL K H a (ns.map V.int)) (k : Q (.bl (!decide (i ∈ ns))) H) : rIn K true (.int i) (.ref a) H Q :=
  ⟨a, _, rfl, .inl hs, rfl, flat_int _, by rw [inV_int]; exact k⟩
theorem k_inT {ns : List Int} (hs : SqT K H a (ns.map V.int)) (k : Q (.bl (decide (i ∈ ns))) H) : rIn K false (.int i) (.ref a) H Q :=
  ⟨a, _, rfl, .inr hs, rfl, flat_int _, by rw [inV_int]; exact k⟩
theorem k_niT {ns : List Int} (hs : SqT K H a (ns.map V.int)) (k : Q (.bl (!decide (i ∈ ns))) H) : rIn K true (.int i) (.ref a) H Q :=
  ⟨a, _, rfl, .inr hs, rfl, flat_int _, by rw [inV_int]; exact k⟩
/-! comprehensions with a test -/
theorem k_lcLt {g : TG} {tt : TT} {te : TE} {vs : List Nat} {D : Addr} {Qd : Hp → Prop} (J : List α → Hp → Prop) (h0 : J xs (upd H D (.lst []))) (hl : ∀ r H, J r H → SqL K H a (xs.map f))
    (hs : ∀ x r H, J (x :: r) H → g (f x) (wipe σ vs) H fun σ2 H2 => wipe σ2 vs = wipe σ vs ∧ tt σ2 H2 fun b H3 => if b = true then te σ2 H3 fun y H4 => ∃ acc, H4 D = some (.lst acc) ∧ acc.length < sizeLine ∧ J r (upd H4 D (.lst (acc ++ [y]))) else J r H3) (hd : ∀ H, J [] H → Qd H) :
    ∃ W : Nat → Nat → Hp → Prop, (∃ m, W 0 m (upd H D (.lst []))) ∧ ∀ i m H, W i m H →
      ((Itl K a).stop i H ∧ Qd H) ∨ ((Itl K a).go i H ∧ ∃ Nx : Hp → Prop, (∀ H', Nx H' → ∃ m', m' < m ∧ W (i + 1) m' H') ∧ ∀ x H', (Itl K a).yld i H x H' → g x (wipe σ vs) H' fun σ2 H2 => wipe σ2 vs = wipe σ vs ∧ tt σ2 H2 fun b H3 =>
        if b = true then te σ2 H3 fun y H4 => ∃ acc, H4 D = some (.lst acc) ∧ acc.length < sizeLine ∧ Nx (upd H4 D (.lst (acc ++ [y]))) else Nx H3) := by
  refine lc_list (xs := xs.map f) (fun i H => J (xs.drop i) H) h0 (fun i H _ => hl _ H) (fun i x H hi hJ => ?_) fun H hJ => ?_
  · rw [List.getElem?_map] at hi
    cases e : xs[i]? with
    | none => rw [e] at hi; cases hi
    | some y =>
      rw [e] at hi
      cases hi
      have e2 : xs.drop i = y :: xs.drop (i + 1) := by
        obtain ⟨h1, h2⟩ := List.getElem?_eq_some_iff.mp e
        rw [← h2]
        exact List.drop_eq_getElem_cons h1
      rw [e2] at hJ
      exact hs y _ H hJ
  · rw [List.length_map, List.drop_length] at hJ
    exact hd H hJ
theorem k_lcRt {lo : Int} {n : Nat} {g : TG} {tt : TT} {te : TE} {vs : List Nat} {D : Addr} {Qd : Hp → Prop} (J : List Int → Hp → Prop) (h0 : J ((List.range n).map fun (i : Nat) => lo + (i : Int)) (upd H D (.lst [])))
    (hs : ∀ x r H, J (x :: r) H → g (.int x) (wipe σ vs) H fun σ2 H2 => wipe σ2 vs = wipe σ vs ∧ tt σ2 H2 fun b H3 => if b = true then te σ2 H3 fun y H4 => ∃ acc, H4 D = some (.lst acc) ∧ acc.length < sizeLine ∧ J r (upd H4 D (.lst (acc ++ [y]))) else J r H3) (hd : ∀ H, J [] H → Qd H) :
    ∃ W : Nat → Nat → Hp → Prop, (∃ m, W 0 m (upd H D (.lst []))) ∧ ∀ i m H, W i m H →
      ((Itr lo n).stop i H ∧ Qd H) ∨ ((Itr lo n).go i H ∧ ∃ Nx : Hp → Prop, (∀ H', Nx H' → ∃ m', m' < m ∧ W (i + 1) m' H') ∧ ∀ x H', (Itr lo n).yld i H x H' → g x (wipe σ vs) H' fun σ2 H2 => wipe σ2 vs = wipe σ vs ∧ tt σ2 H2 fun b H3 =>
        if b = true then te σ2 H3 fun y H4 => ∃ acc, H4 D = some (.lst acc) ∧ acc.length < sizeLine ∧ Nx (upd H4 D (.lst (acc ++ [y]))) else Nx H3) := by
  refine lc_range (fun i H => J (((List.range n).map fun (i : Nat) => lo + (i : Int)).drop i) H) h0 (fun i H hi hJ => ?_) fun H hJ => ?_
  · have e2 : ((List.range n).map fun (i : Nat) => lo + (i : Int)).drop i = (lo + (i : Int)) :: ((List.range n).map fun (i : Nat) => lo + (i : Int)).drop (i + 1) := by
      have h1 : i < ((List.range n).map fun (i : Nat) => lo + (i : Int)).length := by simpa using hi
      rw [List.drop_eq_getElem_cons h1]
      simp
    rw [e2] at hJ
    exact hs _ _ H hJ
  · have e : ((List.range n).map fun (i : Nat) => lo + (i : Int)).drop n = [] := List.drop_eq_nil_of_le (by simp)
    rw [e] at hJ
    exact hd H hJ
/-! for i, x in enumerate(xs) -/
def enumI {α : Type} : Nat → List α → List (Int × α)
  | _, [] => []
  | n, x :: r => ((n : Int), x) :: enumI (n + 1) r
theorem enumI_drop {α : Type} : ∀ (xs : List α) (n i : Nat) (x : α), xs[i]? = some x → (enumI n xs).drop i = (((n + i : Nat) : Int), x) :: (enumI n xs).drop (i + 1)
  | [], _, _, _, h => by simp at h
  | y :: r, n, 0, x, h => by
    cases (Option.some.inj h)
    rfl
  | y :: r, n, i + 1, x, h => by
    have ih := enumI_drop r (n + 1) i x (by simpa using h)
    show (enumI (n + 1) r).drop i = _ :: (enumI (n + 1) r).drop (i + 1)
    rw [ih]
    have : n + 1 + i = n + (i + 1) := by omega
    rw [this]
theorem enumI_len {α : Type} : ∀ (xs : List α) (n : Nat), (enumI n xs).length = xs.length
  | [], _ => rfl
  | x :: r, n => by show (enumI (n + 1) r).length + 1 = r.length + 1; rw [enumI_len r]
theorem q_forE {i1 i2 : Nat} {ts : TS} {n b k : St → Hp → Prop} {w : VK} {KK : PySem.W.Frag} (J : List (Int × α) → St → Hp → Prop) (h0 : J (enumI 0 xs) σ H) (hl : ∀ r σ H, J r σ H → SqL K H a (xs.map f)) (hx : ∀ r σ H H', J r σ H → Ex H H' → J r σ H')
    (hs : ∀ j x r σ H, J ((j, x) :: r) σ H → ts (Ends.mk (J r) w n (J r)) ((σ.set i1 (some (.int j))).set i2 (some (f x))) H) (hd : ∀ σ H, J [] σ H → n σ H) :
    ∃ W : Nat → Nat → St → Hp → Prop, (∃ m, W 0 m σ H) ∧ ∀ i m σ H, W i m σ H →
      ((Ite K a).stop i H ∧ n σ H) ∨ ((Ite K a).go i H ∧ ∃ N : St → Hp → Prop, (∀ σ' H', N σ' H' → ∃ m', m' < m ∧ W (i + 1) m' σ' H') ∧ ∀ x H', (Ite K a).yld i H x H' → gTup KK 2 (gCons (gName i1) (gCons (gName i2) gNil)) x σ H' fun σ2 H2 => ts (Ends.mk N w n N) σ2 H2) := by
  refine ⟨fun i m σ H => m = xs.length - i ∧ i ≤ xs.length ∧ J ((enumI 0 xs).drop i) σ H, ⟨xs.length, by simp, Nat.zero_le _, h0⟩, ?_⟩
  rintro i m σ H ⟨rfl, hi, hJ⟩
  have hS := hl _ σ H hJ
  by_cases hlt : i < xs.length
  · have e : xs[i]? = some xs[i] := List.getElem?_eq_getElem hlt
    have e1 : (xs.map f)[i]? = some (f xs[i]) := by rw [List.getElem?_map, e]; rfl
    have e2 := enumI_drop xs 0 i xs[i] e
    rw [e2] at hJ
    refine .inr ⟨⟨_, _, hS, e1⟩, J ((enumI 0 xs).drop (i + 1)), fun σ' H' hJ' => ⟨_, by omega, rfl, hlt, hJ'⟩, fun y H' hy => ?_⟩
    obtain ⟨T, x, rfl, hT, rfl, hq⟩ := hy
    have hxx := hq _ hS
    rw [e1] at hxx
    cases hxx
    refine ⟨T, _, rfl, SqT.of upd_same, rfl, _, _, rfl, _, _, rfl, rfl, ?_⟩
    have hJ2 := hx _ _ _ (upd H T (.tup [.int ((i : Nat) : Int), f xs[i]])) hJ (Ex.new hT)
    have e3 : ((0 + i : Nat) : Int) = (i : Int) := by omega
    rw [e3] at hJ2
    exact hs _ _ _ _ _ hJ2
  · have e : (enumI 0 xs).drop i = [] := List.drop_eq_nil_of_le (by rw [enumI_len]; omega)
    rw [e] at hJ
    exact .inl ⟨⟨_, hS, by rw [List.length_map]; omega⟩, hd σ H hJ⟩
end
end Bt
namespace Bt
open PySem L2
/-! what is refused -/
inductive Er where
  | NoBits | NoName | NoKey | NoFrame | NoPost | NoThing | NoStrip | NoRail
  | NoWire (i : Int) | NoRow (i : Int)
  deriving DecidableEq
structure Eds where
  NoBits : Addr
  NoName : Addr
  NoKey : Addr
  NoFrame : Addr
  NoPost : Addr
  NoThing : Addr
  NoStrip : Addr
  NoRail : Addr
  NoWire : Addr
  NoRow : Addr
  RailError : Addr
def Eds.of (d : Eds) : Er → Addr
  | .NoBits => d.NoBits
  | .NoName => d.NoName
  | .NoKey => d.NoKey
  | .NoFrame => d.NoFrame
  | .NoPost => d.NoPost
  | .NoThing => d.NoThing
  | .NoStrip => d.NoStrip
  | .NoRail => d.NoRail
  | .NoWire _ => d.NoWire
  | .NoRow _ => d.NoRow
inductive Rs (R : Type) where
  | ok (r : R)
  | er (e : Er)
def RetE (d : Eds) (e : Er) (H : Hp) (E : XK) : Prop := match e with
  | .NoWire i => ∀ H' a, H a = none → Ex H H' → H' a = some (.xd [(("at" : Str), .int i)]) → E (.ref d.NoWire) (some a) H'
  | .NoRow i => ∀ H' a, H a = none → Ex H H' → H' a = some (.xd [(("word" : Str), .int i)]) → E (.ref d.NoRow) (some a) H'
  | e => ∀ H', Ex H H' → E (.ref (d.of e)) none H'
def RetR {R : Type} (P : R → Prop) (d : Eds) (r : Rs R) (H : Hp) (E : XK) : Prop := match r with
  | .ok r => P r
  | .er e => RetE d e H E
section
variable {α β S R' : Type} {d : Eds} {H H0 : Hp} {E : XK} {L : List Cell}
theorem RetE.go {e : Er} (k : RetE d e H0 E) (O : Own H0 H L) : RetE d e H E := by
  cases e <;> first
    | exact fun H' h => k H' (O.ex.trans h)
    | exact fun H' a ha h => k H' a (O.ex.back ha) (O.ex.trans h)
theorem RetR.ok {P : α → Prop} {y : α} (h : P y) : RetR P d (.ok y) H E := h
theorem RetR.split {P : α → Prop} {x : Rs α} (h2 : ∀ e, x = .er e → RetE d e H E) (h1 : ∀ y, x = .ok y → P y) : RetR P d x H E := by
  cases x with
  | ok y => exact h1 y rfl
  | er e => exact h2 e rfl
def contR (f : α → Option (Rs β)) : Rs α → Option (Rs β)
  | .ok x => f x
  | .er e => some (.er e)
def bndR (a : Option (Rs α)) (f : α → Option (Rs β)) : Option (Rs β) := bnd a (contR f)
def contRF (f : α → Option (Fl S (Rs β))) : Rs α → Option (Fl S (Rs β))
  | .ok x => f x
  | .er e => some (.rt (.er e))
def bndRF (a : Option (Rs α)) (f : α → Option (Fl S (Rs β))) : Option (Fl S (Rs β)) := bnd a (contRF f)
def contO (f : α → Option β) : Rs α → Option β
  | .ok x => f x
  | .er _ => none
def bndO (a : Option (Rs α)) (f : α → Option β) : Option β := bnd a (contO f)
theorem bndRE {a : Option (Rs α)} {f : α → Option (Rs β)} {r : Rs β} (h : bndR a f = some r) : ∃ x, a = some x ∧ contR f x = some r := bndE h
theorem bndRFE {a : Option (Rs α)} {f : α → Option (Fl S (Rs β))} {r : Fl S (Rs β)} (h : bndRF a f = some r) : ∃ x, a = some x ∧ contRF f x = some r := bndE h
theorem okR {f : α → Option (Rs β)} {y : α} {r : Rs β} (h : contR f (.ok y) = some r) : f y = some r := h
theorem okRF {f : α → Option (Fl S (Rs β))} {y : α} {r : Fl S (Rs β)} (h : contRF f (.ok y) = some r) : f y = some r := h
theorem erR {f : α → Option (Rs β)} {e : Er} {r : Rs β} (h : contR f (.er e) = some r) : Rs.er e = r := Option.some.inj h
theorem erRF {f : α → Option (Fl S (Rs β))} {e : Er} {r : Fl S (Rs β)} (h : contRF f (.er e) = some r) : Fl.rt (Rs.er e) = r := Option.some.inj h
theorem bndOE {a : Option (Rs α)} {f : α → Option β} {r : β} (h : bndO a f = some r) : ∃ y, a = some (.ok y) ∧ f y = some r := by
  obtain ⟨x, h1, h2⟩ := bndE h
  cases x with
  | ok y => exact ⟨y, h1, h2⟩
  | er e => cases h2
end
/-- a class of refusals, as the top has made it -/
structure ErrC (K : PySem.W.Frag) (mg : Str → Option Value) (x : Str) (C : Addr) : Prop where
  g : mg x = some (.ref C)
  ex : PySem.W.excIn K C [.type "ValueError", .type "Exception", .type "BaseException", .type "object"] "ValueError.__new__" = true
  kp : PySem.W.keepIn K (.ref C) = true
  b : PySem.W.subIn K (.ref C) (.type "BaseException") = some true
  t : PySem.W.typeIn K (.ref C) = some (.type "type")
theorem ps_err {X : Cx} {W : WX} {x m : Str} {j : Nat} {p p2 pos pos' : Pos} {C : Addr} (e : ErrC X.K X.mg x C) (tk : Takes X W) (hc : X.calm = true) (hg : Gl X x) (hdb : (x == ("__debug__" : Str)) = false := by decide) :
    PS X (.Raise (some (.Call (.Name x p) [.Constant (.str m) j p2] [] pos)) none pos') (fun _ σ H => W (.ref C) none σ H) :=
  ps_raise hc tk (pmk_own PySem.F.excBase_ValueError e.ex e.g e.kp (raises_own e.b e.t) hg hdb)
end Bt
namespace Bt
open PySem L2
theorem err_mk {K : PySem.W.Frag} {h : Heap} {mg : Str → Option Value} {x : Str} {C : Addr} (X : K.In h) (G : h.Ns mainGlobals mg) (a : PySem.W.nsIn K mainGlobals x = some (some (.ref C)))
    (e : PySem.W.excIn K C [.type "ValueError", .type "Exception", .type "BaseException", .type "object"] "ValueError.__new__" = true) (k : PySem.W.keepIn K (.ref C) = true) (b : PySem.W.subIn K (.ref C) (.type "BaseException") = some true) (t : PySem.W.typeIn K (.ref C) = some (.type "type")) :
    ∃ C, ErrC K mg x C := ⟨C, PySem.W.mg_of X G a, e, k, b, t⟩
end Bt
namespace Bt
open PySem L2
inductive Ek where
  | NoBits | NoName | NoKey | NoFrame | NoPost | NoThing | NoStrip | NoRail | NoWire | NoRow
  deriving DecidableEq
def Er.k : Er → Ek
  | .NoBits => .NoBits
  | .NoName => .NoName
  | .NoKey => .NoKey
  | .NoFrame => .NoFrame
  | .NoPost => .NoPost
  | .NoThing => .NoThing
  | .NoStrip => .NoStrip
  | .NoRail => .NoRail
  | .NoWire _ => .NoWire
  | .NoRow _ => .NoRow
def tryR {α β : Type} (x : Rs α) (f : α → β) (g : Er → β) : β := match x with
  | .ok y => f y
  | .er e => g e
theorem tryOk {α β : Type} {y : α} {f : α → β} {g : Er → β} {r : β} (h : tryR (.ok y) f g = r) : f y = r := h
theorem tryEr {α β : Type} {e : Er} {f : α → β} {g : Er → β} {r : β} (h : tryR (.er e) f g = r) : g e = r := h
theorem exm_mk {K : PySem.W.Frag} {C S : Addr} {r : Bool} (h1 : PySem.W.subIn K (.ref S) (.type "BaseException") = some true) (h2 : (PySem.W.clsIn K S).isSome = true) (h3 : PySem.W.typeIn K (.ref S) = some (.type "type")) (h4 : PySem.W.subIn K (.ref C) (.ref S) = some r) :
    PySem.W.exmOne K (.ref C) (.ref S) = some r := by
  have e1 : (PySem.W.subIn K (.ref S) (.type "BaseException") == some true) = true := by rw [h1] <;> rfl
  have e2 : ((PySem.W.clsIn K S).isSome && PySem.W.typeIn K (.ref S) == some (.type "type")) = true := by
    rw [h2, h3] <;> rfl
  unfold PySem.W.exmOne
  rw [if_pos e1]
  unfold PySem.W.kitCls
  dsimp only
  rw [if_pos e2]
  exact h4
end Bt
namespace Bt
open PySem L2
theorem o_callS {sp : Sp} {E : L2.St → XK} {tr : TA} {σ : L2.St} {H : Hp} {Q : VK} (h : tr σ H fun vs H1 => sp vs H1 Q (E σ)) : tCallS sp E tr σ H Q := h
end Bt
namespace Bt
open PySem L2
section
variable {α : Type} {R H : Hp} {Q : VK} {a : Addr} {xs ys : List α} {y : α} {f : α → V}
def popL (xs : List α) : Option (α × List α) := match xs[xs.length - 1]? with
  | some y => some (y, xs.dropLast)
  | none => none
theorem popE (h : popL xs = some (y, ys)) : xs[xs.length - 1]? = some y ∧ xs.dropLast = ys := by
  unfold popL at h
  split at h
  · rename_i e
    cases h
    exact ⟨e, rfl⟩
  · cases h
theorem popL_ok {xs : List α} {y : α} : popL (xs ++ [y]) = some (y, xs) := by
  unfold popL
  rw [List.length_append, List.length_singleton, Nat.add_sub_cancel, List.getElem?_append_right (Nat.le_refl _), Nat.sub_self]
  simp
theorem k_clr {g : HO → List Cell} (hl : H a = some (.lst (xs.map f))) (hp : ∀ o', Own R (upd H a o') (g o')) (k : ∀ H', Own R H' (g (.lst (([] : List α).map f))) → Q .non H') : rClear (.ref a) [] H Q :=
  ⟨a, _, rfl, rfl, hl, k _ (hp _)⟩
theorem k_pop {g : HO → List Cell} (hl : H a = some (.lst (xs.map f))) (hp : ∀ o', Own R (upd H a o') (g o')) (h : popL xs = some (y, ys)) (k : ∀ H', Own R H' (g (.lst (ys.map f))) → Q (f y) H') : rPop (.ref a) [] H Q := by
  obtain ⟨e, rfl⟩ := popE h
  refine ⟨a, _, f y, rfl, rfl, hl, ?_, ?_⟩
  · rw [List.length_map, List.getElem?_map, e]; rfl
  · rw [← List.map_dropLast]
    exact k _ (hp _)
theorem k_ext {b : Addr} {zs : List α} {g : HO → List Cell} (hl : H a = some (.lst (xs.map f))) (hb : H b = some (.lst (zs.map f))) (hp : ∀ o', Own R (upd H a o') (g o')) (h : catG xs zs = some ys) (k : ∀ H', Own R H' (g (.lst (ys.map f))) → Q .non H') : rExtend (.ref a) [.ref b] H Q := by
  obtain ⟨c, rfl⟩ := grdE h
  refine ⟨a, b, _, _, rfl, rfl, hl, hb, ?_, ?_⟩
  · rw [List.length_map, List.length_map]; exact c
  · rw [← List.map_append]
    exact k _ (hp _)
end
end Bt

set_option Elab.async false
set_option linter.all false
set_option maxRecDepth 100000
set_option maxHeartbeats 4000000
/-! Built-ins that the kit's rules do not name. -/
namespace Bt
open PySem L2 PyProof.Rows
section
variable {X : Cx}
def maxL (d : Int) : List Int → Int
  | [] => d
  | n :: ns => ns.foldl (fun a y => if a < y then y else a) n
def rMaxD (K : PySem.W.Frag) : List V → List V → Hp → VK → Prop := fun xs zs H Q => ∃ a ns d, xs = [.ref a] ∧ zs = [.int d] ∧ SqL K H a (ns.map V.int) ∧ Q (.int (maxL d ns)) H
theorem maxOf_int (x : Int) (xs : List Int) : PySem.W.maxOf x xs = xs.foldl (fun a y => if a < y then y else a) x := by
  unfold PySem.W.maxOf
  congr 1
  funext a y
  show (if decide (a < y) = true then y else a) = _
  by_cases h : a < y
  · rw [if_pos (decide_eq_true h), if_pos h]
  · rw [if_neg (by simpa using h), if_neg h]
theorem cr_maxD (hc : X.calm = true) (hu : X.A.units + 64 < cLine) : CallRK X (.builtin "max") [Str.ofString "default"] (rMaxD X.K) := by
  intro pins s σ H xs zs us ws Q I r1 r2 h
  obtain ⟨a, ns, d, rfl, rfl, hs, q⟩ := h
  obtain ⟨its, rv, hl, _⟩ := I.list hs
  rw [Vals.ref1 r1]
  obtain ⟨w, rfl, t, rfl⟩ := r2.one
  refine PySem.W.max_list_datum_default (α := Int) (I.ok.hd hc) hl.isList (PySem.W.HoldAll.of_ints rv.ints) (by show X.A.units + 1 + 0 < cLine; omega) (fun e h' tk k => ?_) fun y ys i v h' tk e _ hv k => ?_
  · subst e
    exact ⟨.int d, H, I.kept k, ⟨_, rfl⟩, q⟩
  · subst e
    obtain ⟨bs, hv⟩ := hv
    rw [maxOf_int] at hv
    cases hv
    exact ⟨.int _, H, I.kept k, ⟨_, rfl⟩, q⟩
variable {K : PySem.W.Frag} {H : Hp} {Q : VK} {a : Addr} {ns : List Int} {d : Int} {t tk : TA} {r : List V → List V → Hp → VK → Prop} {σ : L2.St}
theorem o_kw (h : t σ H fun vs H1 => tk σ H1 fun zs H2 => r vs zs H2 Q) : tCKw r t tk σ H Q := h
theorem k_maxD (hs : SqL K H a (ns.map V.int)) (q : Q (.int (maxL d ns)) H) : rMaxD K [.ref a] [.int d] H Q := ⟨a, ns, d, rfl, rfl, hs, q⟩
theorem o_en {ta : TA} {R : It → Hp → Prop} (h : ta σ H fun vs H1 => ∃ a xs, vs = [.ref a] ∧ SqL K H1 a xs ∧ R (Ite K a) H1) : iEnum K ta σ H R := h
end
end Bt

set_option Elab.async false
set_option linter.all false
set_option maxRecDepth 100000
set_option maxHeartbeats 4000000
/-! Data in data: what stands in a heap that only grows. -/
namespace Bt
open PySem L2
inductive All2 {α β : Type} (P : α → β → Prop) : List α → List β → Prop
  | nil : All2 P [] []
  | cons {a : α} {b : β} {as : List α} {bs : List β} : P a b → All2 P as bs → All2 P (a :: as) (b :: bs)
section
variable {α β : Type} {P Q : α → β → Prop} {as cs : List α} {bs ds : List β} {a : α} {b : β}
theorem All2.mp (f : ∀ a b, P a b → Q a b) (h : All2 P as bs) : All2 Q as bs := by
  induction h with
  | nil => exact .nil
  | cons h _ ih => exact .cons (f _ _ h) ih
theorem All2.app (h : All2 P as bs) (k : All2 P cs ds) : All2 P (as ++ cs) (bs ++ ds) := by
  induction h with
  | nil => exact k
  | cons h _ ih => exact .cons h ih
theorem All2.snoc (h : All2 P as bs) (k : P a b) : All2 P (as ++ [a]) (bs ++ [b]) := h.app (.cons k .nil)
theorem All2.len (h : All2 P as bs) : as.length = bs.length := by
  induction h with
  | nil => rfl
  | cons _ _ ih => simp [ih]
theorem All2.get (h : All2 P as bs) : ∀ {i : Nat} {b : β}, bs[i]? = some b → ∃ a, as[i]? = some a ∧ P a b := by
  induction h with
  | nil => intro i b e; simp at e
  | cons h _ ih =>
    intro i b e
    cases i with
    | zero => cases Option.some.inj e; exact ⟨_, rfl, h⟩
    | succ i => exact ih (by simpa using e)
theorem All2.drop (h : All2 P as bs) : ∀ n, All2 P (as.drop n) (bs.drop n) := by
  induction h with
  | nil => intro n; simp; exact .nil
  | cons h t ih =>
    intro n
    cases n with
    | zero => exact .cons h t
    | succ n => exact ih n
theorem All2.take (h : All2 P as bs) : ∀ n, All2 P (as.take n) (bs.take n) := by
  induction h with
  | nil => intro n; simp; exact .nil
  | cons h t ih =>
    intro n
    cases n with
    | zero => exact .nil
    | succ n => exact .cons h (ih n)
theorem All2.set (h : All2 P as bs) (k : P a b) : ∀ n, All2 P (as.set n a) (bs.set n b) := by
  induction h with
  | nil => intro n; exact .nil
  | cons h t ih =>
    intro n
    cases n with
    | zero => exact .cons k t
    | succ n => exact .cons h (ih n)
end
/-- what a value stands for, in a heap -/
abbrev Rp (α : Type) := Hp → V → α → Prop
def Mono {α : Type} (P : Rp α) : Prop := ∀ F F' v x, Ex F F' → P F v x → P F' v x
def rI : Rp Int := fun _ v a => v = .int a
def rB : Rp Bool := fun _ v a => v = .bl a
def rS : Rp Str := fun _ v a => v = .str a
def rL {α : Type} (P : Rp α) : Rp (List α) := fun F v xs => ∃ p vs, v = .ref p ∧ F p = some (.lst vs) ∧ All2 (P F) vs xs
def rT2 {α β : Type} (P : Rp α) (Q : Rp β) : Rp (α × β) := fun F v x => ∃ p a b, v = .ref p ∧ F p = some (.tup [a, b]) ∧ P F a x.1 ∧ Q F b x.2
def rT3 {α β γ : Type} (P : Rp α) (Q : Rp β) (R : Rp γ) : Rp (α × β × γ) := fun F v x => ∃ p a b c, v = .ref p ∧ F p = some (.tup [a, b, c]) ∧ P F a x.1 ∧ Q F b x.2.1 ∧ R F c x.2.2
def rT4 {α β γ δ : Type} (P : Rp α) (Q : Rp β) (R : Rp γ) (S : Rp δ) : Rp (α × β × γ × δ) := fun F v x => ∃ p a b c d, v = .ref p ∧ F p = some (.tup [a, b, c, d]) ∧ P F a x.1 ∧ Q F b x.2.1 ∧ R F c x.2.2.1 ∧ S F d x.2.2.2
def rO {α : Type} (P : Rp α) : Rp (Option α) := fun F v x => match x with
  | none => v = .non
  | some y => P F v y
theorem mI : Mono rI := fun _ _ _ _ _ h => h
theorem mB : Mono rB := fun _ _ _ _ _ h => h
theorem mS : Mono rS := fun _ _ _ _ _ h => h
theorem mL {α : Type} {P : Rp α} (m : Mono P) : Mono (rL P) := fun F F' v x e ⟨p, vs, h1, h2, h3⟩ => ⟨p, vs, h1, e _ _ h2, h3.mp fun a b h => m F F' a b e h⟩
theorem mA {α : Type} {P : Rp α} (m : Mono P) {F F' : Hp} {vs : List V} {xs : List α} (e : Ex F F') (h : All2 (P F) vs xs) : All2 (P F') vs xs := h.mp fun a b h => m F F' a b e h
theorem mT2 {α β : Type} {P : Rp α} {Q : Rp β} (m : Mono P) (n : Mono Q) : Mono (rT2 P Q) := fun F F' v x e ⟨p, a, b, h1, h2, h3, h4⟩ => ⟨p, a, b, h1, e _ _ h2, m _ _ _ _ e h3, n _ _ _ _ e h4⟩
theorem mT3 {α β γ : Type} {P : Rp α} {Q : Rp β} {R : Rp γ} (m : Mono P) (n : Mono Q) (o : Mono R) : Mono (rT3 P Q R) := fun F F' v x e ⟨p, a, b, c, h1, h2, h3, h4, h5⟩ => ⟨p, a, b, c, h1, e _ _ h2, m _ _ _ _ e h3, n _ _ _ _ e h4, o _ _ _ _ e h5⟩
theorem mT4 {α β γ δ : Type} {P : Rp α} {Q : Rp β} {R : Rp γ} {S : Rp δ} (m : Mono P) (n : Mono Q) (o : Mono R) (q : Mono S) : Mono (rT4 P Q R S) := fun F F' v x e ⟨p, a, b, c, d, h1, h2, h3, h4, h5, h6⟩ => ⟨p, a, b, c, d, h1, e _ _ h2, m _ _ _ _ e h3, n _ _ _ _ e h4, o _ _ _ _ e h5, q _ _ _ _ e h6⟩
theorem mO {α : Type} {P : Rp α} (m : Mono P) : Mono (rO P) := fun F F' v x e h => by
  cases x with
  | none => exact h
  | some y => exact m _ _ _ _ e h
/-! flat lists in a heap -/
theorem aI {F : Hp} : ∀ {vs : List V} {xs : List Int}, All2 (rI F) vs xs → vs = xs.map V.int
  | _, _, .nil => rfl
  | _, _, .cons h t => by rw [show _ = _ from h, aI t]; rfl
theorem aB {F : Hp} : ∀ {vs : List V} {xs : List Bool}, All2 (rB F) vs xs → vs = xs.map V.bl
  | _, _, .nil => rfl
  | _, _, .cons h t => by rw [show _ = _ from h, aB t]; rfl
theorem aS {F : Hp} : ∀ {vs : List V} {xs : List Str}, All2 (rS F) vs xs → vs = xs.map V.str
  | _, _, .nil => rfl
  | _, _, .cons h t => by rw [show _ = _ from h, aS t]; rfl
theorem iA {F : Hp} : ∀ (xs : List Int), All2 (rI F) (xs.map V.int) xs
  | [] => .nil
  | x :: r => .cons rfl (iA r)
theorem bA {F : Hp} : ∀ (xs : List Bool), All2 (rB F) (xs.map V.bl) xs
  | [] => .nil
  | x :: r => .cons rfl (bA r)
theorem sA {F : Hp} : ∀ (xs : List Str), All2 (rS F) (xs.map V.str) xs
  | [] => .nil
  | x :: r => .cons rfl (sA r)
theorem fI {F : Hp} {v : V} {xs : List Int} (h : rL rI F v xs) : ∃ p, v = .ref p ∧ F p = some (.lst (xs.map V.int)) := by
  obtain ⟨p, vs, h1, h2, h3⟩ := h
  rw [aI h3] at h2
  exact ⟨p, h1, h2⟩
theorem fB {F : Hp} {v : V} {xs : List Bool} (h : rL rB F v xs) : ∃ p, v = .ref p ∧ F p = some (.lst (xs.map V.bl)) := by
  obtain ⟨p, vs, h1, h2, h3⟩ := h
  rw [aB h3] at h2
  exact ⟨p, h1, h2⟩
theorem fS {F : Hp} {v : V} {xs : List Str} (h : rL rS F v xs) : ∃ p, v = .ref p ∧ F p = some (.lst (xs.map V.str)) := by
  obtain ⟨p, vs, h1, h2, h3⟩ := h
  rw [aS h3] at h2
  exact ⟨p, h1, h2⟩
theorem gI {F : Hp} {p : Addr} {xs : List Int} (h : F p = some (.lst (xs.map V.int))) : rL rI F (.ref p) xs := ⟨p, _, rfl, h, iA xs⟩
theorem gB {F : Hp} {p : Addr} {xs : List Bool} (h : F p = some (.lst (xs.map V.bl))) : rL rB F (.ref p) xs := ⟨p, _, rfl, h, bA xs⟩
theorem gS {F : Hp} {p : Addr} {xs : List Str} (h : F p = some (.lst (xs.map V.str))) : rL rS F (.ref p) xs := ⟨p, _, rfl, h, sA xs⟩
/-! the frame grows -/
/-- of X what R knows, or what H does not -/
def ovr (R H X : Hp) : Hp := fun a => if R a ≠ none ∨ H a = none then X a else none
theorem ovr_some {R H X : Hp} {a : Addr} {u : HO} (h : ovr R H X a = some u) : (R a ≠ none ∨ H a = none) ∧ X a = some u := by
  unfold ovr at h
  split at h
  · exact ⟨by assumption, h⟩
  · cases h
theorem ovr_mk {R H X : Hp} {a : Addr} {u : HO} (h : R a ≠ none ∨ H a = none) (k : X a = some u) : ovr R H X a = some u := by
  unfold ovr
  rw [if_pos h]
  exact k
theorem ovr_ex {R H X : Hp} : Ex (ovr R H X) X := fun a o h => by
  unfold ovr at h
  split at h
  · exact h
  · cases h
theorem ovr_mono {R H X Y : Hp} (e : Ex X Y) : Ex (ovr R H X) (ovr R H Y) := fun a o h => by
  unfold ovr at h ⊢
  split at h
  · rename_i c
    rw [if_pos c]
    exact e _ _ h
  · cases h
theorem ovr_start {R H : Hp} (e : Ex R H) : Ex R (ovr R H H) := fun a o h => by
  unfold ovr
  rw [if_pos (.inl (by rw [h]; simp))]
  exact e _ _ h
section
variable {R H H' F H0 R0 : Hp} {L : List Cell} {p : Addr} {o : HO}
theorem Own.freeze (O : Own R H ((p, o) :: L)) : Own (upd R p o) H L :=
  ⟨fun a u h => by
    by_cases e : a = p
    · subst e
      rw [upd_same] at h
      cases h
      exact O.at_ _ (List.Mem.head _)
    · rw [upd_ne e] at h
      exact O.ex _ _ h, fun c h => O.at_ c (List.Mem.tail _ h), fun c h => by
    have hne : c.1 ≠ p := fun e => (List.nodup_cons.mp O.nd).1 (by rw [← e]; exact List.mem_map_of_mem (f := (·.1)) h)
    rw [upd_ne hne]
    exact O.fr c (List.Mem.tail _ h), (List.nodup_cons.mp O.nd).2⟩
/-- R grows by a cell; what was known of it stays, the new cell is known -/
theorem Own.frz (O : Own R H ((p, o) :: L)) : ∃ R', Own R' H L ∧ Ex R R' ∧ R' p = some o := ⟨_, O.freeze, Ex.new (O.fr _ (List.Mem.head _)), upd_same⟩
theorem Own.frzO (O : Own R H ((p, o) :: L)) (e0 : Ex H0 R) : ∃ R', Own R' H L ∧ Ex R R' ∧ ovr R0 H0 R' p = some o := ⟨_, O.freeze, Ex.new (O.fr _ (List.Mem.head _)), by
  unfold ovr
  rw [if_pos (.inr (e0.back (O.fr _ (List.Mem.head _))))]
  exact upd_same⟩
/-- R grows by all that is new -/
theorem Own.grow (O : Own R H L) (e : Ex H H') : ∃ R', Own R' H' L ∧ Ex R R' ∧ ∀ F, Ex F R → Ex (ovr F H H') R' := by
  refine ⟨fun a => if H a = none then H' a else R a, ⟨fun a u h => ?_, fun c h => e _ _ (O.at_ c h), fun c h => ?_, O.nd⟩, fun a u h => ?_, fun F hF a u h => ?_⟩
  · by_cases c : H a = none
    · rw [if_pos c] at h; exact h
    · rw [if_neg c] at h; exact e _ _ (O.ex _ _ h)
  · rw [if_neg (by rw [O.at_ c h]; simp)]
    exact O.fr c h
  · show (if H a = none then H' a else R a) = some u
    rw [if_neg (by rw [O.ex _ _ h]; simp)]
    exact h
  · unfold ovr at h
    split at h
    · rename_i q
      rcases q with q | q
      · cases hf : F a with
        | none => exact absurd hf q
        | some w =>
          have h1 := O.ex _ _ (hF _ _ hf)
          have h2 := e _ _ h1
          rw [h] at h2
          cases h2
          show (if H a = none then H' a else R a) = some u
          rw [if_neg (by rw [h1]; simp)]
          exact hF _ _ hf
      · show (if H a = none then H' a else R a) = some u
        rw [if_pos q]
        exact h
    · cases h
theorem Own.growO (O : Own R H L) (e : Ex H H') (e0 : Ex H0 R) : ∃ R', Own R' H' L ∧ Ex R R' ∧ Ex (ovr (ovr R0 H0 R) H H') (ovr R0 H0 R') := by
  obtain ⟨R', O', e1, e2⟩ := O.grow e
  refine ⟨R', O', e1, fun a u h => ?_⟩
  have h1 := e2 (ovr R0 H0 R) ovr_ex _ _ h
  obtain ⟨q, _⟩ := ovr_some h
  refine ovr_mk ?_ h1
  rcases q with q | q
  · cases hq : ovr R0 H0 R a with
    | none => exact absurd hq q
    | some w => exact (ovr_some hq).1
  · exact .inr (Ex.back (e0.trans O.ex) q)
end
/-- a new thing is handed back, in what R knows or what is new -/
def RetG {α : Type} (P : Rp α) (R : Hp) (r : α) (H : Hp) (Q : VK) : Prop := ∀ v H', Ex H H' → P (ovr R H H') v r → Q v H'
section
variable {α : Type} {P : Rp α} {R H F H0 R0 : Hp} {L : List Cell} {r : α} {Q : VK} {v : V}
theorem Own.retG (O : Own R H L) (m : Mono P) (k : ∀ v H' R', Own R' H' L → Ex R R' → P R' v r → Q v H') : RetG P R r H Q := fun v H' e h => by
  obtain ⟨R', O', e1, e2⟩ := O.grow e
  exact k v H' R' O' e1 (m _ _ _ _ (e2 R (Ex.refl R)) h)
theorem Own.retGO (O : Own R H L) (m : Mono P) (e0 : Ex H0 R) (k : ∀ v H' R', Own R' H' L → Ex R R' → P (ovr R0 H0 R') v r → Q v H') : RetG P (ovr R0 H0 R) r H Q := fun v H' e h => by
  obtain ⟨R', O', e1, e2⟩ := O.growO (R0 := R0) e e0
  exact k v H' R' O' e1 (m _ _ _ _ e2 h)
theorem RetG.go (k : RetG P R0 r H0 Q) (m : Mono P) (O : Own R H L) (e0 : Ex H0 R) (h : P (ovr R0 H0 R) v r) : Q v H := k v H (e0.trans O.ex) (m _ _ _ _ (ovr_mono O.ex) h)
theorem RetV.goR {v : V} (k : RetV v H0 Q) (O : Own R H L) (e0 : Ex H0 R) : Q v H := k H (e0.trans O.ex)
theorem RetL.goR {xs : List V} {p : Addr} (k : RetL xs H0 Q) (O : Own R H L) (e0 : Ex H0 R) (h : (p, HO.lst xs) ∈ L) : Q (.ref p) H := k p H (e0.back (O.fr _ h)) (e0.trans O.ex) (O.at_ _ h)
theorem RetT.goR {xs : List V} {p : Addr} (k : RetT xs H0 Q) (O : Own R H L) (e0 : Ex H0 R) (h : (p, HO.tup xs) ∈ L) : Q (.ref p) H := k p H (e0.back (O.fr _ h)) (e0.trans O.ex) (O.at_ _ h)
end
/-! == of such data -/
structure De {α : Type} [DecidableEq α] (P : Rp α) where
  d : α → PyData
  dp : ∀ (K : PySem.W.Frag) F v a, P F v a → Dp K F v (d a)
  ok : ∀ a, PyData.canLay0 (d a) = true
  n : Nat
  dep : ∀ a, PyData.depth (d a) ≤ n
  eq : ∀ a b, PyData.eqv (d a) (d b) = decide (a = b)
def deI : De rI where
  d := PyData.int
  dp := fun K F v a h => by rw [show v = V.int a from h]; exact .int a
  ok := fun _ => rfl
  n := 0
  dep := fun _ => Nat.le_refl _
  eq := fun a b => by simp only [PyData.eqv]; rw [Bool.beq_eq_decide_eq]
def deB : De rB where
  d := PyData.bool
  dp := fun K F v a h => by rw [show v = V.bl a from h]; exact .bl a
  ok := fun _ => rfl
  n := 0
  dep := fun _ => Nat.le_refl _
  eq := fun a b => by simp only [PyData.eqv]; rw [Bool.beq_eq_decide_eq]
section
variable {α β γ : Type} [DecidableEq α] [DecidableEq β] [DecidableEq γ]
theorem de_all {P : Rp α} (e : De P) {K : PySem.W.Frag} {F : Hp} : ∀ {vs : List V} {xs : List α}, All2 (P F) vs xs → DpAll K F vs (xs.map e.d)
  | _, _, .nil => .nil
  | _, _, .cons h t => .cons (e.dp K F _ _ h) (de_all e t)
theorem ok_all {P : Rp α} (e : De P) : ∀ xs : List α, PyData.canLayAll0 (xs.map e.d) = true
  | [] => rfl
  | x :: r => by simp only [List.map_cons, PyData.canLayAll0, e.ok x, ok_all e r, Bool.and_self]
theorem dep_all {P : Rp α} (e : De P) : ∀ xs : List α, PyData.depthAll (xs.map e.d) ≤ e.n
  | [] => by simp [PyData.depthAll]
  | x :: r => by
    have h1 := e.dep x
    have h2 := dep_all e r
    simp only [List.map_cons, PyData.depthAll]
    omega
theorem eq_all {P : Rp α} (e : De P) : ∀ xs ys : List α, PyData.eqvAll (xs.map e.d) (ys.map e.d) = decide (xs = ys)
  | [], [] => by simp [PyData.eqvAll]
  | [], y :: s => by simp [PyData.eqvAll]
  | x :: r, [] => by simp [PyData.eqvAll]
  | x :: r, y :: s => by simp only [List.map_cons, PyData.eqvAll, e.eq x y, eq_all e r s, List.cons.injEq, Bool.decide_and]
def deL {P : Rp α} (e : De P) : De (rL P) where
  d := fun xs => .list (xs.map e.d)
  dp := fun K F v xs ⟨p, vs, h1, h2, h3⟩ => by
    subst h1
    exact .lst (SqL.of h2) (de_all e h3)
  ok := fun xs => by simp only [PyData.canLay0]; exact ok_all e xs
  n := e.n + 1
  dep := fun xs => by
    have := dep_all e xs
    simp only [PyData.depth]
    omega
  eq := fun xs ys => by simp only [PyData.eqv]; exact eq_all e xs ys
def deT2 {P : Rp α} {Q : Rp β} (e : De P) (f : De Q) : De (rT2 P Q) where
  d := fun x => .tuple [e.d x.1, f.d x.2]
  dp := fun K F v x ⟨p, a, b, h1, h2, h3, h4⟩ => by
    subst h1
    exact .tup (SqT.of h2) (.cons (e.dp K F _ _ h3) (.cons (f.dp K F _ _ h4) .nil))
  ok := fun x => by simp only [PyData.canLay0, PyData.canLayAll0, e.ok, f.ok, Bool.and_self]
  n := max e.n f.n + 1
  dep := fun x => by
    have h1 := e.dep x.1
    have h2 := f.dep x.2
    simp only [PyData.depth, PyData.depthAll]
    omega
  eq := fun x y => by
    obtain ⟨x1, x2⟩ := x
    obtain ⟨y1, y2⟩ := y
    simp only [PyData.eqv, PyData.eqvAll, e.eq, f.eq, Prod.mk.injEq, Bool.decide_and, Bool.and_true]
def deT3 {P : Rp α} {Q : Rp β} {R : Rp γ} (e : De P) (f : De Q) (g : De R) : De (rT3 P Q R) where
  d := fun x => .tuple [e.d x.1, f.d x.2.1, g.d x.2.2]
  dp := fun K F v x ⟨p, a, b, c, h1, h2, h3, h4, h5⟩ => by
    subst h1
    exact .tup (SqT.of h2) (.cons (e.dp K F _ _ h3) (.cons (f.dp K F _ _ h4) (.cons (g.dp K F _ _ h5) .nil)))
  ok := fun x => by simp only [PyData.canLay0, PyData.canLayAll0, e.ok, f.ok, g.ok, Bool.and_self]
  n := max e.n (max f.n g.n) + 1
  dep := fun x => by
    have h1 := e.dep x.1
    have h2 := f.dep x.2.1
    have h3 := g.dep x.2.2
    simp only [PyData.depth, PyData.depthAll]
    omega
  eq := fun x y => by
    obtain ⟨x1, x2, x3⟩ := x
    obtain ⟨y1, y2, y3⟩ := y
    simp only [PyData.eqv, PyData.eqvAll, e.eq, f.eq, g.eq, Prod.mk.injEq, Bool.decide_and, Bool.and_true, Bool.and_assoc]
end
section
variable {α : Type} [DecidableEq α] {P : Rp α} {K : PySem.W.Frag} {F F' H : Hp} {v w : V} {x y : α} {Q : VK}
theorem sh_de (e : De P) (h : e.n ≤ 64) (x : α) : SeqAt.shaped (e.d x) = true := by
  have h1 := e.dep x
  simp only [SeqAt.shaped, e.ok, Bool.true_and]
  exact decide_eq_true (by omega)
theorem k_eqN (e : De P) (m : Mono P) (h : e.n ≤ 64) (h1 : P F v x) (e1 : Ex F H) (h2 : P F' w y) (e2 : Ex F' H) (k : Q (.bl (decide (x = y))) H) : rEqD K v w H Q :=
  ⟨_, _, e.dp K H _ _ (m _ _ _ _ e1 h1), e.dp K H _ _ (m _ _ _ _ e2 h2), sh_de e h x, sh_de e h y, by rw [e.eq]; exact k⟩
theorem k_neN (e : De P) (m : Mono P) (h : e.n ≤ 64) (h1 : P F v x) (e1 : Ex F H) (h2 : P F' w y) (e2 : Ex F' H) (k : Q (.bl (!decide (x = y))) H) : rNeD K v w H Q :=
  ⟨_, _, e.dp K H _ _ (m _ _ _ _ e1 h1), e.dp K H _ _ (m _ _ _ _ e2 h2), sh_de e h x, sh_de e h y, by rw [e.eq]; exact k⟩
end
section
variable {α : Type} {P : Rp α} {K : PySem.W.Frag} {F H R : Hp} {L : List Cell} {p a : Addr} {i : Int} {xs : List α} {y : α} {Q : VK} {vs : List V} {σ : L2.St}
theorem All2.at {β : Type} {P : α → β → Prop} {as : List α} {bs : List β} (h : All2 P as bs) {i : Int} {b : β} (e : atI bs i = some b) : ∃ a, atI as i = some a ∧ P a b := by
  unfold atI at e ⊢
  rw [h.len]
  cases hj : ixN bs.length i with
  | none => rw [hj] at e; cases e
  | some j =>
    rw [hj] at e
    obtain ⟨a, h1, h2⟩ := h.get e
    exact ⟨a, h1, h2⟩
theorem k_ixN (hn : rL P F (.ref p) xs) (e : Ex F H) (h : atI xs i = some y) (k : ∀ v, P F v y → Q v H) : rIxL K (.ref p) (.int i) H Q := by
  obtain ⟨q, vs, h1, h2, h3⟩ := hn
  cases h1
  obtain ⟨v, e1, hv⟩ := h3.at h
  exact ⟨p, vs, i, v, rfl, rfl, SqL.of (e _ _ h2), e1, k v hv⟩
theorem n_lenN (hn : rL P F (.ref p) xs) (e : Ex F H) (k : Q (.int (xs.length : Int)) H) : rLenQ K [.ref p] H Q := by
  obtain ⟨q, vs, h1, h2, h3⟩ := hn
  cases h1
  unfold rLenQ
  exact ⟨p, vs, rfl, .inl (SqL.of (e _ _ h2)), by rw [h3.len]; exact k⟩
theorem n_lstV (O : Own R H L) (hz : vs.length ≤ sizeLine) (k : ∀ p H', Own R H' ((p, .lst vs) :: L) → Q (.ref p) H') : rNewL vs H Q := by
  unfold rNewL
  exact ⟨hz, fun p hp => k p _ (O.new hp)⟩
end
end Bt

set_option Elab.async false
set_option linter.all false
set_option maxRecDepth 100000
set_option maxHeartbeats 4000000
/-! What is refused, caught by a name, asked of its class. -/
namespace Bt
open PySem L2 PyProof.Rows
theorem passN {X : Cx} : Passes (L2N.CX X.prog X.w) X E0 := fun _ _ _ _ _ _ _ h => by
  obtain ⟨_, _, _, _, _, _, _, _, _, _, _, _, z⟩ := h
  exact z.elim
theorem takesN0 {X : Cx} : L2N.Takes X (fun _ _ _ _ => False) := fun _ _ x => by
  obtain ⟨_, _, _, _, _, _, _, _, _, _, _, _, _, _, _, _, z⟩ := x
  exact z.elim
theorem okN {P : Program} {w : World} {K : PySem.W.Frag} {mg : Str → Option Value} {base : Heap} {x qual : Str} {st : Stmt} {f : Addr} {fd : FuncData} {N ps : List Str} {k : Nat} {sp : Sp} (F : Fun K x qual st f fd) (S : FnScope N ps (defScope st)) (len : ∀ vs H Q E, sp vs H Q E → vs.length = ps.length)
    (hbody : ∀ (cdv : Value) (A : Around) (outer : List Env) (s : Shared) (H : Hp) (vs : List V) (Q : VK) (E : XK), Room k (A.deeper (envOfC qual (defScope st) s.heap.objs.size f cdv)) → sp vs H Q E →
      ∃ t, PSs (cxOf (L2N.CX P w) P w K mg base N qual (defScope st) f cdv A outer s H E) (defBody st) t ∧ t { nx := fun _ H' => Q .non H', rt := Q } (start N vs) H) : FnOk P w K mg base (L2N.CX P w) (k + 1) f fd ps sp := by
  obtain ⟨oc, od, kV, doc, pm, an, cdv, ct, osl, rfl, lk, hcd⟩ := F.ex
  exact fn_of lk hcd S len fun A outer s H vs Q E hr hsp => hbody cdv A outer s H vs Q E hr hsp
theorem ps_errN {X : Cx} {W : WX} {x m : Str} {j : Nat} {p p2 pos pos' : Pos} {C : Addr} (e : ErrC X.K X.mg x C) (tk : L2N.Takes X W) (hc : X.calm = true) (hg : Gl X x) (hdb : (x == ("__debug__" : Str)) = false := by decide) :
    PS X (.Raise (some (.Call (.Name x p) [.Constant (.str m) j p2] [] pos)) none pos') (fun _ σ H => W (.ref C) none σ H) :=
  L2N.ps_raise hc tk (L2N.pmk_own PySem.F.excBase_ValueError e.ex e.g e.kp (raises_own e.b e.t) hg hdb)
/-! classes by their letters -/
def Eds.at (d : Eds) : Ek → Addr
  | .NoBits => d.NoBits
  | .NoName => d.NoName
  | .NoKey => d.NoKey
  | .NoFrame => d.NoFrame
  | .NoPost => d.NoPost
  | .NoThing => d.NoThing
  | .NoStrip => d.NoStrip
  | .NoRail => d.NoRail
  | .NoWire => d.NoWire
  | .NoRow => d.NoRow
/-- what the walk knows of the classes ks -/
structure EcF (K : PySem.W.Frag) (d : Eds) (ks : List Ek) : Prop where
  ec : ∀ k ∈ ks, ExcC K (d.at k)
  kt : ∀ k ∈ ks, ∀ c ∈ ks, PySem.W.kitOne K (.ref (d.at k)) (.ref (d.at c)) = some (decide (k = c))
  kv : ∀ k ∈ ks, PySem.W.kitOne K (.ref (d.at k)) (.type "ValueError") = some true
  kr : ∀ k ∈ ks, PySem.W.kitOne K (.ref (d.at k)) (.ref d.RailError) = some true
  xr : ∀ k ∈ ks, PySem.W.exmOne K (.ref (d.at k)) (.ref d.RailError) = some true
  xx : ∀ k ∈ ks, ∀ c ∈ ks, PySem.W.exmOne K (.ref (d.at k)) (.ref (d.at c)) = some (decide (k = c))
/-- what an exception's own dict holds -/
def XFl (e : Er) (d : Option Addr) (H : Hp) : Prop := match e with
  | .NoWire i => ∃ x, d = some x ∧ H x = some (.xd [(("at" : Str), .int i)])
  | .NoRow i => ∃ x, d = some x ∧ H x = some (.xd [(("word" : Str), .int i)])
  | _ => d = none
theorem XFl.ext {e : Er} {d : Option Addr} {H H' : Hp} (h : XFl e d H) (x : Ex H H') : XFl e d H' := by
  cases e <;> first
    | exact h
    | (obtain ⟨a, h1, h2⟩ := h; exact ⟨a, h1, x _ _ h2⟩)
theorem RetE.by {d : Eds} {e : Er} {H : Hp} {E : XK} (h : ∀ H' dd, Ex H H' → XFl e dd H' → E (.ref (d.at e.k)) dd H') : RetE d e H E := by
  cases e <;> first
    | exact fun H' x => h H' none x rfl
    | exact fun H' a _ x q => h H' (some a) x ⟨a, rfl, q⟩
/-! isinstance of the exception in hand -/
section
variable {X : Cx} {p : Addr × Obj} {D : Addr} {ex : Er}
theorem inst_pin {pins : List (Addr × Obj)} {σ : L2.St} {H : Hp} {s : Shared} (I : Inv X pins σ H s) (hp : p ∈ X.pn) (hz : p.2.cls = .ref D) (hd : XFl ex p.2.dict H) (hf : ∃ vs, p.2.data = .fields vs) : ∃ od, PySem.W.InstAt s.heap p.1 p.2 D od := by
  obtain ⟨hget, _⟩ := I.pin p (List.mem_append.mpr (.inl hp))
  obtain ⟨a, oc, od, oda, osl⟩ := p
  obtain ⟨vs, hv⟩ := hf
  dsimp only at hz hd hv hget
  subst hz hv
  have hk : od = none ∨ ∃ x fs, od = some x ∧ H x = some (.xd fs) := by
    cases ex <;> first
      | exact .inl hd
      | (obtain ⟨x, h1, h2⟩ := hd; exact .inr ⟨x, _, h1, h2⟩)
  rcases hk with rfl | ⟨x, fs, rfl, hx⟩
  · exact ⟨none, hget, rfl, rfl, trivial⟩
  · obtain ⟨_, ⟨o, _, _, e, _⟩, _⟩ := (show ∃ mA, s.heap.Ns1 x mA ∧ ∀ f, RelO (fs.lookup f) (mA f) from I.hok x _ hx)
    exact ⟨some _, hget, rfl, rfl, e⟩
theorem exc_cls {K : PySem.W.Frag} {D : Addr} (C : ExcC K D) : (PySem.W.clsIn K D).isSome = true := by
  obtain ⟨cd, hc, _⟩ := PySem.W.any_some C.hd
  rw [hc]; rfl
/-- isinstance(e, c), e the exception in hand -/
def rIsX (K : PySem.W.Frag) (D a : Addr) (ex : Er) (d : Option Addr) : List V → Hp → VK → Prop := fun xs H Q => ∃ (c : V) (cv : Value) (b : Bool), xs = [.ref a, c] ∧ ClsV c cv ∧ XFl ex d H ∧ PySem.W.kitOne K (.ref D) cv = some b ∧ Q (.bl b) H
theorem call_isP (hp : p ∈ X.pn) (C : ExcC X.K D) (hz : p.2.cls = .ref D) {d : Option Addr} (hdd : p.2.dict = d) (hf : ∃ vs, p.2.data = .fields vs) : CallR X (.builtin "isinstance") (rIsX X.K D p.1 ex d) := by
  subst hdd
  intro pins s σ H xs us Q I r h
  obtain ⟨c, cv, b, rfl, hcv, hd, e, q⟩ := h
  obtain ⟨u1, u2, rfl, r1, r2⟩ := vals2 r
  cases (show u1 = Value.ref p.1 from r1)
  have ec := hcv.eq r2
  subst ec
  obtain ⟨od, J⟩ := inst_pin I hp hz hd hf
  exact PySem.W.kia_one (PySem.W.kitx_exc (exc_cls C) C.hg C.hk C.hs C.ha C.hn C.ht C.hm) I.kIn J e (fun z => nomatch z) fun tk => ⟨.bl b, H, I.kept (t' := tk) fun _ _ z => z, rfl, q⟩
/-- .. and of a row of classes -/
def rIsXt (K : PySem.W.Frag) (D a : Addr) (ex : Er) (d : Option Addr) : List V → Hp → VK → Prop := fun xs H Q => ∃ (tp : Addr) (cs : List V) (us : List Value) (b : Bool), xs = [.ref a, .ref tp] ∧ H tp = some (.tup cs) ∧ Paired ClsV cs us ∧ XFl ex d H ∧ PySem.W.kitAny K (.ref D) us = some b ∧ Q (.bl b) H
theorem call_isPt (hp : p ∈ X.pn) (C : ExcC X.K D) (hz : p.2.cls = .ref D) {d : Option Addr} (hdd : p.2.dict = d) (hf : ∃ vs, p.2.data = .fields vs) : CallR X (.builtin "isinstance") (rIsXt X.K D p.1 ex d) := by
  subst hdd
  intro pins s σ H xs us Q I r h
  obtain ⟨tp, cs, ws, b, rfl, hT, k, hd, e, q⟩ := h
  obtain ⟨u1, u2, rfl, r1, r2⟩ := vals2 r
  cases (show u1 = Value.ref p.1 from r1)
  cases (show u2 = Value.ref tp from r2)
  obtain ⟨_, its, rv, o, h1, h2, n, h3⟩ := (show ObjOk X.prog X.w H s.heap tp (.tup cs) from I.hok tp _ hT)
  have e3 := ClsV.all k rv
  subst e3
  obtain ⟨oc, od, dt, sl⟩ := o
  simp only at h2 h3
  subst h2 h3
  obtain ⟨od, J⟩ := inst_pin I hp hz hd hf
  exact PySem.W.kia_tup (PySem.W.kitx_exc (exc_cls C) C.hg C.hk C.hs C.ha C.hn C.ht C.hm) I.kIn J h1 e (fun z => nomatch z) fun tk => ⟨.bl b, H, I.kept (t' := tk) fun _ _ z => z, rfl, q⟩
end
/-- the classes of a row, asked -/
def inKs (k : Ek) : List Ek → Bool
  | [] => false
  | c :: r => decide (k = c) || inKs k r
theorem kit_any {K : PySem.W.Frag} {d : Eds} {ks : List Ek} (T : EcF K d ks) {k : Ek} (hk : k ∈ ks) : ∀ (cs : List Ek), (∀ c ∈ cs, c ∈ ks) → PySem.W.kitAny K (.ref (d.at k)) (cs.map fun c => .ref (d.at c)) = some (inKs k cs)
  | [], _ => rfl
  | c :: r, h => by
    refine kitAny_cons (T.kt k hk c (h c (List.Mem.head _))) (fun e => ?_) fun e => ?_
    · rw [kit_any T hk r fun z hz => h z (List.Mem.tail _ hz)]
      show some (inKs k r) = some (decide (k = c) || inKs k r)
      rw [e, Bool.false_or]
    · show (decide (k = c) || inKs k r) = true
      rw [e, Bool.true_or]
/-! a def of the exception in hand, called in the suite -/
structure FnE (P : Program) (w : World) (K : PySem.W.Frag) (mg : Str → Option Value) (base : Heap) (k : Nat) (f : Addr) (fd : FuncData) (x : Str) (D : Addr) (ex : Er) (R : Bool) : Prop where
  run : ∀ (A : Around) (outer : List Env) (s : Shared) (H : Hp) (args : Args) (p : Addr × Obj) (Q : VK), L2H.RoomH k A → L2H.Hot1 A p → L2H.PinOk outer H s p → p.2.cls = .ref D → XFl ex p.2.dict H → Env0 P w K mg base A outer s H → BindsTo s fd args ([x].zip [.ref p.1]) → RetV (.bl R) H Q →
    codeAny (model P w) A (.call (.ref f) args) (CR CX0 outer P w H s Q E0) s
theorem fnE_of {P : Program} {w : World} {K : PySem.W.Frag} {mg : Str → Option Value} {base : Heap} {x qual : Str} {st : Stmt} {f : Addr} {fd : FuncData} {N : List Str} {y : Str} {k : Nat} {D : Addr} {ex : Er} {R : Bool} (F : Fun K x qual st f fd) (S : FnScope N [y] (defScope st))
    (hbody : ∀ (cdv : Value) (A : Around) (outer : List Env) (s : Shared) (H : Hp) (p : Addr × Obj) (Q : VK), A.units + 64 < cLine → p.2.cls = .ref D → XFl ex p.2.dict H → (∃ vs, p.2.data = .fields vs) → RetV (.bl R) H Q →
      ∃ t, PSs (L2H.cxH CX0 P w K mg base N qual (defScope st) f cdv A outer s H E0 p) (defBody st) t ∧ t { nx := fun _ H' => Q .non H', rt := Q } (start N [.ref p.1]) H) : FnE P w K mg base (k + 1) f fd y D ex R := by
  obtain ⟨oc, od, kV, doc, pm, an, cdv, ct, osl, rfl, lk, hcd⟩ := F.ex
  refine ⟨fun A outer s H args p Q hr hot hpin hz hd e0 hb hq => ?_⟩
  have KX : K.In s.heap := e0.mod.kin.keeps fun b o e => (e0.bs b o e).1
  have lim : s.heap.NoLimit := e0.mod.nolimit.keeps fun b o e => (e0.bs b o e).1
  have hkind : ∀ z ∈ [y].zip [Value.ref p.1], (defScope st).names.lookup z.1 = some .local ∨ ((defScope st).names.lookup z.1 = some .cell ∧ ((cellsFrom (s.heap.objs.size + 1) (defScope st).names []).lookup z.1).isSome = true) := fun ⟨n, v⟩ hy =>
    (S.par n (List.of_mem_zip hy).1).imp id fun q => ⟨q, PySem.W.cellsFrom_some _ _ _ (.inl q)⟩
  refine codeAny_call_function hr.depth (KX _ _ lk) rfl S.co S.gen rfl (PySem.W.codeRec_of KX hcd) (hb _ _ _ _ (wpAny_newFunctionEnv_cells S.kind hkind fun env he s1 hx => ?_))
  subst he
  refine ⟨lim.keeps hx.toInCall.keep, codeAny_func ?_⟩
  obtain ⟨h1, vs, h2, _⟩ := hot
  obtain ⟨t, ht, h3⟩ := hbody cdv A outer s H p Q (by have := hr.un; omega) hz hd ⟨vs, h2⟩ hq
  have rv : Vals [V.ref p.1] [Value.ref p.1] := .cons rfl .nil
  have I := L2H.inv_startH (CX := CX0) (qual := qual) (f := f) (cd := cdv) (E := E0) S hpin e0 rfl rv hx
  refine wpAny_mono (ht.run [] s1 _ H _ I h3) (fun fl s' hs => ?_) fun e s' hs => hs
  cases fl with
  | ret u =>
    obtain ⟨v, σ', H', J, r, q⟩ := hs
    exact ⟨v, H', J.os, J.bare, J.base, J.hok, r, q⟩
  | next =>
    obtain ⟨σ', H', J, q⟩ := hs
    exact ⟨V.non, H', J.os, J.bare, J.base, J.hok, rfl, q⟩
  | brk =>
    obtain ⟨_, _, _, q⟩ := hs
    exact q.elim
  | cont =>
    obtain ⟨_, _, _, q⟩ := hs
    exact q.elim
def tCallE (a : Addr) (ex : Er) (d : Option Addr) (R : Bool) (t : TA) : TE := fun σ H Q => t σ H fun vs H1 => vs = [.ref a] ∧ XFl ex d H1 ∧ RetV (.bl R) H1 Q
theorem pe_callE {X : Cx} {k : Nat} {f : Addr} {fd : FuncData} {x y : Str} {q pos : Pos} {e : Expr} {t : TA} {D : Addr} {ex : Er} {R : Bool} {p : Addr × Obj} (F : FnE X.prog X.w X.K X.mg X.base k f fd y D ex R) (hp : p ∈ X.pn) (hot : L2H.Hot1 X.A p) (hz : p.2.cls = .ref D) {d : Option Addr} (hdd : p.2.dict = d)
    (hr : L2H.RoomH k X.A) (hg : Gl X x) (hm : X.mg x = some (.ref f)) (hk : PySem.W.keepIn X.K (.ref f) = true) (hb : Binds X.K fd [y] []) (ha : PA X [e] t) (hdb : (x == ("__debug__" : Str)) = false := by decide)
    (he : starEach [e] X.env = (false, eval e X.env) :: starEach [] X.env := by rfl) (hpl : (backTo pos (starEach [] X.env)).any (·.1) = false := by rfl) : PE X (.Call (.Name x q) [e] [] pos) (tCallE p.1 ex d R t) := by
  subst hdd
  refine ⟨fun pins s σ H Q I h => ?_⟩
  refine wpAny_Call_Name_kw (ld_glob I hg hm ?_ hdb)
  refine PySem.W.callWith_K (h₀ := X.base) I.ok.mod.kin hk (thn (ha.run pos pins s σ H _ I h) fun us s1 ⟨vs, H1, I1, r, e1, hd, hq⟩ => ⟨I1.kIn, ?_⟩) he hpl
  subst e1
  obtain ⟨u, rfl, r1⟩ := r.one
  cases (show u = Value.ref p.1 from r1)
  have b := hb s1 [.ref p.1] I1.kIn (by rw [List.append_nil]; rfl)
  rw [List.append_nil] at b
  obtain ⟨p1, p2, p3, p4, p5⟩ := I1.pin p (List.mem_append_left _ hp)
  have hpin : L2H.PinOk X.stack H1 s1 p := ⟨p1, p2, fun hm => (List.mem_cons.mp (I1.stkSub p.1 hm)).elim p3 p4, p5⟩
  refine wpAny_call (codeAny_mono (F.run X.A X.stack s1 H1 ⟨[.ref p.1], []⟩ p Q hr hot hpin hz hd I1.env0 b hq) fun r s' hq => ?_)
  cases r with
  | error e => exact (show False from hq).elim
  | ok fl =>
    cases fl with
    | ret u => exact I1.after hq
    | next => exact False.elim hq
    | brk => exact False.elim hq
    | cont => exact False.elim hq
/-! all of it, class by class -/
structure EcP (K : PySem.W.Frag) (C : Addr) : Prop where
  hg : PySem.W.findIn K (.ref C) "__getattribute__" = some (some (.builtin "BaseException.__getattribute__"))
  hk : PySem.W.findIn K (.ref C) "__getattr__" = some none
  hs : PySem.W.subIn K (.ref C) (.type "BaseException") = some true
  hd : PySem.W.hasDictIn K C = true
  ha : PySem.W.findIn K (.ref C) "__class__" = some (some (.builtin "object.__class__"))
  hm : PySem.W.mroIn K C (.type "object") = some true
  ct : PySem.W.typeIn K (.ref C) = some (.type "type")
  sv : PySem.W.subIn K (.ref C) (.type "ValueError") = some true
theorem all_nil {α : Type} {P : α → Prop} : ∀ x ∈ ([] : List α), P x := fun _ h => (nomatch h)
theorem all_cons {α : Type} {P : α → Prop} {a : α} {l : List α} (h : P a) (t : ∀ x ∈ l, P x) : ∀ x ∈ a :: l, P x := fun x hx => by
  rcases List.mem_cons.mp hx with rfl | hx
  · exact h
  · exact t x hx
theorem ecf_mk {K : PySem.W.Frag} {d : Eds} {ks : List Ek} (h : ∀ k ∈ ks, EcP K (d.at k)) (hp : ∀ k ∈ ks, ∀ c ∈ ks, PySem.W.subIn K (.ref (d.at k)) (.ref (d.at c)) = some (decide (k = c)))
    (hr : ∀ k ∈ ks, PySem.W.subIn K (.ref (d.at k)) (.ref d.RailError) = some true) (rr : EcP K d.RailError)
    (hn : PySem.W.specialIn K (.builtin "object.__class__") "__get__" = some (some (.builtin "getset_descriptor.__get__"))) (ht : PySem.W.takesIn K (.builtin "object.__class__") = some true) (hv : PySem.W.kitMeta "ValueError" = true) : EcF K d ks := by
  have ec : ∀ k ∈ ks, ExcC K (d.at k) := fun k hk => by
    obtain ⟨h1, h2, h3, h4, h5, h6, h7, h8⟩ := h k hk
    exact ⟨h1, h2, h3, h4, h5, hn, ht, h6⟩
  have cl : ∀ {C : Addr}, EcP K C → (PySem.W.clsIn K C).isSome = true := fun q => by
    obtain ⟨cd, hc, _⟩ := PySem.W.any_some q.hd
    rw [hc]; rfl
  have ko : ∀ {a b : Addr} {r : Bool}, EcP K b → PySem.W.subIn K (.ref a) (.ref b) = some r → (a = b → r = true) → PySem.W.kitOne K (.ref a) (.ref b) = some r := fun {a b r} q e1 e2 => by
    unfold PySem.W.kitOne
    by_cases e : a = b
    · subst e
      rw [if_pos (by simp), e2 rfl]
    · rw [if_neg (by simp [e])]
      unfold PySem.W.kitCls
      dsimp only
      rw [if_pos (by rw [cl q, q.ct]; rfl)]
      exact e1
  refine ⟨ec, fun k hk c hc => ko (h c hc) (hp k hk c hc) (fun e => ?_), fun k hk => ?_, fun k hk => ko rr (hr k hk) fun _ => rfl, fun k hk => exm_mk rr.hs (cl rr) rr.ct (hr k hk), fun k hk c hc => exm_mk (h c hc).hs (cl (h c hc)) (h c hc).ct (hp k hk c hc)⟩
  · have e1 := hp k hk c hc
    have e2 := hp c hc c hc
    rw [e] at e1
    rw [e2] at e1
    rw [decide_eq_true (rfl : c = c)] at e1
    exact (Option.some.inj e1).symm
  · unfold PySem.W.kitOne
    rw [if_neg (by simp)]
    unfold PySem.W.kitCls
    dsimp only
    rw [if_pos hv]
    exact (h k hk).sv
theorem gv_ref {K : PySem.W.Frag} {h : Heap} {mg : Str → Option Value} {x : Str} {C : Addr} (X : K.In h) (G : h.Ns mainGlobals mg) (a : PySem.W.nsIn K mainGlobals x = some (some (.ref C))) : Gv mg x (.ref C) := ⟨_, PySem.W.mg_of X G a, rfl⟩
theorem err_at {K : PySem.W.Frag} {h : Heap} {mg : Str → Option Value} {x : Str} {C : Addr} (X : K.In h) (G : h.Ns mainGlobals mg) (a : PySem.W.nsIn K mainGlobals x = some (some (.ref C)))
    (e : PySem.W.excIn K C [.type "ValueError", .type "Exception", .type "BaseException", .type "object"] "ValueError.__new__" = true) (k : PySem.W.keepIn K (.ref C) = true) (b : PySem.W.subIn K (.ref C) (.type "BaseException") = some true) (t : PySem.W.typeIn K (.ref C) = some (.type "type")) : ErrC K mg x C :=
  ⟨PySem.W.mg_of X G a, e, k, b, t⟩
def Er.plain : Er → Bool
  | .NoWire _ => false
  | .NoRow _ => false
  | _ => true
theorem XFl.of {e : Er} {H : Hp} (h : e.plain = true) : XFl e none H := by
  cases e <;> first
    | rfl
    | cases h
theorem RetE.byP {d : Eds} {e : Er} {H : Hp} {E : XK} (hp : e.plain = true) (h : ∀ H', Ex H H' → E (.ref (d.at e.k)) none H') : RetE d e H E := by
  cases e <;> first
    | exact fun H' x => h H' x
    | cases hp
theorem Ek.all (k : Ek) : k ∈ [Ek.NoBits, .NoName, .NoKey, .NoFrame, .NoPost, .NoThing, .NoStrip, .NoRail, .NoWire, .NoRow] := by
  cases k <;> decide
/-! the suite, its exception known -/
theorem pss_exc {X : Cx} {ss : List Stmt} {es : Eds} {ks : List Ek} {cls : Value} {t : Er → TS} (h : ∀ e, e.k ∈ ks → cls = .ref (es.at e.k) → PSs X ss (t e)) :
    PSs X ss (fun D σ H => ∃ e : Er, e.k ∈ ks ∧ cls = .ref (es.at e.k) ∧ t e D σ H) :=
  ⟨fun pins s σ H D I ⟨e, h1, h2, q⟩ => (h e h1 h2).run pins s σ H D I q⟩
theorem hot_suite {X : Cx} {a : Addr} {oe : Obj} {pn : List (Addr × Obj)} {cls : Value} {d : Option Addr} (hz : L2N.Zn cls d oe) (hf : ∃ vs, oe.data = .fields vs) : L2H.Hot1 (X.suite a ((a, oe) :: pn)).A (a, oe) := by
  obtain ⟨vs, hv⟩ := hf
  exact ⟨rfl, vs, hv, hz.2.2 vs hv⟩
theorem roomE {X : Cx} {k : Nat} {v : Option Value} (hr : Room k X.A) : L2H.RoomH k (X.A.mark v) := ⟨hr.dp, hr.un⟩
def Er.num : Er → Int
  | .NoWire i => i
  | .NoRow i => i
  | _ => 0
end Bt
namespace Bt
open PySem L2 PyProof.Rows
def okE (ks : List Ek) (e : Er) : Bool := e.plain && decide (e.k ∈ ks)
theorem okE_iff {ks : List Ek} {e : Er} (h : okE ks e = true) : e.plain = true ∧ e.k ∈ ks := by
  unfold okE at h
  rw [Bool.and_eq_true, decide_eq_true_eq] at h
  exact h
theorem ifN {α : Type} {c : Bool} {a : Option α} {r : α} (h : ifB c a none = some r) : c = true ∧ a = some r := by
  cases c with
  | true => exact ⟨rfl, h⟩
  | false => cases h
theorem o_cE {a : Addr} {ex : Er} {d : Option Addr} {R : Bool} {t : TA} {σ : L2.St} {H : Hp} {Q : VK} (h : t σ H fun vs H1 => vs = [.ref a] ∧ XFl ex d H1 ∧ RetV (.bl R) H1 Q) : tCallE a ex d R t σ H Q := h
end Bt
namespace Bt
open PySem L2 PyProof.Rows
theorem pe_gr {X : Cx} {x : Str} {C : Addr} {pos : Pos} (hg : Gl X x) (h : X.mg x = some (.ref C)) (hd : (x == ("__debug__" : Str)) = false := by decide) : PE X (.Name x pos) (tC (.ref C)) := pe_gv hg ⟨_, h, rfl⟩ hd
end Bt
namespace Bt
open PySem L2 PyProof.Rows
theorem pe_callEs {X : Cx} {a : Addr} {oe : Obj} {pn : List (Addr × Obj)} {cls : Value} {k : Nat} {f : Addr} {fd : FuncData} {x y : Str} {q pos : Pos} {e : Expr} {t : TA} {D : Addr} {ex : Er} {R : Bool} {d : Option Addr} (F : FnE X.prog X.w X.K X.mg X.base k f fd y D ex R) (hz : L2N.Zn cls d oe) (hf : ∃ vs, oe.data = .fields vs) (hc : cls = .ref D)
    (hr : Room k X.A) (hg : Gl X x) (hm : X.mg x = some (.ref f)) (hk : PySem.W.keepIn X.K (.ref f) = true) (hb : Binds X.K fd [y] []) (ha : PA (X.suite a ((a, oe) :: pn)) [e] t) (hdb : (x == ("__debug__" : Str)) = false := by decide)
    (he : starEach [e] X.env = (false, eval e X.env) :: starEach [] X.env := by rfl) (hpl : (backTo pos (starEach [] X.env)).any (·.1) = false := by rfl) : PE (X.suite a ((a, oe) :: pn)) (.Call (.Name x q) [e] [] pos) (tCallE a ex d R t) :=
  pe_callE (X := X.suite a ((a, oe) :: pn)) (p := (a, oe)) F (List.Mem.head _) (hot_suite hz hf) (hz.1.trans hc) hz.2.1 (roomE hr) hg hm hk hb ha hdb he hpl
end Bt
namespace Bt
open PySem L2
theorem o_dn {n b k : L2.St → Hp → Prop} {w : VK} {σ : L2.St} {H : Hp} (h : n σ H) : (Ends.mk n w b k).nx σ H := h
end Bt
namespace Bt
open PySem L2
theorem RetE.up {d : Eds} {e : Er} {H H' : Hp} {E : XK} (k : RetE d e H E) (x : Ex H H') : RetE d e H' E := by
  cases e <;> first
    | exact fun H2 h => k H2 (x.trans h)
    | exact fun H2 a ha h => k H2 a (x.back ha) (x.trans h)
end Bt
namespace Bt
open PySem L2
/-! a refusal with its own dict, caught: the dict is laid in the frame -/
theorem RetE.byX {d : Eds} {e : Er} {H : Hp} {E : XK} (h : ∀ H' dd, Ex H H' → XFl e dd H' → (∀ x, dd = some x → H x = none) → E (.ref (d.at e.k)) dd H') : RetE d e H E := by
  cases e <;> first
    | exact fun H' x => h H' none x rfl (fun _ z => nomatch z)
    | exact fun H' a ha x q => h H' (some a) x ⟨a, rfl, q⟩ (fun y z => by cases z; exact ha)
theorem Own.growX {R H H' : Hp} {L : List Cell} {e : Er} {dd : Option Addr} (O : Own R H L) (x : Ex H H') (hX : XFl e dd H') (hn : ∀ y, dd = some y → H y = none) : ∃ R', Own R' H' L ∧ Ex R R' ∧ XFl e dd R' := by
  obtain ⟨R', O', e1, e2⟩ := O.grow x
  refine ⟨R', O', e1, ?_⟩
  cases e <;> first
    | exact hX
    | (obtain ⟨a, h1, h2⟩ := hX
       exact ⟨a, h1, e2 R (Ex.refl R) _ _ (ovr_mk (.inr (hn a h1)) h2)⟩)
end Bt

set_option Elab.async false
set_option linter.all false
set_option maxRecDepth 100000
set_option maxHeartbeats 4000000
/-! Refusals that are made of a whole number: their own __init__, raised where nothing is handled. -/
namespace Bt
open PySem L2 PyProof.Rows
/-- R.__init__(self, ..), R an own class that takes it from ValueError -/
theorem pe_rinit {X : Cx} {x : Str} {R : Addr} {e : Expr} {es : List Expr} {ta : TA} {p1 p2 pos : Pos} {pl : Sem Bool} (hg : Gl X x) (hm : X.mg x = some (.ref R))
    (ga : PySem.W.specialIn X.K (.ref R) "__getattribute__" = some (some (.builtin "type.__getattribute__"))) (rd : PySem.W.readsIn X.K R (.type "type") = true)
    (vV : PySem.W.findCls X.K (.ref R) (.type "type") "__init__" = some (.val (.builtin "ValueError.__init__"))) (ha : PA X (e :: es) ta)
    (hc : eval (.Call (.Attribute (.Name x p1) "__init__" p2) (e :: es) [] pos) X.env = (do
      let ov ← eval (.Name x p1) X.env
      standAt p2.atName
      let (f, first) ← holding [ov] (getMethod ov "__init__" pl)
      callWith pos f first (backTo pos (starEach (e :: es) X.env)) (backToKw pos (keywordEach [] X.env))) := by rfl)
    (hdb : (x == ("__debug__" : Str)) = false := by decide)
    (he : starEach (e :: es) X.env = (false, eval e X.env) :: starEach es X.env := by rfl) (hpl : (backTo pos (starEach es X.env)).any (·.1) = false := by rfl) :
    PE X (.Call (.Attribute (.Name x p1) "__init__" p2) (e :: es) [] pos) (tVeI X.K ta) := by
  refine ⟨fun pins s σ H Q I h => ?_⟩
  refine PySem.W.methodCall_KW (ld_glob I hg hm ?_ hdb) hc
  refine PySem.W.method_cls I.kIn ga (PySem.W.cls_value I.kIn rd vV (by decide +kernel) ?_)
  refine PyProof.Rows.callWith_method1 (thn (ha.run pos pins _ σ H _ (I.tok _) h) fun us s1 ⟨vs, H1, I1, r1, a, C, ws, ev, hl, T, ea, q⟩ => ?_) he hpl
  subst ev
  cases r1 with
  | @cons _ u0 _ ur ra rw' =>
    obtain rfl : u0 = Value.ref a := ra
    have hlen : ur.length ≤ sizeLine := by
      rw [← Paired.length rw', sizeLine_eq]
      omega
    exact oinit_ok T I1 ea hlen fun s' J => ⟨.non, H1, J, rfl, q⟩
/-- C(e, ..) where nothing is handled, its context None -/
theorem pmk_initN {X : Cx} {CX : CXT} {x : Str} {e : Expr} {es : List Expr} {ta : TA} {p pos : Pos} {C fI : Addr} {k : Nat} {fd : FuncData} {ps : List Str} {sp : Sp} (T : OexC X.K C) (iC : PySem.W.findIn X.K (.ref C) "__init__" = some (some (.ref fI))) (tI : PySem.W.typeIn X.K (.ref fI) = some (.type "function"))
    (F1 : FnOk X.prog X.w X.K X.mg X.base CX k fI fd ps sp) (hr : Room (k + 1) X.A) (hb : Binds X.K fd ps []) (hx : Passes CX X (fun _ _ _ => False)) (hg : Gl X x) (hm : X.mg x = some (.ref C)) (ha : PA X (e :: es) ta)
    (hdb : (x == ("__debug__" : Str)) = false := by decide) (he : starEach (e :: es) X.env = (false, eval e X.env) :: starEach es X.env := by rfl) (hpl : (backTo pos (starEach es X.env)).any (·.1) = false := by rfl) :
    L2N.PMk X (.Call (.Name x p) (e :: es) [] pos) (tMkO C sp [] ta) := by
  intro pins s σ H Q I h
  obtain ⟨nm, q, N, bs, bm, sn, sub, ab, col, dd, k0, k1, k2, k3, k5, hC, hbm⟩ := T.cls
  refine wpAny_Call_Name_kw (ld_glob I hg hm ?_ hdb)
  refine PySem.W.callWith_K (h₀ := X.base) I.ok.mod.kin T.kC (thn (ha.run pos pins s σ H _ I h) fun us s1 ⟨vs, H1, I1, r1, hz, q1⟩ => ⟨I1.kIn, ?_⟩) he hpl
  obtain ⟨hp, g, dr, tk, os⟩ := s1
  have hsz : hp.objs.size ≤ hp.objs.size + 1 := Nat.le_succ _
  have hq := q1 (hp.objs.size + 1) (I1.hok.fresh hsz)
  rw [List.append_nil] at hq
  have kk : ∀ b o, hp.get? b = some o → ((hp.push (PySem.W.kdv_tup us)).push (PySem.HandSPX.excO C hp.objs.size)).get? b = some o := fun b o z => Heap.get?_push_of_some _ (Heap.get?_push_of_some _ z)
  have I2 : Inv X pins σ (upd H1 (hp.objs.size + 1) (exo (hp.objs.size + 1) C none)) ⟨(hp.push (PySem.W.kdv_tup us)).push (PySem.HandSPX.excO C hp.objs.size), g, dr, tk, os⟩ :=
    I1.laid (t' := tk) (a := hp.objs.size + 1) (o := exo (hp.objs.size + 1) C none) (h' := (hp.push (PySem.W.kdv_tup us)).push (PySem.HandSPX.excO C hp.objs.size)) kk hsz (exo_ok (by heap_get))
  have r2 : Vals (V.ref (hp.objs.size + 1) :: vs) (Value.ref (hp.objs.size + 1) :: us) := .cons rfl r1
  have hl : (Value.ref (hp.objs.size + 1) :: us ++ []).length = ps.length := by
    have z := r2.length
    rw [F1.len _ _ _ _ hq] at z
    rw [List.append_nil]
    exact z.symm
  have hus : us.length ≤ sizeLine := by
    rw [← Paired.length r1, sizeLine_eq]
    omega
  have b2 := hb _ (Value.ref (hp.objs.size + 1) :: us) I2.kIn hl
  rw [List.append_nil] at b2
  refine wpAny_call (PySem.HandSPX.call_own PySem.F.excBase_ValueError (fun Y => PySem.HandSPX.refsVE_contains Y bm hbm) (I1.kIn _ _ hC) (PySem.W.looks_findIn I1.kIn iC) (fun self => PySem.W.bind_fn I1.kIn self tI) hus
    (codeAny_mono (F1.run _ X.stack _ _ ⟨Value.ref (hp.objs.size + 1) :: us, []⟩ (Value.ref (hp.objs.size + 1) :: us) _ _ (fun _ _ _ => False) (hr.make C us []) (I2.env0.make C us []) b2 r2 hq) fun r s' hq' => ?_))
  cases r with
  | error er => exact hx pins σ _ _ er s' I2 hq'
  | ok fl =>
    cases fl with
    | ret u =>
      obtain ⟨v, H2, os2, bare2, un2, hok2, rv, ev, d, fs, ea, ed, hd1, q2⟩ := hq'
      subst ev
      obtain ⟨h2, g2, d2, t2, os'⟩ := s'
      obtain ⟨t0, G, J, kG, ge, hoe, na⟩ := mk_end0 (d2 := d2) (t2 := t2) I1 hsz kk un2 hok2 os2 bare2 ea ed hd1
      exact ⟨rv, _, _, _, ⟨G, g2, d2, t2, os'⟩, _, .ref C, some d, rfl, J, kG, ge, hoe, ⟨rfl, rfl, fun vs z => by cases z; rfl⟩, rfl, rfl, na, rfl, bare2, raises_own T.exC T.tyC, q2⟩
    | next => exact False.elim hq'
    | brk => exact False.elim hq'
    | cont => exact False.elim hq'
/-- what such an __init__ promises: the field laid -/
def spI (C : Addr) (fld : Str) : Sp := fun vs H Q _ => ∃ (a : Addr) (i : Int), vs = [.ref a, .int i] ∧ H a = some (exo a C none) ∧ ∀ dx, H dx = none → dx ≠ a → Q .non (upd (upd H dx (exd dx [(fld, .int i)])) a (exo a C (some dx)))
def rMkI (C : Addr) (fld : Str) (vs : List V) (H1 : Hp) (Q : XK) : Prop := vs.length ≤ 1000 ∧ ∀ a, H1 a = none → spI C fld (.ref a :: (vs ++ [])) (upd H1 a (exo a C none))
  (fun v H2 => v = .non ∧ ∃ (d : Addr) (fs : List (Str × V)), H2 a = some (exo a C (some d)) ∧ H2 d = some (exd d fs) ∧ H1 d = none ∧ Q (.ref C) (some d) (upd (del H2 a) d (.xd fs))) (fun _ _ _ => False)
theorem o_mkI {C : Addr} {fld : Str} {t : TA} {σ : L2.St} {H : Hp} {Q : XK} (h : t σ H fun vs H1 => rMkI C fld vs H1 Q) : tMkO C (spI C fld) [] t σ H Q := h
theorem k_mkI {C : Addr} {fld : Str} {H1 : Hp} {Q : XK} {i : Int} (k : ∀ H' dx, H1 dx = none → Ex H1 H' → H' dx = some (.xd [(fld, .int i)]) → Q (.ref C) (some dx) H') : rMkI C fld [.int i] H1 Q := by
  refine ⟨by show 1 ≤ 1000; decide, fun a ha => ⟨a, i, rfl, upd_same, fun dx h1 h2 => ?_⟩⟩
  rw [upd_ne h2] at h1
  refine ⟨rfl, dx, _, upd_same, ?_, h1, k _ dx h1 (fun b o hb => ?_) upd_same⟩
  · rw [upd_ne h2, upd_same]
  · have hba : b ≠ a := fun z => by rw [z, ha] at hb; cases hb
    have hbd : b ≠ dx := fun z => by rw [z, h1] at hb; cases hb
    rw [upd_ne hbd, del_ne hba, upd_ne hba, upd_ne hbd, upd_ne hba]
    exact hb
/-- the facts of such a class -/
structure InF (K : PySem.W.Frag) (mg : Str → Option Value) (C R f : Addr) (fld : Str) : Prop where
  o : OexC K C
  i : PySem.W.findIn K (.ref C) "__init__" = some (some (.ref f))
  t : PySem.W.typeIn K (.ref f) = some (.type "function")
  n : PySem.W.findIn K (.ref C) fld = some none
  ga : PySem.W.specialIn K (.ref R) "__getattribute__" = some (some (.builtin "type.__getattribute__"))
  rd : PySem.W.readsIn K R (.type "type") = true
  v : PySem.W.findCls K (.ref R) (.type "type") "__init__" = some (.val (.builtin "ValueError.__init__"))
  mr : mg "RailError" = some (.ref R)
end Bt
namespace Bt
open PySem
/-- the statements of a class -/
def clsB (s : Stmt) : List Stmt := match s with
  | .ClassDef _ _ _ b _ _ _ _ _ _ _ => b
  | _ => []
end Bt

set_option linter.all false
set_option maxRecDepth 100000
set_option maxHeartbeats 1000000
/-! Plain facts about the mirror's words. -/
namespace Bt
open PySem L2
section
variable {α β S R : Type}
theorem bnd_some {a : α} {f : α → Option β} : bnd (some a) f = f a := rfl
theorem bnd_of {a : Option α} {x : α} {f : α → Option β} (h : a = some x) : bnd a f = f x := by rw [h]; rfl
theorem ltv_eq {a : α} {f : α → Option β} : ltv a f = f a := rfl
theorem ifB_t {a b : α} : ifB true a b = a := rfl
theorem ifB_f {a b : α} : ifB false a b = b := rfl
theorem ifB_dec {c : Prop} [Decidable c] {a b : α} : ifB (decide c) a b = if c then a else b := by
  by_cases h : c
  · rw [if_pos h, decide_eq_true h]; rfl
  · rw [if_neg h, decide_eq_false h]; rfl
theorem ifB_ite {c : Bool} {a b : α} : ifB c a b = if c = true then a else b := by cases c <;> rfl
theorem fin_nx {s : S} {rest : S → Option R} : fin (some (.nx s)) rest = rest s := rfl
theorem fin_rt {r : R} {rest : S → Option R} : fin (some (.rt r)) rest = some r := rfl
theorem loopM_ok {f : α → S → Option S} (I : List α → S → Prop) (hs : ∀ x r s, I (x :: r) s → ∃ s', f x s = some s' ∧ I r s') : ∀ (xs : List α) (s : S), I xs s → ∃ out, loopM f xs s = some out ∧ I [] out
  | [], s, h => ⟨s, rfl, h⟩
  | x :: r, s, h => by
    obtain ⟨s', h1, h2⟩ := hs x r s h
    obtain ⟨out, h3, h4⟩ := loopM_ok I hs r s' h2
    exact ⟨out, by show bnd (f x s) (loopM f r) = some out; rw [h1]; exact h3, h4⟩
theorem loopF_ok {f : α → S → Option (Fl S R)} (I : List α → S → Prop) (hs : ∀ x r s, I (x :: r) s → ∃ s', f x s = some (.nx s') ∧ I r s') : ∀ (xs : List α) (s : S), I xs s → ∃ out, loopF f xs s = some (.nx out) ∧ I [] out
  | [], s, h => ⟨s, rfl, h⟩
  | x :: r, s, h => by
    obtain ⟨s', h1, h2⟩ := hs x r s h
    obtain ⟨out, h3, h4⟩ := loopF_ok I hs r s' h2
    exact ⟨out, by show bnd (f x s) (contF (loopF f r)) = some (.nx out); rw [h1]; exact h3, h4⟩
/-- a search that finds nothing -/
theorem loopF_unit {f : α → Unit → Option (Fl Unit R)} {xs : List α} (h : ∀ x ∈ xs, f x () = some (.nx ())) : loopF f xs () = some (.nx ()) := by
  induction xs with
  | nil => rfl
  | cons x r ih =>
    show bnd (f x ()) (contF (loopF f r)) = some (.nx ())
    rw [h x (List.Mem.head _)]
    exact ih fun y hy => h y (List.Mem.tail _ hy)
theorem compM_ok {f : α → Option β} {g : α → β} : ∀ (xs : List α) (acc : List β), (∀ x ∈ xs, f x = some (g x)) → acc.length + xs.length ≤ 16777216 → compM f xs acc = some (acc ++ xs.map g)
  | [], acc, _, _ => by simp [compM]
  | x :: r, acc, h, hz => by
    have hl : acc.length < 16777216 := by simp only [List.length_cons] at hz; omega
    have ih := compM_ok r (acc ++ [g x]) (fun y hy => h y (List.Mem.tail _ hy)) (by simp only [List.length_append, List.length_cons, List.length_nil] at hz ⊢; omega)
    show bnd (f x) (fun y => if acc.length < 16777216 then compM f r (acc ++ [y]) else none) = _
    rw [h x (List.Mem.head _), bnd_some, if_pos hl, ih]
    simp
/-- the elements' property alone -/
theorem compM_all {f : α → Option β} {P : β → Prop} : ∀ (xs : List α) (acc : List β), (∀ x ∈ xs, ∃ y, f x = some y ∧ P y) → acc.length + xs.length ≤ 16777216 → (∀ y ∈ acc, P y) → ∃ out, compM f xs acc = some out ∧ out.length = acc.length + xs.length ∧ ∀ y ∈ out, P y
  | [], acc, _, _, ha => ⟨acc, rfl, by simp, ha⟩
  | x :: r, acc, h, hz, ha => by
    obtain ⟨y, h1, h2⟩ := h x (List.Mem.head _)
    have hl : acc.length < 16777216 := by simp only [List.length_cons] at hz; omega
    obtain ⟨out, h3, h4, h5⟩ := compM_all r (acc ++ [y]) (fun y hy => h y (List.Mem.tail _ hy)) (by simp only [List.length_append, List.length_cons, List.length_nil] at hz ⊢; omega) (fun z hz => by
      rcases List.mem_append.mp hz with q | q
      · exact ha z q
      · rw [List.mem_singleton.mp q]; exact h2)
    refine ⟨out, ?_, by rw [h4]; simp only [List.length_append, List.length_cons, List.length_nil]; omega, h5⟩
    show bnd (f x) (fun y => if acc.length < 16777216 then compM f r (acc ++ [y]) else none) = _
    rw [h1, bnd_some, if_pos hl, h3]
theorem appG_ok {xs : List α} {y : α} (h : xs.length < 16777216) : appG xs y = some (xs ++ [y]) := grd_of h
theorem catG_ok {xs ys : List α} (h : xs.length + ys.length ≤ 16777216) : catG xs ys = some (xs ++ ys) := grd_of h
theorem ixN_nat' {n : Nat} {i : Int} (h0 : 0 ≤ i) (h1 : i < n) : ixN n i = some i.toNat := by
  unfold ixN
  rw [if_pos h0, if_pos h1]
theorem atI_ok {xs : List α} {i : Int} (h0 : 0 ≤ i) (h1 : i < xs.length) : atI xs i = xs[i.toNat]? := by
  unfold atI
  rw [ixN_nat' h0 h1]
  rfl
theorem atI_mem {xs : List α} {i : Int} (h0 : 0 ≤ i) (h1 : i < xs.length) : ∃ x, atI xs i = some x ∧ x ∈ xs := by
  have hn : i.toNat < xs.length := by omega
  exact ⟨xs[i.toNat], by rw [atI_ok h0 h1]; exact List.getElem?_eq_getElem hn, List.getElem_mem hn⟩
theorem setG_ok {xs : List α} {i : Int} {y : α} (h0 : 0 ≤ i) (h1 : i < xs.length) : setG xs i y = some (xs.set i.toNat y) := by
  unfold setG
  rw [ixN_nat' h0 h1]
theorem repG_ok {xs : List α} {k : Int} (h0 : 0 ≤ k) (h1 : k ≤ 1000000) (h2 : xs.length * k.toNat ≤ 16777216) : repG xs k = some (List.replicate k.toNat xs).flatten := grd_of ⟨by omega, by omega, h2⟩
end
theorem modG_ok {i j : Int} (h : 0 < j) : modG i j = some (i % j) := grd_of h
theorem log2_small {n k : Nat} (h : n < 2 ^ k) : n.log2 ≤ k := by
  by_cases h0 : n = 0
  · subst h0; rw [show Nat.log2 0 = 0 from by decide]; exact Nat.zero_le _
  · exact Nat.le_of_lt ((Nat.log2_lt h0).mpr h)
theorem mulG_ok {i j : Int} {a b : Nat} (h1 : i.natAbs < 2 ^ a) (h2 : j.natAbs < 2 ^ b) (h : a + b < 1000000) : mulG i j = some (i * j) := by
  refine grd_of ?_
  have := log2_small h1
  have := log2_small h2
  omega
theorem fdivG_ok {i j : Int} {b : Nat} (h : 0 < j) (h2 : j.natAbs < 2 ^ b) (hb : b < 9000) : fdivG i j = some (i / j) := by
  refine grd_of ⟨h, ?_⟩
  have := log2_small h2
  omega
theorem shrG_ok {i j : Int} (h : 0 ≤ j) : shrG i j = some (i / 2 ^ j.toNat) := grd_of h
theorem rng1_ok {j : Int} (h : j ≤ 1000000) (h0 : -1000000 ≤ j) : rng1 j = some (rangeI 0 j) := grd_of ⟨by omega, by omega⟩
theorem rng2_ok {i j : Int} (h : j ≤ 1000000) (h0 : -1000000 ≤ j) (h1 : -1000000 ≤ i) (h2 : i ≤ 1000000) : rng2 i j = some (rangeI i j) := grd_of ⟨by omega, by omega, by omega, by omega⟩
theorem mem_rangeI {i j x : Int} (h : x ∈ rangeI i j) : i ≤ x ∧ x < j := by
  unfold rangeI at h
  obtain ⟨n, hn, rfl⟩ := List.mem_map.mp h
  have := List.mem_range.mp hn
  omega
theorem rangeI_length (i j : Int) : (rangeI i j).length = (j - i).toNat := by simp [rangeI]
theorem rangeI_cons {i j : Int} (h : i < j) : rangeI i j = i :: rangeI (i + 1) j := by
  unfold rangeI
  have e : (j - i).toNat = (j - (i + 1)).toNat + 1 := by omega
  rw [e, List.range_succ_eq_map]
  simp only [List.map_cons, List.map_map]
  congr 1
  · simp
  · refine List.map_congr_left fun n _ => ?_
    simp only [Function.comp]
    omega
theorem rangeI_nil {i j : Int} (h : j ≤ i) : rangeI i j = [] := by
  unfold rangeI
  rw [show (j - i).toNat = 0 from by omega]
  rfl
/-- a loop over a range: the invariant by the number ahead -/
theorem loopM_rng {S : Type} {f : Int → S → Option S} (I : Int → S → Prop) {hi : Int} (hs : ∀ i s, i < hi → I i s → ∃ s', f i s = some s' ∧ I (i + 1) s') : ∀ (n : Nat) (lo : Int) (s : S), (hi - lo).toNat = n → lo ≤ hi → I lo s → ∃ out, loopM f (rangeI lo hi) s = some out ∧ I hi out
  | 0, lo, s, e, h, h0 => by
    have : lo = hi := by omega
    subst this
    rw [rangeI_nil (Int.le_refl _)]
    exact ⟨s, rfl, h0⟩
  | n + 1, lo, s, e, h, h0 => by
    rw [rangeI_cons (by omega)]
    obtain ⟨s', h1, h2⟩ := hs lo s (by omega) h0
    obtain ⟨out, h3, h4⟩ := loopM_rng I hs n (lo + 1) s' (by omega) (by omega) h2
    exact ⟨out, by show bnd (f lo s) _ = _; rw [h1]; exact h3, h4⟩
theorem loopF_rng {S R : Type} {f : Int → S → Option (Fl S R)} (I : Int → S → Prop) {hi : Int} (hs : ∀ i s, i < hi → I i s → ∃ s', f i s = some (.nx s') ∧ I (i + 1) s') : ∀ (n : Nat) (lo : Int) (s : S), (hi - lo).toNat = n → lo ≤ hi → I lo s → ∃ out, loopF f (rangeI lo hi) s = some (.nx out) ∧ I hi out
  | 0, lo, s, e, h, h0 => by
    have : lo = hi := by omega
    subst this
    rw [rangeI_nil (Int.le_refl _)]
    exact ⟨s, rfl, h0⟩
  | n + 1, lo, s, e, h, h0 => by
    rw [rangeI_cons (by omega)]
    obtain ⟨s', h1, h2⟩ := hs lo s (by omega) h0
    obtain ⟨out, h3, h4⟩ := loopF_rng I hs n (lo + 1) s' (by omega) (by omega) h2
    exact ⟨out, by show bnd (f lo s) _ = _; rw [h1]; exact h3, h4⟩
end Bt
namespace Bt
open PySem L2
theorem bits_le {i : Int} {n : Nat} (h : i.natAbs < 2 ^ n) : Builtin.Int.intBits i ≤ n := by
  unfold Builtin.Int.intBits
  split
  · exact Nat.zero_le _
  · rename_i h0
    have h1 : i.natAbs ≠ 0 := by simpa using h0
    have := (Nat.log2_lt h1).mpr h
    omega
theorem shlG_ok {i j : Int} {n : Nat} (h : i.natAbs < 2 ^ n) (h0 : 0 ≤ j) (h1 : (n : Int) + j ≤ 100000000) : shlG i j = some (i * 2 ^ j.toNat) := by
  refine grd_of ⟨h0, ?_⟩
  have := bits_le h
  omega
end Bt
namespace Bt
open PySem L2
theorem whileM_go {S : Type} {c : S → Option Bool} {f : S → Option S} {n : Nat} {s s' : S} (h1 : c s = some true) (h2 : f s = some s') : whileM c f (n + 1) s = whileM c f n s' := by
  show bnd (c s) (fun b => ifB b (bnd (f s) (whileM c f n)) (some s)) = _
  rw [h1, bnd_some, ifB_t, h2, bnd_some]
theorem whileM_stop {S : Type} {c : S → Option Bool} {f : S → Option S} {n : Nat} {s : S} (h1 : c s = some false) : whileM c f (n + 1) s = some s := by
  show bnd (c s) (fun b => ifB b (bnd (f s) (whileM c f n)) (some s)) = _
  rw [h1, bnd_some, ifB_f]
theorem loopM_go {α S : Type} {f : α → S → Option S} {x : α} {r : List α} {s s' : S} (h : f x s = some s') : loopM f (x :: r) s = loopM f r s' := by
  show bnd (f x s) (loopM f r) = _
  rw [h, bnd_some]
theorem loopF_go {α S R : Type} {f : α → S → Option (Fl S R)} {x : α} {r : List α} {s s' : S} (h : f x s = some (.nx s')) : loopF f (x :: r) s = loopF f r s' := by
  show bnd (f x s) (contF (loopF f r)) = _
  rw [h, bnd_some]
  rfl
end Bt
namespace Bt
open PySem L2
theorem compT_ok {α β : Type} {c : α → Option Bool} {f : α → Option β} {p : α → Bool} {g : α → β} : ∀ (xs : List α) (acc : List β), (∀ x ∈ xs, c x = some (p x)) → (∀ x ∈ xs, f x = some (g x)) → acc.length + xs.length ≤ 16777216 → compT c f xs acc = some (acc ++ (xs.filter p).map g)
  | [], acc, _, _, _ => by simp [compT]
  | x :: r, acc, h, k, hz => by
    simp only [List.length_cons] at hz
    show bnd (c x) (fun b => ifB b (bnd (f x) fun y => if acc.length < 16777216 then compT c f r (acc ++ [y]) else none) (compT c f r acc)) = _
    rw [h x (List.Mem.head _), bnd_some]
    cases e : p x with
    | true =>
      rw [ifB_t, k x (List.Mem.head _), bnd_some, if_pos (by omega), compT_ok r (acc ++ [g x]) (fun y hy => h y (List.Mem.tail _ hy)) (fun y hy => k y (List.Mem.tail _ hy)) (by simp; omega)]
      simp [e]
    | false =>
      rw [ifB_f, compT_ok r acc (fun y hy => h y (List.Mem.tail _ hy)) (fun y hy => k y (List.Mem.tail _ hy)) (by omega)]
      simp [e]
end Bt
namespace Bt
theorem bndO_ok {α β : Type} {y : α} {f : α → Option β} : bndO (some (.ok y)) f = f y := rfl
theorem bndR_ok {α β : Type} {y : α} {f : α → Option (Rs β)} : bndR (some (.ok y)) f = f y := rfl
theorem bndR_er {α β : Type} {e : Er} {f : α → Option (Rs β)} : bndR (some (.er e)) f = some (.er e) := rfl
theorem tryR_ok {α β : Type} {y : α} {f : α → β} {g : Er → β} : tryR (.ok y) f g = f y := rfl
theorem tryR_er {α β : Type} {e : Er} {f : α → β} {g : Er → β} : tryR (.er e) f g = g e := rfl
end Bt

set_option Elab.async false
set_option linter.all false
set_option maxRecDepth 100000
set_option maxHeartbeats 4000000
/-! Objects: what a def is handed to change, and gives back. -/
namespace Bt
open PySem L2
section
variable {R R' H H' H0 R0 Hb F : Hp} {L L' A B C : List Cell} {Bs Bs' Cs : List (List Cell)} {a p q : Addr} {o o' : HO} {Q : VK} {v : V} {D : Hp → V → List Cell → Prop} {α : Type}
/-- some of the blocks, by their places -/
theorem flat_mem {i : Nat} {b : List Cell} (h : Bs[i]? = some b) {c : Cell} (hc : c ∈ b) : c ∈ Bs.flatten := List.mem_flatten.mpr ⟨b, List.mem_of_getElem? h, hc⟩
theorem flat_nd : ∀ {Bs : List (List Cell)}, (Bs.flatten.map (·.1)).Nodup → ∀ {i j : Nat} {b b' : List Cell}, Bs[i]? = some b → Bs[j]? = some b' → i ≠ j → ∀ c ∈ b, ∀ d ∈ b', c.1 ≠ d.1
  | [], _, i, j, b, b', h, _, _ => by simp at h
  | x :: r, nd, i, j, b, b', h, h', n => by
    rw [List.flatten_cons, List.map_append] at nd
    obtain ⟨_, n2, n3⟩ := List.nodup_append.mp nd
    intro c hc d hd e
    cases i with
    | zero =>
      cases j with
      | zero => exact n rfl
      | succ j =>
        cases Option.some.inj h
        exact n3 _ (List.mem_map_of_mem (f := (·.1)) hc) _ (List.mem_map_of_mem (f := (·.1)) (flat_mem (by simpa using h') hd)) e
    | succ i =>
      cases j with
      | zero =>
        cases Option.some.inj h'
        exact n3 _ (List.mem_map_of_mem (f := (·.1)) hd) _ (List.mem_map_of_mem (f := (·.1)) (flat_mem (by simpa using h) hc)) e.symm
      | succ j => exact flat_nd n2 (by simpa using h) (by simpa using h') (fun z => n (by rw [z])) c hc d hd e
theorem flat_nd1 : ∀ {Bs : List (List Cell)}, (Bs.flatten.map (·.1)).Nodup → ∀ {i : Nat} {b : List Cell}, Bs[i]? = some b → (b.map (·.1)).Nodup
  | [], _, i, b, h => by simp at h
  | x :: r, nd, i, b, h => by
    rw [List.flatten_cons, List.map_append] at nd
    obtain ⟨n1, n2, _⟩ := List.nodup_append.mp nd
    cases i with
    | zero => cases Option.some.inj h; exact n1
    | succ i => exact flat_nd1 n2 (by simpa using h)
theorem Own.selB (O : Own R H Bs.flatten) (is : List Nat) (hd : is.Nodup) (e : is.map (fun i => Bs[i]?) = Bs'.map some) : Own R H Bs'.flatten := by
  have hm : ∀ c ∈ Bs'.flatten, c ∈ Bs.flatten := fun c hc => by
    obtain ⟨b, hb, hc⟩ := List.mem_flatten.mp hc
    have h1 : some b ∈ is.map (fun i => Bs[i]?) := by rw [e]; exact List.mem_map_of_mem hb
    obtain ⟨i, _, h2⟩ := List.mem_map.mp h1
    exact flat_mem h2 hc
  refine ⟨O.ex, fun c h => O.at_ c (hm c h), fun c h => O.fr c (hm c h), ?_⟩
  clear hm
  induction is generalizing Bs' with
  | nil =>
    cases Bs' with
    | nil => exact List.Pairwise.nil
    | cons c r => simp at e
  | cons i is ih =>
    cases Bs' with
    | nil => simp at e
    | cons b r =>
      simp only [List.map_cons, List.cons.injEq] at e
      obtain ⟨e1, e2⟩ := e
      obtain ⟨n1, n2⟩ := List.nodup_cons.mp hd
      rw [List.flatten_cons, List.map_append]
      refine List.nodup_append.mpr ⟨flat_nd1 O.nd e1, ih n2 e2, fun x hx y hy exy => ?_⟩
      obtain ⟨c, hc, rfl⟩ := List.mem_map.mp hx
      obtain ⟨d, hd', rfl⟩ := List.mem_map.mp hy
      obtain ⟨b', hb', hd'⟩ := List.mem_flatten.mp hd'
      have h1 : some b' ∈ is.map (fun i => Bs[i]?) := by rw [e2]; exact List.mem_map_of_mem hb'
      obtain ⟨j, hj, h2⟩ := List.mem_map.mp h1
      exact flat_nd O.nd e1 h2 (fun z => n1 (by rw [z]; exact hj)) c hc d hd' exy
/-- the same, told by what is left -/
def nthB : List (List Cell) → Nat → List Cell
  | [], _ => []
  | b :: _, 0 => b
  | _ :: r, n + 1 => nthB r n
def pickG (Bs : List (List Cell)) : List Nat → List (List Cell)
  | [] => []
  | i :: r => nthB Bs i :: pickG Bs r
theorem g1 {Bs : List (List Cell)} : pickG Bs [] = [] := rfl
theorem g2 {Bs : List (List Cell)} {i : Nat} {r : List Nat} : pickG Bs (i :: r) = nthB Bs i :: pickG Bs r := rfl
theorem g3 {b : List Cell} {r : List (List Cell)} : nthB (b :: r) 0 = b := rfl
theorem g4 {b : List Cell} {r : List (List Cell)} {n : Nat} : nthB (b :: r) (n + 1) = nthB r n := rfl
theorem nth_some : ∀ {Bs : List (List Cell)} {i : Nat}, i < Bs.length → Bs[i]? = some (nthB Bs i)
  | [], i, h => by simp at h
  | b :: r, 0, _ => rfl
  | b :: r, i + 1, h => by
    rw [List.getElem?_cons_succ]
    exact nth_some (by simpa using h)
theorem nth_none : ∀ {Bs : List (List Cell)} {i : Nat}, ¬ i < Bs.length → nthB Bs i = []
  | [], i, h => rfl
  | b :: r, 0, h => by simp at h
  | b :: r, i + 1, h => nth_none (Bs := r) (by simpa using h)
theorem pick_flat (Bs : List (List Cell)) : ∀ is : List Nat, (pickG Bs is).flatten = (pickG Bs (is.filter fun i => decide (i < Bs.length))).flatten
  | [] => rfl
  | i :: r => by
    rw [g2, List.flatten_cons, pick_flat Bs r, List.filter_cons]
    by_cases h : i < Bs.length
    · rw [decide_eq_true h, if_pos rfl, g2, List.flatten_cons]
    · rw [decide_eq_false h, if_neg (by simp), nth_none h, List.nil_append]
theorem pick_ok (Bs : List (List Cell)) : ∀ is : List Nat, (∀ i ∈ is, i < Bs.length) → is.map (fun i => Bs[i]?) = (pickG Bs is).map some
  | [], _ => rfl
  | i :: r, h => by
    rw [g2, List.map_cons, List.map_cons, nth_some (h i (List.Mem.head _)), pick_ok Bs r fun j hj => h j (List.Mem.tail _ hj)]
theorem Own.pkB (O : Own R H L) (Bs : List (List Cell)) (hB : L = Bs.flatten) (is : List Nat) (hd : is.Nodup) (e : (pickG Bs is).flatten = L') : Own R H L' := by
  subst hB
  subst e
  rw [pick_flat]
  exact O.selB _ (hd.filter _) (pick_ok Bs _ fun i hi => by
    obtain ⟨_, h⟩ := List.mem_filter.mp hi
    exact of_decide_eq_true h)
theorem Own.split (O : Own R H (Bs ++ Cs).flatten) : Own R H (Bs.flatten ++ Cs.flatten) := by
  rw [List.flatten_append] at O
  exact O
/-- blocks to the front, apart -/
theorem Own.cutB (O : Own R H Bs.flatten) (is : List Nat) (hd : is.Nodup) (e : is.map (fun i => Bs[i]?) = (Bs' ++ Cs).map some) : Own R H (Bs'.flatten ++ Cs.flatten) := (O.selB is hd e).split
theorem Own.asc (O : Own R H ((A ++ B) ++ C)) : Own R H (A ++ (B ++ C)) := by
  rw [List.append_assoc] at O
  exact O
/-- H without the cells -/
def hsub (H : Hp) (L : List Cell) : Hp := fun a => if a ∈ L.map (·.1) then none else H a
theorem hsub_nil : hsub H [] = H := rfl
theorem hsub_in {c : Cell} (h : c ∈ L) : hsub H L c.1 = none := by
  unfold hsub
  exact if_pos (List.mem_map_of_mem (f := (·.1)) h)
theorem hsub_ex : Ex (hsub H L) H := fun a u e => by
  unfold hsub at e
  split at e
  · cases e
  · exact e
theorem Own.subR (O : Own R H L) : Ex R (hsub H L) := fun a u e => by
  unfold hsub
  rw [if_neg (fun m => by
    obtain ⟨c, hc, e1⟩ := List.mem_map.mp m
    have := O.fr c hc
    rw [e1, e] at this
    cases this)]
  exact O.ex _ _ e
theorem Own.startX (O : Own R H L) : Own (hsub H L) H L := ⟨hsub_ex, O.at_, fun c h => hsub_in h, O.nd⟩
theorem Own.shrink (O : Own R H L) (e : Ex R' R) : Own R' H L := ⟨e.trans O.ex, O.at_, fun c h => e.back (O.fr c h), O.nd⟩
theorem Own.left (O : Own R H (A ++ B)) : Own R H A := O.sub (List.sublist_append_left A B)
theorem Own.right (O : Own R H (A ++ B)) : Own R H B := O.sub (List.sublist_append_right A B)
/-- what a def that changes things hands back: in what R0 knows or what is new; the cells L are its own to give back -/
def RetX (R0 Hb : Hp) (D : Hp → V → List Cell → Prop) (Q : VK) : Prop := ∀ v H' R' L', Ex Hb R' → Own R' H' L' → D (ovr R0 Hb R') v L' → Q v H'
abbrev DT := Hp → V → List Cell → Prop
def MonoD (D : DT) : Prop := ∀ F F' v L, Ex F F' → D F v L → D F' v L
/-- back from the call: the other cells are still there -/
theorem Own.back (O : Own R H (B ++ C)) (e : Ex (hsub H B) R') (O' : Own R' H' L') : ∃ R'', Own R'' H' (L' ++ C) ∧ Ex R R'' ∧ ∀ F, Ex F R → Ex (ovr F (hsub H B) R') R'' := by
  have nd := O.nd
  rw [List.map_append] at nd
  obtain ⟨ndB, ndC, dis⟩ := List.nodup_append.mp nd
  have hC : ∀ c ∈ C, R' c.1 = some c.2 := fun c hc => e _ _ (by
    unfold hsub
    rw [if_neg (fun m => dis _ m _ (List.mem_map_of_mem (f := (·.1)) hc) rfl)]
    exact O.at_ c (List.mem_append.mpr (.inr hc)))
  have hR : ∀ b u, R b = some u → R' b = some u := fun b u h => e _ _ (O.left.subR b u h)
  refine ⟨hsub R' C, ⟨hsub_ex.trans O'.ex, fun c hc => ?_, fun c hc => ?_, ?_⟩, fun b u h => ?_, fun F hF b u h => ?_⟩
  · rcases List.mem_append.mp hc with hc | hc
    · exact O'.at_ c hc
    · exact O'.ex _ _ (hC c hc)
  · rcases List.mem_append.mp hc with hc | hc
    · exact hsub_ex.back (O'.fr c hc)
    · exact hsub_in hc
  · rw [List.map_append]
    refine List.nodup_append.mpr ⟨O'.nd, ndC, fun x hx y hy exy => ?_⟩
    subst exy
    obtain ⟨c, hc, e1⟩ := List.mem_map.mp hx
    obtain ⟨d, hd, e2⟩ := List.mem_map.mp hy
    have h1 := O'.fr c hc
    have h2 := hC d hd
    rw [e2, ← e1, h1] at h2
    cases h2
  · unfold hsub
    rw [if_neg (fun m => by
      obtain ⟨c, hc, e1⟩ := List.mem_map.mp m
      have := O.fr c (List.mem_append.mpr (.inr hc))
      rw [e1, h] at this
      cases this)]
    exact hR b u h
  · obtain ⟨hq, h1⟩ := ovr_some h
    unfold hsub
    rw [if_neg (fun m => ?_)]
    · exact h1
    · obtain ⟨c, hc, e1⟩ := List.mem_map.mp m
      rcases hq with hq | hq
      · cases hf : F b with
        | none => exact hq hf
        | some w =>
          have := O.fr c (List.mem_append.mpr (.inr hc))
          rw [e1, hF _ _ hf] at this
          cases this
      · have : hsub H B c.1 = some c.2 := by
          unfold hsub
          rw [if_neg (fun m => dis _ m _ (List.mem_map_of_mem (f := (·.1)) hc) rfl)]
          exact O.at_ c (List.mem_append.mpr (.inr hc))
        rw [e1, hq] at this
        cases this
theorem Own.retX (O : Own R H (B ++ C)) (m : MonoD D) (k : ∀ v H' R' L', Own R' H' (L' ++ C) → Ex R R' → D R' v L' → Q v H') : RetX R (hsub H B) D Q := fun v H' R' L' e O' d => by
  obtain ⟨R'', O'', e1, e2⟩ := O.back e O'
  exact k v H' R'' L' O'' e1 (m _ _ _ _ (e2 R (Ex.refl R)) d)
theorem Own.retXO (O : Own R H (B ++ C)) (m : MonoD D) (e0 : Ex H0 R) (k : ∀ v H' R' L', Own R' H' (L' ++ C) → Ex R R' → D (ovr R0 H0 R') v L' → Q v H') : RetX (ovr R0 H0 R) (hsub H B) D Q := fun v H' R' L' e O' d => by
  obtain ⟨R'', O'', e1, e2⟩ := O.back e O'
  refine k v H' R'' L' O'' e1 (m _ _ _ _ (fun b u h => ?_) d)
  have h1 := e2 (ovr R0 H0 R) ovr_ex _ _ h
  obtain ⟨hq, _⟩ := ovr_some h
  refine ovr_mk ?_ h1
  rcases hq with hq | hq
  · cases hz : ovr R0 H0 R b with
    | none => exact absurd hz hq
    | some w => exact (ovr_some hz).1
  · refine .inr ?_
    cases hz : H0 b with
    | none => rfl
    | some w =>
      have h3 := O.left.subR _ _ (e0 _ _ hz)
      rw [hq] at h3
      cases h3
theorem Own.inC {B C : List Cell} {c : Cell} (O : Own R H (B ++ C)) (h : c ∈ C) : hsub H B c.1 = some c.2 := by
  have nd := O.nd
  rw [List.map_append] at nd
  unfold hsub
  rw [if_neg (fun m => (List.nodup_append.mp nd).2.2 _ m _ (List.mem_map_of_mem (f := (·.1)) h) rfl)]
  exact O.at_ c (List.mem_append_right _ h)
/-! what is handed back -/
abbrev Ob (α : Type) := Hp → Addr → List Cell → α → Prop
def MonoO {α : Type} (B : Ob α) : Prop := ∀ F F' a L x, Ex F F' → B F a L x → B F' a L x
def dV (w : V) : DT := fun _ v L => L = [] ∧ v = w
def dLs (xs : List V) : DT := fun _ v L => ∃ p, v = .ref p ∧ L = [(p, .lst xs)]
def dTp (xs : List V) : DT := fun _ v L => ∃ p, v = .ref p ∧ L = [(p, .tup xs)]
def dP {α : Type} (P : Rp α) (x : α) : DT := fun F v L => L = [] ∧ P F v x
def dOb {α : Type} (B : Ob α) (x : α) : DT := fun F v L => ∃ a, v = .ref a ∧ B F a L x
def dX {α : Type} (B : Ob α) (a : Addr) (x : α) (D : DT) : DT := fun F v L => ∃ L1 L2, L = L1 ++ L2 ∧ B F a L1 x ∧ D F v L2
def dI {α : Type} (B : Ob α) (a : Addr) (x : α) : DT := fun F v L => v = .non ∧ B F a L x
theorem mdI {α : Type} {B : Ob α} {a : Addr} {x : α} (m : MonoO B) : MonoD (dI B a x) := fun _ _ _ _ e h => ⟨h.1, m _ _ _ _ _ e h.2⟩
def dK (L : List Cell) (D : DT) : DT := fun F v L' => ∃ L2, L' = L ++ L2 ∧ D F v L2
theorem mdK {L : List Cell} {D : DT} (n : MonoD D) : MonoD (dK L D) := fun _ _ _ _ e ⟨L2, h1, h3⟩ => ⟨L2, h1, n _ _ _ _ e h3⟩
theorem Own.whole {R0 Hs Hb H0 H : Hp} {L X : List Cell} (O0 : Own R0 Hs L) (hb : Hb = hsub Hs L) (eB : Ex Hb H0) (O : Own H0 H (L ++ X)) : Ex Hs H := fun a u h => by
  by_cases c : a ∈ L.map (·.1)
  · obtain ⟨d, hd, e⟩ := List.mem_map.mp c
    have h1 := O0.at_ d hd
    have h2 := O.at_ d (List.mem_append_left _ hd)
    subst e
    rw [h1] at h
    rw [h2, ← h]
  · refine O.ex _ _ (eB _ _ ?_)
    rw [hb]
    unfold hsub
    rw [if_neg c]
    exact h
theorem mdV {w : V} : MonoD (dV w) := fun _ _ _ _ _ h => h
theorem mdLs {xs : List V} : MonoD (dLs xs) := fun _ _ _ _ _ h => h
theorem mdTp {xs : List V} : MonoD (dTp xs) := fun _ _ _ _ _ h => h
theorem mdP {α : Type} {P : Rp α} {x : α} (m : Mono P) : MonoD (dP P x) := fun _ _ _ _ e h => ⟨h.1, m _ _ _ _ e h.2⟩
theorem mdOb {α : Type} {B : Ob α} {x : α} (m : MonoO B) : MonoD (dOb B x) := fun _ _ _ _ e ⟨a, h1, h2⟩ => ⟨a, h1, m _ _ _ _ _ e h2⟩
theorem mdX {α : Type} {B : Ob α} {a : Addr} {x : α} {D : DT} (m : MonoO B) (n : MonoD D) : MonoD (dX B a x D) := fun _ _ _ _ e ⟨L1, L2, h1, h2, h3⟩ => ⟨L1, L2, h1, m _ _ _ _ _ e h2, n _ _ _ _ e h3⟩
/-! a list of such -/
inductive All3 {α β γ : Type} (P : α → β → γ → Prop) : List α → List β → List γ → Prop
  | nil : All3 P [] [] []
  | cons {a : α} {b : β} {c : γ} {as : List α} {bs : List β} {cs : List γ} : P a b c → All3 P as bs cs → All3 P (a :: as) (b :: bs) (c :: cs)
theorem All3.mp {α β γ : Type} {P P' : α → β → γ → Prop} {as : List α} {bs : List β} {cs : List γ} (f : ∀ a b c, P a b c → P' a b c) (h : All3 P as bs cs) : All3 P' as bs cs := by
  induction h with
  | nil => exact .nil
  | cons h _ ih => exact .cons (f _ _ _ h) ih
theorem All3.len {α β γ : Type} {P : α → β → γ → Prop} {as : List α} {bs : List β} {cs : List γ} (h : All3 P as bs cs) : as.length = cs.length := by
  induction h with
  | nil => rfl
  | cons _ _ ih => simp [ih]
/-- the j-th of them, apart -/
theorem All3.at {α γ : Type} {P : α → List Cell → γ → Prop} {as : List α} {bs : List (List Cell)} {cs : List γ} (h : All3 P as bs cs) : ∀ {j : Nat} {c : γ}, cs[j]? = some c → ∃ a b bs1 bs2, as[j]? = some a ∧ P a b c ∧ bs = bs1 ++ b :: bs2 ∧ ∀ (P' : α → List Cell → γ → Prop) (b' : List Cell) (c' : γ), (∀ a b c, P a b c → P' a b c) → P' a b' c' → All3 P' as (bs1 ++ b' :: bs2) (cs.set j c') := by
  induction h with
  | nil => intro j c e; simp at e
  | @cons a b c as bs cs h t ih =>
    intro j d e
    cases j with
    | zero =>
      cases Option.some.inj e
      exact ⟨a, b, [], bs, rfl, h, rfl, fun P' b' c' m k => .cons k (t.mp m)⟩
    | succ j =>
      obtain ⟨a1, b1, bs1, bs2, h1, h2, h3, h4⟩ := ih (by simpa using e)
      exact ⟨a1, b1, b :: bs1, bs2, by simpa using h1, h2, by rw [h3]; rfl, fun P' b' c' m k => .cons (m _ _ _ h) (h4 P' b' c' m k)⟩
def oLs {α : Type} (B : Ob α) : Ob (List α) := fun F a L xs => ∃ as Ls, L.Perm ((a, HO.lst (as.map V.ref)) :: Ls.flatten) ∧ All3 (B F) as Ls xs
theorem moLs {α : Type} {B : Ob α} (m : MonoO B) : MonoO (oLs B) := fun _ _ _ _ _ e ⟨as, Ls, h1, h2⟩ => ⟨as, Ls, h1, h2.mp fun _ _ _ h => m _ _ _ _ _ e h⟩
theorem Own.lsAt {α : Type} {B : Ob α} {F : Hp} {a : Addr} {A L C : List Cell} {xs : List α} {i : Int} {x : α} (m : MonoO B) (O : Own R H (A ++ (L ++ C))) (h : oLs B F a L xs) (e : atI xs i = some x) :
    ∃ (vs : List V) (b : Addr) (L1 L2 : List Cell), H a = some (.lst vs) ∧ atI vs i = some (.ref b) ∧ vs.length = xs.length ∧ B F b L1 x ∧ (L1 ++ L2).Perm L ∧ Own R H (A ++ (L1 ++ (L2 ++ C))) ∧ (∀ F' L1' x', Ex F F' → B F' b L1' x' → ∀ ys, setG xs i x' = some ys → oLs B F' a (L1' ++ L2) ys) ∧ ∀ F' L1', Ex F F' → B F' b L1' x → oLs B F' a (L1' ++ L2) xs := by
  obtain ⟨as, Ls, hp, h3⟩ := h
  unfold atI at e
  cases ej : ixN xs.length i with
  | none => rw [ej] at e; cases e
  | some j =>
    rw [ej] at e
    obtain ⟨b, L1, bs1, bs2, h4, h5, h6, h7⟩ := h3.at e
    subst h6
    have hp2 : L.Perm (L1 ++ ((a, HO.lst (as.map V.ref)) :: (bs1.flatten ++ bs2.flatten))) := by
      refine hp.trans ?_
      rw [List.flatten_append, List.flatten_cons]
      refine List.Perm.trans ?_ (List.perm_middle.symm)
      refine List.Perm.cons _ ?_
      rw [← List.append_assoc, ← List.append_assoc]
      exact List.Perm.append_right _ List.perm_append_comm
    have cl : ∀ F' L1' x', Ex F F' → B F' b L1' x' → oLs B F' a (L1' ++ ((a, HO.lst (as.map V.ref)) :: (bs1.flatten ++ bs2.flatten))) (xs.set j x') := fun F' L1' x' ex hb => by
      refine ⟨as, bs1 ++ L1' :: bs2, ?_, h7 _ L1' x' (fun _ _ _ h => m _ _ _ _ _ ex h) hb⟩
      rw [List.flatten_append, List.flatten_cons]
      refine List.perm_middle.trans ?_
      refine List.Perm.cons _ ?_
      rw [← List.append_assoc, ← List.append_assoc]
      exact List.Perm.append_right _ List.perm_append_comm
    refine ⟨as.map V.ref, b, L1, (a, HO.lst (as.map V.ref)) :: (bs1.flatten ++ bs2.flatten), O.mem (List.mem_append_right _ (List.mem_append_left _ (hp.mem_iff.mpr (List.Mem.head _)))), ?_, by rw [List.length_map, h3.len], h5, hp2.symm, O.perm ?_, fun F' L1' x' ex hb ys hy => ?_, fun F' L1' ex hb => ?_⟩
    · unfold atI
      rw [List.length_map, h3.len, ej]
      show (as.map V.ref)[j]? = _
      rw [List.getElem?_map, h4]
      rfl
    · refine List.Perm.append_left _ ?_
      rw [← List.append_assoc]
      exact List.Perm.append_right _ hp2
    · unfold setG at hy
      rw [ej] at hy
      cases hy
      exact cl F' L1' x' ex hb
    · have := cl F' L1' x ex hb
      have e2 : xs.set j x = xs := by
        obtain ⟨h8, h9⟩ := List.getElem?_eq_some_iff.mp (show xs[j]? = some x from e)
        rw [← h9]
        exact List.set_getElem_self h8
      rw [e2] at this
      exact this
end
/-! tests with two sides, over any state -/
section
variable {J : Hp → Prop} {Q : VK} {σ : St} {H : Hp} {v x y : V}
theorem x_andJ {c d e : Bool} {tt uu : TT} {QB : Bool → Hp → Prop} (J : Hp → Prop) (h1 : ∀ Q1 : Bool → Hp → Prop, (∀ H', J H' → Q1 c H') → tt σ H Q1) (h2 : c = true → e = d ∧ ∀ H', J H' → ∀ Q2 : Bool → Hp → Prop, (∀ H'', J H'' → Q2 e H'') → uu σ H' Q2)
    (h3 : c = false → false = d) (k : ∀ H', J H' → QB d H') : tAnd tt uu σ H QB := by
  refine h1 _ fun H' O' => ?_
  cases c with
  | true =>
    obtain ⟨e1, g2⟩ := h2 rfl
    subst e1
    exact g2 H' O' QB k
  | false =>
    rw [← h3 rfl] at k
    exact k H' O'
theorem x_orJ {c d e : Bool} {tt uu : TT} {QB : Bool → Hp → Prop} (J : Hp → Prop) (h1 : ∀ Q1 : Bool → Hp → Prop, (∀ H', J H' → Q1 c H') → tt σ H Q1) (h2 : c = false → e = d ∧ ∀ H', J H' → ∀ Q2 : Bool → Hp → Prop, (∀ H'', J H'' → Q2 e H'') → uu σ H' Q2)
    (h3 : c = true → true = d) (k : ∀ H', J H' → QB d H') : tOr tt uu σ H QB := by
  refine h1 _ fun H' O' => ?_
  cases c with
  | false =>
    obtain ⟨e1, g2⟩ := h2 rfl
    subst e1
    exact g2 H' O' QB k
  | true =>
    rw [← h3 rfl] at k
    exact k H' O'
theorem x_andVJ {c d e : Bool} {tt uu : TE} (J : Hp → Prop) (h1 : ∀ Q1 : VK, (∀ H', J H' → Q1 (.bl c) H') → tt σ H Q1) (h2 : c = true → e = d ∧ ∀ H', J H' → ∀ Q2 : VK, (∀ H'', J H'' → Q2 (.bl e) H'') → uu σ H' Q2)
    (h3 : c = false → false = d) (k : ∀ H', J H' → Q (.bl d) H') : tAndV tt uu σ H Q := by
  refine h1 _ fun H' O' => ⟨_, rfl, ?_⟩
  cases c with
  | true =>
    obtain ⟨e1, g2⟩ := h2 rfl
    subst e1
    exact g2 H' O' Q k
  | false =>
    rw [← h3 rfl] at k
    exact k H' O'
theorem x_orVJ {c d e : Bool} {tt uu : TE} (J : Hp → Prop) (h1 : ∀ Q1 : VK, (∀ H', J H' → Q1 (.bl c) H') → tt σ H Q1) (h2 : c = false → e = d ∧ ∀ H', J H' → ∀ Q2 : VK, (∀ H'', J H'' → Q2 (.bl e) H'') → uu σ H' Q2)
    (h3 : c = true → true = d) (k : ∀ H', J H' → Q (.bl d) H') : tOrV tt uu σ H Q := by
  refine h1 _ fun H' O' => ⟨_, rfl, ?_⟩
  cases c with
  | false =>
    obtain ⟨e1, g2⟩ := h2 rfl
    subst e1
    exact g2 H' O' Q k
  | true =>
    rw [← h3 rfl] at k
    exact k H' O'
theorem x_ifJ {c : Bool} {tt : TT} {ta tb : TE} (J : Hp → Prop) (h1 : ∀ Q1 : Bool → Hp → Prop, (∀ H', J H' → Q1 c H') → tt σ H Q1) (h2 : c = true → x = v ∧ ∀ H', J H' → ∀ Q2 : VK, (∀ H'', J H'' → Q2 x H'') → ta σ H' Q2)
    (h3 : c = false → y = v ∧ ∀ H', J H' → ∀ Q2 : VK, (∀ H'', J H'' → Q2 y H'') → tb σ H' Q2) (k : ∀ H', J H' → Q v H') : tIf tt ta tb σ H Q := by
  refine h1 _ fun H' O' => ?_
  cases c with
  | true =>
    obtain ⟨e1, g2⟩ := h2 rfl
    subst e1
    exact g2 H' O' Q k
  | false =>
    obtain ⟨e1, g3⟩ := h3 rfl
    subst e1
    exact g3 H' O' Q k
end
theorem Own.unls {R H : Hp} {A L1 L2 L C : List Cell} (O : Own R H (A ++ (L1 ++ (L2 ++ C)))) (h : (L1 ++ L2).Perm L) : Own R H (A ++ (L ++ C)) := by
  refine O.perm (List.Perm.append_left _ ?_)
  rw [← List.append_assoc]
  exact List.Perm.append_right _ h
/-! fields -/
section
variable {K : PySem.W.Frag} {σ : St} {H R : Hp} {L : List Cell} {Q : VK} {a dx C : Addr} {fs : List (Str × V)} {v : V} {f : Str} {te tv : TE}
theorem o_fld (h : te σ H fun x H1 => ∃ a C dx fs v, x = .ref a ∧ H1 a = some (.ins C dx fs) ∧ Cls K C ∧ NoAttr K C f ∧ fs.lookup f = some v ∧ Q v H1) : tFld K te f σ H Q := h
def rSFld (K : PySem.W.Frag) (f : Str) (y x : V) (H : Hp) (QH : Hp → Prop) : Prop := ∃ a C dx fs, x = .ref a ∧ H a = some (.ins C dx fs) ∧ Cls K C ∧ NoAttr K C f ∧ fs.length < 1000 ∧ QH (upd H a (.ins C dx (putF f y fs)))
theorem o_sfld {n b k : St → Hp → Prop} {w : VK} (h : tv σ H fun y H1 => te σ H1 fun x H2 => rSFld K f y x H2 (n σ)) : sFld K te tv f (Ends.mk n w b k) σ H := h
theorem o_meth {m : Str} {sp : Sp} {dvs : List V} {E : XK} {t : TA} (h : te σ H fun x H1 => ∃ a dx fs, x = .ref a ∧ H1 a = some (.ins C dx fs) ∧ fs.lookup m = none ∧ t σ H1 fun vs H2 => sp (x :: (vs ++ dvs)) H2 Q E) : tMeth C m sp dvs E te t σ H Q := h
theorem o_make {sp : Sp} {dvs : List V} {E : XK} {t : TA} (h : t σ H fun vs H1 => ∀ x dx, H1 x = none → H1 dx = none → dx ≠ x → sp (.ref x :: (vs ++ dvs)) (upd (upd H1 dx (.own x)) x (.ins C dx [])) (fun v H2 => v = .non ∧ Q (.ref x) H2) E) : tMake C sp dvs E t σ H Q := h
theorem Own.mk2 (O : Own R H L) {x : Addr} (h1 : H x = none) (h2 : H dx = none) (h3 : dx ≠ x) : Own R (upd (upd H dx (.own x)) x (.ins C dx fs)) ((x, .ins C dx fs) :: (dx, .own x) :: L) :=
  Own.new (O.new h2) (by rw [upd_ne (Ne.symm h3)]; exact h1)
theorem k_make {sp : Sp} {vs : List V} {E : XK} {Q2 : Addr → Hp → Prop} (O : Own R H L) (k : ∀ x dx H', Own R H' ((x, .ins C dx []) :: (dx, .own x) :: L) → sp (.ref x :: vs) H' (fun v H2 => v = .non ∧ Q2 x H2) E) : ∀ x dx, H x = none → H dx = none → dx ≠ x → sp (.ref x :: vs) (upd (upd H dx (.own x)) x (.ins C dx [])) (fun v H2 => v = .non ∧ Q2 x H2) E := fun x dx h1 h2 h3 => k x dx _ (O.mk2 h1 h2 h3)
theorem putF_nil : putF f v [] = [(f, v)] := rfl
theorem putF_hit {x : V} {r : List (Str × V)} : putF f v ((f, x) :: r) = (f, v) :: r := by simp [putF]
theorem putF_skip {g : Str} {x : V} {r r' : List (Str × V)} (h : (g == f) = false) (e : putF f v r = r') : putF f v ((g, x) :: r) = (g, x) :: r' := by
  have : g ≠ f := by simpa using h
  simp [putF, this, e]
theorem lk_hit {r : List (Str × V)} : List.lookup f ((f, v) :: r) = some v := by simp [List.lookup]
theorem lk_skip {g : Str} {x : V} {r : List (Str × V)} {o : Option V} (h : (f == g) = false) (e : List.lookup f r = o) : List.lookup f ((g, x) :: r) = o := by simp [List.lookup, h, e]
theorem lk_nil : List.lookup f ([] : List (Str × V)) = none := rfl
theorem k_sfld {v' : V} {fs' : List (Str × V)} {QH : Hp → Prop} {g : HO → List Cell} (hl : H a = some (.ins C dx fs)) (c : Cls K C) (n : NoAttr K C f) (hz : fs.length < 1000) (ev : v = v') (e : putF f v' fs = fs') (hp : ∀ o', Own R (upd H a o') (g o')) (k : ∀ H', Own R H' (g (.ins C dx fs')) → QH H') :
    rSFld K f v (.ref a) H QH := by
  subst ev
  refine ⟨a, C, dx, fs, rfl, hl, c, n, hz, ?_⟩
  rw [e]
  exact k _ (hp _)
theorem Own.cv {L' : List Cell} (O : Own R H L) (e : L = L') : Own R H L' := e ▸ O
theorem Own.putB {A B : List Cell} {o o' : HO} (O : Own R H L) (e : L = A ++ (a, o) :: B) : Own R (upd H a o') (A ++ (a, o') :: B) := by
  subst e
  exact Own.put O
theorem cls_at {K : PySem.W.Frag} {C : Addr} (h1 : PySem.W.plainGet K C Str.empty = true) (h2 : PySem.W.hasDictIn K C = true) (h3 : PySem.W.plainOver K C = true) (h4 : PySem.W.findIn K (.ref C) "__setattr__" = some (some (.builtin "object.__setattr__"))) : Cls K C := ⟨h1, h2, h3, h4⟩
end
end Bt

set_option Elab.async false
set_option linter.all false
set_option maxRecDepth 100000
set_option maxHeartbeats 4000000
/-! Data of any form: lists and tuples of such, None, one of two kinds. -/
namespace Bt
open PySem L2
section
variable {α β γ δ : Type} {P : Rp α} {P' : Rp β} {P3 : Rp γ} {P4 : Rp δ} {F H R : Hp} {L : List Cell} {v w : V} {a p : Addr} {K : PySem.W.Frag} {Q : VK} {i : Int}
def rN : Rp Unit := fun _ v _ => v = .non
def rU (P : Rp α) (P' : Rp β) : Rp (α ⊕ β) := fun F v x => match x with
  | .inl a => P F v a
  | .inr b => P' F v b
theorem mN : Mono rN := fun _ _ _ _ _ h => h
theorem mU (m : Mono P) (n : Mono P') : Mono (rU P P') := fun F F' v x e h => by
  cases x with
  | inl a => exact m _ _ _ _ e h
  | inr b => exact n _ _ _ _ e h
theorem rO_some {x : Option α} {y : α} (h : rO P F v x) (e : x = some y) : P F v y := by subst e; exact h
theorem rO_mk {y : α} (h : P F v y) : rO P F v (some y) := h
def prL : α ⊕ β → Option α
  | .inl a => some a
  | .inr _ => none
def prR : α ⊕ β → Option β
  | .inl _ => none
  | .inr b => some b
theorem rU_l {x : α ⊕ β} {y : α} (h : rU P P' F v x) (e : prL x = some y) : P F v y := by
  cases x with
  | inl a => cases e; exact h
  | inr b => cases e
theorem rU_r {x : α ⊕ β} {y : β} (h : rU P P' F v x) (e : prR x = some y) : P' F v y := by
  cases x with
  | inl a => cases e
  | inr b => cases e; exact h
theorem rL_ref {x : List α} (h : rL P F v x) : ∃ p, v = .ref p := by obtain ⟨p, _, e, _⟩ := h; exact ⟨p, e⟩
theorem rT2_ref {x : α × β} (h : rT2 P P' F v x) : ∃ p, v = .ref p := by obtain ⟨p, _, _, e, _⟩ := h; exact ⟨p, e⟩
theorem rT3_ref {x : α × β × γ} (h : rT3 P P' P3 F v x) : ∃ p, v = .ref p := by obtain ⟨p, _, _, _, e, _⟩ := h; exact ⟨p, e⟩
theorem rT4_ref {x : α × β × γ × δ} (h : rT4 P P' P3 P4 F v x) : ∃ p, v = .ref p := by obtain ⟨p, _, _, _, _, e, _⟩ := h; exact ⟨p, e⟩
theorem rL_at {x : List α} (h : rL P F (.ref p) x) : ∃ vs, F p = some (.lst vs) ∧ All2 (P F) vs x := by
  obtain ⟨q, vs, e, h1, h2⟩ := h
  cases e
  exact ⟨vs, h1, h2⟩
theorem rT2_at {x : α × β} (h : rT2 P P' F (.ref p) x) : ∃ a b, F p = some (.tup [a, b]) ∧ P F a x.1 ∧ P' F b x.2 := by
  obtain ⟨q, a, b, e, h1, h2⟩ := h
  cases e
  exact ⟨a, b, h1, h2⟩
theorem rT3_at {x : α × β × γ} (h : rT3 P P' P3 F (.ref p) x) : ∃ a b c, F p = some (.tup [a, b, c]) ∧ P F a x.1 ∧ P' F b x.2.1 ∧ P3 F c x.2.2 := by
  obtain ⟨q, a, b, c, e, h1, h2⟩ := h
  cases e
  exact ⟨a, b, c, h1, h2⟩
theorem rT4_at {x : α × β × γ × δ} (h : rT4 P P' P3 P4 F (.ref p) x) : ∃ a b c d, F p = some (.tup [a, b, c, d]) ∧ P F a x.1 ∧ P' F b x.2.1 ∧ P3 F c x.2.2.1 ∧ P4 F d x.2.2.2 := by
  obtain ⟨q, a, b, c, d, e, h1, h2⟩ := h
  cases e
  exact ⟨a, b, c, d, h1, h2⟩
theorem fIr {F : Hp} {p : Addr} {xs : List Int} (h : rL rI F (.ref p) xs) : F p = some (.lst (xs.map V.int)) := by
  obtain ⟨q, e, h⟩ := fI h
  cases e
  exact h
theorem fBr {F : Hp} {p : Addr} {xs : List Bool} (h : rL rB F (.ref p) xs) : F p = some (.lst (xs.map V.bl)) := by
  obtain ⟨q, e, h⟩ := fB h
  cases e
  exact h
theorem fSr {F : Hp} {p : Addr} {xs : List Str} (h : rL rS F (.ref p) xs) : F p = some (.lst (xs.map V.str)) := by
  obtain ⟨q, e, h⟩ := fS h
  cases e
  exact h
/-! never None -/
def NN (P : Rp α) : Prop := ∀ F v x, P F v x → v ≠ .non
theorem nnI : NN rI := fun _ _ _ h => by rw [show _ = _ from h]; simp
theorem nnB : NN rB := fun _ _ _ h => by rw [show _ = _ from h]; simp
theorem nnS : NN rS := fun _ _ _ h => by rw [show _ = _ from h]; simp
theorem nnL : NN (rL P) := fun _ _ _ h => by obtain ⟨p, rfl⟩ := rL_ref h; simp
theorem nnT2 : NN (rT2 P P') := fun _ _ _ h => by obtain ⟨p, rfl⟩ := rT2_ref h; simp
theorem nnT3 : NN (rT3 P P' P3) := fun _ _ _ h => by obtain ⟨p, rfl⟩ := rT3_ref h; simp
theorem nnT4 : NN (rT4 P P' P3 P4) := fun _ _ _ h => by obtain ⟨p, rfl⟩ := rT4_ref h; simp
theorem nnU (m : NN P) (n : NN P') : NN (rU P P') := fun _ _ x h => by
  cases x with
  | inl a => exact m _ _ _ h
  | inr b => exact n _ _ _ h
theorem dec_non {x : Option α} (n : NN P) (h : rO P F v x) : decide (v = V.non) = x.isNone := by
  cases x with
  | none => rw [show v = _ from h]; rfl
  | some y => rw [decide_eq_false (n _ _ _ h)]; rfl
def rIsN : R2 := fun x y H Q => y = .non ∧ Q (.bl (decide (x = .non))) H
def rNotN : R2 := fun x y H Q => y = .non ∧ Q (.bl (!decide (x = .non))) H
theorem op_isNq {X : Cx} : OpR X (compareOp .Is) rIsN := op_isN
theorem op_notNq {X : Cx} : OpR X (compareOp .IsNot) rNotN := op_notN
theorem k_isN {x : Option α} (n : NN P) (h : rO P F v x) (q : Q (.bl x.isNone) H) : rIsN v .non H Q := ⟨rfl, by rw [dec_non n h]; exact q⟩
theorem k_notN {x : Option α} (n : NN P) (h : rO P F v x) (q : Q (.bl (!x.isNone)) H) : rNotN v .non H Q := ⟨rfl, by rw [dec_non n h]; exact q⟩
end
theorem k_isT {H : Hp} {Q : VK} (q : Q (.bl true) H) : rIsN .non .non H Q := ⟨rfl, by rw [decide_eq_true rfl]; exact q⟩
theorem k_isTn {H : Hp} {Q : VK} (q : Q (.bl (!true)) H) : rNotN .non .non H Q := ⟨rfl, by rw [decide_eq_true rfl]; exact q⟩
theorem k_isF {v : V} {H : Hp} {Q : VK} (q : Q (.bl false) H) (h : v ≠ .non := by simp) : rIsN v .non H Q := ⟨rfl, by rw [decide_eq_false h]; exact q⟩
theorem k_isFn {v : V} {H : Hp} {Q : VK} (q : Q (.bl (!false)) H) (h : v ≠ .non := by simp) : rNotN v .non H Q := ⟨rfl, by rw [decide_eq_false h]; exact q⟩
theorem room65 {k : Nat} {A : Around} (r : Room k A) : A.units + 65 < cLine := by have := r.un; omega
/-! lists of such, one's own or not -/
section
variable {α : Type} {P : V → α → Prop} {F H R : Hp} {L : List Cell} {v w : V} {a b p : Addr} {K : PySem.W.Frag} {Q : VK} {i : Int} {vs ws : List V} {xs ys zs : List α} {y : α} {σ : St}
theorem n_lenA (hs : SqL K H a vs) (ha : All2 P vs xs) (k : Q (.int (xs.length : Int)) H) : rLenQ K [.ref a] H Q := by
  unfold rLenQ
  exact ⟨a, vs, rfl, .inl hs, by rw [ha.len]; exact k⟩
theorem k_ixA (hs : SqL K H a vs) (ha : All2 P vs xs) (h : atI xs i = some y) (k : ∀ v, P v y → Q v H) : rIxL K (.ref a) (.int i) H Q := by
  obtain ⟨v, e1, hv⟩ := ha.at h
  exact ⟨a, vs, i, v, rfl, rfl, hs, e1, k v hv⟩
theorem k_appA {g : HO → List Cell} (hl : H a = some (.lst vs)) (ha : All2 P vs xs) (hp : ∀ o', Own R (upd H a o') (g o')) (h : appG xs y = some ys) (hv : P v y) (k : ∀ H', Own R H' (g (.lst (vs ++ [v]))) → All2 P (vs ++ [v]) ys → Q .non H') : rAppend (.ref a) [v] H Q := by
  obtain ⟨c, rfl⟩ := grdE h
  exact ⟨a, _, _, rfl, rfl, hl, by rw [ha.len]; exact c, k _ (hp _) (ha.snoc hv)⟩
theorem k_setA {g : HO → List Cell} {QH : Hp → Prop} (hl : H a = some (.lst vs)) (ha : All2 P vs xs) (hp : ∀ o', Own R (upd H a o') (g o')) (h : setG xs i y = some ys) (hv : P v y) (k : ∀ H' ws, Own R H' (g (.lst ws)) → All2 P ws ys → QH H') : rSetL (.ref a) (.int i) v H QH := by
  unfold setG at h
  cases e : ixN xs.length i with
  | none => rw [e] at h; cases h
  | some j =>
    rw [e] at h
    cases h
    exact ⟨a, _, i, j, rfl, rfl, hl, by rw [ha.len]; exact e, k _ _ (hp _) (ha.set hv j)⟩
theorem All2.cut (ha : All2 P vs xs) (lo hi : Option Int) : All2 P (cutV vs lo hi) (cutL xs lo hi) := by
  unfold cutV cutL
  rw [ha.len]
  exact (ha.drop _).take _
theorem k_cutA {lo hi : Option Int} (O : Own R H L) (hs : SqL K H a vs) (ha : All2 P vs xs) (k : ∀ p H' ws, Own R H' ((p, .lst ws) :: L) → All2 P ws (cutL xs lo hi) → Q (.ref p) H') : rSlL K (.ref a) lo hi H Q :=
  ⟨a, vs, rfl, hs, fun p hp => k p _ _ (O.new hp) (ha.cut lo hi)⟩
theorem k_catA (O : Own R H L) (h1 : H a = some (.lst vs)) (ha : All2 P vs xs) (h2 : H b = some (.lst ws)) (hb : All2 P ws ys) (h : catG xs ys = some zs) (k : ∀ p H' us, Own R H' ((p, .lst us) :: L) → All2 P us zs → Q (.ref p) H') : rCat (.ref a) (.ref b) H Q := by
  obtain ⟨c, rfl⟩ := grdE h
  exact ⟨a, b, _, _, rfl, rfl, h1, h2, by rw [ha.len, hb.len]; exact c, fun p hp => k p _ _ (O.new hp) (ha.app hb)⟩
theorem n_listA (O : Own R H L) (h : SqL K H a vs) (k : ∀ p H', Own R H' ((p, .lst vs) :: L) → Q (.ref p) H') : rListQ K [.ref a] H Q := n_list O h k
theorem k_forA {g : TG} {tb : TS} {D : Ends} (ha : All2 P vs xs) (J : List α → St → Hp → Prop) (h0 : J xs σ H) (hl : ∀ r σ H, J r σ H → SqL K H a vs)
    (hs : ∀ x v r σ H, P v x → J (x :: r) σ H → g v σ H fun σ2 H2 => tb { D with nx := J r, ct := J r, bk := D.nx } σ2 H2) (hd : ∀ σ H, J [] σ H → D.nx σ H) :
    ∃ W : Nat → Nat → St → Hp → Prop, (∃ m, W 0 m σ H) ∧ ∀ i m σ H, W i m σ H →
      ((Itl K a).stop i H ∧ D.nx σ H) ∨ ((Itl K a).go i H ∧ ∃ N : St → Hp → Prop, (∀ σ' H', N σ' H' → ∃ m', m' < m ∧ W (i + 1) m' σ' H') ∧ ∀ x H', (Itl K a).yld i H x H' → g x σ H' fun σ2 H2 => tb { D with nx := N, ct := N, bk := D.nx } σ2 H2) := by
  refine for_list (xs := vs) (fun i σ H => J (xs.drop i) σ H) h0 (fun i σ H _ => hl _ σ H) (fun i v σ H hi hJ => ?_) fun σ H hJ => ?_
  · have hlt : i < xs.length := by
      rw [← ha.len]
      exact (List.getElem?_eq_some_iff.mp hi).1
    obtain ⟨v', e1, e2⟩ := ha.get (List.getElem?_eq_getElem hlt)
    rw [hi] at e1
    cases e1
    rw [List.drop_eq_getElem_cons hlt] at hJ
    exact hs _ v _ σ H e2 hJ
  · rw [ha.len, List.drop_length] at hJ
    exact hd σ H hJ
theorem q_forA {j : Nat} {ts : TS} {n b k : St → Hp → Prop} {w : VK} (ha : All2 P vs xs) (J : List α → St → Hp → Prop) (h0 : J xs σ H) (hl : ∀ r σ H, J r σ H → SqL K H a vs)
    (hs : ∀ x v r σ H, P v x → J (x :: r) σ H → ts (Ends.mk (J r) w n (J r)) (σ.set j (some v)) H) (hd : ∀ σ H, J [] σ H → n σ H) :
    ∃ W : Nat → Nat → St → Hp → Prop, (∃ m, W 0 m σ H) ∧ ∀ i m σ H, W i m σ H →
      ((Itl K a).stop i H ∧ n σ H) ∨ ((Itl K a).go i H ∧ ∃ N : St → Hp → Prop, (∀ σ' H', N σ' H' → ∃ m', m' < m ∧ W (i + 1) m' σ' H') ∧ ∀ x H', (Itl K a).yld i H x H' → gName j x σ H' fun σ2 H2 => ts (Ends.mk N w n N) σ2 H2) :=
  k_forA (D := Ends.mk n w (fun _ _ => False) fun _ _ => False) (g := gName j) (tb := ts) ha J h0 hl hs hd
/-- for a, b in xs, its items pairs -/
theorem q_forA2 {α β : Type} {P : Rp α} {P' : Rp β} {F : Hp} {xs : List (α × β)} {i1 i2 : Nat} {ts : TS} {n b k : St → Hp → Prop} {w : VK} {KK : PySem.W.Frag} (ha : All2 (rT2 P P' F) vs xs) (J : List (α × β) → St → Hp → Prop) (h0 : J xs σ H) (hl : ∀ r σ H, J r σ H → SqL K H a vs) (hx : ∀ r σ H, J r σ H → Ex F H)
    (hs : ∀ x y u v r σ H, P F u x → P' F v y → J ((x, y) :: r) σ H → ts (Ends.mk (J r) w n (J r)) ((σ.set i1 (some u)).set i2 (some v)) H) (hd : ∀ σ H, J [] σ H → n σ H) :
    ∃ W : Nat → Nat → St → Hp → Prop, (∃ m, W 0 m σ H) ∧ ∀ i m σ H, W i m σ H →
      ((Itl K a).stop i H ∧ n σ H) ∨ ((Itl K a).go i H ∧ ∃ N : St → Hp → Prop, (∀ σ' H', N σ' H' → ∃ m', m' < m ∧ W (i + 1) m' σ' H') ∧ ∀ x H', (Itl K a).yld i H x H' → gTup KK 2 (gCons (gName i1) (gCons (gName i2) gNil)) x σ H' fun σ2 H2 => ts (Ends.mk N w n N) σ2 H2) :=
  k_forA (D := Ends.mk n w (fun _ _ => False) fun _ _ => False) (g := gTup KK 2 (gCons (gName i1) (gCons (gName i2) gNil))) (tb := ts) ha J h0 hl (fun x v r σ H hv hJ => by
    obtain ⟨q, u1, u2, rfl, h1, h2, h3⟩ := hv
    exact ⟨q, _, rfl, SqT.of (hx _ _ _ hJ _ _ h1), rfl, u1, _, rfl, u2, _, rfl, rfl, hs x.1 x.2 u1 u2 r σ H h2 h3 hJ⟩) hd
theorem q_forEA {i1 i2 : Nat} {ts : TS} {n b k : St → Hp → Prop} {w : VK} {KK : PySem.W.Frag} (ha : All2 P vs xs) (J : List (Int × α) → St → Hp → Prop) (h0 : J (enumI 0 xs) σ H) (hl : ∀ r σ H, J r σ H → SqL K H a vs) (hx : ∀ r σ H H', J r σ H → Ex H H' → J r σ H')
    (hs : ∀ j x v r σ H, P v x → J ((j, x) :: r) σ H → ts (Ends.mk (J r) w n (J r)) ((σ.set i1 (some (.int j))).set i2 (some v)) H) (hd : ∀ σ H, J [] σ H → n σ H) :
    ∃ W : Nat → Nat → St → Hp → Prop, (∃ m, W 0 m σ H) ∧ ∀ i m σ H, W i m σ H →
      ((Ite K a).stop i H ∧ n σ H) ∨ ((Ite K a).go i H ∧ ∃ N : St → Hp → Prop, (∀ σ' H', N σ' H' → ∃ m', m' < m ∧ W (i + 1) m' σ' H') ∧ ∀ x H', (Ite K a).yld i H x H' → gTup KK 2 (gCons (gName i1) (gCons (gName i2) gNil)) x σ H' fun σ2 H2 => ts (Ends.mk N w n N) σ2 H2) := by
  refine ⟨fun i m σ H => m = xs.length - i ∧ i ≤ xs.length ∧ J ((enumI 0 xs).drop i) σ H, ⟨xs.length, by simp, Nat.zero_le _, h0⟩, ?_⟩
  rintro i m σ H ⟨rfl, hi, hJ⟩
  have hS := hl _ σ H hJ
  by_cases hlt : i < xs.length
  · have e : xs[i]? = some xs[i] := List.getElem?_eq_getElem hlt
    obtain ⟨v', e1, hv⟩ := ha.get e
    have e2 := enumI_drop xs 0 i xs[i] e
    rw [e2] at hJ
    refine .inr ⟨⟨_, _, hS, e1⟩, J ((enumI 0 xs).drop (i + 1)), fun σ' H' hJ' => ⟨_, by omega, rfl, hlt, hJ'⟩, fun y H' hy => ?_⟩
    obtain ⟨T, x, rfl, hT, rfl, hq⟩ := hy
    have hxx := hq _ hS
    rw [e1] at hxx
    cases hxx
    refine ⟨T, _, rfl, SqT.of upd_same, rfl, _, _, rfl, _, _, rfl, rfl, ?_⟩
    have hJ2 := hx _ _ _ (upd H T (.tup [.int ((i : Nat) : Int), v'])) hJ (Ex.new hT)
    have e3 : ((0 + i : Nat) : Int) = (i : Int) := by omega
    rw [e3] at hJ2
    exact hs _ _ _ _ _ _ hv hJ2
  · have e : (enumI 0 xs).drop i = [] := List.drop_eq_nil_of_le (by rw [enumI_len]; omega)
    rw [e] at hJ
    exact .inl ⟨⟨_, hS, by rw [ha.len]; omega⟩, hd σ H hJ⟩
/-! comprehensions over such -/
theorem k_lcA {g : TG} {tt : TT} {te : TE} {us : List Nat} {D : Addr} {Qd : Hp → Prop} (ha : All2 P vs xs) (J : List α → Hp → Prop) (h0 : J xs (upd H D (.lst []))) (hl : ∀ r H, J r H → SqL K H a vs)
    (hs : ∀ x v r H, P v x → J (x :: r) H → g v (wipe σ us) H fun σ2 H2 => wipe σ2 us = wipe σ us ∧ tt σ2 H2 fun b H3 => if b = true then te σ2 H3 fun y H4 => ∃ acc, H4 D = some (.lst acc) ∧ acc.length < sizeLine ∧ J r (upd H4 D (.lst (acc ++ [y]))) else J r H3) (hd : ∀ H, J [] H → Qd H) :
    ∃ W : Nat → Nat → Hp → Prop, (∃ m, W 0 m (upd H D (.lst []))) ∧ ∀ i m H, W i m H →
      ((Itl K a).stop i H ∧ Qd H) ∨ ((Itl K a).go i H ∧ ∃ Nx : Hp → Prop, (∀ H', Nx H' → ∃ m', m' < m ∧ W (i + 1) m' H') ∧ ∀ x H', (Itl K a).yld i H x H' → g x (wipe σ us) H' fun σ2 H2 => wipe σ2 us = wipe σ us ∧ tt σ2 H2 fun b H3 =>
        if b = true then te σ2 H3 fun y H4 => ∃ acc, H4 D = some (.lst acc) ∧ acc.length < sizeLine ∧ Nx (upd H4 D (.lst (acc ++ [y]))) else Nx H3) := by
  refine lc_list (xs := vs) (fun i H => J (xs.drop i) H) h0 (fun i H _ => hl _ H) (fun i v H hi hJ => ?_) fun H hJ => ?_
  · have hlt : i < xs.length := by
      rw [← ha.len]
      exact (List.getElem?_eq_some_iff.mp hi).1
    obtain ⟨v', e1, e2⟩ := ha.get (List.getElem?_eq_getElem hlt)
    rw [hi] at e1
    cases e1
    rw [List.drop_eq_getElem_cons hlt] at hJ
    exact hs _ v _ H e2 hJ
  · rw [ha.len, List.drop_length] at hJ
    exact hd H hJ
end
section
variable {α β : Type} [DecidableEq α] [DecidableEq β]
def optD (d : α → PyData) : Option α → PyData
  | none => .none
  | some x => d x
def deO {P : Rp α} (e : De P) (hn : ∀ a, PyData.eqv .none (e.d a) = false ∧ PyData.eqv (e.d a) .none = false) : De (rO P) where
  d := optD e.d
  dp := fun K F v x h => by
    cases x with
    | none => rw [show v = V.non from h]; exact .non
    | some y => exact e.dp K F v y h
  ok := fun x => by
    cases x with
    | none => rfl
    | some y => exact e.ok y
  n := e.n
  dep := fun x => by
    cases x with
    | none => exact Nat.zero_le _
    | some y => exact e.dep y
  eq := fun x y => by
    cases x with
    | none =>
      cases y with
      | none => simp [optD, PyData.eqv]
      | some b => simp only [optD]; rw [(hn b).1]; simp
    | some a =>
      cases y with
      | none => simp only [optD]; rw [(hn a).2]; simp
      | some b => simp only [optD]; rw [e.eq a b]; simp
def sumD (d : α → PyData) (f : β → PyData) : α ⊕ β → PyData
  | .inl x => d x
  | .inr x => f x
def deU {P : Rp α} {Q : Rp β} (e : De P) (f : De Q) (hn : ∀ a b, PyData.eqv (e.d a) (f.d b) = false ∧ PyData.eqv (f.d b) (e.d a) = false) : De (rU P Q) where
  d := sumD e.d f.d
  dp := fun K F v x h => by
    cases x with
    | inl y => exact e.dp K F v y h
    | inr y => exact f.dp K F v y h
  ok := fun x => by
    cases x with
    | inl y => exact e.ok y
    | inr y => exact f.ok y
  n := max e.n f.n
  dep := fun x => by
    cases x with
    | inl y => have := e.dep y; simp only [sumD]; omega
    | inr y => have := f.dep y; simp only [sumD]; omega
  eq := fun x y => by
    cases x with
    | inl a =>
      cases y with
      | inl b => simp only [sumD]; rw [e.eq a b]; simp
      | inr b => simp only [sumD]; rw [(hn a b).1]; simp
    | inr a =>
      cases y with
      | inl b => simp only [sumD]; rw [(hn b a).2]; simp
      | inr b => simp only [sumD]; rw [f.eq a b]; simp
end
section
variable {α : Type} [DecidableEq α] {P : Rp α} {K : PySem.W.Frag} {F F' H : Hp} {v : V} {x : α} {a : Addr} {vs : List V} {xs : List α} {Q : VK}
theorem any_mem (e : De P) (x : α) : ∀ xs : List α, ((xs.map e.d).any fun z => PyData.eqv z (e.d x)) = decide (x ∈ xs)
  | [] => rfl
  | y :: r => by
    rw [List.map_cons, List.any_cons, any_mem e x r, e.eq y x]
    by_cases h : y = x
    · subst h; simp
    · have h2 : ¬ x = y := fun q => h q.symm
      simp [h, h2]
theorem k_inN (e : De P) (m : Mono P) (h : e.n ≤ 60) (h1 : P F v x) (e1 : Ex F H) (hs : SqL K H a vs) (ha : All2 (P F') vs xs) (e2 : Ex F' H) (k : Q (.bl (decide (x ∈ xs))) H) : rInD K v (.ref a) H Q :=
  ⟨_, xs.map e.d, e.dp K H _ _ (m _ _ _ _ e1 h1), .lst hs (de_all e (mA m e2 ha)), sh_de e (by omega) x, sh_de (deL e) (by show e.n + 1 ≤ 64; omega) xs, by rw [any_mem]; exact k⟩
theorem k_niN (e : De P) (m : Mono P) (h : e.n ≤ 60) (h1 : P F v x) (e1 : Ex F H) (hs : SqL K H a vs) (ha : All2 (P F') vs xs) (e2 : Ex F' H) (k : Q (.bl (!decide (x ∈ xs))) H) : rNotInD K v (.ref a) H Q :=
  ⟨_, xs.map e.d, e.dp K H _ _ (m _ _ _ _ e1 h1), .lst hs (de_all e (mA m e2 ha)), sh_de e (by omega) x, sh_de (deL e) (by show e.n + 1 ≤ 64; omega) xs, by rw [any_mem]; exact k⟩
end
/-! the same where there are texts: whether they may be laid is asked -/
structure Dq {α : Type} [DecidableEq α] (P : Rp α) where
  d : α → PyData
  dp : ∀ (K : PySem.W.Frag) F v a, P F v a → Dp K F v (d a)
  n : Nat
  dep : ∀ a, PyData.depth (d a) ≤ n
  eq : ∀ a b, PyData.eqv (d a) (d b) = decide (a = b)
def okD {α : Type} (d : α → PyData) (x : α) : Option Unit := grd (PyData.canLay0 (d x) = true) ()
theorem okDE {α : Type} {d : α → PyData} {x : α} {u : Unit} (h : okD d x = some u) : PyData.canLay0 (d x) = true := (grdE h).1
section
variable {α β γ δ : Type} [DecidableEq α] [DecidableEq β] [DecidableEq γ] [DecidableEq δ]
def De.q {P : Rp α} (e : De P) : Dq P := ⟨e.d, e.dp, e.n, e.dep, e.eq⟩
def dqS : Dq rS where
  d := PyData.str
  dp := fun K F v a h => by rw [show v = V.str a from h]; exact .str a
  n := 0
  dep := fun _ => Nat.le_refl _
  eq := fun a b => by
    simp only [PyData.eqv]
    by_cases h : a = b
    · subst h; simp
    · rw [decide_eq_false h]; simpa using h
theorem dq_all {P : Rp α} (e : Dq P) {K : PySem.W.Frag} {F : Hp} : ∀ {vs : List V} {xs : List α}, All2 (P F) vs xs → DpAll K F vs (xs.map e.d)
  | _, _, .nil => .nil
  | _, _, .cons h t => .cons (e.dp K F _ _ h) (dq_all e t)
theorem dqdep_all {P : Rp α} (e : Dq P) : ∀ xs : List α, PyData.depthAll (xs.map e.d) ≤ e.n
  | [] => by simp [PyData.depthAll]
  | x :: r => by
    have h1 := e.dep x
    have h2 := dqdep_all e r
    simp only [List.map_cons, PyData.depthAll]
    omega
theorem dqeq_all {P : Rp α} (e : Dq P) : ∀ xs ys : List α, PyData.eqvAll (xs.map e.d) (ys.map e.d) = decide (xs = ys)
  | [], [] => by simp [PyData.eqvAll]
  | [], y :: s => by simp [PyData.eqvAll]
  | x :: r, [] => by simp [PyData.eqvAll]
  | x :: r, y :: s => by simp only [List.map_cons, PyData.eqvAll, e.eq x y, dqeq_all e r s, List.cons.injEq, Bool.decide_and]
def dqL {P : Rp α} (e : Dq P) : Dq (rL P) where
  d := fun xs => .list (xs.map e.d)
  dp := fun K F v xs ⟨p, vs, h1, h2, h3⟩ => by
    subst h1
    exact .lst (SqL.of h2) (dq_all e h3)
  n := e.n + 1
  dep := fun xs => by
    have := dqdep_all e xs
    simp only [PyData.depth]
    omega
  eq := fun xs ys => by simp only [PyData.eqv]; exact dqeq_all e xs ys
def dqT2 {P : Rp α} {Q : Rp β} (e : Dq P) (f : Dq Q) : Dq (rT2 P Q) where
  d := fun x => .tuple [e.d x.1, f.d x.2]
  dp := fun K F v x ⟨p, a, b, h1, h2, h3, h4⟩ => by
    subst h1
    exact .tup (SqT.of h2) (.cons (e.dp K F _ _ h3) (.cons (f.dp K F _ _ h4) .nil))
  n := max e.n f.n + 1
  dep := fun x => by
    have h1 := e.dep x.1
    have h2 := f.dep x.2
    simp only [PyData.depth, PyData.depthAll]
    omega
  eq := fun x y => by
    obtain ⟨x1, x2⟩ := x
    obtain ⟨y1, y2⟩ := y
    simp only [PyData.eqv, PyData.eqvAll, e.eq, f.eq, Prod.mk.injEq, Bool.decide_and, Bool.and_true]
def dqT3 {P : Rp α} {Q : Rp β} {R : Rp γ} (e : Dq P) (f : Dq Q) (g : Dq R) : Dq (rT3 P Q R) where
  d := fun x => .tuple [e.d x.1, f.d x.2.1, g.d x.2.2]
  dp := fun K F v x ⟨p, a, b, c, h1, h2, h3, h4, h5⟩ => by
    subst h1
    exact .tup (SqT.of h2) (.cons (e.dp K F _ _ h3) (.cons (f.dp K F _ _ h4) (.cons (g.dp K F _ _ h5) .nil)))
  n := max e.n (max f.n g.n) + 1
  dep := fun x => by
    have h1 := e.dep x.1
    have h2 := f.dep x.2.1
    have h3 := g.dep x.2.2
    simp only [PyData.depth, PyData.depthAll]
    omega
  eq := fun x y => by
    obtain ⟨x1, x2, x3⟩ := x
    obtain ⟨y1, y2, y3⟩ := y
    simp only [PyData.eqv, PyData.eqvAll, e.eq, f.eq, g.eq, Prod.mk.injEq, Bool.decide_and, Bool.and_true, Bool.and_assoc]
def dqO {P : Rp α} (e : Dq P) (hn : ∀ a, PyData.eqv .none (e.d a) = false ∧ PyData.eqv (e.d a) .none = false) : Dq (rO P) where
  d := optD e.d
  dp := fun K F v x h => by
    cases x with
    | none => rw [show v = V.non from h]; exact .non
    | some y => exact e.dp K F v y h
  n := e.n
  dep := fun x => by
    cases x with
    | none => exact Nat.zero_le _
    | some y => exact e.dep y
  eq := fun x y => by
    cases x with
    | none =>
      cases y with
      | none => simp [optD, PyData.eqv]
      | some b => simp only [optD]; rw [(hn b).1]; simp
    | some a =>
      cases y with
      | none => simp only [optD]; rw [(hn a).2]; simp
      | some b => simp only [optD]; rw [e.eq a b]; simp
def dqU {P : Rp α} {Q : Rp β} (e : Dq P) (f : Dq Q) (hn : ∀ a b, PyData.eqv (e.d a) (f.d b) = false ∧ PyData.eqv (f.d b) (e.d a) = false) : Dq (rU P Q) where
  d := sumD e.d f.d
  dp := fun K F v x h => by
    cases x with
    | inl y => exact e.dp K F v y h
    | inr y => exact f.dp K F v y h
  n := max e.n f.n
  dep := fun x => by
    cases x with
    | inl y => have := e.dep y; simp only [sumD]; omega
    | inr y => have := f.dep y; simp only [sumD]; omega
  eq := fun x y => by
    cases x with
    | inl a =>
      cases y with
      | inl b => simp only [sumD]; rw [e.eq a b]; simp
      | inr b => simp only [sumD]; rw [(hn a b).1]; simp
    | inr a =>
      cases y with
      | inl b => simp only [sumD]; rw [(hn b a).2]; simp
      | inr b => simp only [sumD]; rw [f.eq a b]; simp
end
section
variable {α : Type} [DecidableEq α] {P : Rp α} {K : PySem.W.Frag} {F F' H : Hp} {v w : V} {x y : α} {a : Addr} {vs : List V} {xs : List α} {Q : VK}
theorem sh_dq (e : Dq P) (h : e.n ≤ 64) {x : α} (hx : PyData.canLay0 (e.d x) = true) : SeqAt.shaped (e.d x) = true := by
  have h1 := e.dep x
  simp only [SeqAt.shaped, hx, Bool.true_and]
  exact decide_eq_true (by omega)
theorem k_eqQ (e : Dq P) (m : Mono P) (h : e.n ≤ 64) (hx : PyData.canLay0 (e.d x) = true) (hy : PyData.canLay0 (e.d y) = true) (h1 : P F v x) (e1 : Ex F H) (h2 : P F' w y) (e2 : Ex F' H) (k : Q (.bl (decide (x = y))) H) : rEqD K v w H Q :=
  ⟨_, _, e.dp K H _ _ (m _ _ _ _ e1 h1), e.dp K H _ _ (m _ _ _ _ e2 h2), sh_dq e h hx, sh_dq e h hy, by rw [e.eq]; exact k⟩
theorem k_neQ (e : Dq P) (m : Mono P) (h : e.n ≤ 64) (hx : PyData.canLay0 (e.d x) = true) (hy : PyData.canLay0 (e.d y) = true) (h1 : P F v x) (e1 : Ex F H) (h2 : P F' w y) (e2 : Ex F' H) (k : Q (.bl (!decide (x = y))) H) : rNeD K v w H Q :=
  ⟨_, _, e.dp K H _ _ (m _ _ _ _ e1 h1), e.dp K H _ _ (m _ _ _ _ e2 h2), sh_dq e h hx, sh_dq e h hy, by rw [e.eq]; exact k⟩
end
/-! what was told, changed by its asker -/
theorem exE {R : Hp} : Ex (fun _ => none) R := fun _ _ h => nomatch h
theorem ovr_fr {R0 Hb Hc R : Hp} (e : Ex Hb Hc) : Ex (ovr (fun _ => none) Hc R) (ovr R0 Hb R) := fun a o h => by
  obtain ⟨q, h1⟩ := ovr_some h
  refine ovr_mk (.inr ?_) h1
  rcases q with q | q
  · exact absurd rfl q
  · exact e.back q
theorem Own.poke {Rs R Hc H : Hp} {L : List Cell} {q : Addr} {o o' : HO} (O : Own R H L) (e : Ex Rs R) (hc : Ex Rs Hc) (hq : ovr (fun _ => none) Hc R q = some o) : Own Rs (upd H q o') L := by
  obtain ⟨c, h1⟩ := ovr_some hq
  have hcq : Hc q = none := by
    rcases c with c | c
    · exact absurd rfl c
    · exact c
  have hs : Rs q = none := hc.back hcq
  refine ⟨fun a u h => ?_, fun c hc' => ?_, fun c hc' => e.back (O.fr c hc'), O.nd⟩
  · rw [upd_ne (ne_of_none h hs)]
    exact O.ex _ _ (e _ _ h)
  · have : c.1 ≠ q := fun z => by
      have := O.fr c hc'
      rw [z, h1] at this
      cases this
    rw [upd_ne this]
    exact O.at_ c hc'
theorem Own.drop1 {R H : Hp} {c : Cell} {L : List Cell} (O : Own R H (c :: L)) : Own R H L := ⟨O.ex, fun d h => O.at_ d (List.Mem.tail _ h), fun d h => O.fr d (List.Mem.tail _ h), (List.nodup_cons.mp O.nd).2⟩
/-- the same, a second told cell kept in hand -/
theorem Own.pokeX {Rs R Hc H : Hp} {L : List Cell} {q a : Addr} {o o' : HO} {vs : List V} (O : Own R H L) (e : Ex Rs R) (hc : Ex Rs Hc) (hq : ovr (fun _ => none) Hc R q = some o) (ha : ovr (fun _ => none) Hc R a = some (.lst vs)) (hne : q ≠ a) : Own Rs (upd H q o') ((a, .lst vs) :: L) := by
  have O2 := O.poke (o' := o') e hc hq
  obtain ⟨c, h1⟩ := ovr_some ha
  have hca : Hc a = none := by
    rcases c with c | c
    · exact absurd rfl c
    · exact c
  have hz : Rs a = none := hc.back hca
  refine ⟨O2.ex, fun d h => ?_, fun d h => ?_, List.nodup_cons.mpr ⟨fun h => ?_, O2.nd⟩⟩
  · rcases List.mem_cons.mp h with rfl | h
    · show upd H q o' a = some (.lst vs)
      rw [upd_ne (fun z => hne z.symm)]
      exact O.ex _ _ h1
    · exact O2.at_ d h
  · rcases List.mem_cons.mp h with rfl | h
    · exact hz
    · exact O2.fr d h
  · obtain ⟨d, hd, e1⟩ := List.mem_map.mp h
    have := O.fr d hd
    rw [show d.1 = a from e1, h1] at this
    cases this
theorem rL_atP {α : Type} {P : Rp α} {F : Hp} {a q : Addr} {xs : List (Int × α)} {ys : List Int} {i : Int} {y : Int × α} (h : rL (rT2 rI P) F (.ref a) xs) (hq : F q = some (.lst (ys.map V.int))) (hi : atI xs i = some y) : ∃ vs, F a = some (.lst vs) ∧ All2 ((rT2 rI P) F) vs xs ∧ q ≠ a := by
  obtain ⟨p, vs, e1, h2, h3⟩ := h
  cases e1
  refine ⟨vs, h2, h3, fun z => ?_⟩
  subst z
  rw [hq] at h2
  have e := HO.lst.inj (Option.some.inj h2)
  cases xs with
  | nil =>
    unfold atI at hi
    cases hx : ixN ([] : List (Int × α)).length i with
    | none => rw [hx] at hi; cases hi
    | some j => rw [hx] at hi; cases hi
  | cons x r =>
    cases vs with
    | nil => cases h3
    | cons v vs =>
      cases h3 with
      | cons hv _ =>
        obtain ⟨p, _, _, rfl, _⟩ := hv
        cases ys with
        | nil => cases e
        | cons z ys => cases e
theorem Own.retX0 {R H Hc : Hp} {B C : List Cell} {D : DT} {Q : VK} (O : Own R H (B ++ C)) (m : MonoD D) (hc : Hc = hsub H B) (k : ∀ v H' R' L', Own R' H' (L' ++ C) → Ex R R' → D (ovr (fun _ => none) Hc R') v L' → Q v H') : RetX (fun _ => none) (hsub H B) D Q := fun v H' R' L' e O' d => by
  obtain ⟨R'', O'', e1, e2⟩ := O.back e O'
  subst hc
  refine k v H' R'' L' O'' e1 (m _ _ _ _ (fun a u h => ?_) d)
  obtain ⟨q, _⟩ := ovr_some h
  exact ovr_mk q (e2 _ exE _ _ h)
/-! isinstance of what is of one of several kinds -/
section
variable {α β γ δ : Type} {P : Rp α} {P' : Rp β} {P3 : Rp γ} {P4 : Rp δ} {K : PySem.W.Frag} {H : Hp} {v : V} {Q : VK} {u : Value}
def TyP (P : Rp α) (K : PySem.W.Frag) (u : Value) (f : α → Bool) : Prop := ∀ H v x, P H v x → ∃ t, TyX K H v t ∧ PySem.W.kitOne K t u = some (f x)
def sumB (f : α → Bool) (g : β → Bool) : α ⊕ β → Bool
  | .inl a => f a
  | .inr b => g b
theorem tyI {b : String} {r : Bool} (h : kitB "int" b = some r) : TyP rI K (.type b) (fun _ => r) := fun H v x hx => ⟨_, .base (by rw [show v = _ from hx]; exact .int _), kit_ty h⟩
theorem tyB {b : String} {r : Bool} (h : kitB "bool" b = some r) : TyP rB K (.type b) (fun _ => r) := fun H v x hx => ⟨_, .base (by rw [show v = _ from hx]; exact .bl _), kit_ty h⟩
theorem tyS {b : String} {r : Bool} (h : kitB "str" b = some r) : TyP rS K (.type b) (fun _ => r) := fun H v x hx => ⟨_, .base (by rw [show v = _ from hx]; exact .str _), kit_ty h⟩
theorem tyL {b : String} {r : Bool} (h : kitB "list" b = some r) : TyP (rL P) K (.type b) (fun _ => r) := fun H v x hx => by
  obtain ⟨p, vs, rfl, h1, _⟩ := hx
  exact ⟨_, .base (.lst h1), kit_ty h⟩
theorem tyT2 {b : String} {r : Bool} (h : kitB "tuple" b = some r) : TyP (rT2 P P') K (.type b) (fun _ => r) := fun H v x hx => by
  obtain ⟨p, _, _, rfl, h1, _⟩ := hx
  exact ⟨_, .base (.tup h1), kit_ty h⟩
theorem tyT3 {b : String} {r : Bool} (h : kitB "tuple" b = some r) : TyP (rT3 P P' P3) K (.type b) (fun _ => r) := fun H v x hx => by
  obtain ⟨p, _, _, _, rfl, h1, _⟩ := hx
  exact ⟨_, .base (.tup h1), kit_ty h⟩
theorem tyU {f : α → Bool} {g : β → Bool} (h1 : TyP P K u f) (h2 : TyP P' K u g) : TyP (rU P P') K u (sumB f g) := fun H v x hx => by
  cases x with
  | inl a => exact h1 H v a hx
  | inr b => exact h2 H v b hx
theorem k_isU {b : String} {f : α → Bool} (h : TyP P K u f) {x : α} (hx : P H v x) (q : Q (.bl (f x)) H) (hu : u = .type b := by rfl) : rIsi K [v, .ty b] H Q := by
  obtain ⟨t, h1, h2⟩ := h H v x hx
  subst hu
  exact ⟨v, _, t, _, _, rfl, .ty _, h1, h2, q⟩
end
/-! the number of a refusal in hand -/
def atE (k : Ek) (e : Er) : Option Int := match k, e with
  | .NoWire, .NoWire i => some i
  | .NoRow, .NoRow i => some i
  | _, _ => none
theorem o_xf {a : Addr} {cls : Value} {d : Option Addr} {C : Addr} {f : Str} {te : TE} {σ : St} {H : Hp} {Q : VK} (h : te σ H fun x H1 => x = .ref a ∧ cls = .ref C ∧ ∃ (dd : Addr) (fs : List (Str × V)) (v : V), d = some dd ∧ H1 dd = some (.xd fs) ∧ fs.lookup f = some v ∧ Q v H1) : tXf a cls d C f te σ H Q := h
theorem k_xfNoWire {es : Eds} {e : Er} {n : Int} {a : Addr} {cls : Value} {d : Option Addr} {H : Hp} {Q : VK} (h : atE .NoWire e = some n) (hx : XFl e d H) (hc : cls = .ref (es.at e.k)) (q : Q (.int n) H) :
    V.ref a = .ref a ∧ cls = .ref es.NoWire ∧ ∃ (dd : Addr) (fs : List (Str × V)) (v : V), d = some dd ∧ H dd = some (.xd fs) ∧ fs.lookup ("at" : Str) = some v ∧ Q v H := by
  cases e with
  | NoWire i =>
    cases h
    obtain ⟨x, h1, h2⟩ := hx
    exact ⟨rfl, hc, x, _, _, h1, h2, lk_hit, q⟩
  | _ => cases h
theorem k_xfNoRow {es : Eds} {e : Er} {n : Int} {a : Addr} {cls : Value} {d : Option Addr} {H : Hp} {Q : VK} (h : atE .NoRow e = some n) (hx : XFl e d H) (hc : cls = .ref (es.at e.k)) (q : Q (.int n) H) :
    V.ref a = .ref a ∧ cls = .ref es.NoRow ∧ ∃ (dd : Addr) (fs : List (Str × V)) (v : V), d = some dd ∧ H dd = some (.xd fs) ∧ fs.lookup ("word" : Str) = some v ∧ Q v H := by
  cases e with
  | NoRow i =>
    cases h
    obtain ⟨x, h1, h2⟩ := hx
    exact ⟨rfl, hc, x, _, _, h1, h2, lk_hit, q⟩
  | _ => cases h
theorem o_yes {A B : Hp → Prop} {σ : St} {H : Hp} (h : A H) : tYes σ H (fun b H3 => if b = true then A H3 else B H3) := by
  show if true = true then A H else B H
  rw [if_pos rfl]
  exact h
/-! a if c else b, any value -/
theorem x_ifP {c : Bool} {tt : TT} {ta tb : TE} {σ : St} {H : Hp} {Q : VK} (J0 : Hp → Prop) (J : V → Hp → Prop) (h1 : ∀ Q1 : Bool → Hp → Prop, (∀ H', J0 H' → Q1 c H') → tt σ H Q1) (h2 : c = true → ∀ H', J0 H' → ∀ Q2 : VK, (∀ v H'', J v H'' → Q2 v H'') → ta σ H' Q2)
    (h3 : c = false → ∀ H', J0 H' → ∀ Q2 : VK, (∀ v H'', J v H'' → Q2 v H'') → tb σ H' Q2) (k : ∀ v H', J v H' → Q v H') : tIf tt ta tb σ H Q := by
  refine h1 _ fun H' O' => ?_
  cases c with
  | true => exact h2 rfl H' O' Q k
  | false => exact h3 rfl H' O' Q k
end Bt

namespace Bt
open PySem L2
/-! a list of objects whose items stay these -/
section
variable {α : Type} {B : Ob α} {F R H : Hp} {vs : List V} {a b : Addr} {A L L1 C : List Cell} {xs ys : List α} {x : α} {i : Int} {w : V} {K : PySem.W.Frag} {Q : VK}
def oLv {α : Type} (vs : List V) (B : Ob α) : Ob (List α) := fun F a L xs => ∃ as Ls, vs = as.map V.ref ∧ L.Perm ((a, HO.lst vs) :: Ls.flatten) ∧ All3 (B F) as Ls xs
theorem moLv (m : MonoO B) : MonoO (oLv vs B) := fun _ _ _ _ _ e ⟨as, Ls, h0, h1, h2⟩ => ⟨as, Ls, h0, h1, h2.mp fun _ _ _ h => m _ _ _ _ _ e h⟩
theorem oLs.fix (h : oLs B F a L xs) : ∃ vs, oLv vs B F a L xs := by
  obtain ⟨as, Ls, h1, h2⟩ := h
  exact ⟨_, as, Ls, rfl, h1, h2⟩
theorem oLv.un (h : oLv vs B F a L xs) : oLs B F a L xs := by
  obtain ⟨as, Ls, rfl, h1, h2⟩ := h
  exact ⟨as, Ls, h1, h2⟩
theorem oLv.len (h : oLv vs B F a L xs) : vs.length = xs.length := by
  obtain ⟨as, Ls, rfl, h1, h2⟩ := h
  rw [List.length_map, h2.len]
theorem oLv.at (O : Own R H C) (h : oLv vs B F a L xs) (hs : ∀ c ∈ L, c ∈ C) : H a = some (.lst vs) := by
  obtain ⟨as, Ls, _, h1, _⟩ := h
  exact O.mem (hs _ (h1.mem_iff.mpr (List.Mem.head _)))
theorem oLv.isref (h : oLv vs B F a L xs) (hw : atI vs i = some w) : ∃ b, w = .ref b := by
  obtain ⟨as, Ls, rfl, _, _⟩ := h
  unfold atI at hw
  cases e : ixN (as.map V.ref).length i with
  | none => rw [e] at hw; cases hw
  | some j =>
    rw [e] at hw
    have hw : (as.map V.ref)[j]? = some w := hw
    rw [List.getElem?_map] at hw
    cases e2 : as[j]? with
    | none => rw [e2] at hw; cases hw
    | some b => rw [e2] at hw; exact ⟨b, (Option.some.inj hw).symm⟩
theorem All2.of_get {α β : Type} {P : α → β → Prop} : ∀ {as : List α} {bs : List β}, as.length = bs.length → (∀ (i : Nat) (a : α) (b : β), as[i]? = some a → bs[i]? = some b → P a b) → All2 P as bs
  | [], [], _, _ => .nil
  | a :: as, b :: bs, h, k => .cons (k 0 a b rfl rfl) (All2.of_get (by simpa using h) fun i x y hx hy => k (i + 1) x y (by simpa using hx) (by simpa using hy))
theorem ixs_of (vs : List V) {n : Nat} (h : vs.length = n) : All2 (fun v (i : Int) => atI vs i = some v) vs (rangeI 0 (n : Int)) := by
  subst h
  refine All2.of_get (by simp [rangeI]) fun j v i hv hi => ?_
  have hj : j < vs.length := (List.getElem?_eq_some_iff.mp hv).1
  have : (rangeI 0 (vs.length : Int))[j]? = some (j : Int) := by
    unfold rangeI
    rw [List.getElem?_map, show ((vs.length : Int) - 0).toNat = vs.length by omega, List.getElem?_range hj]
    simp
  rw [this] at hi
  cases hi
  unfold atI ixN
  rw [if_pos (by omega), if_pos (by omega)]
  simpa using hv
theorem Own.lsAtV (m : MonoO B) (O : Own R H (A ++ (L ++ C))) (h : oLv vs B F a L xs) (e : atI xs i = some x) (hw : atI vs i = some (.ref b)) :
    ∃ (L1 L2 : List Cell), B F b L1 x ∧ (L1 ++ L2).Perm L ∧ Own R H (A ++ (L1 ++ (L2 ++ C))) ∧ (∀ F' L1' x', Ex F F' → B F' b L1' x' → ∀ ys, setG xs i x' = some ys → oLv vs B F' a (L1' ++ L2) ys) ∧ ∀ F' L1', Ex F F' → B F' b L1' x → oLv vs B F' a (L1' ++ L2) xs := by
  obtain ⟨as, Ls, rfl, hp, h3⟩ := h
  unfold atI at e
  cases ej : ixN xs.length i with
  | none => rw [ej] at e; cases e
  | some j =>
    rw [ej] at e
    obtain ⟨b', L1, bs1, bs2, h4, h5, h6, h7⟩ := h3.at e
    subst h6
    have hbb : b' = b := by
      unfold atI at hw
      rw [List.length_map, h3.len, ej] at hw
      have hw : (as.map V.ref)[j]? = some (.ref b) := hw
      rw [List.getElem?_map, h4] at hw
      exact V.ref.inj (Option.some.inj hw)
    subst hbb
    have hp2 : L.Perm (L1 ++ ((a, HO.lst (as.map V.ref)) :: (bs1.flatten ++ bs2.flatten))) := by
      refine hp.trans ?_
      rw [List.flatten_append, List.flatten_cons]
      refine List.Perm.trans ?_ (List.perm_middle.symm)
      refine List.Perm.cons _ ?_
      rw [← List.append_assoc, ← List.append_assoc]
      exact List.Perm.append_right _ List.perm_append_comm
    have cl : ∀ F' L1' x', Ex F F' → B F' b' L1' x' → oLv (as.map V.ref) B F' a (L1' ++ ((a, HO.lst (as.map V.ref)) :: (bs1.flatten ++ bs2.flatten))) (xs.set j x') := fun F' L1' x' ex hb => by
      refine ⟨as, bs1 ++ L1' :: bs2, rfl, ?_, h7 _ L1' x' (fun _ _ _ h => m _ _ _ _ _ ex h) hb⟩
      rw [List.flatten_append, List.flatten_cons]
      refine List.perm_middle.trans ?_
      refine List.Perm.cons _ ?_
      rw [← List.append_assoc, ← List.append_assoc]
      exact List.Perm.append_right _ List.perm_append_comm
    refine ⟨L1, (a, HO.lst (as.map V.ref)) :: (bs1.flatten ++ bs2.flatten), h5, hp2.symm, O.perm ?_, fun F' L1' x' ex hb ys hy => ?_, fun F' L1' ex hb => ?_⟩
    · refine List.Perm.append_left _ ?_
      rw [← List.append_assoc]
      exact List.Perm.append_right _ hp2
    · unfold setG at hy
      rw [ej] at hy
      cases hy
      exact cl F' L1' x' ex hb
    · have := cl F' L1' x ex hb
      have e2 : xs.set j x = xs := by
        obtain ⟨h8, h9⟩ := List.getElem?_eq_some_iff.mp (show xs[j]? = some x from e)
        rw [← h9]
        exact List.set_getElem_self h8
      rw [e2] at this
      exact this
def inL {α : Type} [DecidableEq α] (x : α) (xs : List α) : Bool := decide (x ∈ xs)
section
variable {α : Type} [DecidableEq α] {P : Rp α} {F F' H : Hp} {K : PySem.W.Frag} {v : V} {x : α} {xs : List α} {vs : List V} {a : Addr} {Q : VK}
theorem k_inJ (e : De P) (m : Mono P) (h : e.n ≤ 60) (h1 : P F v x) (e1 : Ex F H) (hs : SqL K H a vs) (ha : All2 (P F') vs xs) (e2 : Ex F' H) (k : Q (.bl (inL x xs)) H) : rInD K v (.ref a) H Q := k_inN e m h h1 e1 hs ha e2 k
theorem k_niJ (e : De P) (m : Mono P) (h : e.n ≤ 60) (h1 : P F v x) (e1 : Ex F H) (hs : SqL K H a vs) (ha : All2 (P F') vs xs) (e2 : Ex F' H) (k : Q (.bl (!inL x xs)) H) : rNotInD K v (.ref a) H Q := k_niN e m h h1 e1 hs ha e2 k
end
theorem pe_fld2 {X : Cx} {K : PySem.W.Frag} {e : PySem.Expr} {f : Str} {pos : PySem.Pos} {ta : TE} (hK : X.K = K) (he : PE X e ta) (hb : attributeBase e f X.env (eval e X.env) = eval e X.env) : PE X (.Attribute e f pos) (tFld K ta f) := by
  subst hK
  exact pe_fld he hb
theorem pe_bm2 {X : Cx} {K : PySem.W.Frag} {o e : PySem.Expr} {es : List PySem.Expr} {to : TE} {t : TA} {name : Str} {apos cpos : PySem.Pos} {T id : String} {r : V → List V → Hp → VK → Prop} (hK : X.K = K) (pa : PlainAttrs T) (slot : Slot T name id) (hty : typeOf (.builtin id) = pure (.type "method_descriptor")) (hm : MtR X id r) (ho : PE X o to) (ha : PA X (e :: es) t)
    (hbase : attributeBase o name X.env (eval o X.env) = eval o X.env := by rfl)
    (hfew : ((backTo cpos (starEach (e :: es) X.env)).all (fun x => !x.1) && (backToKw cpos (keywordEach [] X.env)).all (fun x => x.1.isSome)
      && decide ((e :: es).length + ([] : List PySem.Keyword).length + (if ([] : List PySem.Keyword).isEmpty then 0 else 1) < 30)) = true := by rfl)
    (hline : (apos.endLine == cpos.line) = true := by rfl) (hs : starEach (e :: es) X.env = (false, eval e X.env) :: starEach es X.env := by rfl) (hplain : (backTo cpos (starEach es X.env)).any (·.1) = false := by rfl) :
    PE X (.Call (.Attribute o name apos) (e :: es) [] cpos) (tBM K T r to t) := by
  subst hK
  exact pe_bm pa slot hty hm ho ha hbase hfew hline hs hplain
theorem k_clrA {g : HO → List Cell} (hl : H a = some (.lst vs)) (hp : ∀ o', Own R (upd H a o') (g o')) (k : ∀ H', Own R H' (g (.lst [])) → Q .non H') : rClear (.ref a) [] H Q :=
  ⟨a, _, rfl, rfl, hl, k _ (hp _)⟩
abbrev tLs (t : TA) : TE := fun σ H Q => t σ H fun xs H1 => rNewL xs H1 Q
theorem pe_lst2 {X : Cx} {es : List PySem.Expr} {t : TA} {pos : PySem.Pos} (h : PE X (.List es pos) (tLst t)) : PE X (.List es pos) (tLs t) := pe_lstQ h
abbrev tTs (t : TA) : TE := fun σ H Q => t σ H fun xs H1 => rNewT xs H1 Q
theorem pe_tup2 {X : Cx} {es : List PySem.Expr} {k : Nat} {t : TA} {pos : PySem.Pos} (h : PE X (.Tuple es k pos) (tTup t)) : PE X (.Tuple es k pos) (tTs t) := pe_tupQ h
/-! len and append -/
theorem oLs.sq (O : Own R H C) (h : oLs B F a L xs) (hs : ∀ c ∈ L, c ∈ C) : ∃ vs, SqL K H a vs ∧ vs.length = xs.length := by
  obtain ⟨vs, hv⟩ := h.fix
  exact ⟨vs, SqL.of (hv.at O hs), hv.len⟩
theorem n_lenO (h : ∃ vs, SqL K H a vs ∧ vs.length = xs.length) (k : Q (.int (xs.length : Int)) H) : rLenQ K [.ref a] H Q := by
  obtain ⟨vs, hs, hl⟩ := h
  unfold rLenQ
  exact ⟨a, vs, rfl, .inl hs, by rw [hl]; exact k⟩
theorem All3.snoc {α β γ : Type} {P : α → β → γ → Prop} {as : List α} {bs : List β} {cs : List γ} {a : α} {b : β} {c : γ} (h : All3 P as bs cs) (k : P a b c) : All3 P (as ++ [a]) (bs ++ [b]) (cs ++ [c]) := by
  induction h with
  | nil => exact .cons k .nil
  | cons h _ ih => exact .cons h ih
theorem k_appO (O : Own R H (L ++ (L1 ++ C))) (h : oLs B F a L xs) (hb : B F b L1 x) (e : appG xs x = some ys) (k : ∀ H' L', Own R H' (L' ++ C) → oLs B F a L' ys → Q .non H') : rAppend (.ref a) [.ref b] H Q := by
  obtain ⟨c, rfl⟩ := grdE e
  obtain ⟨as, Ls, hp, h3⟩ := h
  have O1 : Own R H ((a, HO.lst (as.map V.ref)) :: (Ls.flatten ++ (L1 ++ C))) := O.perm (List.Perm.append_right _ hp)
  refine ⟨a, _, _, rfl, rfl, O1.mem (List.Mem.head _), by rw [List.length_map, h3.len]; exact c, k _ ((a, HO.lst (as.map V.ref ++ [.ref b])) :: (Ls.flatten ++ L1)) ?_ ?_⟩
  · have O2 := O1.put0 (o' := HO.lst (as.map V.ref ++ [.ref b]))
    refine O2.perm ?_
    rw [List.cons_append, List.append_assoc]
  · refine ⟨as ++ [b], Ls ++ [L1], ?_, h3.snoc hb⟩
    rw [List.map_append, List.flatten_append, List.flatten_singleton]
    exact List.Perm.refl _
end
end Bt

set_option Elab.async false
set_option linter.all false
set_option maxRecDepth 100000
set_option maxHeartbeats 4000000
/-! What is refused, kept beyond its suite. -/
namespace Bt
open PySem L2 PyProof.Rows
/-- an exception that stays: its class and its dict are known -/
def ExH (a : Addr) (cls : Value) (d : Option Addr) : HO := .ext fun h => ∃ (oe : Obj) (vs : Array Value), h.get? a = some oe ∧ L2N.Zn cls d oe ∧ oe.data = .fields vs
section
variable {X : Cx} {pins : List (Addr × Obj)} {σ : L2.St} {H : Hp} {s : Shared} {a : Addr} {oe : Obj} {cls : Value} {d : Option Addr}
theorem inv_layX (I : Inv X pins σ H s) (he : s.heap.get? a = some oe) (hz : L2N.Zn cls d oe) (hd : ∃ vs, oe.data = .fields vs) (na : H a = none) (n0 : X.s_0.heap.get? a = none) (np : ∀ p ∈ X.pn ++ pins, p.1 ≠ a) (nL : a ≠ X.env.locals) : Inv X pins σ (upd H a (ExH a cls d)) s := by
  obtain ⟨vs, hv⟩ := hd
  have nb : ∀ b o, X.s_0.heap.get? b = some o → b ≠ a := fun b o e z => by
    rw [z, n0] at e
    cases e
  have nh : ∀ b o, H b = some o → b ≠ a := fun b o e z => by
    rw [z, na] at e
    cases e
  refine ⟨I.ok, I.os, I.bare, ⟨I.base.keep, I.base.slot, fun b o e n hx => ?_, I.base.there, fun b xs e => ?_, fun b o u e => ?_, fun b ps e => ?_⟩, I.loc, I.cell, ?_, fun x c e => ?_, fun p hp => ?_, fun b o e => ?_, I.len⟩
  · rw [upd_ne (nb b o e)]
    exact I.base.free b o e n hx
  · have q := I.base.tups b xs e
    rw [upd_ne (nh _ _ q)]
    exact q
  · have q := I.base.frzs b o u e
    rw [upd_ne (nh _ _ q)]
    exact q
  · obtain ⟨more, q⟩ := I.base.tbls b ps e
    refine ⟨more, ?_⟩
    rw [upd_ne (nh _ _ q)]
    exact q
  · rw [upd_ne (Ne.symm nL)]
    exact I.free
  · have : c ≠ a := fun z => by
      obtain ⟨v, o, ho, hdd⟩ := I.cell x c e
      rw [z, he] at ho
      cases ho
      rw [hv] at hdd
      cases hdd
    rw [upd_ne this]
    exact I.freeC x c e
  · obtain ⟨p1, p2, p3⟩ := I.pin p hp
    refine ⟨p1, ?_, p3⟩
    rw [upd_ne (np p hp)]
    exact p2
  · by_cases z : b = a
    · subst z
      rw [upd_same] at e
      cases e
      refine ⟨⟨oe, vs, he, hz, hv⟩, ⟨oe, he⟩, fun h1 h2 ⟨o', vs', e1, e2, e3⟩ hk => ⟨o', vs', hk _ e1, e2, e3⟩⟩
    · rw [upd_ne z] at e
      refine (I.hok b o e).stay (fun _ _ _ h => h) (fun c h => ?_) fun c xs h => ?_
      · rw [upd_ne (nh _ _ h)]
        exact h
      · rw [upd_ne (nh _ _ h)]
        exact h
end
/-! ### try with clauses of all three sorts: without a name, with one, with one whose exception stays -/
/-- an exception in hand, the clauses ahead of it -/
structure Grip (X : Cx) (pins : List (Addr × Obj)) (σ : L2.St) (H : Hp) (a : Addr) (cls : Value) (d : Option Addr) (B : Heap) (t s : Shared) : Prop where
  src : Inv X pins σ H t
  nb : ∀ b o, t.heap.get? b = some o → b ∉ frs X.stack → B.get? b = some o
  up : t.heap.UpToSlots s.heap
  os : s.os = t.os
  ag : AllBare s.gens
  fl : HandSPX.FlyingZ B X.stack a (L2N.Zn cls d) s.heap
  na : H a = none
section
variable {X : Cx} {pins : List (Addr × Obj)} {σ : L2.St} {H : Hp} {a : Addr} {cls : Value} {d : Option Addr} {B : Heap} {t s : Shared}
theorem Grip.on (g : Grip X pins σ H a cls d B t s) {h : Heap} (f : HandSPX.FlyingZ B X.stack a (L2N.Zn cls d) h) (u : s.heap.UpToSlots h) : Grip X pins σ H a cls d B t { s with heap := h } :=
  ⟨g.src, g.nb, g.up.trans u, g.os, g.ag, f, g.na⟩
theorem Grip.inv (g : Grip X pins σ H a cls d B t s) : Inv X pins σ H s := g.src.landed g.nb g.fl.1 g.up g.os g.ag
theorem Grip.off (g : Grip X pins σ H a cls d B t s) : a ∉ frs X.stack := fun m => by
  obtain ⟨oe, vs, e1, _, e2⟩ := g.fl.there
  obtain ⟨_, o, e3, nf⟩ := g.fl.2.2.1.mem m
  rw [e1] at e3
  exact nf vs (by cases e3; exact e2)
theorem Grip.new (g : Grip X pins σ H a cls d B t s) : t.heap.get? a = none := by
  have z := g.fl.2.1
  cases q : t.heap.get? a with
  | none => rfl
  | some o =>
    rw [g.nb a o q g.off] at z
    cases z
theorem Grip.new0 (g : Grip X pins σ H a cls d B t s) (hex : X.ex = []) : X.s_0.heap.get? a = none := by
  cases q : X.s_0.heap.get? a with
  | none => rfl
  | some o =>
    have hx : a ∉ X.ex := by
      rw [hex]
      exact List.not_mem_nil
    obtain ⟨o2, q2⟩ := g.src.base.there a o q hx
    rw [g.new] at q2
    cases q2
theorem Grip.nopin (g : Grip X pins σ H a cls d B t s) : ∀ p ∈ X.pn ++ pins, p.1 ≠ a := fun p m z => by
  have q := (g.src.pin p m).1
  rw [z, g.new] at q
  cases q
theorem Grip.nL (g : Grip X pins σ H a cls d B t s) (hs : X.stack = X.env :: X.outer) (hf : X.env.frame = some X.env.locals) : a ≠ X.env.locals := fun z =>
  g.off (by rw [hs]; exact List.mem_filterMap.mpr ⟨_, List.Mem.head _, by rw [hf, z]⟩)
theorem Grip.nF (g : Grip X pins σ H a cls d B t s) (hs : X.stack = X.env :: X.outer) : a ∉ X.fs := fun m => by
  obtain ⟨e, m1, m2⟩ := List.mem_filterMap.mp m
  exact g.off (by rw [hs]; exact List.mem_filterMap.mpr ⟨e, List.Mem.tail _ m1, m2⟩)
/-- the suite's own state -/
theorem Grip.within (g : Grip X pins σ H a cls d B t s) (hs : X.stack = X.env :: X.outer) (hf : X.env.frame = some X.env.locals) : ∃ oe, L2N.Zn cls d oe ∧ (∃ vs, oe.data = .fields vs) ∧ s.heap.get? a = some oe ∧ Inv (X.suite a ((a, oe) :: (X.pn ++ pins))) [] σ H s := by
  obtain ⟨oe, vs, e1, e2, e3⟩ := g.fl.there
  exact ⟨oe, e2, ⟨vs, e3⟩, e1, g.inv.suite e1 e3 g.na (g.nL hs hf) (g.nF hs)⟩
/-- no clause takes it -/
theorem Grip.out (g : Grip X pins σ H a cls d B t s) (hf : X.env.frame = some X.env.locals) {W : WX} (tk : L2N.Takes X W) (w : W cls d σ H) {Q : Flow → Shared → Prop} : wpAny (model X.prog X.w) X.A (handleBy (.ref a) X.env []) Q X.xe s := by
  obtain ⟨_, _, _, oe, vs, T, oT, ts, e1, _, e3, e4, _⟩ := id g.fl
  refine wpAny_handleBy_nil ?_
  unfold PySem.passOn
  refine wpAny_bind (wpAny_field e1 e3 e4 ?_)
  rw [if_neg (by simp)]
  have last : wpAny (model X.prog X.w) X.A (setFlight (.ref a) X.env.frame) (fun _ s2 => wpAny (model X.prog X.w) X.A (throw (.ref a) : Sem Flow) Q X.xe s2) X.xe s := by
    rw [hf]
    exact HandSPX.setFlight_upZ g.fl fun h1 k1 k2 => wpAny_throw (tk _ _ ⟨a, B, t, pins, σ, H, cls, d, rfl, g.src, g.nb, g.up.trans k2, .inr (.inr k1), g.na, g.os, g.ag, w⟩)
  first
    | exact wpAny_bind (wpAny_pure (wpAny_bind last))
    | exact wpAny_bind last
/-- is it of a clause's class? -/
theorem Grip.ask (g : Grip X pins σ H a cls d B t s) (hs : X.stack = X.env :: X.outer) (hf : X.env.frame = some X.env.locals) {x : Str} {c : Value} {np pos : Pos} {b : Bool} (hc : Names X x c) (hb : PySem.W.exmOne X.K cls c = some b) {R : Except Value Flow → Shared → Prop} (q : R (.ok (if b then .brk else .next)) s) :
    codeAny (model X.prog X.w) (X.A.mark (some (.ref a))) (.handlers (.ref a) [.ExceptHandler (some (.Name x np)) none [] pos] X.env) R s := by
  obtain ⟨oe, z, _, e1, S⟩ := g.within hs hf
  have what : PySem.W.Looks (model X.prog X.w) s.heap (typeOf (.ref a)) cls := fun A Q E s' k q' => wpAny_typeOf_ref (k _ _ e1) (by rw [z.1]; exact q')
  have hit := PySem.W.exm_one (M := model X.prog X.w) g.inv.kIn what hb
  refine codeAny_handlers_test ?_
  obtain ⟨h1, h2, h3⟩ := hc
  rcases h3 with h3 | ⟨h3, h4, h5⟩
  · exact ld_glob (X := X.suite a ((a, oe) :: (X.pn ++ pins))) S h1 h3 (hit.here q) h2
  · exact ld_blt (X := X.suite a ((a, oe) :: (X.pn ++ pins))) S h1 h3 h4 (hit.here q) h5 h2
end
/-- what stands behind a clause's suite; m: its name's slot, and whether the exception stays -/
abbrev behindC (D : Ends) : Option (Nat × Bool) → Addr → Value → Option Addr → Ends
  | none, _, _, _ => D
  | some (i, false), _, _, _ => { nx := fun σ H => D.nx (σ.set i none) H, rt := D.rt, bk := fun σ H => D.bk (σ.set i none) H, ct := fun σ H => D.ct (σ.set i none) H }
  | some (i, true), a, cls, d => { nx := fun σ H => H a = none → D.nx (σ.set i none) (upd H a (ExH a cls d)), rt := D.rt, bk := fun σ H => D.bk (σ.set i none) H, ct := fun σ H => D.ct (σ.set i none) H }
abbrev slotC (σ : L2.St) : Option (Nat × Bool) → Addr → L2.St
  | none, _ => σ
  | some (i, _), a => σ.set i (some (.ref a))
abbrev Clauses := List (Value × Option (Nat × Bool) × (Addr → Value → Option Addr → TS))
def wCl (K : PySem.W.Frag) (Wout : WX) (D : Ends) : Clauses → WX
  | [] => Wout
  | (c, m, ts) :: r => fun cls d σ H => ∃ b, PySem.W.exmOne K cls c = some b ∧ (b = true → ∀ a, H a = none → ts a cls d (behindC D m a cls d) (slotC σ m a) H) ∧ (b = false → wCl K Wout D r cls d σ H)
abbrev SuiteOk (X : Cx) (ss : List Stmt) (ts : Addr → Value → Option Addr → TS) : Prop :=
  ∀ (a : Addr) (oe : Obj) (cls : Value) (d : Option Addr) (pn : List (Addr × Obj)), L2N.Zn cls d oe → (∃ vs, oe.data = .fields vs) → PSs (X.suite a ((a, oe) :: pn)) ss (ts a cls d)
inductive ClOk (X : Cx) : List ExceptHandler → Clauses → Prop
  | nil : ClOk X [] []
  | bare {x : Str} {c : Value} {ts : Addr → Value → Option Addr → TS} {b₀ : Stmt} {ss : List Stmt} {np pos : Pos} {hs : List ExceptHandler} {l : Clauses} (hc : Names X x c) (su : SuiteOk X (b₀ :: ss) ts) (r : ClOk X hs l) : ClOk X (.ExceptHandler (some (.Name x np)) none (b₀ :: ss) pos :: hs) ((c, none, ts) :: l)
  | named {x n : Str} {c : Value} {i : Nat} (k : Bool) {ts : Addr → Value → Option Addr → TS} {b₀ : Stmt} {ss : List Stmt} {np pos : Pos} {hs : List ExceptHandler} {l : Clauses} (hc : Names X x c) (hi : X.N[i]? = some n) (hl : X.env.kindOf n = some .local) (su : SuiteOk X (b₀ :: ss) ts) (r : ClOk X hs l) :
      ClOk X (.ExceptHandler (some (.Name x np)) (some n) (b₀ :: ss) pos :: hs) ((c, some (i, k), ts) :: l)
section
variable {X : Cx} {pins : List (Addr × Obj)} {σ : L2.St} {H : Hp} {a : Addr} {cls : Value} {d : Option Addr} {B : Heap} {t s : Shared} {D : Ends} {W : WX}
theorem clauses_run (hs : X.stack = X.env :: X.outer) (hf : X.env.frame = some X.env.locals) (hN : X.N.Nodup) (hex : X.ex = []) (tk : L2N.Takes X W) {hds : List ExceptHandler} {l : Clauses} (h : ClOk X hds l) :
    ∀ s, Grip X pins σ H a cls d B t s → wCl X.K W D l cls d σ H → wpAny (model X.prog X.w) X.A (handleBy (.ref a) X.env hds) (SP X pins D) X.xe s := by
  induction h with
  | nil => exact fun s g w => g.out hf tk w
  | bare hc su r ih =>
    rintro s g ⟨b, h1, h2, h3⟩
    refine wpAny_handleBy_cons (g.ask hs hf hc h1 ?_) (by intro z; cases z)
    cases b with
    | false => exact ih s g (h3 rfl)
    | true =>
      refine codeAny_handlers_suite (HandSPX.lands_againZ g.fl fun h4 f4 u4 => ?_)
      have g := g.on f4 u4
      obtain ⟨oe, z1, z2, _, S⟩ := g.within hs hf
      refine wpAny_mono ((su a oe cls d (X.pn ++ pins) z1 z2).run [] _ _ H _ S (h2 rfl a g.na)) (fun f s6 e => ?_) (fun _ _ z => False.elim z)
      cases f with
      | ret u => exact (fun ⟨v, σ6, H6, S6, r6, q6⟩ => ⟨v, σ6, H6, S6.unsuite g.src.ok, r6, q6⟩) e
      | _ => exact (fun ⟨σ6, H6, S6, q6⟩ => ⟨σ6, H6, S6.unsuite g.src.ok, q6⟩) e
  | named k hc hi hl su r ih =>
    rintro s g ⟨b, h1, h2, h3⟩
    refine wpAny_handleBy_cons (g.ask hs hf hc h1 ?_) (by intro z; cases z)
    cases b with
    | false => exact ih s g (h3 rfl)
    | true =>
      refine codeAny_handlers_suite_as (HandSPX.lands_againZ g.fl fun h4 f4 u4 => ?_)
      have g := g.on f4 u4
      obtain ⟨oe, z1, z2, _, S⟩ := g.within hs hf
      refine store_ok (X := X.suite a ((a, oe) :: (X.pn ++ pins))) (v := .ref a) S hN hi (.inl hl) rfl (fun s5 S5 => ?_) (.inr hl)
      have q0 := h2 rfl a g.na
      have ok := g.src.ok
      cases k with
      | false =>
        refine wpAny_mono ((su a oe cls d (X.pn ++ pins) z1 z2).run [] s5 _ H _ S5 q0) (fun f s6 e => ?_) (fun _ _ z => False.elim z)
        cases f with
        | ret u => exact (fun ⟨v, σ6, H6, S6, r6, q6⟩ => gone_ok (S6.unsuite ok) hN hi hl fun s7 J => ⟨v, _, H6, J, r6, q6⟩) e
        | _ => exact (fun ⟨σ6, H6, S6, q6⟩ => gone_ok (S6.unsuite ok) hN hi hl fun s7 J => ⟨_, H6, J, q6⟩) e
      | true =>
        refine wpAny_mono ((su a oe cls d (X.pn ++ pins) z1 z2).run [] s5 _ H _ S5 q0) (fun f s6 e => ?_) (fun _ _ z => False.elim z)
        cases f with
        | next =>
          obtain ⟨σ6, H6, S6, q6⟩ := e
          obtain ⟨p1, p2, _⟩ := S6.pin (a, oe) (List.mem_append_left _ (List.Mem.head _))
          exact gone_ok (inv_layX (S6.unsuite ok) p1 z1 z2 p2 (g.new0 hex) g.nopin (g.nL hs hf)) hN hi hl fun s7 J => ⟨_, _, J, q6 p2⟩
        | ret u => exact (fun ⟨v, σ6, H6, S6, r6, q6⟩ => gone_ok (S6.unsuite ok) hN hi hl fun s7 J => ⟨v, _, H6, J, r6, q6⟩) e
        | brk => exact (fun ⟨σ6, H6, S6, q6⟩ => gone_ok (S6.unsuite ok) hN hi hl fun s7 J => ⟨_, H6, J, q6⟩) e
        | cont => exact (fun ⟨σ6, H6, S6, q6⟩ => gone_ok (S6.unsuite ok) hN hi hl fun s7 J => ⟨_, H6, J, q6⟩) e
/-- try: .. except ..: .. -/
theorem ps_tryC {body : List Stmt} {h₀ : ExceptHandler} {hds : List ExceptHandler} {l : Clauses} {pos : Pos} {tb : WX → TS} (hs : X.stack = X.env :: X.outer) (hf : X.env.frame = some X.env.locals) (hN : X.N.Nodup) (hex : X.ex = []) (tk : L2N.Takes X W)
    (hb : ∀ (W : WX) (pn : List (Addr × Obj)) (xe : Value → Shared → Prop), L2N.Takes (X.tr pn xe) W → PassesOwn (model X.prog X.w) X.A X.env xe → PSs (X.tr pn xe) body (tb W))
    (hh : ClOk X (h₀ :: hds) l) : PS X (.Try body (h₀ :: hds) [] [] pos) (fun D σ H => tb (wCl X.K W D l) D σ H) := by
  refine ⟨fun pins s σ H D I h => wpAny_Try_except (wpAny_mono ((hb (wCl X.K W D l) (X.pn ++ pins) _ (fun u s2 x => ?_) PassesOwn.looking).run [] s σ H D (I.toTry _) h) (fun f s2 e => ?_) fun _ _ z => z)⟩
  · obtain ⟨a, B, t, pins', σ', H', cls, d, rfl, J, nb, up, sky, na, os, ag, w⟩ := x
    have fr : X.A.frames = some (X.env :: X.outer) := by rw [I.ok.frames, hs]
    have sky2 : Sky B (X.env :: X.outer) a (L2N.Zn cls d) X.env.locals s2.heap := by rw [← hs]; exact sky
    exact L2N.Sky.land L2N.Zn.steady fr hf sky2 fun h3 f3 u3 => clauses_run hs hf hN hex tk hh _ ⟨J.ofTry I.ok, nb, up.trans u3, os, ag, by rw [hs]; exact f3, na⟩ w
  · cases f with
    | ret u => exact (fun ⟨v, σ1, H1, J, r, q⟩ => ⟨v, σ1, H1, J.ofTry I.ok, r, q⟩) e
    | next => exact (fun ⟨σ1, H1, J, q⟩ => wpAny_execs_nil ⟨σ1, H1, J.ofTry I.ok, q⟩) e
    | _ => exact (fun ⟨σ1, H1, J, q⟩ => ⟨σ1, H1, J.ofTry I.ok, q⟩) e
end
/-! the exception as data -/
def rX (es : Eds) (ks : List Ek) : Rp Er := fun F v e => ∃ a : Addr, v = .ref a ∧ F a = some (ExH a (.ref (es.at e.k)) none) ∧ e.plain = true ∧ e.k ∈ ks
theorem mX (es : Eds) (ks : List Ek) : Mono (rX es ks) := fun F F' v e x h => by
  obtain ⟨a, h1, h2, h3⟩ := h
  exact ⟨a, h1, x _ _ h2, h3⟩
theorem nnX {es : Eds} {ks : List Ek} : NN (rX es ks) := fun F v e h => by
  obtain ⟨a, rfl, _⟩ := h
  simp
theorem rX_ref {es : Eds} {ks : List Ek} {F : Hp} {v : V} {e : Er} (h : rX es ks F v e) : ∃ p, v = .ref p := by
  obtain ⟨a, h1, _⟩ := h
  exact ⟨a, h1⟩
theorem rX_k {es : Eds} {ks : List Ek} {F : Hp} {v : V} {e : Er} (h : rX es ks F v e) : e.k ∈ ks := by
  obtain ⟨_, _, _, _, h1⟩ := h
  exact h1
theorem Own.layE {es : Eds} {ks : List Ek} {R H : Hp} {L : List Cell} {a : Addr} {e : Er} (O : Own R H L) (hn : H a = none) (hp : e.plain = true) (hk : e.k ∈ ks) : ∃ R', Own R' (upd H a (ExH a (.ref (es.at e.k)) none)) L ∧ Ex R R' ∧ ∀ R0 Hb, Ex Hb R → rX es ks (ovr R0 Hb R') (.ref a) e := by
  refine ⟨upd R a (ExH a (.ref (es.at e.k)) none), (O.new hn).freeze, Ex.new (O.ex.back hn), fun R0 Hb eB => ⟨a, rfl, ovr_mk (.inr (eB.back (O.ex.back hn))) upd_same, hp, hk⟩⟩
theorem rX_up {es : Eds} {ks : List Ek} {R0 Hb R : Hp} {v : V} {e : Er} (h : rX es ks (ovr R0 Hb R) v e) : rX es ks R v e := mX es ks _ _ _ _ ovr_ex h
/-! isinstance of it -/
def rIsH (K : PySem.W.Frag) (es : Eds) (ks : List Ek) : List V → Hp → VK → Prop := fun xs H Q => ∃ (x c : V) (e : Er) (cv : Value) (b : Bool), xs = [x, c] ∧ ClsV c cv ∧ rX es ks H x e ∧ PySem.W.kitOne K (.ref (es.at e.k)) cv = some b ∧ Q (.bl b) H
theorem inst_h {X : Cx} {pins : List (Addr × Obj)} {σ : L2.St} {H : Hp} {s : Shared} {a D : Addr} (I : Inv X pins σ H s) (h : H a = some (ExH a (.ref D) none)) : ∃ oe od, PySem.W.InstAt s.heap a oe D od := by
  obtain ⟨⟨oe, vs, he, hz, hd⟩, _⟩ := (show ObjOk X.prog X.w H s.heap a (ExH a (.ref D) none) from I.hok a _ h)
  obtain ⟨oc, od, oda, osl⟩ := oe
  obtain ⟨h1, h2, _⟩ := hz
  dsimp only at h1 h2 hd
  subst h1 h2 hd
  exact ⟨_, none, he, rfl, rfl, trivial⟩
theorem call_isH {X : Cx} {es : Eds} {ks : List Ek} (T : EcF X.K es ks) : CallR X (.builtin "isinstance") (rIsH X.K es ks) := by
  intro pins s σ H xs us Q I r h
  obtain ⟨x, c, ex, cv, b, rfl, hcv, ⟨a, rfl, hd, _, hk⟩, e, q⟩ := h
  obtain ⟨u1, u2, rfl, r1, r2⟩ := vals2 r
  cases (show u1 = Value.ref a from r1)
  have ec := hcv.eq r2
  subst ec
  have C := T.ec _ hk
  obtain ⟨oe, od, J⟩ := inst_h I hd
  exact PySem.W.kia_one (PySem.W.kitx_exc (exc_cls C) C.hg C.hk C.hs C.ha C.hn C.ht C.hm) I.kIn J e (fun z => nomatch z) fun tk => ⟨.bl b, H, I.kept (t' := tk) fun _ _ z => z, rfl, q⟩
def rIsHt (K : PySem.W.Frag) (es : Eds) (ks : List Ek) : List V → Hp → VK → Prop := fun xs H Q => ∃ (x : V) (tp : Addr) (ex : Er) (cs : List V) (us : List Value) (b : Bool), xs = [x, .ref tp] ∧ rX es ks H x ex ∧ H tp = some (.tup cs) ∧ Paired ClsV cs us ∧ PySem.W.kitAny K (.ref (es.at ex.k)) us = some b ∧ Q (.bl b) H
theorem call_isHt {X : Cx} {es : Eds} {ks : List Ek} (T : EcF X.K es ks) : CallR X (.builtin "isinstance") (rIsHt X.K es ks) := by
  intro pins s σ H xs us Q I r h
  obtain ⟨x, tp, ex, cs, ws, b, rfl, ⟨a, rfl, hd, _, hk⟩, hT, k, e, q⟩ := h
  obtain ⟨u1, u2, rfl, r1, r2⟩ := vals2 r
  cases (show u1 = Value.ref a from r1)
  cases (show u2 = Value.ref tp from r2)
  obtain ⟨_, its, rv, o, h1, h2, n, h3⟩ := (show ObjOk X.prog X.w H s.heap tp (.tup cs) from I.hok tp _ hT)
  have e3 := ClsV.all k rv
  subst e3
  obtain ⟨oc, od, dt, sl⟩ := o
  simp only at h2 h3
  subst h2 h3
  have C := T.ec _ hk
  obtain ⟨oe, od, J⟩ := inst_h I hd
  exact PySem.W.kia_tup (PySem.W.kitx_exc (exc_cls C) C.hg C.hk C.hs C.ha C.hn C.ht C.hm) I.kIn J h1 e (fun z => nomatch z) fun tk => ⟨.bl b, H, I.kept (t' := tk) fun _ _ z => z, rfl, q⟩
theorem exE2 {es : Eds} {ks : List Ek} {cls : Value} {dd : Option Addr} {H H' : Hp} {t : Er → TS} {D : Ends} {σ : L2.St} {e : Er} (hX : XFl e dd H') (hk : e.k ∈ ks) (hc : cls = .ref (es.at e.k)) (q : t e D σ H) : ∃ e : Er, e.k ∈ ks ∧ cls = .ref (es.at e.k) ∧ t e D σ H := ⟨e, hk, hc, q⟩
end Bt

set_option linter.all false
set_option maxRecDepth 100000
set_option maxHeartbeats 1000000
/-! What was told, its inner lists changed by its asker: a loop over them all. -/
namespace Bt
open PySem L2
def NoL {α : Type} (P : Rp α) : Prop := ∀ F v x, P F v x → ∀ p ws, v = .ref p → F p = some (.lst ws) → False
theorem noI : NoL rI := fun F v x h p ws e _ => by
  rw [show v = V.int x from h] at e
  cases e
theorem noB : NoL rB := fun F v x h p ws e _ => by
  rw [show v = V.bl x from h] at e
  cases e
theorem noS : NoL rS := fun F v x h p ws e _ => by
  rw [show v = V.str x from h] at e
  cases e
theorem noT2 {α β : Type} {P : Rp α} {P' : Rp β} : NoL (rT2 P P') := fun F v x h p ws e k => by
  obtain ⟨q, _, _, rfl, h1, _⟩ := h
  cases e
  rw [h1] at k
  cases k
theorem noT3 {α β γ : Type} {P : Rp α} {P' : Rp β} {P3 : Rp γ} : NoL (rT3 P P' P3) := fun F v x h p ws e k => by
  obtain ⟨q, _, _, _, rfl, h1, _⟩ := h
  cases e
  rw [h1] at k
  cases k
def pokeG {α : Type} (xs : List (List α)) : Option Unit := grd (∀ r ∈ xs, r.length + xs.length ≤ 16777216) ()
def PkR (Rs : Hp) (a : Addr) (vs : List V) (B : Nat) (R : Hp) : Prop :=
  Ex Rs R ∧ R a = some (.lst vs) ∧ ∀ v ∈ vs, ∃ p ws, v = .ref p ∧ p ≠ a ∧ Rs p = none ∧ R p = some (.lst ws) ∧ ws.length ≤ B
def PkJ (Rs : Hp) (L : List Cell) (a : Addr) (vs : List V) (n : Nat) (H : Hp) : Prop := ∃ B R, B + n ≤ 16777216 ∧ Own R H L ∧ PkR Rs a vs B R
theorem All2.memL {α β : Type} {P : α → β → Prop} {as : List α} {bs : List β} (h : All2 P as bs) : ∀ a ∈ as, ∃ b ∈ bs, P a b := by
  induction h with
  | nil => exact fun _ h => nomatch h
  | cons k _ ih =>
    intro a ha
    rcases List.mem_cons.mp ha with rfl | ha
    · exact ⟨_, List.Mem.head _, k⟩
    · obtain ⟨b, hb, hp⟩ := ih a ha
      exact ⟨b, List.Mem.tail _ hb, hp⟩
theorem pk_start1 {α : Type} {P : Rp α} {Rs X R H : Hp} {L : List Cell} {a : Addr} {vs : List V} {xs : List (List α)} {u : Unit} (O : Own R H L) (e : Ex Rs R) (hX : ∀ p ws, X p = some (.lst ws) → Rs p = none) (eX : Ex X R) (h1 : X a = some (.lst vs)) (h2 : All2 (rL P X) vs xs) (nl : NoL P) (hb : pokeG xs = some u) : PkJ Rs L a vs xs.length H := by
  obtain ⟨hb, _⟩ := grdE hb
  have hle : ∀ v ∈ vs, ∃ p ws, v = .ref p ∧ p ≠ a ∧ Rs p = none ∧ R p = some (.lst ws) ∧ ws.length + xs.length ≤ 16777216 := fun v hv => by
    obtain ⟨r, hr, p, ws, rfl, k1, k2⟩ := h2.memL v hv
    refine ⟨p, ws, rfl, fun z => ?_, hX _ _ k1, eX _ _ k1, by rw [k2.len]; exact hb r hr⟩
    subst z
    rw [h1] at k1
    cases k1
    obtain ⟨y, _, hy⟩ := k2.memL _ hv
    exact nl _ _ _ hy _ _ rfl h1
  by_cases hx : xs.length ≤ 16777216
  · refine ⟨16777216 - xs.length, R, by omega, O, e, eX _ _ h1, fun v hv => ?_⟩
    obtain ⟨p, ws, a1, a2, a3, a4, a5⟩ := hle v hv
    exact ⟨p, ws, a1, a2, a3, a4, by omega⟩
  · exfalso
    cases xs with
    | nil => simp at hx
    | cons r q =>
      have := hb r (List.Mem.head _)
      omega
theorem pk_start {α : Type} {P : Rp α} {Rs Hc R H : Hp} {L : List Cell} {a : Addr} {vs : List V} {xs : List (List α)} {u : Unit} (O : Own R H L) (e : Ex Rs R) (hc : Ex Rs Hc) (h1 : ovr (fun _ => none) Hc R a = some (.lst vs)) (h2 : All2 (rL P (ovr (fun _ => none) Hc R)) vs xs) (nl : NoL P) (hb : pokeG xs = some u) : PkJ Rs L a vs xs.length H :=
  pk_start1 O e (fun p ws h => by
    obtain ⟨c, _⟩ := ovr_some h
    rcases c with c | c
    · exact absurd rfl c
    · exact hc.back c) ovr_ex h1 h2 nl hb
theorem pk_as {Rs Fr Hc R : Hp} (eF : Ex Fr R) (hF : ∀ p o, Fr p = some o → Rs p = none ∨ ∃ t, o = .tup t) (hc : Ex Rs Hc) : ∀ p ws, ovr Fr Hc R p = some (.lst ws) → Rs p = none := fun p ws h => by
  obtain ⟨c, k⟩ := ovr_some h
  rcases c with c | c
  · cases e : Fr p with
    | none => exact absurd e c
    | some o =>
      rcases hF p o e with q | ⟨t, rfl⟩
      · exact q
      · rw [eF _ _ e] at k
        cases k
  · exact hc.back c
/-! the frame that a call needs to know: some cells, and all tuples -/
def lonR (as : List Addr) (F : Hp) : Hp := fun x => if x ∈ as then F x else match F x with
  | some (.tup t) => some (.tup t)
  | _ => none
theorem lonR_ex {as : List Addr} {F : Hp} : Ex (lonR as F) F := fun x o h => by
  unfold lonR at h
  split at h
  · exact h
  · split at h
    · rename_i t e
      rw [e, ← h]
    · cases h
theorem lonR_tup {as : List Addr} {F : Hp} {x : Addr} {t : List V} (h : F x = some (.tup t)) : lonR as F x = some (.tup t) := by
  unfold lonR
  split
  · exact h
  · rw [h]
theorem lonR_or {as : List Addr} {F Hs : Hp} (h : ∀ p, p ∈ as → Hs p = none) : ∀ p o, lonR as F p = some o → Hs p = none ∨ ∃ t, o = .tup t := fun p o e => by
  unfold lonR at e
  split at e
  · exact .inl (h p (by assumption))
  · split at e
    · exact .inr ⟨_, (Option.some.inj e).symm⟩
    · cases e
def TpO {α : Type} (P : Rp α) : Prop := ∀ as F v x, P F v x → P (lonR as F) v x
theorem tpI : TpO rI := fun _ _ _ _ h => h
theorem tpB : TpO rB := fun _ _ _ _ h => h
theorem tpS : TpO rS := fun _ _ _ _ h => h
theorem tpT2 {α β : Type} {P : Rp α} {P' : Rp β} (m : TpO P) (n : TpO P') : TpO (rT2 P P') := fun as F v x h => by
  obtain ⟨p, a, b, rfl, h1, h2, h3⟩ := h
  exact ⟨p, a, b, rfl, lonR_tup h1, m _ _ _ _ h2, n _ _ _ _ h3⟩
theorem tpT3 {α β γ : Type} {P : Rp α} {P' : Rp β} {P3 : Rp γ} (m : TpO P) (n : TpO P') (o : TpO P3) : TpO (rT3 P P' P3) := fun as F v x h => by
  obtain ⟨p, a, b, c, rfl, h1, h2, h3, h4⟩ := h
  exact ⟨p, a, b, c, rfl, lonR_tup h1, m _ _ _ _ h2, n _ _ _ _ h3, o _ _ _ _ h4⟩
theorem lonL {α : Type} {P : Rp α} {as : List Addr} {F : Hp} {a : Addr} {xs : List α} (h : rL P F (.ref a) xs) (hm : a ∈ as) (tp : TpO P) : rL P (lonR as F) (.ref a) xs := by
  obtain ⟨p, vs, e, h1, h2⟩ := h
  cases e
  refine ⟨_, vs, rfl, ?_, h2.mp fun v x h => tp _ _ _ _ h⟩
  unfold lonR
  rw [if_pos hm]
  exact h1
theorem ovr_lo {as : List Addr} {R0 Hb Hc H0 R Fr : Hp} (hF : Fr = lonR as (ovr R0 Hb H0)) (e : Ex Hb Hc) : Ex (ovr Fr Hc R) (ovr R0 Hb R) := fun a o h => by
  obtain ⟨q, h1⟩ := ovr_some h
  refine ovr_mk ?_ h1
  rcases q with q | q
  · cases z : Fr a with
    | none => exact absurd z q
    | some u =>
      rw [hF] at z
      exact (ovr_some (lonR_ex _ _ z)).1
  · exact .inr (e.back q)
theorem Own.retX1 {A R H Hc : Hp} {B C : List Cell} {D : DT} {Q : VK} (O : Own R H (B ++ C)) (m : MonoD D) (hc : Hc = hsub H B) (hA : Ex A R) (k : ∀ v H' R' L', Own R' H' (L' ++ C) → Ex R R' → D (ovr A Hc R') v L' → Q v H') : RetX A (hsub H B) D Q := fun v H' R' L' e O' d => by
  obtain ⟨R'', O'', e1, e2⟩ := O.back e O'
  subst hc
  refine k v H' R'' L' O'' e1 (m _ _ _ _ (fun a u h => ?_) d)
  obtain ⟨q, _⟩ := ovr_some h
  exact ovr_mk q (e2 _ hA _ _ h)
theorem k_pokeP {Rs R H : Hp} {L E : List Cell} {a q : Addr} {v : V} {vs : List V} {B n : Nat} {Q : VK} (O : Own R H (E ++ L)) (hP : PkR Rs a vs B R) (hm : V.ref q ∈ vs) (hB : B + (n + 1) ≤ 16777216) (k : ∀ H', PkJ Rs L a vs n H' → Q .non H') : rAppend (.ref q) [v] H Q := by
  obtain ⟨e, h1, h2⟩ := hP
  obtain ⟨p, ws, a1, a2, a3, b1, a4⟩ := h2 _ hm
  cases a1
  refine ⟨q, ws, v, rfl, rfl, O.ex _ _ b1, by show _ < 16777216; omega, k _ ⟨B + 1, upd R q (.lst (ws ++ [v])), by omega, ?_, ?_, ?_, ?_⟩⟩
  · have O := O.right
    have hne : ∀ c ∈ L, c.1 ≠ q := fun c hc z => by
      have := O.fr c hc
      rw [z, b1] at this
      cases this
    refine ⟨fun x u h => ?_, fun c hc => ?_, fun c hc => ?_, O.nd⟩
    · by_cases z : x = q
      · subst z
        rw [upd_same] at h ⊢
        exact h
      · rw [upd_ne z] at h ⊢
        exact O.ex _ _ h
    · rw [upd_ne (hne c hc)]
      exact O.at_ c hc
    · rw [upd_ne (hne c hc)]
      exact O.fr c hc
  · intro x u h
    rw [upd_ne (ne_of_none h a3)]
    exact e _ _ h
  · rw [upd_ne (Ne.symm a2)]
    exact h1
  · intro w hw
    obtain ⟨p, us, c1, c2, c3, c4, c5⟩ := h2 w hw
    by_cases z : p = q
    · subst z
      rw [b1] at c4
      cases c4
      exact ⟨p, _, c1, c2, c3, upd_same, by simp; omega⟩
    · exact ⟨p, us, c1, c2, c3, by rw [upd_ne z]; exact c4, by omega⟩
theorem q_forP {α : Type} {K : PySem.W.Frag} {Rs H : Hp} {L : List Cell} {a : Addr} {vs : List V} {xs : List α} {j : Nat} {ts : TS} {n : St → Hp → Prop} {w : VK} {σ : St} (σ1 : Option V → St) (hl : vs.length = xs.length) (hP : PkJ Rs L a vs xs.length H) (h0 : ∃ u, σ = σ1 u) (hj : ∀ u v, (σ1 u).set j (some v) = σ1 (some v))
    (hs : ∀ q m B R H, Own R H L → PkR Rs a vs B R → V.ref q ∈ vs → B + (m + 1) ≤ 16777216 → (∃ ws, H q = some (.lst ws)) → ts (Ends.mk (fun σ H => (∃ u, σ = σ1 u) ∧ PkJ Rs L a vs m H) w n (fun σ H => (∃ u, σ = σ1 u) ∧ PkJ Rs L a vs m H)) (σ1 (some (.ref q))) H)
    (hd : ∀ u H, Own Rs H L → n (σ1 u) H) :
    ∃ W : Nat → Nat → St → Hp → Prop, (∃ m, W 0 m σ H) ∧ ∀ i m σ H, W i m σ H →
      ((Itl K a).stop i H ∧ n σ H) ∨ ((Itl K a).go i H ∧ ∃ N : St → Hp → Prop, (∀ σ' H', N σ' H' → ∃ m', m' < m ∧ W (i + 1) m' σ' H') ∧ ∀ x H', (Itl K a).yld i H x H' → gName j x σ H' fun σ2 H2 => ts (Ends.mk N w n N) σ2 H2) := by
  refine q_forA (P := fun v (_ : α) => v ∈ vs) (b := fun _ _ => False) (k := fun _ _ => False) (xs := xs) (All2.of_get hl fun i x y e _ => List.mem_of_getElem? e) (fun r σ H => (∃ u, σ = σ1 u) ∧ PkJ Rs L a vs r.length H) ⟨h0, hP⟩ (fun r σ H h => ?_) (fun x v r σ H hv h => ?_) (fun σ H h => ?_)
  · obtain ⟨_, B, R, _, O, _, h1, _⟩ := h
    exact SqL.of (O.ex _ _ h1)
  · obtain ⟨⟨u, rfl⟩, B, R, h1, O, h2⟩ := h
    obtain ⟨p, ws, rfl, _, _, h3, _⟩ := h2.2.2 v hv
    rw [hj]
    exact hs p r.length B R H O h2 hv h1 ⟨ws, O.ex _ _ h3⟩
  · obtain ⟨⟨u, rfl⟩, B, R, h1, O, h2⟩ := h
    exact hd u H (O.shrink h2.1)
theorem pk_none {Rs Hc R : Hp} {a : Addr} {o : HO} (hc : Ex Rs Hc) (h1 : ovr (fun _ => none) Hc R a = some o) : Rs a = none := by
  obtain ⟨c, _⟩ := ovr_some h1
  rcases c with c | c
  · exact absurd rfl c
  · exact hc.back c
def pokeO {α : Type} (xs : List α) : Option Unit := grd (xs.length < 16777216) ()
theorem k_pokeO {α : Type} {P : Rp α} {F Rs R H : Hp} {L E : List Cell} {a : Addr} {v : V} {vs : List V} {xs : List α} {B : Nat} {u : Unit} {Q : VK} (O : Own R H (E ++ L)) (hP : PkR Rs a vs B R) (hz : Rs a = none) (h2 : All2 (P F) vs xs) (hb : pokeO xs = some u) (k : ∀ H', Own Rs H' L → Q .non H') : rAppend (.ref a) [v] H Q := by
  obtain ⟨hb, _⟩ := grdE hb
  obtain ⟨e, h1, _⟩ := hP
  refine ⟨a, vs, v, rfl, rfl, O.ex _ _ h1, by show _ < 16777216; rw [h2.len]; exact hb, k _ ?_⟩
  have O := O.right
  have hne : ∀ c ∈ L, c.1 ≠ a := fun c hc z => by
    have := O.fr c hc
    rw [z, h1] at this
    cases this
  refine ⟨fun x u h => ?_, fun c hc => ?_, fun c hc => ?_, O.nd⟩
  · by_cases z : x = a
    · subst z
      rw [hz] at h
      cases h
    · rw [upd_ne z]
      exact O.ex _ _ (e _ _ h)
  · rw [upd_ne (hne c hc)]
    exact O.at_ c hc
  · cases q : Rs c.1 with
    | none => rfl
    | some o =>
      have := e _ _ q
      rw [O.fr c hc] at this
      cases this
theorem q_forP2 {α : Type} {K : PySem.W.Frag} {Rs H : Hp} {L : List Cell} {a : Addr} {vs : List V} {xs : List α} {j : Nat} {ts : TS} {n : St → Hp → Prop} {w : VK} {σ : St} (σ1 : Option V → St) (hl : vs.length = xs.length) (hP : PkJ Rs L a vs xs.length H) (h0 : ∃ u, σ = σ1 u) (hj : ∀ u v, (σ1 u).set j (some v) = σ1 (some v))
    (hs : ∀ q m B R H, Own R H L → PkR Rs a vs B R → V.ref q ∈ vs → B + (m + 1) ≤ 16777216 → (∃ ws, H q = some (.lst ws)) → ts (Ends.mk (fun σ H => (∃ u, σ = σ1 u) ∧ PkJ Rs L a vs m H) w n (fun σ H => (∃ u, σ = σ1 u) ∧ PkJ Rs L a vs m H)) (σ1 (some (.ref q))) H)
    (hd : ∀ u H B R, Own R H L → PkR Rs a vs B R → n (σ1 u) H) :
    ∃ W : Nat → Nat → St → Hp → Prop, (∃ m, W 0 m σ H) ∧ ∀ i m σ H, W i m σ H →
      ((Itl K a).stop i H ∧ n σ H) ∨ ((Itl K a).go i H ∧ ∃ N : St → Hp → Prop, (∀ σ' H', N σ' H' → ∃ m', m' < m ∧ W (i + 1) m' σ' H') ∧ ∀ x H', (Itl K a).yld i H x H' → gName j x σ H' fun σ2 H2 => ts (Ends.mk N w n N) σ2 H2) := by
  refine q_forA (P := fun v (_ : α) => v ∈ vs) (b := fun _ _ => False) (k := fun _ _ => False) (xs := xs) (All2.of_get hl fun i x y e _ => List.mem_of_getElem? e) (fun r σ H => (∃ u, σ = σ1 u) ∧ PkJ Rs L a vs r.length H) ⟨h0, hP⟩ (fun r σ H h => ?_) (fun x v r σ H hv h => ?_) (fun σ H h => ?_)
  · obtain ⟨_, B, R, _, O, _, h1, _⟩ := h
    exact SqL.of (O.ex _ _ h1)
  · obtain ⟨⟨u, rfl⟩, B, R, h1, O, h2⟩ := h
    obtain ⟨p, ws, rfl, _, _, h3, _⟩ := h2.2.2 v hv
    rw [hj]
    exact hs p r.length B R H O h2 hv h1 ⟨ws, O.ex _ _ h3⟩
  · obtain ⟨⟨u, rfl⟩, B, R, h1, O, h2⟩ := h
    exact hd u H B R O h2
end Bt

set_option linter.all false
set_option maxRecDepth 100000
set_option maxHeartbeats 1000000
/-! Pairs of a number and a list, the lists all apart: one of them changed, the others stay. -/
namespace Bt
open PySem L2
def IQ (F : Hp) (v : V) (q : Addr) : Prop := ∃ p x ws, v = .ref p ∧ F p = some (.tup [x, .ref q]) ∧ F q = some (.lst ws)
theorem IQ.mono {F F' : Hp} {v : V} {q : Addr} (e : Ex F F') (h : IQ F v q) : IQ F' v q := by
  obtain ⟨p, x, ws, h1, h2, h3⟩ := h
  exact ⟨p, x, ws, h1, e _ _ h2, e _ _ h3⟩
theorem ex_some {F F' : Hp} {a : Addr} (e : Ex F F') (h : F a ≠ none) : F' a ≠ none := by
  cases z : F a with
  | none => exact absurd z h
  | some o => rw [e _ _ z]; simp
/-- the lists apart, from one another and from those told, and new to Z -/
def DN (F Z : Hp) (as : List Addr) (vs : List V) : Prop := ∃ qs : List Addr, All2 (IQ F) vs qs ∧ qs.Nodup ∧ (∀ a ∈ as, a ∉ qs ∧ F a ≠ none) ∧ ∀ q ∈ qs, Z q = none
/-- and a list to come -/
def DNx (F Z : Hp) (as : List Addr) (vs : List V) (q : Addr) : Prop := ∃ qs : List Addr, All2 (IQ F) vs qs ∧ (q :: qs).Nodup ∧ (∀ a ∈ as, a ∉ q :: qs ∧ F a ≠ none) ∧ ∀ p ∈ q :: qs, Z p = none
abbrev hp0 : Hp := fun _ => none
theorem DN.mono {F F' Z : Hp} {as : List Addr} {vs : List V} (e : Ex F F') (h : DN F Z as vs) : DN F' Z as vs := by
  obtain ⟨qs, h1, h2, h3, h4⟩ := h
  exact ⟨qs, h1.mp fun _ _ k => k.mono e, h2, fun a ha => ⟨(h3 a ha).1, ex_some e (h3 a ha).2⟩, h4⟩
theorem DNx.mono {F F' Z : Hp} {as : List Addr} {vs : List V} {q : Addr} (e : Ex F F') (h : DNx F Z as vs q) : DNx F' Z as vs q := by
  obtain ⟨qs, h1, h2, h3, h4⟩ := h
  exact ⟨qs, h1.mp fun _ _ k => k.mono e, h2, fun a ha => ⟨(h3 a ha).1, ex_some e (h3 a ha).2⟩, h4⟩
theorem DN.nil {F Z : Hp} : DN F Z [] [] := ⟨[], .nil, List.Pairwise.nil, (fun _ h => nomatch h), fun _ h => nomatch h⟩
theorem DN.app0 {F Z : Hp} {as : List Addr} {vs : List V} (h : DN F Z as vs) : DN F Z as (vs ++ []) := by rw [List.append_nil]; exact h
theorem all2_memR {α β : Type} {P : α → β → Prop} {as : List α} {bs : List β} (h : All2 P as bs) : ∀ b ∈ bs, ∃ a ∈ as, P a b := by
  induction h with
  | nil => exact fun _ h => nomatch h
  | cons k _ ih =>
    intro b hb
    rcases List.mem_cons.mp hb with rfl | hb
    · exact ⟨_, List.Mem.head _, k⟩
    · obtain ⟨a, ha, hp⟩ := ih b hb
      exact ⟨a, List.Mem.tail _ ha, hp⟩
theorem ovr_no {R H X : Hp} {a : Addr} (h : X a = none) : ovr R H X a = none := by
  cases z : ovr R H X a with
  | none => rfl
  | some o =>
    have := (ovr_some z).2
    rw [h] at this
    cases this
theorem DN.pre {F Z : Hp} {as : List Addr} {vs : List V} {q : Addr} (h : DN F Z as vs) (hq : F q = none) (hz : Z q = none) : DNx F Z as vs q := by
  obtain ⟨qs, h1, h2, h3, h4⟩ := h
  refine ⟨qs, h1, List.nodup_cons.mpr ⟨fun z => ?_, h2⟩, fun a ha => ⟨fun z => ?_, (h3 a ha).2⟩, fun p hp => ?_⟩
  · obtain ⟨_, _, p, x, ws, _, _, k⟩ := all2_memR h1 q z
    rw [hq] at k
    cases k
  · rcases List.mem_cons.mp z with rfl | z
    · exact (h3 _ ha).2 hq
    · exact (h3 a ha).1 z
  · rcases List.mem_cons.mp hp with rfl | hp
    · exact hz
    · exact h4 p hp
theorem DNx.snoc {F Z : Hp} {as : List Addr} {vs ws : List V} {p q : Addr} {x : V} (h : DNx F Z as vs q) (h1 : F p = some (.tup [x, .ref q])) (h2 : F q = some (.lst ws)) : DN F Z as (vs ++ [.ref p]) := by
  obtain ⟨qs, k1, k2, k3, k4⟩ := h
  obtain ⟨n1, n2⟩ := List.nodup_cons.mp k2
  refine ⟨qs ++ [q], k1.snoc ⟨p, x, ws, rfl, h1, h2⟩, List.nodup_append.mpr ⟨n2, List.nodup_cons.mpr ⟨List.not_mem_nil, List.Pairwise.nil⟩, fun a ha b hb z => ?_⟩, fun a ha => ⟨fun z => ?_, (k3 a ha).2⟩, fun p hp => ?_⟩
  · rw [List.mem_singleton.mp hb] at z
    subst z
    exact n1 ha
  · refine (k3 a ha).1 ?_
    rcases List.mem_append.mp z with z | z
    · exact List.Mem.tail _ z
    · rw [List.mem_singleton.mp z]; exact List.Mem.head _
  · rcases List.mem_append.mp hp with z | z
    · exact k4 p (List.Mem.tail _ z)
    · rw [List.mem_singleton.mp z]; exact k4 q (List.Mem.head _)
theorem DNx.snocP {F Z : Hp} {as : List Addr} {A vs ws : List V} {p q : Addr} {x : V} (h : DNx F Z as (A ++ vs) q) (h1 : F p = some (.tup [x, .ref q])) (h2 : F q = some (.lst ws)) : DN F Z as (A ++ (vs ++ [.ref p])) := by
  rw [← List.append_assoc]
  exact h.snoc h1 h2
/-- the list itself told apart from them too -/
theorem DNx.own {F Z : Hp} {vs : List V} {as : List Addr} {a : Addr} {o : HO} (h : DNx F Z as vs a) (h1 : F a = some o) : DN F Z (a :: as) vs := by
  obtain ⟨qs, k1, k2, k3, k4⟩ := h
  obtain ⟨n1, n2⟩ := List.nodup_cons.mp k2
  refine ⟨qs, k1, n2, fun b hb => ?_, fun q hq => k4 q (List.Mem.tail _ hq)⟩
  rcases List.mem_cons.mp hb with rfl | hb
  · exact ⟨n1, by rw [h1]; simp⟩
  · exact ⟨fun z => (k3 b hb).1 (List.Mem.tail _ z), (k3 b hb).2⟩
/-- what is told: such a list -/
def DNv (F : Hp) (v : V) : Prop := ∃ a vs, v = .ref a ∧ F a = some (.lst vs) ∧ DN F hp0 [a] vs
theorem DNv.mono {F F' : Hp} {v : V} (e : Ex F F') (h : DNv F v) : DNv F' v := by
  obtain ⟨a, vs, h1, h2, h3⟩ := h
  exact ⟨a, vs, h1, e _ _ h2, h3.mono e⟩
def dPD {α : Type} (P : Rp α) (x : α) : DT := fun F v L => L = [] ∧ P F v x ∧ DNv F v
theorem mdPD {α : Type} {P : Rp α} {x : α} (m : Mono P) : MonoD (dPD P x) := fun _ _ _ _ e h => ⟨h.1, m _ _ _ _ e h.2.1, h.2.2.mono e⟩
/-- told by a call: new to all that stood ahead of it -/
theorem DNv.at {α : Type} {P : Rp α} {Z Hc R F : Hp} {a : Addr} {xs : List α} (h : DNv (ovr hp0 Hc R) (.ref a)) (eH : Ex Z Hc) (e : Ex (ovr hp0 Hc R) F) (hn : rL P F (.ref a) xs) : ∃ vs, F a = some (.lst vs) ∧ DN F Z [a] vs ∧ All2 (P F) vs xs ∧ Z a = none := by
  obtain ⟨a', vs, h1, h2, qs, k1, k2, k3, _⟩ := h
  cases h1
  obtain ⟨us, j1, j2⟩ := rL_at hn
  have j3 := e _ _ h2
  rw [j1] at j3
  have j4 : us = vs := HO.lst.inj (Option.some.inj j3)
  subst j4
  have new : ∀ q, ovr hp0 Hc R q ≠ none → Z q = none := fun q hq => by
    cases z : ovr hp0 Hc R q with
    | none => exact absurd z hq
    | some o =>
      obtain ⟨c, _⟩ := ovr_some z
      rcases c with c | c
      · exact absurd rfl c
      · exact eH.back c
  refine ⟨us, j1, ⟨qs, k1.mp fun _ _ k => k.mono e, k2, fun b hb => ⟨(k3 b hb).1, ex_some e (k3 b hb).2⟩, fun q hq => ?_⟩, j2, new a (by rw [h2]; simp)⟩
  obtain ⟨_, _, p, x, ws, _, _, k⟩ := all2_memR k1 q hq
  exact new q (by rw [k]; simp)
theorem All2.split2 {α β : Type} {P : α → β → Prop} : ∀ (as : List α) (bs : List β) {cs : List α} {ds : List β}, as.length = bs.length → All2 P (as ++ cs) (bs ++ ds) → All2 P as bs ∧ All2 P cs ds
  | [], [], _, _, _, h => ⟨.nil, h⟩
  | [], _ :: _, _, _, e, _ => by simp at e
  | _ :: _, [], _, _, e, _ => by simp at e
  | a :: as, b :: bs, _, _, e, h => by
    cases h with
    | cons k t =>
      obtain ⟨h1, h2⟩ := All2.split2 as bs (by simpa using e) t
      exact ⟨.cons k h1, h2⟩
/-! one of the lists changed -/
theorem All2.ixs {α β : Type} {P : α → β → Prop} : ∀ {as : List α} {bs : List β} (i : Nat) (b : β), All2 P as bs → bs[i]? = some b → ∃ a, as[i]? = some a ∧ P a b := fun i b h e => by
  induction h generalizing i with
  | nil => simp at e
  | cons k t ih =>
    cases i with
    | zero => cases e; exact ⟨_, rfl, k⟩
    | succ i => exact ih i (by simpa using e)
abbrev rIL : Rp (Int × List Int) := rT2 rI (rL rI)
theorem dn_step {F F' : Hp} {q : Addr} {o : HO} {vs : List V} {xs : List (Int × List Int)} {qs : List Addr} (hq : ∀ a, a ≠ q → F' a = F a) (hF : ∃ ws, F q = some (.lst ws)) (h : All2 (rIL F) vs xs) (k : All2 (IQ F) vs qs) (n : q ∉ qs) : All2 (rIL F') vs xs := by
  obtain ⟨us, hF⟩ := hF
  induction h generalizing qs with
  | nil => exact .nil
  | cons h1 _ ih =>
    cases k with
    | @cons _ q0 _ qs0 k1 k2 =>
      refine .cons ?_ (ih k2 fun z => n (List.Mem.tail _ z))
      obtain ⟨p, a, b, e1, e2, e3, e4⟩ := h1
      obtain ⟨p', x, ws, c1, c2, c3⟩ := k1
      rw [e1] at c1
      cases c1
      rw [e2] at c2
      cases c2
      obtain ⟨q', vs', d1, d2, d3⟩ := e4
      have d1 : q0 = q' := by injection d1
      rw [← d1] at d2
      exact ⟨p, _, .ref q0, e1, (hq p (fun z => by
          subst z
          rw [e2] at hF
          cases hF)).trans e2, e3, q0, vs', rfl, (hq q0 (fun z => n (by rw [← z]; exact List.Mem.head _))).trans d2, d3⟩
theorem dn_all {F : Hp} {q : Addr} {c : Int} : ∀ {vs : List V} {xs : List (Int × List Int)} {qs : List Addr} (i : Nat) (x : Int) (ys : List Int), All2 (rIL F) vs xs → All2 (IQ F) vs qs → qs.Nodup → qs[i]? = some q → xs[i]? = some (x, ys) →
    All2 (rIL (upd F q (.lst ((ys ++ [c]).map V.int)))) vs (xs.set i (x, ys ++ [c])) := fun {vs} {xs} {qs} i x ys h => by
  have hq : ∀ a, a ≠ q → upd F q (.lst ((ys ++ [c]).map V.int)) a = F a := fun a h => upd_ne h
  induction h generalizing qs i with
  | nil => intro _ _ _ e; simp at e
  | @cons v y vs' xs' h1 t ih =>
    intro k n e1 e2
    cases k with
    | @cons _ q0 _ qs' k1 k2 =>
      obtain ⟨n1, n2⟩ := List.nodup_cons.mp n
      obtain ⟨p, a, b, c1, c2, c3, c4⟩ := h1
      obtain ⟨p', x', ws, d1, d2, d3⟩ := k1
      rw [c1] at d1
      cases d1
      rw [c2] at d2
      cases d2
      cases i with
      | zero =>
        cases e1
        cases e2
        refine .cons ⟨p, _, _, c1, ?_, c3, ⟨_, _, rfl, upd_same, ?_⟩⟩ ?_
        · rw [upd_ne (fun z => by
            subst z
            rw [c2] at d3
            cases d3)]
          exact c2
        · exact iA (ys ++ [c])
        · exact dn_step (o := .lst []) hq ⟨ws, d3⟩ t k2 n1
      | succ i =>
        have e1' : qs'[i]? = some q := by simpa using e1
        have hm : q ∈ qs' := List.mem_of_getElem? e1'
        have hF : ∃ us, F q = some (.lst us) := by
          obtain ⟨_, _, _, _, us, _, _, z⟩ := all2_memR k2 q hm
          exact ⟨us, z⟩
        have hne : q ∉ [q0] := fun z => by
          rw [List.mem_singleton.mp z] at hm
          exact n1 hm
        have hh := dn_step (F := F) (o := .lst []) (vs := [v]) (xs := [y]) (qs := [q0]) hq hF (.cons ⟨p, _, _, c1, c2, c3, c4⟩ .nil) (.cons ⟨p, _, _, c1, c2, d3⟩ .nil) hne
        cases hh with
        | cons hh _ =>
          rw [List.set_cons_succ]
          exact .cons hh (ih i k2 n2 e1' (by simpa using e2))
theorem dn_keep {F Z : Hp} {q : Addr} {o : HO} {as : List Addr} {vs : List V} (hF : ∃ ws, F q = some (.lst ws)) (ho : ∃ us, o = .lst us) (h : DN F Z as vs) : DN (upd F q o) Z as vs := by
  obtain ⟨us, hF⟩ := hF
  obtain ⟨ws', rfl⟩ := ho
  obtain ⟨qs, k1, k2, k3, k4⟩ := h
  refine ⟨qs, k1.mp fun v q' ⟨p, x, ws, h1, h2, h3⟩ => ?_, k2, (fun a ha => ⟨(k3 a ha).1, fun z => (k3 a ha).2 (by
    unfold upd at z
    split at z
    · cases z
    · exact z)⟩), k4⟩
  have hp : p ≠ q := fun z => by
    subst z
    rw [h2] at hF
    cases hF
  by_cases z : q' = q
  · subst z
    exact ⟨p, x, _, h1, by rw [upd_ne hp]; exact h2, upd_same⟩
  · exact ⟨p, x, ws, h1, by rw [upd_ne hp]; exact h2, by rw [upd_ne z]; exact h3⟩
theorem ovr_upd {R0 Hb R : Hp} {q : Addr} {o o' : HO} (h : ovr R0 Hb R q = some o) : ovr R0 Hb (upd R q o') = upd (ovr R0 Hb R) q o' := by
  obtain ⟨c, _⟩ := ovr_some h
  funext a
  by_cases z : a = q
  · subst z
    rw [upd_same]
    exact ovr_mk c upd_same
  · rw [upd_ne z]
    unfold ovr
    rw [upd_ne z]
theorem Own.updR {R H : Hp} {L : List Cell} {q : Addr} {o o' : HO} (O : Own R H L) (h : R q = some o) : Own (upd R q o') (upd H q o') L := by
  have hne : ∀ c ∈ L, c.1 ≠ q := fun c hc z => by
    have := O.fr c hc
    rw [z, h] at this
    cases this
  refine ⟨fun x u e => ?_, fun c hc => ?_, fun c hc => ?_, O.nd⟩
  · by_cases z : x = q
    · subst z
      rw [upd_same] at e ⊢
      exact e
    · rw [upd_ne z] at e ⊢
      exact O.ex _ _ e
  · rw [upd_ne (hne c hc)]
    exact O.at_ c hc
  · rw [upd_ne (hne c hc)]
    exact O.fr c hc
/-- xs[i][1].append(c), the lists apart: those ahead (A) and behind (B) stay as they are -/
theorem pokeF {F Z : Hp} {as : List Addr} {A vs B : List V} {xa xs xb : List (Int × List Int)} {n : Nat} {c : Int} {e : Int × List Int} {w : V} {p q : Addr} (hA : All2 (rIL F) A xa) (hs : All2 (rIL F) vs xs) (hB : All2 (rIL F) B xb) (d : DN F Z as (A ++ (vs ++ B)))
    (hi : xs[n]? = some e) (e1 : vs[n]? = some (.ref p)) (e2 : F p = some (.tup [w, .ref q])) (hcell : F q = some (.lst (e.2.map V.int))) :
    All2 (rIL (upd F q (.lst ((e.2 ++ [c]).map V.int)))) A xa ∧ All2 (rIL (upd F q (.lst ((e.2 ++ [c]).map V.int)))) vs (xs.set n (e.1, e.2 ++ [c])) ∧ All2 (rIL (upd F q (.lst ((e.2 ++ [c]).map V.int)))) B xb ∧ DN (upd F q (.lst ((e.2 ++ [c]).map V.int))) Z as (A ++ (vs ++ B)) ∧ (∀ a ∈ as, a ≠ q) ∧ Z q = none := by
  obtain ⟨qs, k1, k2, k3, k4⟩ := d
  have hall : All2 (rIL F) (A ++ (vs ++ B)) (xa ++ (xs ++ xb)) := hA.app (hs.app hB)
  have lA := hA.len
  have ls := hs.len
  have hn : n < xs.length := (List.getElem?_eq_some_iff.mp hi).1
  have ev : (A ++ (vs ++ B))[A.length + n]? = some (.ref p) := by
    rw [List.getElem?_append_right (by omega), Nat.add_sub_cancel_left, List.getElem?_append_left (by omega)]
    exact e1
  have ex_ : (xa ++ (xs ++ xb))[A.length + n]? = some (e.1, e.2) := by
    rw [lA, List.getElem?_append_right (by omega), Nat.add_sub_cancel_left, List.getElem?_append_left hn]
    exact hi
  have hlen := k1.len
  have hlt : A.length + n < qs.length := by
    rw [← hlen]
    exact (List.getElem?_eq_some_iff.mp ev).1
  have eq0 : qs[A.length + n]? = some qs[A.length + n] := List.getElem?_eq_getElem hlt
  obtain ⟨v0, ev0, p0, x0, ws0, c1, c2, c3⟩ := All2.ixs _ _ k1 eq0
  rw [ev] at ev0
  cases ev0
  cases c1
  rw [e2] at c2
  injection c2 with c2
  injection c2 with c2
  injection c2 with c2 c4
  injection c4 with c4 _
  injection c4 with c4
  rw [← c4] at eq0 c3
  have hm : q ∈ qs := List.mem_of_getElem? eq0
  have hnew := dn_all (c := c) _ e.1 e.2 hall k1 k2 eq0 ex_
  have hset : (xa ++ (xs ++ xb)).set (A.length + n) (e.1, e.2 ++ [c]) = xa ++ (xs.set n (e.1, e.2 ++ [c]) ++ xb) := by
    rw [lA, List.set_append_right _ _ (by omega), Nat.add_sub_cancel_left, List.set_append_left _ _ hn]
  rw [hset] at hnew
  obtain ⟨hA', h1⟩ := All2.split2 A xa lA hnew
  obtain ⟨hs', hB'⟩ := All2.split2 vs (xs.set n (e.1, e.2 ++ [c])) (by simp; omega) h1
  exact ⟨hA', hs', hB', dn_keep ⟨_, hcell⟩ ⟨_, rfl⟩ ⟨qs, k1, k2, k3, k4⟩, fun a ha z => (k3 a ha).1 (by rw [z]; exact hm), k4 q hm⟩
/-- what is known behind such a change -/
def PkD (Z : Hp) (as : List Addr) (A B vs : List V) (xa xb xs' : List (Int × List Int)) (F F' : Hp) : Prop :=
  All2 (rIL F') A xa ∧ All2 (rIL F') vs xs' ∧ All2 (rIL F') B xb ∧ DN F' Z as (A ++ (vs ++ B)) ∧ ∀ a ∈ as, F' a = F a
theorem k_pokeD {R Z H : Hp} {L : List Cell} {as : List Addr} {A vs B : List V} {xa xs xb xs' : List (Int × List Int)} {n : Nat} {i c : Int} {e : Int × List Int} {l : List Int} {w : V} {p q : Addr} {Q : VK} (O : Own R H L) (eZ : Ex Z R) (hA : All2 (rIL R) A xa) (hs : All2 (rIL R) vs xs) (hB : All2 (rIL R) B xb) (d : DN R Z as (A ++ (vs ++ B)))
    (hn : ixN xs.length i = some n) (hi : xs[n]? = some e) (e1 : vs[n]? = some (.ref p)) (e2 : R p = some (.tup [w, .ref q])) (hcell : R q = some (.lst (e.2.map V.int))) (ha : appG e.2 c = some l) (hset : setG xs i (e.1, l) = some xs')
    (k : ∀ H' R', Own R' H' L → Ex Z R' → PkD Z as A B vs xa xb xs' R R' → Q .non H') : rAppend (.ref q) [.int c] H Q := by
  obtain ⟨hl, rfl⟩ := grdE ha
  obtain ⟨a1, a2, a3, a4, a5, a6⟩ := pokeF (c := c) hA hs hB d hi e1 e2 hcell
  have hx : xs' = xs.set n (e.1, e.2 ++ [c]) := by
    unfold setG at hset
    rw [hn] at hset
    cases hset
    rfl
  subst hx
  have O2 := O.updR (o' := .lst ((e.2 ++ [c]).map V.int)) hcell
  refine ⟨q, _, _, rfl, rfl, O.ex _ _ hcell, by rw [List.length_map]; exact hl, ?_⟩
  rw [show (e.2.map V.int) ++ [V.int c] = (e.2 ++ [c]).map V.int by simp]
  refine k _ _ O2 (fun a o h => ?_) ⟨a1, a2, a3, a4, fun a ha => upd_ne (a5 a ha)⟩
  rw [upd_ne (ne_of_none h a6)]
  exact eZ _ _ h
theorem k_pokeDO {R0 Hb R Z H : Hp} {L : List Cell} {as : List Addr} {A vs B : List V} {xa xs xb xs' : List (Int × List Int)} {n : Nat} {i c : Int} {e : Int × List Int} {l : List Int} {w : V} {p q : Addr} {Q : VK} (O : Own R H L) (eZ : Ex Z R) (hA : All2 (rIL (ovr R0 Hb R)) A xa) (hs : All2 (rIL (ovr R0 Hb R)) vs xs) (hB : All2 (rIL (ovr R0 Hb R)) B xb) (d : DN (ovr R0 Hb R) Z as (A ++ (vs ++ B)))
    (hn : ixN xs.length i = some n) (hi : xs[n]? = some e) (e1 : vs[n]? = some (.ref p)) (e2 : ovr R0 Hb R p = some (.tup [w, .ref q])) (hcell : ovr R0 Hb R q = some (.lst (e.2.map V.int))) (ha : appG e.2 c = some l) (hset : setG xs i (e.1, l) = some xs')
    (k : ∀ H' R', Own R' H' L → Ex Z R' → PkD Z as A B vs xa xb xs' (ovr R0 Hb R) (ovr R0 Hb R') → Q .non H') : rAppend (.ref q) [.int c] H Q := by
  obtain ⟨hl, rfl⟩ := grdE ha
  obtain ⟨a1, a2, a3, a4, a5, a6⟩ := pokeF (c := c) hA hs hB d hi e1 e2 hcell
  have hx : xs' = xs.set n (e.1, e.2 ++ [c]) := by
    unfold setG at hset
    rw [hn] at hset
    cases hset
    rfl
  subst hx
  have hR := ovr_ex _ _ hcell
  have O2 := O.updR (o' := .lst ((e.2 ++ [c]).map V.int)) hR
  refine ⟨q, _, _, rfl, rfl, O.ex _ _ hR, by rw [List.length_map]; exact hl, ?_⟩
  rw [show (e.2.map V.int) ++ [V.int c] = (e.2 ++ [c]).map V.int by simp]
  rw [← ovr_upd hcell] at a1 a2 a3 a4
  refine k _ _ O2 (fun a o h => ?_) ⟨a1, a2, a3, a4, fun a ha => ?_⟩
  · rw [upd_ne (ne_of_none h a6)]
    exact eZ _ _ h
  · rw [ovr_upd hcell]
    exact upd_ne (a5 a ha)
theorem k_ixAn {α : Type} {K : PySem.W.Frag} {P : V → α → Prop} {H : Hp} {a : Addr} {vs : List V} {xs : List α} {i : Int} {y : α} {Q : VK} (hs : SqL K H a vs) (ha : All2 P vs xs) (h : atI xs i = some y) (k : ∀ n v, ixN xs.length i = some n → xs[n]? = some y → vs[n]? = some v → P v y → Q v H) : rIxL K (.ref a) (.int i) H Q := by
  have h' := h
  unfold atI at h'
  cases hx : ixN xs.length i with
  | none => rw [hx] at h'; cases h'
  | some n =>
    rw [hx] at h'
    have hy : xs[n]? = some y := h'
    obtain ⟨v, e1, hv⟩ := ha.get hy
    refine ⟨a, vs, i, v, rfl, rfl, hs, ?_, k n v hx hy e1 hv⟩
    have hl := ha.len
    unfold atI
    rw [hl, hx]
    exact e1
/-- back to an older frame, one cell kept in hand -/
theorem Own.pick {Rs R H : Hp} {L : List Cell} {a : Addr} {o : HO} (O : Own R H L) (e : Ex Rs R) (hz : Rs a = none) (h : R a = some o) : Own Rs H ((a, o) :: L) := by
  refine ⟨fun x u k => O.ex _ _ (e _ _ k), fun c hc => ?_, fun c hc => ?_, List.nodup_cons.mpr ⟨fun z => ?_, O.nd⟩⟩
  · rcases List.mem_cons.mp hc with rfl | hc
    · exact O.ex _ _ h
    · exact O.at_ c hc
  · rcases List.mem_cons.mp hc with rfl | hc
    · exact hz
    · cases q : Rs c.1 with
      | none => rfl
      | some u =>
        have := e _ _ q
        rw [O.fr c hc] at this
        cases this
  · obtain ⟨c, hc, z⟩ := List.mem_map.mp z
    have := O.fr c hc
    rw [z] at this
    rw [h] at this
    cases this
theorem k_popD {α : Type} {P : V → α → Prop} {R H : Hp} {a : Addr} {vs : List V} {xs ys : List α} {y : α} {g : HO → List Cell} {Q : VK} (hl : H a = some (.lst vs)) (ha : All2 P vs xs) (hp : ∀ o', Own R (upd H a o') (g o')) (h : popL xs = some (y, ys)) (k : ∀ H' ws w, Own R H' (g (.lst ws)) → Q w H') : rPop (.ref a) [] H Q := by
  obtain ⟨e, rfl⟩ := popE h
  obtain ⟨w, w1, w2⟩ := ha.get e
  rw [← ha.len] at w1
  exact ⟨a, _, w, rfl, rfl, hl, w1, k _ _ w (hp _)⟩
theorem Ex.of_eq {A B C : Hp} (h : A = B) (e : Ex B C) : Ex A C := by subst h; exact e
/-! told slips: read and changed, one by one; which numbers they bear is not asked -/
abbrev SLt := List Int × Option (Int × List Int)
abbrev rSL : Rp SLt := rT2 (rL rI) (rO rIL)
def slB (B : Nat) (x : SLt) : Prop := ∃ f, x.2 = some f ∧ x.1.length ≤ B ∧ f.2.length ≤ B
def slOk (x : SLt) : Bool := match x.2 with
  | none => false
  | some f => decide (x.1.length ≤ 1000) && decide (f.2.length ≤ 1000)
def slG (xs : List SLt) : Option Unit := grd (xs.all slOk = true ∧ xs.length ≤ 100000) ()
theorem slOk_b {x : SLt} (h : slOk x = true) : slB 1000 x := by
  obtain ⟨l, f⟩ := x
  cases f with
  | none => cases h
  | some f =>
    have h' : (decide (l.length ≤ 1000) && decide (f.2.length ≤ 1000)) = true := h
    rw [Bool.and_eq_true, decide_eq_true_eq, decide_eq_true_eq] at h'
    exact ⟨f, rfl, h'.1, h'.2⟩
def SlR (Rs : Hp) (a : Addr) (vs : List V) (B : Nat) (R : Hp) : Prop :=
  Ex Rs R ∧ ovr hp0 Rs R a = some (.lst vs) ∧ ∀ v ∈ vs, ∃ x, rSL (ovr hp0 Rs R) v x ∧ slB B x
def SlJ (Rs : Hp) (L : List Cell) (a : Addr) (vs : List V) (n : Nat) (H : Hp) : Prop := ∃ B R, B + 2 * n ≤ 300000 ∧ Own R H L ∧ SlR Rs a vs B R
theorem mSL : Mono rSL := mT2 (mL mI) (mO (mT2 mI (mL mI)))
theorem SlR.mono {Rs R R' : Hp} {a : Addr} {vs : List V} {B : Nat} (e : Ex R R') (h : SlR Rs a vs B R) : SlR Rs a vs B R' :=
  ⟨h.1.trans e, ovr_mono e _ _ h.2.1, fun v hv => by
    obtain ⟨x, h1, h2⟩ := h.2.2 v hv
    exact ⟨x, mSL _ _ _ _ (ovr_mono e) h1, h2⟩⟩
theorem sl_start {Rs Hc R H : Hp} {L : List Cell} {a : Addr} {vs : List V} {xs : List SLt} {u : Unit} (O : Own R H L) (e : Ex Rs R) (hc : Ex Rs Hc) (h1 : ovr hp0 Hc R a = some (.lst vs)) (h2 : All2 (rSL (ovr hp0 Hc R)) vs xs) (hg : slG xs = some u) : SlJ Rs L a vs xs.length H := by
  obtain ⟨⟨g1, g2⟩, _⟩ := grdE hg
  have eF : Ex (ovr hp0 Hc R) (ovr hp0 Rs R) := ovr_fr (R0 := hp0) hc
  refine ⟨1000, R, by omega, O, e, eF _ _ h1, fun v hv => ?_⟩
  obtain ⟨x, hx, hr⟩ := h2.memL v hv
  exact ⟨x, mSL _ _ _ _ eF hr, slOk_b (List.all_eq_true.mp g1 x hx)⟩
theorem sl_poke {Rs R : Hp} {a q : Addr} {v0 : V} {vs : List V} {B : Nat} {ys : List Int} {c : Int} (h : SlR Rs a vs B R) (hm : v0 ∈ vs) (hq : ovr hp0 Rs R q = some (.lst (ys.map V.int))) (hl : ys.length ≤ B) : SlR Rs a vs (B + 1) (upd R q (.lst ((ys ++ [c]).map V.int))) := by
  obtain ⟨e, h1, h2⟩ := h
  have hz : Rs q = none := by
    obtain ⟨k, _⟩ := ovr_some hq
    rcases k with k | k
    · exact absurd rfl k
    · exact k
  have ha : a ≠ q := fun z => by
    subst z
    rw [hq] at h1
    have e1 : ys.map V.int = vs := HO.lst.inj (Option.some.inj h1)
    obtain ⟨x, ⟨p, _, _, r1, _⟩, _⟩ := h2 v0 hm
    rw [← e1] at hm
    obtain ⟨y, _, hy⟩ := List.mem_map.mp hm
    rw [← hy] at r1
    cases r1
  refine ⟨fun x o k => ?_, ?_, fun v hv => ?_⟩
  · rw [upd_ne (ne_of_none k hz)]
    exact e _ _ k
  · rw [ovr_upd hq, upd_ne ha]
    exact h1
  · obtain ⟨⟨l, o⟩, ⟨t, p, w, r1, r2, r3, r4⟩, f, rfl, b1, b2⟩ := h2 v hv
    obtain ⟨t2, nn, w2, s1, s2, s3, s4⟩ := r4
    obtain ⟨p1, j1, j2⟩ := fI r3
    obtain ⟨p2, k1, k2⟩ := fI s4
    subst s1
    have ht : t ≠ q := fun z => by
      subst z
      rw [r2] at hq
      cases hq
    have ht2 : t2 ≠ q := fun z => by
      subst z
      rw [s2] at hq
      cases hq
    have new : ∀ (x : Addr) (zs : List Int), ovr hp0 Rs R x = some (.lst (zs.map V.int)) → zs.length ≤ B → ∃ zs' : List Int, upd (ovr hp0 Rs R) q (.lst ((ys ++ [c]).map V.int)) x = some (.lst (zs'.map V.int)) ∧ zs'.length ≤ B + 1 := fun x zs hx hzs => by
      by_cases z : x = q
      · subst z
        exact ⟨ys ++ [c], upd_same, by simp; omega⟩
      · exact ⟨zs, by rw [upd_ne z]; exact hx, by omega⟩
    obtain ⟨l', m1, m2⟩ := new p1 _ j2 b1
    obtain ⟨f', n1, n2⟩ := new p2 _ k2 b2
    rw [ovr_upd hq]
    refine ⟨(l', some (f.1, f')), ⟨t, p, .ref t2, r1, by rw [upd_ne ht]; exact r2, ?_, ⟨t2, nn, w2, rfl, by rw [upd_ne ht2]; exact s2, s3, ?_⟩⟩, (f.1, f'), rfl, m2, n2⟩
    · rw [j1]; exact gI m1
    · rw [k1]; exact gI n1
theorem k_slapp {Rs R H : Hp} {L : List Cell} {a q : Addr} {v0 : V} {vs : List V} {B : Nat} {ys : List Int} {c : Int} {Q : VK} (O : Own R H L) (h : SlR Rs a vs B R) (hm : v0 ∈ vs) (hq : ovr hp0 Rs R q = some (.lst (ys.map V.int))) (hl : ys.length ≤ B) (hB : B ≤ 300000) (k : ∀ H' R', Own R' H' L → SlR Rs a vs (B + 1) R' → Q .non H') : rAppend (.ref q) [.int c] H Q := by
  have hR := ovr_ex _ _ hq
  refine ⟨q, _, _, rfl, rfl, O.ex _ _ hR, by rw [List.length_map]; show _ < 16777216; omega, ?_⟩
  rw [show (ys.map V.int) ++ [V.int c] = (ys ++ [c]).map V.int by simp]
  exact k _ _ (O.updR hR) (sl_poke h hm hq hl)
theorem q_forSl {α : Type} {K : PySem.W.Frag} {Rs H : Hp} {L : List Cell} {a : Addr} {vs : List V} {xs : List α} {j : Nat} {ts : TS} {n : St → Hp → Prop} {w : VK} {σ : St} (T : St → Prop) (hl : vs.length = xs.length) (hP : SlJ Rs L a vs xs.length H) (h0 : T σ)
    (hs : ∀ σ v m B R H, T σ → Own R H L → SlR Rs a vs B R → v ∈ vs → B + 2 * (m + 1) ≤ 300000 → ts (Ends.mk (fun σ H => T σ ∧ SlJ Rs L a vs m H) w n (fun σ H => T σ ∧ SlJ Rs L a vs m H)) (σ.set j (some v)) H)
    (hd : ∀ σ H, T σ → Own Rs H L → n σ H) :
    ∃ W : Nat → Nat → St → Hp → Prop, (∃ m, W 0 m σ H) ∧ ∀ i m σ H, W i m σ H →
      ((Itl K a).stop i H ∧ n σ H) ∨ ((Itl K a).go i H ∧ ∃ N : St → Hp → Prop, (∀ σ' H', N σ' H' → ∃ m', m' < m ∧ W (i + 1) m' σ' H') ∧ ∀ x H', (Itl K a).yld i H x H' → gName j x σ H' fun σ2 H2 => ts (Ends.mk N w n N) σ2 H2) := by
  refine q_forA (P := fun v (_ : α) => v ∈ vs) (b := fun _ _ => False) (k := fun _ _ => False) (xs := xs) (All2.of_get hl fun i x y e _ => List.mem_of_getElem? e) (fun r σ H => T σ ∧ SlJ Rs L a vs r.length H) ⟨h0, hP⟩ (fun r σ H h => ?_) (fun x v r σ H hv h => ?_) (fun σ H h => ?_)
  · obtain ⟨_, B, R, _, O, _, h1, _⟩ := h
    exact SqL.of (O.ex _ _ (ovr_ex _ _ h1))
  · obtain ⟨h0, B, R, h1, O, h2⟩ := h
    exact hs σ v r.length B R H h0 O h2 hv h1
  · obtain ⟨h0, B, R, h1, O, h2⟩ := h
    exact hd σ H h0 (O.shrink h2.1)
theorem slB.le {B C : Nat} {x : SLt} (h : slB B x) (k : B ≤ C) : slB C x := by
  obtain ⟨f, h1, h2, h3⟩ := h
  exact ⟨f, h1, Nat.le_trans h2 k, Nat.le_trans h3 k⟩
theorem SlR.at {Rs R : Hp} {a : Addr} {v : V} {vs : List V} {B : Nat} (h : SlR Rs a vs B R) (hm : v ∈ vs) : ∃ (l : List Int) (f : Int × List Int), rT2 (rL rI) rIL (ovr hp0 Rs R) v (l, f) ∧ l.length ≤ B ∧ f.2.length ≤ B := by
  obtain ⟨⟨l, o⟩, ⟨t, p, w, r1, r2, r3, r4⟩, f, e, b1, b2⟩ := h.2.2 v hm
  have e : o = some f := e
  subst e
  exact ⟨l, f, ⟨t, p, w, r1, r2, r3, r4⟩, b1, b2⟩
end Bt

set_option linter.all false
set_option maxRecDepth 100000
set_option maxHeartbeats 1000000
/-! Texts. -/
namespace Bt
open PySem L2
def sg (c : Nat) : Str := ⟨#[c]⟩
/-- the signs of a text -/
def sgs (z : Str) : List Str := z.cps.toList.map sg
def ixS (z : Str) (i : Int) : Option Str := bnd (grd (z.length ≤ 16777216) (sgs z)) fun l => atI l i
def slS (z : Str) (lo hi : Option Int) : Option Str := grd (z.length ≤ 16777216) (cutS z lo hi)
def addS (x y : Str) : Option Str := grd (x.length + y.length ≤ 16777216) (x ++ y)
def lenS (z : Str) : Option Int := grd (z.length ≤ 16777216) (z.length : Int)
def joinS (a : Str) (ys : List Str) : Option Str := grd ((ys.map (·.length)).sum + ys.length * a.length ≤ 16777216) (Txt.join a ys)
section
variable {K : PySem.W.Frag} {σ : St} {H R : Hp} {L : List Cell} {Q : VK} {i : Int} {x y z : Str} {lo hi : Option Int} {p : Addr} {ys : List Str} {n : Int}
theorem atI_map {α β : Type} {f : α → β} {xs : List α} {i : Int} {v : β} (h : atI (xs.map f) i = some v) : ∃ u, atI xs i = some u ∧ v = f u := by
  unfold atI at h ⊢
  rw [List.length_map] at h
  cases e : ixN xs.length i with
  | none => rw [e] at h; cases h
  | some j =>
    rw [e] at h
    have h : (xs.map f)[j]? = some v := h
    rw [List.getElem?_map] at h
    cases e2 : xs[j]? with
    | none => rw [e2] at h; cases h
    | some u =>
      rw [e2] at h
      exact ⟨u, e2, (Option.some.inj h).symm⟩
theorem k_ixS (h : ixS z i = some y) (k : Q (.str y) H) : rIxS (.str z) (.int i) H Q := by
  obtain ⟨l, h1, h2⟩ := bndE h
  obtain ⟨c, rfl⟩ := grdE h1
  obtain ⟨u, e1, rfl⟩ := atI_map h2
  exact ⟨z, i, u, rfl, rfl, c, e1, k⟩
theorem k_slS (h : slS z lo hi = some y) (k : Q (.str y) H) : rSlS (.str z) lo hi H Q := by
  obtain ⟨c, rfl⟩ := grdE h
  exact ⟨z, rfl, c, k⟩
def rAddZ : R2 := fun x y H Q => ∃ i j, x = .str i ∧ y = .str j ∧ i.length + j.length ≤ sizeLine ∧ Q (.str (i ++ j)) H
theorem op_addZ {X : Cx} : OpR X (binaryOp .Add) rAddZ := op_add_str
theorem k_addS (h : addS x y = some z) (k : Q (.str z) H) : rAddZ (.str x) (.str y) H Q := by
  obtain ⟨c, rfl⟩ := grdE h
  exact ⟨x, y, rfl, rfl, c, k⟩
def rLenZ : List V → Hp → VK → Prop := fun xs H Q => ∃ z : Str, xs = [.str z] ∧ z.length ≤ sizeLine ∧ Q (.int (z.length : Int)) H
theorem call_lenZ {X : Cx} : CallR X (.builtin "len") rLenZ := call_len_str
theorem n_lenZ (h : lenS z = some n) (k : Q (.int n) H) : rLenZ [.str z] H Q := by
  obtain ⟨c, rfl⟩ := grdE h
  exact ⟨z, rfl, c, k⟩
theorem o_m1 {to te : TE} {r : V → List V → Hp → VK → Prop} (h : to σ H fun x H1 => (∃ a, x = .str a) ∧ te σ H1 fun y H2 => r x [y] H2 Q) : tM1 r to te σ H Q := h
def rJoin (K : PySem.W.Frag) : V → List V → Hp → VK → Prop := fun x xs H Q => ∃ a p, ∃ ys : List Str, x = .str a ∧ xs = [.ref p] ∧ (SqL K H p (ys.map V.str) ∨ SqT K H p (ys.map V.str)) ∧ (ys.map (·.length)).sum + ys.length * a.length ≤ 16777216 ∧ Q (.str (Txt.join a ys)) H
theorem mt_joinZ {X : Cx} : MtR X "str.join" (rJoin X.K) := mt_join
theorem k_join (hs : SqL K H p (ys.map V.str)) (h : joinS x ys = some z) (k : Q (.str z) H) : rJoin K (.str x) [.ref p] H Q := by
  obtain ⟨c, rfl⟩ := grdE h
  exact ⟨x, p, ys, rfl, rfl, .inl hs, c, k⟩
theorem o_is {te : TE} {Rr : It → Hp → Prop} (h : te σ H fun v H1 => ∃ x, v = .str x ∧ Rr (Its x) H1) : iStr te σ H Rr := h
theorem q_forS {j : Nat} {z : Str} {ts : TS} {n b k : St → Hp → Prop} {w : VK} (J : List Str → St → Hp → Prop) (h0 : J (sgs z) σ H)
    (hs : ∀ x r σ H, J (x :: r) σ H → ts (Ends.mk (J r) w n (J r)) (σ.set j (some (.str x))) H) (hd : ∀ σ H, J [] σ H → n σ H) :
    ∃ W : Nat → Nat → St → Hp → Prop, (∃ m, W 0 m σ H) ∧ ∀ i m σ H, W i m σ H →
      ((Its z).stop i H ∧ n σ H) ∨ ((Its z).go i H ∧ ∃ N : St → Hp → Prop, (∀ σ' H', N σ' H' → ∃ m', m' < m ∧ W (i + 1) m' σ' H') ∧ ∀ x H', (Its z).yld i H x H' → gName j x σ H' fun σ2 H2 => ts (Ends.mk N w n N) σ2 H2) := by
  have hz : (sgs z).length = z.cps.size := by unfold sgs; simp
  refine ⟨fun i m σ H => m = z.cps.size - i ∧ i ≤ z.cps.size ∧ J ((sgs z).drop i) σ H, ⟨z.cps.size, by simp, Nat.zero_le _, h0⟩, ?_⟩
  rintro i m σ H ⟨rfl, hi, hJ⟩
  by_cases hlt : i < z.cps.size
  · have e : z.cps[i]? = some z.cps[i] := Array.getElem?_eq_getElem hlt
    have e2 : (sgs z).drop i = sg z.cps[i] :: (sgs z).drop (i + 1) := by
      rw [List.drop_eq_getElem_cons (by omega)]
      congr 1
      unfold sgs
      simp
    rw [e2] at hJ
    refine .inr ⟨hlt, J ((sgs z).drop (i + 1)), fun σ' H' hJ' => ⟨_, by omega, rfl, hlt, hJ'⟩, fun v H' hv => ?_⟩
    obtain ⟨rfl, c, hc, rfl⟩ := hv
    rw [e] at hc
    cases hc
    exact hs _ _ σ H' hJ
  · have : i = z.cps.size := by omega
    subst this
    rw [List.drop_of_length_le (by omega)] at hJ
    exact .inl ⟨Nat.le_refl _, hd σ H hJ⟩
def inS (x y : Str) : Bool := !(Builtin.Str.occurrences y x 0 y.length 1).isEmpty
def rInZ : R2 := fun x y H Q => ∃ i j, x = .str i ∧ y = .str j ∧ Q (.bl (inS i j)) H
theorem op_inZ {X : Cx} : OpR X (compareOp .In) rInZ := op_in_str
def rNiZ : R2 := fun x y H Q => ∃ i j, x = .str i ∧ y = .str j ∧ Q (.bl (!inS i j)) H
theorem op_niZ {X : Cx} : OpR X (compareOp .NotIn) rNiZ := op_notin_str
def strI (i : Int) : Option Str := grd (i.natAbs.log2 < 1920) (Str.ofString (toString i))
def rStrZ : List V → Hp → VK → Prop := fun xs H Q => ∃ i : Int, xs = [.int i] ∧ i.natAbs.log2 < 1920 ∧ Q (.str (Str.ofString (toString i))) H
theorem call_strZ {X : Cx} : CallR X (.type "str") rStrZ := call_str_int
theorem n_strZ (h : strI i = some z) (k : Q (.str z) H) : rStrZ [.int i] H Q := by
  obtain ⟨c, rfl⟩ := grdE h
  exact ⟨i, rfl, c, k⟩
def intS (z : Str) : Option Int := bnd (grd (z.length ≤ 640) ()) fun _ => intText? z
def rIntZ : List V → Hp → VK → Prop := fun xs H Q => ∃ (a : Str) (n : Int), xs = [.str a] ∧ PySem.intText? a = some n ∧ a.length ≤ 640 ∧ Q (.int n) H
theorem call_intZ {X : Cx} : CallR X (.type "int") rIntZ := call_int_str
theorem n_intZ (h : intS z = some n) (k : Q (.int n) H) : rIntZ [.str z] H Q := by
  obtain ⟨u, h1, h2⟩ := bndE h
  obtain ⟨c, _⟩ := grdE h1
  exact ⟨z, n, rfl, h2, c, k⟩
def zfS (z : Str) (i : Int) : Option Str := grd (PySem.PadOk i = true) (Txt.zfill z i)
def rZf : V → List V → Hp → VK → Prop := fun x xs H Q => ∃ (a : Str) (i : Int), x = .str a ∧ xs = [.int i] ∧ PySem.PadOk i = true ∧ Q (.str (Txt.zfill a i)) H
theorem mt_zfZ {X : Cx} : MtR X "str.zfill" rZf := mt_zfill
theorem k_zf (h : zfS x i = some z) (k : Q (.str z) H) : rZf (.str x) [.int i] H Q := by
  obtain ⟨c, rfl⟩ := grdE h
  exact ⟨x, i, rfl, rfl, c, k⟩
/-! range with a step -/
def rng3 (i j c : Int) : Option (List Int) := grd (0 < c ∧ c < 1000000 ∧ -(2 ^ 60) ≤ i ∧ i < 2 ^ 60 ∧ -(2 ^ 60) ≤ j ∧ j < 2 ^ 60) ((List.range (Builtin.Range.rangeSize i j c).toNat).map fun (k : Nat) => i + (k : Int) * c)
theorem rng3E {i j c : Int} {xs : List Int} (h : rng3 i j c = some xs) : RgC i j c (Builtin.Range.rangeSize i j c).toNat ∧ ((List.range (Builtin.Range.rangeSize i j c).toNat).map fun (k : Nat) => i + (k : Int) * c) = xs := by
  obtain ⟨⟨c0, c1, i0, i1, j0, j1⟩, rfl⟩ := grdE h
  have hs : 0 ≤ Builtin.Range.rangeSize i j c ∧ Builtin.Range.rangeSize i j c ≤ 2 ^ 62 := by
    unfold Builtin.Range.rangeSize
    rw [if_pos c0]
    split
    · rename_i hlt
      have h1 := Int.ediv_nonneg (show 0 ≤ j - i - 1 by omega) (show 0 ≤ c by omega)
      have h2 := Int.ediv_le_self c (show 0 ≤ j - i - 1 by omega)
      omega
    · omega
  refine ⟨⟨by omega, by omega, ?_, by omega⟩, rfl⟩
  unfold Builtin.Range.small
  generalize Builtin.Range.rangeSize i j c = z at hs
  simp only [Builtin.Range.rangeFitsLong, Bool.and_eq_true, Bool.or_eq_true, decide_eq_true_eq, beq_iff_eq, if_pos (show c > 0 from c0)]
  omega
theorem o_ir3 {tr : TA} {Rr : It → Hp → Prop} (h : tr σ H fun vs H1 => ∃ (i j c : Int) (n : Nat), vs = [.int i, .int j, .int c] ∧ RgC i j c n ∧ Rr (Itc i c n) H1) : iRng3 tr σ H Rr := h
theorem q_forC {j : Nat} {lo c : Int} {n : Nat} {ts : TS} {nx : St → Hp → Prop} {w : VK} (J : List Int → St → Hp → Prop) (h0 : J ((List.range n).map fun (i : Nat) => lo + (i : Int) * c) σ H)
    (hs : ∀ x r σ H, J (x :: r) σ H → ts (Ends.mk (J r) w nx (J r)) (σ.set j (some (.int x))) H) (hd : ∀ σ H, J [] σ H → nx σ H) :
    ∃ W : Nat → Nat → St → Hp → Prop, (∃ m, W 0 m σ H) ∧ ∀ i m σ H, W i m σ H →
      ((Itc lo c n).stop i H ∧ nx σ H) ∨ ((Itc lo c n).go i H ∧ ∃ N : St → Hp → Prop, (∀ σ' H', N σ' H' → ∃ m', m' < m ∧ W (i + 1) m' σ' H') ∧ ∀ x H', (Itc lo c n).yld i H x H' → gName j x σ H' fun σ2 H2 => ts (Ends.mk N w nx N) σ2 H2) := by
  have hz : ((List.range n).map fun (i : Nat) => lo + (i : Int) * c).length = n := by simp
  generalize hL : ((List.range n).map fun (i : Nat) => lo + (i : Int) * c) = L at h0 hz
  refine ⟨fun i m σ H => m = n - i ∧ i ≤ n ∧ J (L.drop i) σ H, ⟨n, by simp, Nat.zero_le _, h0⟩, ?_⟩
  rintro i m σ H ⟨rfl, hi, hJ⟩
  by_cases hlt : i < n
  · have e2 : L.drop i = (lo + (i : Int) * c) :: L.drop (i + 1) := by
      rw [List.drop_eq_getElem_cons (by omega)]
      congr 1
      subst hL
      simp
    rw [e2] at hJ
    refine .inr ⟨hlt, J (L.drop (i + 1)), fun σ' H' hJ' => ⟨_, by omega, rfl, hlt, hJ'⟩, fun v H' hv => ?_⟩
    obtain ⟨rfl, rfl⟩ := hv
    exact hs _ _ σ H' hJ
  · have : i = n := by omega
    subst this
    rw [List.drop_of_length_le (by omega)] at hJ
    exact .inl ⟨Nat.le_refl _, hd σ H hJ⟩
theorem k_inZ (q : Q (.bl (inS x y)) H) : rInZ (.str x) (.str y) H Q := ⟨x, y, rfl, rfl, q⟩
theorem k_niZ (q : Q (.bl (!inS x y)) H) : rNiZ (.str x) (.str y) H Q := ⟨x, y, rfl, rfl, q⟩
theorem gv_str {K : PySem.W.Frag} {h : Heap} {mg : Str → Option Value} {x s : Str} {t : Tok} (X : K.In h) (G : h.Ns mainGlobals mg) (a : PySem.W.nsIn K mainGlobals x = some (some (.str s t))) : Gv mg x (.str s) := ⟨_, PySem.W.mg_of X G a, _, rfl⟩
/-! text.index(sign), found -/
def idxS (x y : Str) : Option Int := match Builtin.Str.occurrences x y 0 x.length 1 with
  | i :: _ => some ((i : Nat) : Int)
  | [] => none
def rIndexZ : V → List V → Hp → VK → Prop := fun x xs H Q => ∃ a b i rest, x = .str a ∧ xs = [.str b] ∧ Builtin.Str.occurrences a b 0 a.length 1 = i :: rest ∧ Q (.int (i : Nat)) H
theorem mt_indexZ {X : Cx} : MtR X "str.index" rIndexZ := mt_sindex
theorem k_indexZ (h : idxS x y = some n) (k : Q (.int n) H) : rIndexZ (.str x) [.str y] H Q := by
  unfold idxS at h
  split at h
  · rename_i i r e
    cases h
    exact ⟨x, y, i, r, rfl, rfl, e, k⟩
  · cases h
/-! text * number -/
def repZ (x : Str) (n : Int) : Str := if n < 1 then Str.empty else if (n == 1 || x.length == 0) = true then x else ⟨(List.replicate n.toNat x.cps).foldl (· ++ ·) #[]⟩
def mulZ (x : Str) (n : Int) : Option Str := grd (0 ≤ n ∧ n ≤ 1000000 ∧ x.length * n.toNat ≤ 16777216 ∧ (repZ x n).length ≤ 16777216) (repZ x n)
def rMulZ : R2 := fun x y H Q => ∃ a n, x = .str a ∧ y = .int n ∧ 0 ≤ n ∧ n ≤ 1000000 ∧ a.length * n.toNat ≤ 16777216 ∧ (repZ a n).length ≤ 16777216 ∧ Q (.str (repZ a n)) H
theorem op_mulZ {X : Cx} : OpR X (binaryOp .Mult) rMulZ := by
  intro pins s σ H x y v u Q I rx ry h
  obtain ⟨a, n, rfl, rfl, h0, h1, h2, h3, q⟩ := h
  obtain ⟨t, rfl⟩ := rx
  obtain ⟨t', rfl⟩ := ry
  refine PySem.P.mul_str ?_ ?_ ?_ ?_
  · rw [decide_eq_false (by omega), decide_eq_false (by omega)]
    rfl
  · intro g1 g2 g3
    have e : (2 ^ 63 - 1 : Int) / n * n ≤ 2 ^ 63 - 1 := Int.ediv_mul_le _ (by omega)
    have e2 : ((a.length * n.toNat : Nat) : Int) = (a.length : Int) * n := by
      rw [Int.natCast_mul, Int.toNat_of_nonneg h0]
    have e3 : ((2 ^ 63 - 1 : Int) / n + 1) * n ≤ (a.length : Int) * n := Int.mul_le_mul_of_nonneg_right (by omega) h0
    have e4 : (2 ^ 63 - 1 : Int) < ((2 ^ 63 - 1 : Int) / n + 1) * n := by
      have := Int.lt_ediv_add_one_mul_self (2 ^ 63 - 1) (show 0 < n by omega)
      exact this
    omega
  · intro _ _
    unfold Builtin.Str.tooLong
    rw [sizeLine_eq]
    exact decide_eq_false (by omega)
  · unfold repZ at h3 q
    by_cases g1 : n < 1
    · rw [if_pos g1] at h3 q ⊢
      exact ⟨by decide, ⟨.str Str.empty, H, I.tok _, ⟨_, rfl⟩, q⟩⟩
    · rw [if_neg g1] at h3 q ⊢
      by_cases g2 : (n == 1 || a.length == 0) = true
      · rw [if_pos g2] at h3 q ⊢
        exact ⟨.str a, H, I, ⟨_, rfl⟩, q⟩
      · rw [if_neg g2] at h3 q ⊢
        exact ⟨h3, ⟨.str _, H, I.tok _, ⟨_, rfl⟩, q⟩⟩
theorem k_mulZ (h : mulZ x n = some z) (k : Q (.str z) H) : rMulZ (.str x) (.int n) H Q := by
  obtain ⟨⟨c1, c2, c3, c4⟩, rfl⟩ := grdE h
  exact ⟨x, n, rfl, rfl, c1, c2, c3, c4, k⟩
end
/-! xs.pop(i) -/
section
variable {α : Type} {f : α → V} {R H : Hp} {L : List Cell} {a : Addr} {xs ys : List α} {y : α} {i : Int} {Q : VK} {P : V → α → Prop} {vs : List V}
def popA (xs : List α) (i : Int) : Option (α × List α) := bnd (grd (xs.length ≤ 1000000000) ()) fun _ => bnd (ixN xs.length i) fun k => bnd xs[k]? fun y => some (y, xs.eraseIdx k)
def rPopI : V → List V → Hp → VK → Prop := fun x vs H Q => ∃ l xs i k y, x = .ref l ∧ vs = [.int i] ∧ H l = some (.lst xs) ∧ -(2 ^ 63) ≤ i ∧ i < 2 ^ 63 ∧ seqIndex? i xs.length = some k ∧ xs[k]? = some y ∧ Q y (upd H l (.lst (xs.eraseIdx k)))
theorem mt_popI {X : Cx} : MtM X "list.pop" rPopI := mt_popAt
theorem erase_map (f : α → V) : ∀ (xs : List α) (k : Nat), (xs.map f).eraseIdx k = (xs.eraseIdx k).map f
  | [], _ => rfl
  | _ :: _, 0 => rfl
  | x :: r, k + 1 => by
    show f x :: (r.map f).eraseIdx k = f x :: (r.eraseIdx k).map f
    rw [erase_map f r k]
theorem k_popI {g : HO → List Cell} (hl : H a = some (.lst (xs.map f))) (hp : ∀ o', Own R (upd H a o') (g o')) (h : popA xs i = some (y, ys)) (k : ∀ H', Own R H' (g (.lst (ys.map f))) → Q (f y) H') : rPopI (.ref a) [.int i] H Q := by
  obtain ⟨_, h1, h2⟩ := bndE h
  obtain ⟨c, _⟩ := grdE h1
  obtain ⟨j, h3, h4⟩ := bndE h2
  obtain ⟨z, h5, h6⟩ := bndE h4
  cases h6
  obtain ⟨s1, s2, s3, s4⟩ := ixN_seq h3
  refine ⟨a, _, i, j, f y, rfl, rfl, hl, by omega, by omega, by rw [List.length_map]; exact s1, by rw [List.getElem?_map, h5]; rfl, ?_⟩
  rw [erase_map]
  exact k _ (hp _)
end
end Bt

set_option linter.all false
set_option maxRecDepth 100000
set_option maxHeartbeats 1000000
/-! Lists that are handed to be changed, and lists of one's own lists. -/
namespace Bt
open PySem L2
section
variable {α : Type} {f : α → V} {F R R0 Hb H : Hp} {a : Addr} {L C : List Cell} {xs : List α}
/-- a list of plain things -/
def oRow (f : α → V) : Ob (List α) := fun _ a L xs => L = [(a, HO.lst (xs.map f))]
theorem moRow : MonoO (oRow f) := fun _ _ _ _ _ _ h => h
theorem oRow_mk : oRow f F a [(a, HO.lst (xs.map f))] xs := rfl
/-- a list of data that is to stay -/
def oRowD (P : Rp α) : Ob (List α) := fun F a L xs => ∃ vs, L = [(a, HO.lst vs)] ∧ All2 (P F) vs xs
theorem moRowD {P : Rp α} (m : Mono P) : MonoO (oRowD P) := fun _ _ _ _ _ e ⟨vs, h1, h2⟩ => ⟨vs, h1, mA m e h2⟩
theorem Own.frzAll : ∀ (L : List Cell) {R : Hp}, Own R H (L ++ C) → Ex Hb R → ∃ R', Own R' H C ∧ Ex R R' ∧ ∀ c ∈ L, ovr R0 Hb R' c.1 = some c.2
  | [], R, O, _ => ⟨R, O, Ex.refl _, fun _ h => nomatch h⟩
  | (p, o) :: r, R, O, e => by
    obtain ⟨R1, O1, e1, h1⟩ := Own.frzO (R0 := R0) O e
    obtain ⟨R2, O2, e2, h2⟩ := Own.frzAll r O1 (e.trans e1)
    refine ⟨R2, O2, e1.trans e2, fun c hc => ?_⟩
    rcases List.mem_cons.mp hc with rfl | hc
    · exact ovr_mono e2 _ _ h1
    · exact h2 c hc
theorem all_map {P : Rp α} (hP : ∀ F x, P F (f x) x) (G : Hp) : ∀ ys : List α, All2 (P G) (ys.map f) ys
  | [] => .nil
  | y :: r => .cons (hP G y) (all_map hP G r)
theorem rows_all {P : Rp α} (hP : ∀ F x, P F (f x) x) {G : Hp} {as : List Addr} {Ls : List (List Cell)} {xss : List (List α)} (h : All3 (oRow f F) as Ls xss) (hg : ∀ c ∈ Ls.flatten, G c.1 = some c.2) : All2 (rL P G) (as.map V.ref) xss := by
  induction h with
  | nil => exact .nil
  | @cons b L1 ys as Ls xss h t ih =>
    refine .cons ⟨b, ys.map f, rfl, ?_, ?_⟩ (ih fun c hc => hg c (by rw [List.flatten_cons]; exact List.mem_append_right _ hc))
    · have := hg (b, .lst (ys.map f)) (by rw [List.flatten_cons, show L1 = _ from h]; exact List.Mem.head _)
      exact this
    · exact all_map hP G ys
/-- laid in the frame -/
theorem Own.frzRows {P : Rp α} {xss : List (List α)} (hP : ∀ F x, P F (f x) x) (O : Own R H (L ++ C)) (h : oLs (oRow f) F a L xss) (e : Ex Hb R) : ∃ R', Own R' H C ∧ Ex R R' ∧ rL (rL P) (ovr R0 Hb R') (.ref a) xss := by
  obtain ⟨as, Ls, hp, h3⟩ := h
  obtain ⟨R', O', e1, h1⟩ := Own.frzAll (R0 := R0) L O e
  have hm : ∀ c ∈ (a, HO.lst (as.map V.ref)) :: Ls.flatten, ovr R0 Hb R' c.1 = some c.2 := fun c hc => h1 c (hp.mem_iff.mpr hc)
  exact ⟨R', O', e1, a, as.map V.ref, rfl, hm _ (List.Mem.head _), rows_all hP h3 fun c hc => hm c (List.Mem.tail _ hc)⟩
end
/-! fields that may be None -/
section
variable {α : Type} {f : α → V} {P : Rp α} {F : Hp} {v : V} {m : Option α}
def ov (f : α → V) : Option α → V
  | none => .non
  | some x => f x
theorem ov_r (hP : ∀ F x, P F (f x) x) : rO P F (ov f m) m := by
  cases m with
  | none => rfl
  | some x => exact hP F x
theorem rO_ov (hP : ∀ F v x, P F v x → v = f x) (h : rO P F v m) : v = ov f m := by
  cases m with
  | none => exact h
  | some x => exact hP F v x h
end
/-! a tuple's slice -/
section
variable {K : PySem.W.Frag} {R H : Hp} {L : List Cell} {a : Addr} {xs : List V} {lo hi : Option Int} {Q : VK}
theorem k_cutT (O : Own R H L) (h : H a = some (.tup xs)) (c : ¬ (HT.sIx xs.length 0 lo = 0 ∧ HT.sIx xs.length xs.length hi = xs.length)) (k : ∀ p H', Own R H' ((p, .tup (cutV xs lo hi)) :: L) → Q (.ref p) H') : rSlT K (.ref a) lo hi H Q :=
  ⟨a, xs, rfl, SqT.of h, c, fun p hp => k p _ (O.new hp)⟩
end
/-! o.m(e, ..) in a try's suite -/
section
variable {X : Cx} {CX : CXT} {k : Nat} {f C : Addr} {fd : FuncData} {ps : List Str} {sp : Sp} {E : L2.St → XK} {m : Str} {pos apos : Pos} {e o : Expr} {es : List Expr} {ta : TE} {t : TA}
def tMethE (C : Addr) (m : Str) (sp : Sp) (E : L2.St → XK) (ta : TE) (t : TA) : TE := fun σ H Q => ta σ H fun x H1 => ∃ a dx fs, x = .ref a ∧ H1 a = some (.ins C dx fs) ∧ fs.lookup m = none ∧ t σ H1 fun vs H2 => sp (x :: vs) H2 Q (E σ)
theorem o_methE {σ : L2.St} {H : Hp} {Q : VK} (h : ta σ H fun x H1 => ∃ a dx fs, x = .ref a ∧ H1 a = some (.ins C dx fs) ∧ fs.lookup m = none ∧ t σ H1 fun vs H2 => sp (x :: vs) H2 Q (E σ)) : tMethE C m sp E ta t σ H Q := h
def tMakeE (C : Addr) (sp : Sp) (dvs : List V) (E : L2.St → XK) (t : TA) : TE := fun σ H Q => t σ H fun vs H1 => ∀ x dx, H1 x = none → H1 dx = none → dx ≠ x → sp (.ref x :: (vs ++ dvs)) (upd (upd H1 dx (.own x)) x (.ins C dx [])) (fun v H2 => v = .non ∧ Q (.ref x) H2) (E σ)
theorem o_makeE {dvs : List V} {σ : L2.St} {H : Hp} {Q : VK} (h : t σ H fun vs H1 => ∀ x dx, H1 x = none → H1 dx = none → dx ≠ x → sp (.ref x :: (vs ++ dvs)) (upd (upd H1 dx (.own x)) x (.ins C dx [])) (fun v H2 => v = .non ∧ Q (.ref x) H2) (E σ)) : tMakeE C sp dvs E t σ H Q := h
theorem pe_makeE {x : Str} {p : Pos} {dvs : List V} {ds : List Value} (M : Mk X.K C f) (F : FnOk X.prog X.w X.K X.mg X.base CX k f fd ps sp) (hr : Room (k + 1) X.A) (hg : Gl X x) (hm : X.mg x = some (.ref C)) (hb : Binds X.K fd ps ds) (hd : Vals dvs ds) (hx : ∀ σ, PassesAt CX X σ (E σ))
    (ha : PA X (e :: es) t) (hdb : (x == ("__debug__" : Str)) = false := by decide) (he : starEach (e :: es) X.env = (false, eval e X.env) :: starEach es X.env := by rfl) (hpl : (backTo pos (starEach es X.env)).any (·.1) = false := by rfl) :
    PE X (.Call (.Name x p) (e :: es) [] pos) (tMakeE C sp dvs E t) := by
  refine ⟨fun pins s σ H Q I h => ?_⟩
  refine wpAny_Call_Name_kw (ld_glob I hg hm ?_ hdb)
  refine PySem.W.callWith_K (h₀ := X.base) I.ok.mod.kin M.kp (thn (ha.run pos pins s σ H _ I h) fun us s1 ⟨vs, H1, I1, r, q⟩ => ⟨I1.kIn, ?_⟩) he hpl
  have hq := q (s1.heap.objs.size + 1) s1.heap.objs.size (I1.hok.fresh (Nat.le_succ _)) (I1.hok.fresh (Nat.le_refl _)) (Nat.ne_of_lt (Nat.lt_succ_self _))
  have I2 := Inv.made (C := C) I1
  have r2 : Vals (V.ref (s1.heap.objs.size + 1) :: (vs ++ dvs)) (Value.ref (s1.heap.objs.size + 1) :: (us ++ ds)) := .cons rfl (r.append hd)
  have hl : (Value.ref (s1.heap.objs.size + 1) :: us ++ ds).length = ps.length := by
    have e := r2.length
    rw [F.len _ _ _ _ hq] at e
    exact e.symm
  refine wpAny_call (make_map (f := f) I1.kIn M.makes M.init (beq_iff_eq.mp M.fn) (codeAny_mono (F.run _ X.stack _ _ ⟨Value.ref (s1.heap.objs.size + 1) :: us, []⟩ (Value.ref (s1.heap.objs.size + 1) :: (us ++ ds)) _ _ (E σ) (hr.make C us [])
    (I2.env0.make C us []) (hb _ (Value.ref (s1.heap.objs.size + 1) :: us) I2.kIn hl) r2 hq) fun r s' hq' => ?_))
  cases r with
  | error e => exact hx σ pins _ _ e s' I2 hq'
  | ok fl =>
    cases fl with
    | ret u =>
      obtain ⟨v, H', I3, rv, ev, q3⟩ := I2.after hq'
      subst ev
      exact ⟨rv, ⟨V.ref (s1.heap.objs.size + 1), H', I3, rfl, q3⟩⟩
    | next => exact False.elim hq'
    | brk => exact False.elim hq'
    | cont => exact False.elim hq'
theorem pe_methE {pl : Sem Bool} (he : PE X o ta) (c : Cls X.K C) (hm : Meth X.K C m f) (F : FnOk X.prog X.w X.K X.mg X.base CX k f fd ps sp) (hr : Room k X.A) (hb : Binds X.K fd ps []) (hx : ∀ σ, PassesAt CX X σ (E σ)) (ha : PA X (e :: es) t)
    (hst : starEach (e :: es) X.env = (false, eval e X.env) :: starEach es X.env := by rfl) (hpl : (backTo pos (starEach es X.env)).any (·.1) = false := by rfl)
    (ht : eval (.Call (.Attribute o m apos) (e :: es) [] pos) X.env = (do
      let ov ← eval o X.env
      standAt apos.atName
      let (f, first) ← holding [ov] (getMethod ov m pl)
      callWith pos f first (backTo pos (starEach (e :: es) X.env)) (backToKw pos (keywordEach [] X.env))) := by rfl) :
    PE X (.Call (.Attribute o m apos) (e :: es) [] pos) (tMethE C m sp E ta t) := by
  refine ⟨fun pins s σ H Q I h => ?_⟩
  refine PySem.W.methodCall_KW (pl := pl) (thn (he.run pins s σ H _ I h) fun u s1 ⟨x, H1, I1, rx, a, dx, fs, ex, ea, l, q⟩ => ?_) ht
  subst ex
  obtain rfl : u = Value.ref a := rx
  refine getmeth_ok I1 ea c hm l ?_
  refine PySem.W.callWith_K (first := [.ref a]) (h₀ := X.base) I.ok.mod.kin hm.kp (thn (ha.run pos pins s1 σ H1 _ I1 q) fun us s2 ⟨vs, H2, I2, r, q2⟩ => ⟨I2.kIn, ?_⟩) hst hpl
  exact run_fnS (us := .ref a :: us) (vs := .ref a :: vs) F hr hb (hx σ) I2 (.cons rfl r) q2
end
/-! a, b = x, y -/
theorem o_par {i j : Nat} {ta : TA} {n b k : L2.St → Hp → Prop} {w : VK} {σ : L2.St} {H : Hp} (h : ta σ H fun vs H1 => ∃ x y, vs = [x, y] ∧ n ((σ.set i (some x)).set j (some y)) H1) : tPar i j ta (Ends.mk n w b k) σ H := h
/-! a list of data that is to stay, repeated -/
section
variable {α : Type} {P : V → α → Prop} {vs : List V} {xs zs : List α} {k : Int} {R H : Hp} {L : List Cell} {a : Addr} {Q : VK}
theorem All2.rep (h : All2 P vs xs) : ∀ n : Nat, All2 P (List.replicate n vs).flatten (List.replicate n xs).flatten
  | 0 => .nil
  | n + 1 => by
    rw [List.replicate_succ, List.replicate_succ, List.flatten_cons, List.flatten_cons]
    exact h.app (All2.rep h n)
theorem k_repA (O : Own R H L) (h1 : H a = some (.lst vs)) (ha : All2 P vs xs) (h : repG xs k = some zs) (q : ∀ p H' ws, Own R H' ((p, .lst ws) :: L) → All2 P ws zs → Q (.ref p) H') : rRep (.ref a) (.int k) H Q := by
  obtain ⟨⟨c1, c2, c3⟩, rfl⟩ := grdE h
  exact ⟨a, k, vs, rfl, rfl, h1, c1, c2, by rw [ha.len]; exact c3, fun p hp => q p _ _ (O.new hp) (ha.rep _)⟩
end
/-! a list of data, each seen as one of several kinds -/
theorem All2.mapR {α β : Type} {P : V → α → Prop} {P' : V → β → Prop} {g : α → β} (h : ∀ v x, P v x → P' v (g x)) {vs : List V} {xs : List α} (k : All2 P vs xs) : All2 P' vs (xs.map g) := by
  induction k with
  | nil => exact .nil
  | cons a _ ih => exact .cons (h _ _ a) ih
theorem rL_map {α β : Type} {P : Rp α} {P' : Rp β} {F : Hp} {g : α → β} (h : ∀ F v x, P F v x → P' F v (g x)) {v : V} {xs : List α} (k : rL P F v xs) : rL P' F v (xs.map g) := by
  obtain ⟨p, vs, e, h1, h2⟩ := k
  exact ⟨p, vs, e, h1, h2.mapR (h F)⟩
/-! a and b, where b changes what is read no more -/
theorem x_andVJ2 {c d e : Bool} {tt uu : TE} {σ : L2.St} {H : Hp} {Q : VK} (J J2 : Hp → Prop) (hJ : ∀ H', J H' → J2 H') (h1 : ∀ Q1 : VK, (∀ H', J H' → Q1 (.bl c) H') → tt σ H Q1) (h2 : c = true → e = d ∧ ∀ H', J H' → ∀ Q2 : VK, (∀ H'', J2 H'' → Q2 (.bl e) H'') → uu σ H' Q2)
    (h3 : c = false → false = d) (k : ∀ H', J2 H' → Q (.bl d) H') : tAndV tt uu σ H Q := by
  refine h1 _ fun H' O' => ⟨_, rfl, ?_⟩
  cases c with
  | true =>
    obtain ⟨e1, g2⟩ := h2 rfl
    subst e1
    exact g2 H' O' Q k
  | false =>
    rw [← h3 rfl] at k
    exact k H' (hJ H' O')
end Bt

set_option linter.all false
set_option maxRecDepth 100000
set_option maxHeartbeats 1000000
/-! sorted, len(set(..)), the order of (int, list). -/
namespace Bt
open PySem L2
/-! len(set(xs)) -/
def setL (xs : List Int) : List Int := xs.foldl PyProof.Rows.step_dedup []
theorem firstMet_all : ∀ (xs : List Int), PyProof.Rows.firstMet (fun j => xs.getD j 0) xs.length = setL xs := fun xs => by
  unfold PyProof.Rows.firstMet setL
  congr 1
  refine List.ext_getElem? fun i => ?_
  rw [List.getElem?_map]
  by_cases h : i < xs.length
  · rw [List.getElem?_range h, List.getElem?_eq_getElem h]
    simp [List.getD_eq_getElem?_getD, h]
  · rw [List.getElem?_eq_none (by simpa using h), List.getElem?_eq_none (by simpa using h)]
    rfl
def lenSet (xs : List Int) : Option Int := grd (xs.length ≤ 4000) ((setL xs).length : Int)
open PySem.Spec PyProof.Rows RZ in
def rLset (K : PySem.W.Frag) (x : V) (H1 : Hp) (Q : VK) : Prop := ∃ (l : Addr) (ns : List Int), x = .ref l ∧ SqL K H1 l (ns.map V.int) ∧ ns.length ≤ 4000 ∧ Q (.int ((setL ns).length : Nat)) H1
def tLenSetN (K : PySem.W.Frag) (ta : TE) : TE := fun σ H Q => ta σ H fun x H1 => rLset K x H1 Q
open PySem.Spec PyProof.Rows RZ in
theorem pe_lenSetN {X : Cx} {a : Expr} {ta : TE} {p p2 q pos : Pos} (hg : Gl X "len") (hm : X.mg "len" = none) (hg2 : Gl X "set") (hm2 : X.mg "set" = none) (ha : PE X a ta) (hc : X.calm = true := by rfl)
    (na : starEach [a] X.env = (false, eval a X.env) :: starEach [] X.env := by rfl) : PE X (.Call (.Name "len" p) [.Call (.Name "set" p2) [a] [] q] [] pos) (tLenSetN X.K ta) := by
  refine ⟨fun pins s σ H Q I h => ?_⟩
  refine PyProof.Rows.Call_ (ld_blt I hg hm boot_len ?_)
  refine PyProof.Rows.callWith_builtin1 (PyProof.Rows.args_cons ?_ rfl) rfl rfl
  refine PyProof.Rows.Call_ (ld_blt I hg2 hm2 boot_set ?_)
  refine PyProof.Rows.callWith_type1 (PyProof.Rows.args_cons (thn (ha.run pins s σ H _ I h) fun v s1 ⟨x, H1, I1, r1, q1⟩ => PyProof.Rows.args_nil ?_) na) na rfl
  obtain ⟨l, ns, rfl, hq, hl, q1⟩ := q1
  cases r1
  obtain ⟨its, r, pl, hz⟩ := I1.list hq
  have hlen : its.toArray.size = ns.length := by rw [List.size_toArray, ← r.length, List.length_map]
  refine call_set_list (I1.ok.hd hc) pl.isList (by simpa using intsAre_vals r) (by rw [hlen]; unfold scanBound; omega) fun h' tk hS hk => ?_
  refine PyProof.Rows.args_nil ?_
  rw [hlen, firstMet_all] at hS
  have hsz : (setL ns).length ≤ ns.length := by rw [← firstMet_all]; exact PyProof.Rows.firstMet_length_le _ _
  obtain ⟨o, es, ep, t, ho, hex, hd, _, _, _, hf, hn⟩ := hS
  have I2 : Inv X pins σ H1 { s1 with heap := h', toks := tk } := I1.kept fun b o e => hk b o (Heap.lt_size e) e
  exact call_len_set ho hex hd hf (by rw [hn] <;> omega) ⟨.int (setL ns).length, H1, I2.tok _, ⟨_, by rw [hn]⟩, q1⟩
section
variable {K : PySem.W.Frag} {H R : Hp} {L : List Cell} {Q : VK} {a : Addr} {xs : List Int} {n : Int} {ta : TE} {σ : L2.St}
theorem o_lset (h : ta σ H fun x H1 => rLset K x H1 Q) : tLenSetN K ta σ H Q := h
theorem k_lset (hs : SqL K H a (xs.map V.int)) (h : lenSet xs = some n) (q : Q (.int n) H) : rLset K (.ref a) H Q := by
  obtain ⟨c, rfl⟩ := grdE h
  exact ⟨a, xs, rfl, hs, c, q⟩
end
/-! sorted(xs) -/
def insI (x : Int) : List Int → List Int
  | [] => [x]
  | y :: r => if x ≤ y then x :: y :: r else y :: insI x r
def srtI : List Int → List Int
  | [] => []
  | x :: r => insI x (srtI r)
theorem insI_perm (x : Int) : ∀ r : List Int, (insI x r).Perm (x :: r)
  | [] => List.Perm.refl _
  | y :: r => by
    unfold insI
    split
    · exact List.Perm.refl _
    · exact ((insI_perm x r).cons y).trans (List.Perm.swap x y r)
theorem srtI_perm : ∀ r : List Int, (srtI r).Perm r
  | [] => List.Perm.refl _
  | x :: r => (insI_perm x _).trans ((srtI_perm r).cons x)
theorem insI_srt (x : Int) : ∀ {r : List Int}, r.Pairwise (· ≤ ·) → (insI x r).Pairwise (· ≤ ·)
  | [], _ => by simp [insI]
  | y :: r, h => by
    obtain ⟨h1, h2⟩ := List.pairwise_cons.mp h
    unfold insI
    split
    · rename_i c
      refine List.pairwise_cons.mpr ⟨fun z hz => ?_, h⟩
      rcases List.mem_cons.mp hz with rfl | hz
      · exact c
      · exact Int.le_trans c (h1 z hz)
    · rename_i c
      refine List.pairwise_cons.mpr ⟨fun z hz => ?_, insI_srt x h2⟩
      rcases List.mem_cons.mp ((insI_perm x r).mem_iff.mp hz) with rfl | hz
      · omega
      · exact h1 z hz
theorem srtI_srt : ∀ r : List Int, (srtI r).Pairwise (· ≤ ·)
  | [] => List.Pairwise.nil
  | x :: r => insI_srt x (srtI_srt r)
theorem srt_uniq : ∀ {xs ys : List Int}, xs.Perm ys → xs.Pairwise (· ≤ ·) → ys.Pairwise (· ≤ ·) → xs = ys
  | [], ys, p, _, _ => (List.nil_perm.mp p).symm
  | x :: xs, [], p, _, _ => absurd (List.perm_nil.mp p) (by simp)
  | x :: xs, y :: ys, p, hx, hy => by
    obtain ⟨hx1, hx2⟩ := List.pairwise_cons.mp hx
    obtain ⟨hy1, hy2⟩ := List.pairwise_cons.mp hy
    have e : x = y := by
      have m1 : x ∈ y :: ys := p.mem_iff.mp (List.Mem.head _)
      have m2 : y ∈ x :: xs := p.mem_iff.mpr (List.Mem.head _)
      rcases List.mem_cons.mp m1 with e | m1
      · exact e
      · rcases List.mem_cons.mp m2 with e | m2
        · exact e.symm
        · have := hx1 y m2
          have := hy1 x m1
          omega
    subst e
    rw [srt_uniq (List.Perm.cons_inv p) hx2 hy2]
section
variable {K : PySem.W.Frag} {H R : Hp} {L : List Cell} {Q : VK} {a : Addr} {xs : List Int}
theorem k_sorted (O : Own R H L) (hs : SqL K H a (xs.map V.int)) (k : ∀ p H', Own R H' ((p, .lst ((srtI xs).map V.int)) :: L) → Q (.ref p) H') : rSortedI K [.ref a] H Q :=
  ⟨a, xs, rfl, hs, fun ns' p h1 h2 hp => by
    have e : ns' = srtI xs := srt_uniq (h1.trans (srtI_perm xs).symm) h2 (srtI_srt xs)
    subst e
    exact k p _ (O.new hp)⟩
end
/-! (int, list of ints) >= such -/
def ltIs : List Int → List Int → Bool
  | [], [] => false
  | [], _ :: _ => true
  | _ :: _, [] => false
  | x :: xs, y :: ys => if x = y then ltIs xs ys else decide (x < y)
def ltIL (x y : Int × List Int) : Bool := if x.1 = y.1 then ltIs x.2 y.2 else decide (x.1 < y.1)
open PySem.W PySem.SeqAt in
theorem alike_ints : ∀ xs ys : List Int, alikeAll (xs.map PyData.int) (ys.map PyData.int) = true
  | [], _ => by simp [alikeAll]
  | _ :: _, [] => by simp [alikeAll]
  | x :: xs, y :: ys => by simp only [List.map_cons, alikeAll, alike, alike_ints xs ys, Bool.and_self]
open PySem.W PySem.SeqAt in
theorem lt_ints : ∀ xs ys : List Int, dataLt (.list (xs.map PyData.int)) (.list (ys.map PyData.int)) = ltIs xs ys
  | [], [] => by rw [dataLt_list]; rfl
  | [], y :: ys => by rw [dataLt_list]; rfl
  | x :: xs, [] => by rw [dataLt_list]; rfl
  | x :: xs, y :: ys => by
    have ih := lt_ints xs ys
    rw [dataLt_list] at ih ⊢
    rw [List.map_cons, List.map_cons]
    by_cases h : x = y
    · rw [dataLt_all_yes (by simp [alike]) (by simp [PyData.eqv, h]), ih]
      show _ = if x = y then _ else _
      rw [if_pos h]
    · rw [dataLt_all_no (by simp [alike]) (by simpa [PyData.eqv] using h), dataLt_int]
      show _ = if x = y then _ else _
      rw [if_neg h]
open PySem.W PySem.SeqAt in
theorem lt_il (x y : Int × List Int) : dataLt ((deT2 deI (deL deI)).d x) ((deT2 deI (deL deI)).d y) = ltIL x y := by
  obtain ⟨i, xs⟩ := x
  obtain ⟨j, ys⟩ := y
  show dataLt (.tuple [.int i, .list (xs.map PyData.int)]) (.tuple [.int j, .list (ys.map PyData.int)]) = _
  rw [dataLt_tuple]
  show _ = if i = j then ltIs xs ys else decide (i < j)
  by_cases h : i = j
  · rw [dataLt_all_yes (by simp [alike]) (by simp [PyData.eqv, h]), if_pos h]
    by_cases h2 : xs = ys
    · subst h2
      rw [dataLt_all_yes (by simp only [alike]; exact alike_ints _ _) (by simp only [PyData.eqv]; rw [show PyData.eqvAll (xs.map PyData.int) (xs.map PyData.int) = decide (xs = xs) from eq_all deI xs xs]; simp)]
      have e : ltIs xs xs = false := by
        induction xs with
        | nil => rfl
        | cons a r ih => show (if a = a then ltIs r r else _) = false; rw [if_pos rfl]; exact ih
      rw [e]
      rfl
    · rw [dataLt_all_no (by simp only [alike]; exact alike_ints _ _) (by simp only [PyData.eqv]; rw [show PyData.eqvAll (xs.map PyData.int) (ys.map PyData.int) = decide (xs = ys) from eq_all deI xs ys]; simpa using h2), lt_ints]
  · rw [dataLt_all_no (by simp [alike]) (by simpa [PyData.eqv] using h), dataLt_int, if_neg h]
def rGeIL (K : PySem.W.Frag) : R2 := fun x y H Q => ∃ d e : Int × List Int, rT2 rI (rL rI) H x d ∧ rT2 rI (rL rI) H y e ∧ Q (.bl (!ltIL d e)) H
theorem k_geIL {K : PySem.W.Frag} {H : Hp} {Q : VK} {x y : V} {d e : Int × List Int} (h1 : rT2 rI (rL rI) H x d) (h2 : rT2 rI (rL rI) H y e) (q : Q (.bl (!ltIL d e)) H) : rGeIL K x y H Q := ⟨d, e, h1, h2, q⟩
open PySem.W PySem.SeqAt in
theorem op_geIL {X : Cx} (hu : X.A.units + 65 < cLine) : OpR X (compareOp .GtE) (rGeIL X.K) := by
  intro pins s σ H x y v u Q I rx ry h
  obtain ⟨d, e, h1, h2, q⟩ := h
  obtain ⟨as, r1⟩ := Dp.reads I _ x v ((deT2 deI (deL deI)).dp X.K H x d h1) rx
  obtain ⟨bs, r2⟩ := Dp.reads I _ y u ((deT2 deI (deL deI)).dp X.K H y e h2) ry
  have hd := (deT2 deI (deL deI)).dep d
  have hn : (deT2 deI (deL deI)).n = 2 := rfl
  rw [hn] at hd
  refine PySem.W.ge_data r1 r2 ?_ ?_ ?_ ⟨.bl _, H, I, rfl, ?_⟩
  · obtain ⟨i, xs⟩ := d
    obtain ⟨j, ys⟩ := e
    show alike (.tuple [.int i, .list (xs.map PyData.int)]) (.tuple [.int j, .list (ys.map PyData.int)]) = true
    simp only [alike, alikeAll, alike_ints, Bool.and_self]
  · obtain ⟨i, xs⟩ := d
    intro z
    cases z
  · omega
  · rw [lt_il]
    exact q
end Bt

set_option linter.all false
set_option maxRecDepth 100000
set_option maxHeartbeats 1000000
/-! Posts: a tuple that holds an object, the base's own __init__, constants that are tuples, five things in a tuple. -/
namespace Bt
open PySem L2
section
variable {α β : Type} {f : α → V} {o : Ob β}
/-- (a plain thing, an object) -/
def oTS (f : α → V) (o : Ob β) : Ob (α × β) := fun F a L x => ∃ b Lb, L = (a, HO.tup [f x.1, .ref b]) :: Lb ∧ o F b Lb x.2
theorem moTS (m : MonoO o) : MonoO (oTS f o) := fun _ _ _ _ _ e ⟨b, Lb, h1, h2⟩ => ⟨b, Lb, h1, m _ _ _ _ _ e h2⟩
end
/-- a method, as it is found in its class -/
structure MF (K : PySem.W.Frag) (C q : Addr) (nm qual : Str) (st : Stmt) : Prop where
  at_ : PySem.W.findIn K (.ref C) nm = some (some (.ref q))
  fi : PySem.W.isFn K (.ref q) = true
  lo : ∃ oc od kV doc pm an cdv ct osl, K.lookup q = some ⟨oc, od, .func (PySem.W.fnOf nm qual (defArgs st) (defBody st) (defScope st) .none kV doc pm an cdv ct), osl⟩ ∧ PySem.W.codeIn K cdv qual = true
  ik : PySem.W.keepIn K (.ref q) = true
theorem MF.fn {K : PySem.W.Frag} {C q : Addr} {nm qual : Str} {st : Stmt} (m : MF K C q nm qual st) : ∃ fd, Fun K nm qual st q fd := by
  obtain ⟨oc, od, kV, doc, pm, an, cdv, ct, osl, h1, h2⟩ := m.lo
  exact ⟨_, fun_mk h1 h2 m.ik⟩
/-- a class as the base of another one: its __init__ read off the class -/
structure ClB (K : PySem.W.Frag) (R f : Addr) : Prop where
  ga : PySem.W.specialIn K (.ref R) "__getattribute__" = some (some (.builtin "type.__getattribute__"))
  rd : PySem.W.readsIn K R (.type "type") = true
  at_ : PySem.W.findCls K (.ref R) (.type "type") "__init__" = some (.val (.ref f))
  kp : PySem.W.keepIn K (.ref f) = true
section
variable {X : Cx} {CX : CXT} {k : Nat} {f R : Addr} {fd : FuncData} {ps : List Str} {sp : Sp} {E : XK} {x : Str} {p1 p2 pos : Pos} {e : Expr} {es : List Expr} {ta : TA} {pl : Sem Bool}
theorem pe_base (hm : X.mg x = some (.ref R)) (B : ClB X.K R f) (F : FnOk X.prog X.w X.K X.mg X.base CX k f fd ps sp) (hr : Room k X.A) (hb : Binds X.K fd ps []) (hx : Passes CX X E) (ha : PA X (e :: es) ta) (hg : Gl X x := by rfl)
    (hc : eval (.Call (.Attribute (.Name x p1) "__init__" p2) (e :: es) [] pos) X.env = (do
      let ov ← eval (.Name x p1) X.env
      standAt p2.atName
      let (f, first) ← holding [ov] (getMethod ov "__init__" pl)
      callWith pos f first (backTo pos (starEach (e :: es) X.env)) (backToKw pos (keywordEach [] X.env))) := by rfl)
    (hdb : (x == ("__debug__" : Str)) = false := by decide)
    (he : starEach (e :: es) X.env = (false, eval e X.env) :: starEach es X.env := by rfl) (hpl : (backTo pos (starEach es X.env)).any (·.1) = false := by rfl) :
    PE X (.Call (.Attribute (.Name x p1) "__init__" p2) (e :: es) [] pos) (tCall sp [] E ta) := by
  refine ⟨fun pins s σ H Q I h => ?_⟩
  refine PySem.W.methodCall_KW (ld_glob I hg hm ?_ hdb) hc
  refine PySem.W.method_cls I.kIn B.ga (PySem.W.cls_value I.kIn B.rd B.at_ rfl ?_)
  refine PySem.W.callWith_K (h₀ := X.base) I.ok.mod.kin B.kp (thn (ha.run pos pins _ σ H _ (I.tok _) h) fun us s1 ⟨vs, H1, I1, r, q⟩ => ⟨I1.kIn, ?_⟩) he hpl
  exact run_fn (us := us) (vs := vs) F hr hb .nil hx I1 r q
end
/-! a constant of the module that is a tuple of whole numbers -/
theorem gv_tup {K : PySem.W.Frag} {h : Heap} {mg : Str → Option Value} {x : Str} {A : Addr} {od : Option Addr} {its : Array Value} {n : Nat} {sl : Array (Option Value)} {ns : List Int} (X : K.In h) (G : h.Ns mainGlobals mg)
    (a : PySem.W.nsIn K mainGlobals x = some (some (.ref A))) (l : K.lookup A = some ⟨.type "tuple", od, .seq its n, sl⟩) (s : its.size ≤ sizeLine) (v : Vals (ns.map V.int) its.toList) : ∃ a, Gv mg x (.ref a) ∧ ∀ H, SqT K H a (ns.map V.int) :=
  ⟨A, ⟨_, PySem.W.mg_of X G a, rfl⟩, fun _ => .inr ⟨_, its, n, l, rfl, rfl, s, v⟩⟩
/-! tests with two sides, the second of which changes an object -/
section
variable {σ : L2.St} {H : Hp} {Q : VK} {c d : Bool} {QB : Bool → Hp → Prop}
theorem x_andJ3 {tt uu : TT} (J J2 : Hp → Prop) (h1 : ∀ Q1 : Bool → Hp → Prop, (∀ H', J H' → Q1 c H') → tt σ H Q1) (h2 : c = true → ∀ H', J H' → ∀ Q2 : Bool → Hp → Prop, (∀ H'', J2 H'' → Q2 d H'') → uu σ H' Q2)
    (h3 : c = false → false = d ∧ ∀ H', J H' → J2 H') (k : ∀ H', J2 H' → QB d H') : tAnd tt uu σ H QB := by
  refine h1 _ fun H' O' => ?_
  cases c with
  | true => exact h2 rfl H' O' QB k
  | false =>
    obtain ⟨e, g⟩ := h3 rfl
    rw [← e] at k
    exact k H' (g H' O')
theorem x_orJ3 {tt uu : TT} (J J2 : Hp → Prop) (h1 : ∀ Q1 : Bool → Hp → Prop, (∀ H', J H' → Q1 c H') → tt σ H Q1) (h2 : c = false → ∀ H', J H' → ∀ Q2 : Bool → Hp → Prop, (∀ H'', J2 H'' → Q2 d H'') → uu σ H' Q2)
    (h3 : c = true → true = d ∧ ∀ H', J H' → J2 H') (k : ∀ H', J2 H' → QB d H') : tOr tt uu σ H QB := by
  refine h1 _ fun H' O' => ?_
  cases c with
  | false => exact h2 rfl H' O' QB k
  | true =>
    obtain ⟨e, g⟩ := h3 rfl
    rw [← e] at k
    exact k H' (g H' O')
theorem x_andVJ3 {tt uu : TE} (J J2 : Hp → Prop) (h1 : ∀ Q1 : VK, (∀ H', J H' → Q1 (.bl c) H') → tt σ H Q1) (h2 : c = true → ∀ H', J H' → ∀ Q2 : VK, (∀ H'', J2 H'' → Q2 (.bl d) H'') → uu σ H' Q2)
    (h3 : c = false → false = d ∧ ∀ H', J H' → J2 H') (k : ∀ H', J2 H' → Q (.bl d) H') : tAndV tt uu σ H Q := by
  refine h1 _ fun H' O' => ⟨_, rfl, ?_⟩
  cases c with
  | true => exact h2 rfl H' O' Q k
  | false =>
    obtain ⟨e, g⟩ := h3 rfl
    rw [← e] at k
    exact k H' (g H' O')
theorem x_orVJ3 {tt uu : TE} (J J2 : Hp → Prop) (h1 : ∀ Q1 : VK, (∀ H', J H' → Q1 (.bl c) H') → tt σ H Q1) (h2 : c = false → ∀ H', J H' → ∀ Q2 : VK, (∀ H'', J2 H'' → Q2 (.bl d) H'') → uu σ H' Q2)
    (h3 : c = true → true = d ∧ ∀ H', J H' → J2 H') (k : ∀ H', J2 H' → Q (.bl d) H') : tOrV tt uu σ H Q := by
  refine h1 _ fun H' O' => ⟨_, rfl, ?_⟩
  cases c with
  | false => exact h2 rfl H' O' Q k
  | true =>
    obtain ⟨e, g⟩ := h3 rfl
    rw [← e] at k
    exact k H' (g H' O')
end
/-- out of a loop by break: the loop is over -/
theorem brkJ {α S R : Type} {f : α → S → Option (Fl S R)} {go : S → Option (Fl S R)} {s : S} {out : Fl S R} (h : contF go (.bk s) = some out) : loopF f [] s = some out := h
/-! five things -/
def rT5 {α β γ δ ε : Type} (P : Rp α) (Q : Rp β) (R : Rp γ) (S : Rp δ) (T : Rp ε) : Rp (α × β × γ × δ × ε) := fun F v x => ∃ p a b c d e, v = .ref p ∧ F p = some (.tup [a, b, c, d, e]) ∧ P F a x.1 ∧ Q F b x.2.1 ∧ R F c x.2.2.1 ∧ S F d x.2.2.2.1 ∧ T F e x.2.2.2.2
section
variable {α β γ δ ε : Type} {P : Rp α} {Q : Rp β} {R : Rp γ} {S : Rp δ} {T : Rp ε}
theorem mT5 (m : Mono P) (n : Mono Q) (o : Mono R) (q : Mono S) (t : Mono T) : Mono (rT5 P Q R S T) := fun F F' v x e ⟨p, a, b, c, d, z, h1, h2, h3, h4, h5, h6, h7⟩ => ⟨p, a, b, c, d, z, h1, e _ _ h2, m _ _ _ _ e h3, n _ _ _ _ e h4, o _ _ _ _ e h5, q _ _ _ _ e h6, t _ _ _ _ e h7⟩
theorem rT5_at {F : Hp} {a : Addr} {x : α × β × γ × δ × ε} (h : rT5 P Q R S T F (.ref a) x) : ∃ u v w y z, F a = some (.tup [u, v, w, y, z]) ∧ P F u x.1 ∧ Q F v x.2.1 ∧ R F w x.2.2.1 ∧ S F y x.2.2.2.1 ∧ T F z x.2.2.2.2 := by
  obtain ⟨p, u, v, w, y, z, h1, h2⟩ := h
  cases h1
  exact ⟨u, v, w, y, z, h2⟩
theorem rT5_ref {F : Hp} {v : V} {x : α × β × γ × δ × ε} (h : rT5 P Q R S T F v x) : ∃ p, v = .ref p := by
  obtain ⟨p, _, _, _, _, _, h1, _⟩ := h
  exact ⟨p, h1⟩
theorem tyT5 {K : PySem.W.Frag} {b : String} {r : Bool} (h : kitB "tuple" b = some r) : TyP (rT5 P Q R S T) K (.type b) (fun _ => r) := fun H v x hx => by
  obtain ⟨p, _, _, _, _, _, rfl, h1, _⟩ := hx
  exact ⟨_, .base (.tup h1), kit_ty h⟩
end
/-! xs.pop(i) of a list of data -/
section
variable {α : Type} {P : V → α → Prop} {vs : List V} {xs ys : List α} {y : α} {i : Int} {R H : Hp} {a : Addr} {Q : VK}
theorem All2.del {α β : Type} {P : α → β → Prop} {as : List α} {bs : List β} (h : All2 P as bs) : ∀ n, All2 P (as.eraseIdx n) (bs.eraseIdx n) := by
  induction h with
  | nil => intro n; exact .nil
  | cons h t ih =>
    intro n
    cases n with
    | zero => exact t
    | succ n => exact .cons h (ih n)
theorem k_popIA {g : HO → List Cell} (hl : H a = some (.lst vs)) (ha : All2 P vs xs) (hp : ∀ o', Own R (upd H a o') (g o')) (h : popA xs i = some (y, ys)) (k : ∀ H' ws w, Own R H' (g (.lst ws)) → P w y → All2 P ws ys → Q w H') : rPopI (.ref a) [.int i] H Q := by
  obtain ⟨_, h1, h2⟩ := bndE h
  obtain ⟨c, _⟩ := grdE h1
  obtain ⟨j, h3, h4⟩ := bndE h2
  obtain ⟨z, h5, h6⟩ := bndE h4
  cases h6
  obtain ⟨s1, s2, s3, s4⟩ := ixN_seq h3
  obtain ⟨w, w1, w2⟩ := ha.get h5
  exact ⟨a, _, i, j, w, rfl, rfl, hl, by omega, by omega, by rw [ha.len]; exact s1, w1, k _ _ _ (hp _) w2 (ha.del j)⟩
end
end Bt

set_option Elab.async false
set_option linter.all false
set_option maxRecDepth 100000
set_option maxHeartbeats 4000000
/-! The head by one kernel run, its facts told by decisions (for tops that k_head does not get through). -/
namespace Bt
open PySem L2 PySem.Spec PyProof.Rows
/-- one fact of the part of the heap that the top leaves -/
structure FP where
  P : PySem.W.Frag → Prop
  d : ∀ K, Decidable (P K)
def mkF (P : PySem.W.Frag → Prop) [d : ∀ K, Decidable (P K)] : FP := ⟨P, d⟩
abbrev fG (x : Str) (K : PySem.W.Frag) : Prop := PySem.W.nsIn K PySem.mainGlobals x = some (some (.ref (He.ga K x)))
abbrev fZ (x : Str) (K : PySem.W.Frag) : Prop := PySem.W.nsIn K PySem.mainGlobals x = some none
abbrev fK (x : Str) (K : PySem.W.Frag) : Prop := PySem.W.keepIn K (.ref (He.ga K x)) = true
abbrev fM (C m : Str) (K : PySem.W.Frag) : Prop := PySem.W.findIn K (.ref (He.ga K C)) m = some (some (.ref (He.ma K (He.ga K C) m)))
abbrev fN (C m : Str) (K : PySem.W.Frag) : Prop := PySem.W.isFn K (.ref (He.ma K (He.ga K C) m)) = true
abbrev fP (C m : Str) (K : PySem.W.Frag) : Prop := PySem.W.keepIn K (.ref (He.ma K (He.ga K C) m)) = true
abbrev fO (C m : Str) (K : PySem.W.Frag) : Prop := PySem.W.findIn K (.ref (He.ga K C)) m = some none
def FP.ok (f : FP) (K : PySem.W.Frag) : Bool := @decide (f.P K) (f.d K)
def dF (p : Str × Option Str) (nm qual : Str) (st : Stmt) : He.FnD := ⟨p, nm, qual, defArgs st, defBody st, defScope st⟩
def obsH (fa : List FP) (fn : List He.FnD) (K : PySem.W.Frag) : He.Al := ((fa.all fun f => f.ok K) && fn.all fun d => (He.Fa.code d.at_ d.qual).ok K, fn.map fun d => He.fnObs K d.at_)
def SaysH (fa : List FP) (fn : List He.FnD) (K : PySem.W.Frag) : Prop := obsH fa fn K = He.valE fn
/-- what an object names, each thing once (a class: its names; the classes above it are the module's own names) -/
def refsH (o : Obj) : List Addr := match o.data with
  | .seq its _ => its.toList.flatMap He.refV
  | .dict es _ => es.toList.flatMap fun e => He.refV e.val
  | .func fd => He.refV fd.code ++ He.refV fd.defaults
  | .cls cd => [cd.ns]
  | .fields vs => vs.toList.flatMap He.refV
  | _ => []
def lvH (g : Addr → Option Obj) : Nat → List Addr → List Addr
  | 0, as => as
  | n + 1, as => as ++ lvH g n (as.flatMap fun a => match g a with
    | some o => refsH o
    | none => [])
def obsHG (n : Nat) (fa : List FP) (fn : List He.FnD) (g : Addr → Option Obj) : He.Al := obsH fa fn (He.frG g (PySem.cStatics :: lvH g n [mainGlobals]))
def hookH (n : Nat) (fa : List FP) (fn : List He.FnD) : PySem.W.Hook where
  α := He.Al
  obs := fun s => obsHG n fa fn s.heap.get?
  val := fun _ => He.valE fn
  says := fun _ h => ∃ K : PySem.W.Frag, K.In h ∧ SaysH fa fn K
  of := fun _ _ e => ⟨_, He.frG_in, e⟩
  keeps := fun _ _ _ ⟨K, hK, c⟩ k => ⟨K, PySem.W.Frag.In.keeps hK k, c⟩
theorem obsHG_eq {n : Nat} {fa : List FP} {fn : List He.FnD} {g : Addr → Option Obj} {s : Shared} (h : ∀ a, g a = s.heap.get? a) : obsHG n fa fn g = (hookH n fa fn).obs s := by
  have e : g = s.heap.get? := funext h
  rw [e] <;> rfl
section
variable {fa : List FP} {fn : List He.FnD} {K : PySem.W.Frag} {h : Heap} {mg : Str → Option Value}
theorem SaysH.fact (c : SaysH fa fn K) (i : Nat) {f : FP} (h : fa[i]? = some f) : f.P K := by
  have c1 := (He.ba (show ((fa.all fun f => f.ok K) && fn.all fun d => (He.Fa.code d.at_ d.qual).ok K) = true from congrArg (fun z : He.Al => z.1) c)).1
  exact @of_decide_eq_true _ (f.d K) (List.all_eq_true.mp c1 f (List.mem_of_getElem? h))
theorem SaysH.def_ (c : SaysH fa fn K) (i : Nat) {d : He.FnD} (h : fn[i]? = some d) :
    ∃ oc od osl kV doc pm an cdv ct, K.lookup (He.fAd K d.at_) = some ⟨oc, od, .func (PySem.W.fnOf d.name d.qual d.params d.body d.scope .none kV doc pm an cdv ct), osl⟩ ∧ PySem.W.codeIn K cdv d.qual = true := by
  have c2 := (He.ba (show ((fa.all fun f => f.ok K) && fn.all fun d => (He.Fa.code d.at_ d.qual).ok K) = true from congrArg (fun z : He.Al => z.1) c)).2
  have e : fn.map (fun d => He.fnObs K d.at_) = fn.map He.FnD.val := congrArg (fun z : He.Al => z.2) c
  have e2 : (fn.map fun d => He.fnObs K d.at_)[i]? = (fn.map He.FnD.val)[i]? := by rw [e]
  rw [List.getElem?_map, List.getElem?_map, h] at e2
  exact He.fn_ok (Option.some.inj e2) (List.all_eq_true.mp c2 d (List.mem_of_getElem? h))
theorem SaysH.mf (c : SaysH fa fn K) (i : Nat) {C nm qual : Str} {st : Stmt} (h : fn[i]? = some (dF (C, some nm) nm qual st)) (h1 : PySem.W.findIn K (.ref (He.ga K C)) nm = some (some (.ref (He.ma K (He.ga K C) nm))))
    (h2 : PySem.W.isFn K (.ref (He.ma K (He.ga K C) nm)) = true) (h3 : PySem.W.keepIn K (.ref (He.ma K (He.ga K C) nm)) = true) : MF K (He.ga K C) (He.ma K (He.ga K C) nm) nm qual st := by
  obtain ⟨oc, od, osl, kV, doc, pm, an, cdv, ct, e1, e2⟩ := c.def_ i h
  exact ⟨h1, h2, ⟨oc, od, kV, doc, pm, an, cdv, ct, osl, e1, e2⟩, h3⟩
theorem SaysH.fun_ (c : SaysH fa fn K) (X : K.In h) (G : h.Ns mainGlobals mg) (i : Nat) {x : Str} {st : Stmt} (hi : fn[i]? = some (dF (x, none) x x st)) (h1 : PySem.W.nsIn K mainGlobals x = some (some (.ref (He.ga K x))))
    (h3 : PySem.W.keepIn K (.ref (He.ga K x)) = true) : ∃ f fd, Fun K x x st f fd ∧ mg x = some (.ref f) := by
  obtain ⟨oc, od, osl, kV, doc, pm, an, cdv, ct, e1, e2⟩ := c.def_ i hi
  exact def_mk X G h1 e1 e2 h3
theorem gvh_int (X : K.In h) (G : h.Ns mainGlobals mg) {x : Str} {i : Int} (c : (He.Fa.int x i).ok K = true) : Gv mg x (.int i) := by
  obtain ⟨t, e⟩ := He.int_ok X G c
  exact ⟨_, e, _, rfl⟩
theorem gvh_str (X : K.In h) (G : h.Ns mainGlobals mg) {x z : Str} (c : (He.Fa.str x z).ok K = true) : Gv mg x (.str z) := by
  obtain ⟨t, e⟩ := He.str_ok X G c
  exact ⟨_, e, _, rfl⟩
theorem gvh_tup (X : K.In h) (G : h.Ns mainGlobals mg) {x : Str} {ns : List Int} (g : PySem.W.nsIn K mainGlobals x = some (some (.ref (He.ga K x)))) (c : He.tupB K x (ns.map He.Dv.int) = true) :
    ∃ a, Gv mg x (.ref a) ∧ ∀ H, SqT K H a (ns.map V.int) := by
  refine ⟨He.ga K x, ⟨_, PySem.W.mg_of X G g, rfl⟩, fun H => ?_⟩
  have := He.tupB_ok c H
  rw [List.map_map] at this
  exact this
end
def fcB (K : PySem.W.Frag) (C q : Addr) : Bool := match PySem.W.findCls K (.ref C) (.type "type") "__init__" with
  | some (.val (.ref a)) => decide (a = q)
  | _ => false
theorem fcB_ok {K : PySem.W.Frag} {C q : Addr} (h : fcB K C q = true) : PySem.W.findCls K (.ref C) (.type "type") "__init__" = some (.val (.ref q)) := by
  unfold fcB at h
  split at h
  · rename_i a e
    rw [e, of_decide_eq_true h]
  · cases h
end Bt
namespace Bt
open PySem PySem.W PySem.Calls PyProof.Rows HandSHeadRun
/-- the run's equation in three parts, so that the kernel keeps less at a time -/
def RunA (r : OpenRow) (M : Nat) (w : World) : Prop := ∀ os : OsState, (endF (stepQ (denQ tabQ) r.prog w) M r.prog w os).map (fun s => looksF r.prog (boot_heap w.params) s.abs) = some true
def RunB (r : OpenRow) (q : Program) (M : Nat) (loose : List PySem.Str) (w : World) : Prop := ∀ os : OsState, (endF (stepQ (denQ tabQ) r.prog w) M r.prog w os).map (fun s => seenQ q loose (importedModules r.prog.main.body) (fun s => xlAt q [] s && recOk r.toRowW.records s) s.abs) = some (openGood q loose)
def RunC (r : OpenRow) (α : Type) (ob : SharedT → α) (v : α) (M : Nat) (w : World) : Prop := ∀ os : OsState, (endF (stepQ (denQ tabQ) r.prog w) M r.prog w os).map ob = some v
theorem run3 {r : OpenRow} {q : Program} {H : Hook} {ob : SharedT → H.α} {M : Nat} {loose : List PySem.Str} {w : World} (a : RunA r M w) (b : RunB r q M loose w) (c : RunC r H.α ob (H.val w) M w) : RunEq r q H ob M loose w := fun os => by
  have a := a os
  have b := b os
  have c := c os
  obtain ⟨s, e, ha⟩ := Option.map_eq_some_iff.mp a
  rw [e] at b c ⊢
  have hb := Option.some.inj b
  have hc := Option.some.inj c
  show some (_, _, _) = some (_, _, _)
  rw [ha, hc]
  exact congrArg (fun z => some (true, z, H.val w)) hb
end Bt

set_option Elab.async false
set_option linter.all false
set_option maxRecDepth 100000
set_option maxHeartbeats 4000000
/-! More built-ins of lists. -/
namespace Bt
open PySem L2 PySem.Spec PyProof.Rows
def minG : List Int → Option Int
  | [] => none
  | n :: ns => some (ns.foldl min n)
def maxG : List Int → Option Int
  | [] => none
  | n :: ns => some (ns.foldl max n)
theorem foldl_min (ns : List Int) : ∀ n : Int, (ns.foldl min n = n ∨ ns.foldl min n ∈ ns) ∧ ns.foldl min n ≤ n ∧ ∀ y ∈ ns, ns.foldl min n ≤ y := by
  induction ns with
  | nil => intro n; exact ⟨.inl rfl, Int.le_refl _, fun _ h => nomatch h⟩
  | cons m r ih =>
    intro n
    obtain ⟨h1, h2, h3⟩ := ih (min n m)
    refine ⟨?_, ?_, fun y hy => ?_⟩
    · rcases h1 with h1 | h1
      · by_cases h : n ≤ m
        · left; show r.foldl min (min n m) = n; rw [h1]; omega
        · right; show r.foldl min (min n m) ∈ m :: r; rw [h1, show min n m = m by omega]; exact List.Mem.head _
      · exact .inr (List.Mem.tail _ h1)
    · show r.foldl min (min n m) ≤ n; omega
    · rcases List.mem_cons.mp hy with rfl | hy
      · show r.foldl min (min n y) ≤ y; omega
      · exact h3 y hy
theorem foldl_max (ns : List Int) : ∀ n : Int, (ns.foldl max n = n ∨ ns.foldl max n ∈ ns) ∧ n ≤ ns.foldl max n ∧ ∀ y ∈ ns, y ≤ ns.foldl max n := by
  induction ns with
  | nil => intro n; exact ⟨.inl rfl, Int.le_refl _, fun _ h => nomatch h⟩
  | cons m r ih =>
    intro n
    obtain ⟨h1, h2, h3⟩ := ih (max n m)
    refine ⟨?_, ?_, fun y hy => ?_⟩
    · rcases h1 with h1 | h1
      · by_cases h : m ≤ n
        · left; show r.foldl max (max n m) = n; rw [h1]; omega
        · right; show r.foldl max (max n m) ∈ m :: r; rw [h1, show max n m = m by omega]; exact List.Mem.head _
      · exact .inr (List.Mem.tail _ h1)
    · show n ≤ r.foldl max (max n m); omega
    · rcases List.mem_cons.mp hy with rfl | hy
      · show y ≤ r.foldl max (max n y); omega
      · exact h3 y hy
theorem minG_spec {xs : List Int} {m : Int} (h : minG xs = some m) : 0 < xs.length ∧ m ∈ xs ∧ ∀ y ∈ xs, m ≤ y := by
  cases xs with
  | nil => cases h
  | cons n r =>
    cases h
    obtain ⟨h1, h2, h3⟩ := foldl_min r n
    refine ⟨by simp, ?_, fun y hy => ?_⟩
    · rcases h1 with h1 | h1
      · rw [h1]; exact List.Mem.head _
      · exact List.Mem.tail _ h1
    · rcases List.mem_cons.mp hy with rfl | hy
      · exact h2
      · exact h3 y hy
theorem maxG_spec {xs : List Int} {m : Int} (h : maxG xs = some m) : 0 < xs.length ∧ m ∈ xs ∧ ∀ y ∈ xs, y ≤ m := by
  cases xs with
  | nil => cases h
  | cons n r =>
    cases h
    obtain ⟨h1, h2, h3⟩ := foldl_max r n
    refine ⟨by simp, ?_, fun y hy => ?_⟩
    · rcases h1 with h1 | h1
      · rw [h1]; exact List.Mem.head _
      · exact List.Mem.tail _ h1
    · rcases List.mem_cons.mp hy with rfl | hy
      · exact h2
      · exact h3 y hy
section
variable {K : PySem.W.Frag} {H R : Hp} {L : List Cell} {Q : VK} {a : Addr} {xs : List Int} {m : Int}
theorem k_min (hs : SqL K H a (xs.map V.int)) (h : minG xs = some m) (q : Q (.int m) H) : rMin K [.ref a] H Q := by
  obtain ⟨h1, h2, h3⟩ := minG_spec h
  refine ⟨a, xs, rfl, hs, h1, fun m' hm hy => ?_⟩
  have e1 := hy m h2
  have e2 := h3 m' hm
  have : m' = m := by omega
  rw [this]; exact q
theorem k_max (hs : SqL K H a (xs.map V.int)) (h : maxG xs = some m) (q : Q (.int m) H) : rMax K [.ref a] H Q := by
  obtain ⟨h1, h2, h3⟩ := maxG_spec h
  refine ⟨a, xs, rfl, hs, h1, fun m' hm hy => ?_⟩
  have e1 := hy m h2
  have e2 := h3 m' hm
  have : m' = m := by omega
  rw [this]; exact q
end
theorem inV_str (i : Str) : ∀ xs : List Str, inV (.str i) (xs.map V.str) = decide (i ∈ xs)
  | [] => rfl
  | y :: r => by
    have ih := inV_str i r
    have e : inV (.str i) ((y :: r).map V.str) = (eqV (.str y) (.str i) || inV (.str i) (r.map V.str)) := rfl
    rw [e, ih]
    have e2 : eqV (.str y) (.str i) = decide (i = y) := by
      by_cases h : i = y
      · subst h; simp [eqV]
      · have : ¬ y = i := fun q => h q.symm
        simp [eqV, h, this]
    rw [e2]
    simp
theorem flat_str : ∀ xs : List Str, (xs.map V.str).all flatV = true
  | [] => rfl
  | y :: r => by
    have ih := flat_str r
    show (flatV (.str y) && (r.map V.str).all flatV) = true
    rw [ih]
    rfl
section
variable {K : PySem.W.Frag} {H : Hp} {Q : VK} {a : Addr} {i : Str} {ns : List Str}
theorem k_inLS (hs : SqL K H a (ns.map V.str)) (k : Q (.bl (decide (i ∈ ns))) H) : rIn K false (.str i) (.ref a) H Q := ⟨a, _, rfl, .inl hs, rfl, flat_str _, by rw [inV_str]; exact k⟩
theorem k_niLS (hs : SqL K H a (ns.map V.str)) (k : Q (.bl (!decide (i ∈ ns))) H) : rIn K true (.str i) (.ref a) H Q := ⟨a, _, rfl, .inl hs, rfl, flat_str _, by rw [inV_str]; exact k⟩
theorem k_inTS (hs : SqT K H a (ns.map V.str)) (k : Q (.bl (decide (i ∈ ns))) H) : rIn K false (.str i) (.ref a) H Q := ⟨a, _, rfl, .inr hs, rfl, flat_str _, by rw [inV_str]; exact k⟩
theorem k_niTS (hs : SqT K H a (ns.map V.str)) (k : Q (.bl (!decide (i ∈ ns))) H) : rIn K true (.str i) (.ref a) H Q := ⟨a, _, rfl, .inr hs, rfl, flat_str _, by rw [inV_str]; exact k⟩
end
/-! l.count(x), l.index(x) of data -/
def rCountD (K : PySem.W.Frag) : V → List V → Hp → VK → Prop := fun x xs H Q => ∃ (a : Addr) (y : V) (d : PyData) (ds : List PyData), x = V.ref a ∧ xs = [y] ∧ Dp K H (V.ref a) (.list ds) ∧ Dp K H y d ∧
  SeqAt.shaped (.list ds) = true ∧ SeqAt.shaped d = true ∧ Q (.int ((ds.countP fun z => PyData.eqv z d : Nat) : Int)) H
theorem mt_countD {X : Cx} (hu : X.A.units + 65 < cLine) : MtR X "list.count" (rCountD X.K) := by
  intro pins s σ H x xs v us Q I rx rxs h
  obtain ⟨a, y, d, ds, rfl, rfl, hl, hy, sl, sd, q⟩ := h
  cases rx
  cases rxs with
  | cons ry rt =>
    rename_i uy ut
    cases rt
    obtain ⟨bs, r1⟩ := Dp.reads I d y uy hy ry
    have hxs : PyData.canLayAll0 ds = true := SeqAt.canLay_of_shaped sl
    have hroom : X.A.units + 1 + min (PyData.depthAll ds) d.depth < cLine := room_in_shaped sd hu
    cases hl with
    | lst hs ha =>
      obtain ⟨its, rv, ⟨⟨cls, dd, data, sls⟩, n, ho, hc, hdn, hdt⟩, hlen⟩ := I.list hs
      simp only at hc hdt
      subst hc hdt
      obtain ⟨as, h4⟩ := Dp.readsAll I ds _ its ha rv
      have hmap : its.map (SeqAt.readOf s.heap) = ds := SeqAt.readsAll_map ds its as hxs h4
      have e : its.toArray.toList.countP (fun u => PyData.eqv (SeqAt.readOf s.heap u) d) = ds.countP fun z => PyData.eqv z d := by
        rw [← hmap, List.countP_map]
        rfl
      rw [← e] at q
      exact call_meets PySem.F.slot_list_count ⟨_, ho, rfl⟩ PySem.F.entry_list_count (PySem.F.args_list_count_2 _ _) (SeqAt.list_countAt a its.toArray n dd sls uy (fun u => PyData.eqv (SeqAt.readOf s.heap u) d))
        ⟨ho, SeqAt.items_eqAt (vs := its.toArray) (show ReadsAll s.heap its.toArray.toList ds as from h4) r1 hxs (SeqAt.canLay_of_shaped sd) hroom, ⟨.int _, H, I.tok _, ⟨_, rfl⟩, q⟩⟩
section
variable {α : Type} [DecidableEq α] {P : Rp α} {K : PySem.W.Frag} {H : Hp} {v w : V} {xs : List α} {y : α} {Q : VK} {a : Addr}
def cntL (xs : List α) (y : α) : Int := ((xs.countP fun z => decide (z = y) : Nat) : Int)
theorem countP_de (e : Dq P) (y : α) : ∀ xs : List α, ((xs.map e.d).countP fun z => PyData.eqv z (e.d y)) = xs.countP fun z => decide (z = y)
  | [] => rfl
  | x :: r => by
    rw [List.map_cons, List.countP_cons, List.countP_cons, countP_de e y r, e.eq x y]
theorem k_countD (e : Dq P) (h : e.n ≤ 60) (hx : PyData.canLay0 ((dqL e).d xs) = true) (hy : PyData.canLay0 (e.d y) = true) (h1 : rL P H (.ref a) xs) (h2 : P H v y) (q : Q (.int (cntL xs y)) H) : rCountD K (.ref a) [v] H Q :=
  ⟨a, v, e.d y, xs.map e.d, rfl, rfl, (dqL e).dp K H _ _ h1, e.dp K H _ _ h2, sh_dq (dqL e) (by show e.n + 1 ≤ 64; omega) hx, sh_dq e (by omega) hy, by rw [countP_de]; exact q⟩
def idxL : List α → α → Option Int
  | [], _ => none
  | x :: r, y => if x = y then some 0 else match idxL r y with
    | some j => some (j + 1)
    | none => none
theorem idxL_spec : ∀ {xs : List α} {j : Int}, idxL xs y = some j → ∃ n : Nat, j = n ∧ xs[n]? = some y ∧ ∀ m z, m < n → xs[m]? = some z → z ≠ y
  | [], j, h => by cases h
  | x :: r, j, h => by
    unfold idxL at h
    by_cases c : x = y
    · rw [if_pos c] at h
      cases h
      exact ⟨0, rfl, by rw [c]; rfl, fun m z hm => by omega⟩
    · rw [if_neg c] at h
      cases e : idxL r y with
      | none => rw [e] at h; cases h
      | some i =>
        rw [e] at h
        cases h
        obtain ⟨n, rfl, h1, h2⟩ := idxL_spec e
        refine ⟨n + 1, by omega, by simpa using h1, fun m z hm hz => ?_⟩
        cases m with
        | zero => cases Option.some.inj hz; exact c
        | succ m => exact h2 m z (by omega) (by simpa using hz)
theorem k_indexD (e : Dq P) (h : e.n ≤ 60) (hx : PyData.canLay0 ((dqL e).d xs) = true) (hy : PyData.canLay0 (e.d y) = true) (h1 : rL P H (.ref a) xs) (h2 : P H v y) {j : Int} (hj : idxL xs y = some j) (q : Q (.int j) H) : rIndexD K (.ref a) [v] H Q := by
  obtain ⟨n, rfl, g1, g2⟩ := idxL_spec hj
  refine ⟨a, v, e.d y, xs.map e.d, n, e.d y, rfl, rfl, (dqL e).dp K H _ _ h1, e.dp K H _ _ h2, sh_dq (dqL e) (by show e.n + 1 ≤ 64; omega) hx, sh_dq e (by omega) hy, by rw [List.getElem?_map, g1]; rfl, by rw [e.eq]; simp, fun m z' hm hz => ?_, q⟩
  rw [List.getElem?_map] at hz
  cases e1 : xs[m]? with
  | none => rw [e1] at hz; cases hz
  | some z =>
    rw [e1] at hz
    cases hz
    rw [e.eq]
    exact decide_eq_false (g2 m z hm e1)
theorem okInts (xs : List Int) : PyData.canLay0 ((dqL (De.q deI)).d xs) = true := by
  show PyData.canLay0 (.list (xs.map PyData.int)) = true
  simp only [PyData.canLay0]
  induction xs with
  | nil => rfl
  | cons x r ih => simp only [List.map_cons, PyData.canLayAll0, PyData.canLay0, ih, Bool.and_self]
theorem okDe {P : Rp α} (e : De P) (y : α) : PyData.canLay0 ((De.q e).d y) = true := e.ok y
theorem okDeL {P : Rp α} (e : De P) (xs : List α) : PyData.canLay0 ((dqL (De.q e)).d xs) = true := by
  show PyData.canLay0 (.list (xs.map e.d)) = true
  simp only [PyData.canLay0]
  exact ok_all e xs
end
/-! xs.insert(i, y) -/
section
variable {α : Type} {f : α → V} {R H : Hp} {L : List Cell} {a : Addr} {xs ys : List α} {y : α} {i : Int} {Q : VK} {v : V} {P : V → α → Prop} {vs : List V}
def insG (xs : List α) (i : Int) (y : α) : Option (List α) := grd (xs.length < sizeLine ∧ 0 ≤ i ∧ i < 2 ^ 63) (xs.take i.toNat ++ [y] ++ xs.drop i.toNat)
def rInsert : V → List V → Hp → VK → Prop := fun x vs H Q => ∃ (l : Addr) (xs : List V) (i : Int) (y : V), x = .ref l ∧ vs = [.int i, y] ∧ H l = some (.lst xs) ∧ xs.length < sizeLine ∧ 0 ≤ i ∧ i < 2 ^ 63 ∧
    Q .non (upd H l (.lst (xs.take i.toNat ++ [y] ++ xs.drop i.toNat)))
theorem k_ins {g : HO → List Cell} (hl : H a = some (.lst (xs.map f))) (hp : ∀ o', Own R (upd H a o') (g o')) (h : insG xs i y = some ys) (k : ∀ H', Own R H' (g (.lst (ys.map f))) → Q .non H') : rInsert (.ref a) [.int i, f y] H Q := by
  obtain ⟨⟨c1, c2, c3⟩, rfl⟩ := grdE h
  refine ⟨a, _, i, _, rfl, rfl, hl, by rw [List.length_map]; exact c1, c2, c3, ?_⟩
  rw [← List.map_take, ← List.map_drop, map_snoc, ← List.map_append]
  exact k _ (hp _)
theorem k_insA {g : HO → List Cell} (hl : H a = some (.lst vs)) (ha : All2 P vs xs) (hp : ∀ o', Own R (upd H a o') (g o')) (h : insG xs i y = some ys) (hv : P v y) (k : ∀ H' ws, Own R H' (g (.lst ws)) → All2 P ws ys → Q .non H') : rInsert (.ref a) [.int i, v] H Q := by
  obtain ⟨⟨c1, c2, c3⟩, rfl⟩ := grdE h
  exact ⟨a, _, i, _, rfl, rfl, hl, by rw [ha.len]; exact c1, c2, c3, k _ _ (hp _) (((ha.take _).snoc hv).app (ha.drop _))⟩
theorem k_insE {g : HO → List Cell} (hl : H a = some (.lst vs)) (hp : ∀ o', Own R (upd H a o') (g o')) (c1 : vs.length < sizeLine) (c2 : 0 ≤ i) (c3 : i < 2 ^ 63) (k : ∀ H', Own R H' (g (.lst (vs.take i.toNat ++ [v] ++ vs.drop i.toNat))) → Q .non H') : rInsert (.ref a) [.int i, v] H Q :=
  ⟨a, _, i, _, rfl, rfl, hl, c1, c2, c3, k _ (hp _)⟩
end
def rInt : List V → Hp → VK → Prop := fun xs H Q => (∃ i, xs = [.int i] ∧ Q (.int i) H) ∨ ∃ k, xs = [.bl k] ∧ Q (.int (if k then 1 else 0)) H
theorem call_intQ {X : Cx} : CallR X (.type "int") rInt := call_int1
theorem mt_insertQ {X : Cx} : MtR X "list.insert" rInsert := mt_insert
end Bt

set_option Elab.async false
set_option linter.all false
set_option maxRecDepth 100000
set_option maxHeartbeats 4000000
/-! A def handed back with the dict that it has caught (an ear): its cell and its code's table, tracked. -/
namespace Bt
open PySem PySem.Spec PyProof.Rows L2 LamX NdefX
/-! ### a cell that is known -/
def CellO (c : Addr) (v : V) : HO := .ext fun h => ∃ u, RelV v u ∧ h.IsCell c (some u)
section
variable {P : Program} {w : World} {H H' : Hp} {h h' : Heap} {c : Addr} {v : V} {o : HO} {fs ex : List Addr}
theorem cellO_ok {u : Value} (r : RelV v u) (e : h.IsCell c (some u)) : ObjOk P w H h c (CellO c v) := by
  obtain ⟨o, ho, hd⟩ := e
  exact ⟨⟨u, r, o, ho, hd⟩, ⟨o, ho⟩, fun h1 h2 ⟨u', r', o', ho', hd'⟩ st => ⟨u', r', o', st _ ho', hd'⟩⟩
theorem cellO_at (x : HOk P w H h) (e : H c = some (CellO c v)) : ∃ u, RelV v u ∧ h.IsCell c (some u) := (x c _ e).1
theorem hok_add (x : HOk P w H h) (n : H c = none) (new : ObjOk P w (upd H c o) h c o) : HOk P w (upd H c o) h := fun b u e => by
  by_cases hb : b = c
  · subst hb
    rw [upd_same] at e
    cases e
    exact new
  · rw [upd_ne hb] at e
    exact (x b u e).stay (fun _ _ _ q => q) (fun d q => by rw [upd_ne (ne_of_none q n)]; exact q) fun d xs q => by rw [upd_ne (ne_of_none q n)]; exact q
theorem un_add (u : Un fs ex H H' h h') (n : H' c = none) (hc : h.get? c = none) : Un fs ex H (upd H' c o) h h' :=
  ⟨u.keep, u.slot, fun b ob e nb hx => by
    rw [upd_ne (fun z => by rw [z, hc] at e; cases e)]
    exact u.free b ob e nb hx, u.there, fun b xs e => by
    rw [upd_ne (ne_of_none (u.tups b xs e) n)]
    exact u.tups b xs e, fun b ob z e => by
    rw [upd_ne (ne_of_none (u.frzs b ob z e) n)]
    exact u.frzs b ob z e, fun b ps e => by
    obtain ⟨m, z⟩ := u.tbls b ps e
    exact ⟨m, by rw [upd_ne (ne_of_none z n)]; exact z⟩⟩
end
/-! ### the def that hands it back -/
section
variable {P : Program} {w : World} {K : PySem.W.Frag} {mg : Str → Option Value} {base : Heap}
abbrev cxE (P : Program) (w : World) (K : PySem.W.Frag) (mg : Str → Option Value) (base : Heap) (N : List Str) (qual : Str) (sc : Scope) (f ce : Addr) (A : Around) (outer : List Env) (s : Shared) (H : Hp) (E : XK) : Cx := (cxOf CX0 P w K mg base N qual sc f (.ref ce) A outer s H E).nox
theorem ear_of {x qual : Str} {st : Stmt} {f ce : Addr} {fd : FuncData} {N ps : List Str} {k : Nat} {sp : Sp} {s1 s2 s3 : Stmt} {y z : Str} {p p' : Pos} {i j : Nat} (F : Fun K x qual st f fd) (S : FnScope N ps (defScope st)) (hc0 : fd.code = .ref ce) (len : ∀ vs H Q E, sp vs H Q E → vs.length = ps.length)
    (hb : defBody st = [s1, s2, s3, .Return (some (.Name y p)) p']) (hy : N[i]? = some y) (hv : Vis (defScope st) y) (hd1 : (y == ("__debug__" : Str)) = false) (hd2 : (y == ("__classdict__" : Str)) = false) (hz : N[j]? = some z) (kz : (defScope st).names.lookup z = some .cell)
    (hbody : ∀ (A : Around) (outer : List Env) (s : Shared) (H : Hp) (vs : List V) (Q : VK) (E : XK) (c : Addr), Room k (A.deeper (envOfC qual (defScope st) s.heap.objs.size f (.ref ce))) → sp vs H Q E → (cellsFrom (s.heap.objs.size + 1) (defScope st).names []).lookup z = some c →
      ∃ t1 t2 t3, PS (cxE P w K mg base N qual (defScope st) f ce A outer s H E) s1 t1 ∧ PS (cxE P w K mg base N qual (defScope st) f ce A outer s H E) s2 t2 ∧ PS (cxE P w K mg base N qual (defScope st) f ce A outer s H E) s3 t3 ∧
        tSeq t1 (tSeq t2 t3) { nx := fun σ H' => ∃ v u, σ[i]? = some (some v) ∧ σ[j]? = some (some u) ∧ (H' c = none → Q v (upd H' c (CellO c u))), rt := fun _ _ => False } (start N vs) H) : FnOk P w K mg base CX0 (k + 1) f fd ps sp := by
  obtain ⟨oc, od, kV, doc, pm, an, cdv, ct, osl, rfl, lk, hcd⟩ := F.ex
  obtain rfl : cdv = .ref ce := hc0
  refine ⟨len, fun A outer s H args us vs Q E hr e0 hbi r hsp => ?_⟩
  have hl := len _ _ _ _ hsp
  have KX : K.In s.heap := e0.mod.kin.keeps fun b o e => (e0.bs b o e).1
  have lim : s.heap.NoLimit := e0.mod.nolimit.keeps fun b o e => (e0.bs b o e).1
  have hkind : ∀ q ∈ ps.zip us, (defScope st).names.lookup q.1 = some .local ∨ ((defScope st).names.lookup q.1 = some .cell ∧ ((cellsFrom (s.heap.objs.size + 1) (defScope st).names []).lookup q.1).isSome = true) := by
    rintro ⟨n, v⟩ hq
    rcases S.par n (List.of_mem_zip hq).1 with q | q
    · exact .inl q
    · exact .inr ⟨q, PySem.W.cellsFrom_some _ _ _ (.inl q)⟩
  refine codeAny_call_function hr.depth (KX _ _ lk) rfl S.co S.gen rfl (PySem.W.codeRec_of KX hcd) (hbi _ _ _ _ ?_)
  refine wpAny_newFunctionEnv_cells S.kind hkind fun env he s1' x' => ?_
  subst he
  refine ⟨lim.keeps x'.toInCall.keep, codeAny_func ?_⟩
  obtain ⟨c, hc⟩ := cell_has (n := s.heap.objs.size + 1) kz
  obtain ⟨t1, t2, t3, h1, h2, h3, hq⟩ := hbody A outer s H vs Q E c (hr.deeper _) hsp hc
  have I : Inv (cxE P w K mg base N qual (defScope st) f ce A outer s H E) [] (start N vs) H s1' := (inv_start (CX := CX0) (E := E) S hr.hd e0 hl r x').wish _
  rw [hb]
  have main : wpAny (model P w) (A.deeper (envOfC qual (defScope st) s.heap.objs.size f (.ref ce))) (execs [s1, s2, s3, .Return (some (.Name y p)) p'] (envOfC qual (defScope st) s.heap.objs.size f (.ref ce))) (fun fl s' => ∃ u, fl = .ret u ∧ CE outer P w H s Q u s') (fun _ _ => False) s1' := by
    refine wpAny_execs_cons (thn (h1.run [] s1' _ H _ I hq) fun fl s2' q => ?_)
    cases fl with
    | ret u => obtain ⟨_, _, _, _, _, q⟩ := q; exact q.elim
    | brk => obtain ⟨_, _, _, q⟩ := q; exact q.elim
    | cont => obtain ⟨_, _, _, q⟩ := q; exact q.elim
    | next =>
      obtain ⟨σ2, H2, I2, q⟩ := q
      refine wpAny_execs_cons (thn (h2.run [] s2' _ H2 _ I2 q) fun fl s3' q => ?_)
      cases fl with
      | ret u => obtain ⟨_, _, _, _, _, q⟩ := q; exact q.elim
      | brk => obtain ⟨_, _, _, q⟩ := q; exact q.elim
      | cont => obtain ⟨_, _, _, q⟩ := q; exact q.elim
      | next =>
        obtain ⟨σ3, H3, I3, q⟩ := q
        refine wpAny_execs_cons (thn (h3.run [] s3' _ H3 _ I3 q) fun fl s4' q => ?_)
        cases fl with
        | ret u => obtain ⟨_, _, _, _, _, q⟩ := q; exact q.elim
        | brk => obtain ⟨_, _, _, q⟩ := q; exact q.elim
        | cont => obtain ⟨_, _, _, q⟩ := q; exact q.elim
        | next =>
          obtain ⟨σ4, H4, I4, v, u, e1, e2, q⟩ := q
          refine wpAny_execs_cons (wpAny_Return_some (thn ((pe_var (X := cxE P w K mg base N qual (defScope st) f ce A outer s H E) hy hv hd1 hd2).run [] s4' σ4 H4 (fun v' H' => v' = v ∧ H' = H4) I4 ⟨v, e1, rfl, rfl⟩) fun uv s5' ⟨v', H5, I5, rv, ev, eH⟩ => ?_))
          subst ev
          subst eH
          have nC : H5 c = none := I5.freeC z c hc
          obtain ⟨m, _, hl5⟩ := I5.loc
          obtain ⟨u', ru, lk5⟩ := hl5 j z u hz e2 (.inr (.inl kz))
          have hcell : s5'.heap.IsCell c (some u') := by
            rcases lk5 with ⟨z1, _⟩ | ⟨_, c1, z1, z2⟩
            · have z1 : (defScope st).names.lookup z = some .local := z1
              rw [kz] at z1
              cases z1
            · have z1 : (cellsFrom (s.heap.objs.size + 1) (defScope st).names []).lookup z = some c1 := z1
              rw [hc] at z1
              cases z1
              exact z2
          have hcn : s.heap.get? c = none := Heap.get?_none_of_le (I5.ok.cab z c rfl hc)
          exact ⟨uv, rfl, v', upd H5 c (CellO c u), I5.os, I5.bare, un_add I5.base nC hcn, hok_add I5.hok nC (cellO_ok ru hcell), rv, q nC⟩
  refine wpAny_mono main (fun fl s' h => ?_) (fun _ _ z => z.elim)
  obtain ⟨u, e, h⟩ := h
  subst e
  exact h
end
/-! ### the inner def's statement: its code's table is known, and no other table is touched -/
/-- all code that the table tells is of this one name -/
def CodesAt (H : Hp) (q : Str) (ps : Array Value) : Prop := TriplesOk ps.toList ∧ ∀ (pos : Pos) (cv : Value), codeAmong pos ps.toList = some cv → ∃ c, cv = .ref c ∧ H c = some (CodeO c q)
theorem CodesAt.mono {H H' : Hp} {q : Str} {ps : Array Value} (t : CodesAt H q ps) (e : ∀ b, H b = some (CodeO b q) → H' b = some (CodeO b q)) : CodesAt H' q ps := ⟨t.1, fun pos cv hc => by
  obtain ⟨c, e1, e2⟩ := t.2 pos cv hc
  exact ⟨c, e1, e c e2⟩⟩
theorem CodesAt.nil {H : Hp} {q : Str} : CodesAt H q #[] := ⟨True.intro, fun pos cv hc => by
  have z : codeAmong pos [] = some cv := hc
  simp [codeAmong] at z⟩
/-- the table behind: what it told, or the code at c', which is new or was told -/
def TabGrown (H : Hp) (ps ps' : Array Value) (c' : Addr) : Prop := TriplesOk ps'.toList ∧ (∀ (pos : Pos) (cv : Value), codeAmong pos ps'.toList = some cv → (∃ p' : Pos, codeAmong p' ps.toList = some cv) ∨ cv = .ref c') ∧ (H c' = none ∨ ∃ p' : Pos, codeAmong p' ps.toList = some (.ref c'))
def tHeard (P : Addr) (i : Nat) (q : Str) (mk : Addr → NF) : TS := fun D σ H => ∃ ps, H P = some (.tbl ps) ∧ CodesAt H q ps ∧
  ∀ (f c' : Addr) (ps' : Array Value) (H1 : Hp), (∀ b o, b ≠ P → H b = some o → H1 b = some o) → (∀ b, H1 b = none → H b = none) → H1 P = some (.tbl ps') → TabGrown H ps ps' c' → H f = none → H1 f = some (FnO f (mk c')) → H1 c' = some (CodeO c' q) → D.nx (σ.set i (some (.ref f))) H1
section
variable {X : Cx}
theorem heard_make {pins : List (Addr × Obj)} {σ : L2.St} {H : Hp} {s : Shared} {c P : Addr} {name : Str} {params : Arguments} {body : List Stmt} {scope : Scope} {pos : Pos} {ps : Array Value} {E : Value → Shared → Prop} {Q : Value → Shared → Prop} (I : Inv X pins σ H s) (TB : TabB X.base X.mg c P) (hcode : X.env.code = .ref c)
    (hP : H P = some (.tbl ps)) (hT : CodesAt H (X.env.qual ++ name) ps) (hfree : ∀ y ∈ scope.names, y.2 = .free → ∃ c, X.env.cells.lookup y.1 = some c)
    (go : ∀ (f c' : Addr) (ps' : Array Value) (H1 : Hp) (s' : Shared), Inv X pins σ H1 s' → (∀ b o, b ≠ P → H b = some o → H1 b = some o) → (∀ b, H1 b = none → H b = none) → H1 P = some (.tbl ps') → TabGrown H ps ps' c' → H f = none →
      H1 f = some (FnO f ⟨name, X.env.qual ++ name, params, body, scope, cloFrom X.env.cells scope.names [], c'⟩) → H1 c' = some (CodeO c' (X.env.qual ++ name)) → Q (.ref f) s') :
    wpAny (model X.prog X.w) X.A (makeFunction name (X.env.qual ++ name) params (.stmts body) scope X.env [] [] [] pos pos.line) Q E s := by
  have bltP : s.heap.BuiltinsAt X.mg P := TB.bm.keeps I.bk
  have tabP : s.heap.get? P = some { cls := .none, data := .fields ps } := I.hok P _ hP
  cases found : codeAmong pos ps.toList with
  | some cv =>
    obtain ⟨c', e, isC⟩ := hT.2 pos cv found
    subst e
    refine PySem.W.makeFunction_hit (mg := X.mg) (c := c) (P := P) (ps := ps) (closure_ok hfree) I.ok.glob (I.mod.glob.keeps I.bk) hcode (TB.code.keeps I.bk) tabP hT.1 found bltP fun ctv doc h' tk hx hsz => ?_
    have J : Inv X pins σ H { s with heap := h', toks := tk } := I.kept hx
    have newF : H h'.objs.size = none := J.hok.fresh (Nat.le_refl _)
    have J2 := inv_fn (F := ⟨name, X.env.qual ++ name, params, body, scope, cloFrom X.env.cells scope.names [], c'⟩) (t' := tk) (doc := doc) (pm := (X.mg "__name__").getD .none) (ctv := ctv) J rfl
    have keepF : ∀ b o, H b = some o → upd H h'.objs.size (FnO h'.objs.size ⟨name, X.env.qual ++ name, params, body, scope, cloFrom X.env.cells scope.names [], c'⟩) b = some o := fun b o e => (upd_ne (ne_of_none e newF)).trans e
    exact go _ c' ps _ _ J2 (fun b o _ e => keepF b o e) (fun b e => upd_none e) (keepF _ _ hP) ⟨hT.1, fun p' cv q => .inl ⟨p', q⟩, .inr ⟨pos, found⟩⟩ newF upd_same (keepF _ _ isC)
  | none =>
    refine PySem.W.makeFunction_K (mg := X.mg) (c := c) (P := P) (ps := ps) (closure_ok hfree) I.ok.glob (I.mod.glob.keeps I.bk) hcode (TB.code.keeps I.bk) tabP hT.1 found TB.gP bltP fun c' ctv doc h' tk hx hge hlt hrec htb => ?_
    obtain ⟨c2, oc, vs, t, e2, hoc, hd, hv⟩ := hrec
    cases e2
    have newC : H c' = none := I.hok.fresh hge
    have J := inv_table (t' := tk) (more := #[rawInt pos.line, rawInt pos.col, .ref c']) (h' := h') I hP (fun b o hb e => hx b o hb e) htb hge ⟨oc, vs, t, hoc, hd, hv⟩
    have newF := J.hok.fresh (Nat.le_refl _)
    have J2 := inv_fn (F := ⟨name, X.env.qual ++ name, params, body, scope, cloFrom X.env.cells scope.names [], c'⟩) (t' := tk) (doc := doc) (pm := (X.mg "__name__").getD .none) (ctv := ctv) J rfl
    have k1 : ∀ b o, b ≠ P → H b = some o → upd (upd H P (.tbl (ps ++ #[rawInt pos.line, rawInt pos.col, .ref c']))) c' (CodeO c' (X.env.qual ++ name)) b = some o := fun b o n e => by
      rw [upd_ne (ne_of_none e newC), upd_ne n]
      exact e
    have kP : upd (upd H P (.tbl (ps ++ #[rawInt pos.line, rawInt pos.col, .ref c']))) c' (CodeO c' (X.env.qual ++ name)) P = some (.tbl (ps ++ #[rawInt pos.line, rawInt pos.col, .ref c'])) := by rw [upd_ne (ne_of_none hP newC), upd_same]
    have kC : upd (upd H P (.tbl (ps ++ #[rawInt pos.line, rawInt pos.col, .ref c']))) c' (CodeO c' (X.env.qual ++ name)) c' = some (CodeO c' (X.env.qual ++ name)) := upd_same
    have asL : (ps ++ #[rawInt pos.line, rawInt pos.col, .ref c']).toList = ps.toList ++ [rawInt pos.line, rawInt pos.col, .ref c'] := by simp
    have T1 : TabGrown H ps (ps ++ #[rawInt pos.line, rawInt pos.col, .ref c']) c' := by
      refine ⟨by rw [asL]; exact PySem.TriplesOk_snoc _ _ _ _ hT.1, fun p' cv q => ?_, .inl newC⟩
      rw [asL] at q
      rcases among_app2 _ hT.1 q with z | ⟨z, _, _⟩
      · exact .inl ⟨p', z⟩
      · exact .inr z
    have k2 : ∀ b o, upd (upd H P (.tbl (ps ++ #[rawInt pos.line, rawInt pos.col, .ref c']))) c' (CodeO c' (X.env.qual ++ name)) b = some o → upd (upd (upd H P (.tbl (ps ++ #[rawInt pos.line, rawInt pos.col, .ref c']))) c' (CodeO c' (X.env.qual ++ name))) h'.objs.size (FnO h'.objs.size ⟨name, X.env.qual ++ name, params, body, scope, cloFrom X.env.cells scope.names [], c'⟩) b = some o := fun b o e => (upd_ne (ne_of_none e newF)).trans e
    exact go _ c' _ _ _ J2 (fun b o n e => k2 _ _ (k1 b o n e)) (fun b e => upd_none (upd_none (upd_none e))) (k2 _ _ kP) T1 (upd_none (upd_none newF)) upd_same (k2 _ _ kC)
theorem ps_heard {st : Stmt} {c P : Addr} {name : Str} {pos : Pos} {i : Nat} (hst : st = .FunctionDef name (C8.fnArgs st) (C8.fnBody st) [] none [] (C8.fnScope st) none name pos) (TB : TabB X.base X.mg c P) (hcode : X.env.code = .ref c)
    (hfree : ∀ y ∈ (C8.fnScope st).names, y.2 = .free → X.env.scope.names.lookup y.1 = some .cell ∨ X.env.scope.names.lookup y.1 = some .free) (hd0 : (C8.fnArgs st).defaults = []) (hk0 : (C8.fnArgs st).kw_defaults = []) (ha : annTrees (C8.fnArgs st) none X.env = [])
    (hN : X.N.Nodup) (hi : X.N[i]? = some name) (hx : Loc X.env.scope name) (hf : X.fn name = true ∨ X.env.scope.names.lookup name = some .local) :
    PS X st (tHeard P i (X.env.qual ++ name) (NF.of st name (X.env.qual ++ name) (cloFrom X.env.cells (C8.fnScope st).names []))) := by
  rw [hst]
  refine ⟨fun pins s σ H D I h => ?_⟩
  obtain ⟨ps, hP, hT, h⟩ := h
  have hq : qualnameIn X.env name name = X.env.qual ++ name := by
    rcases (show X.env.kindOf name = some .local ∨ X.env.kindOf name = some .cell from hx) with e | e
    · rw [qualnameIn, e]
      exact if_neg (by decide)
    · rw [qualnameIn, e]
      exact if_neg (by decide)
  refine PySem.W.nestDef_K hd0 hk0 ha ?_
  rw [hq]
  refine heard_make I TB hcode hP hT (fun y hy e => (hfree y hy e).elim (fun z => I.ok.has _ (.inl z)) fun z => I.ok.has _ (.inr z)) fun f c' ps' H1 s' J k1 k0 kP kT f0 f1 c1 => ?_
  exact store_ok J hN hi hx (v := .ref f) rfl (fun s'' J' => ⟨_, H1, J', h f c' ps' H1 k1 k0 kP kT f0 f1 c1⟩) hf
end
/-! ### an ear: what stands for it -/
def inP (pairs : List (Int × Int)) (a b : Int) : Bool := pairs.any fun p => decide (p.1 = a) && decide (p.2 = b)
def earI (pairs : List (Int × Int)) (a b c : Int) : Int := if inP pairs a b = true then 1 - c else c
def KeysAre (kvs : List (List Key × V)) (pairs : List (Int × Int)) : Prop := ∀ a b : Int, (valV kvs [.inl a, .inl b]).isSome = inP pairs a b
/-- the inner def's words: its statement, its name, how it is called in full, what it catches -/
structure EW where
  st : Stmt
  name : Str
  qual : Str
  z : Str
abbrev EW.nf (W : EW) (cell c' : Addr) : NF := NF.of W.st W.name W.qual [(W.z, cell)] c'
def EarAt (W : EW) (H : Hp) (f : Addr) (pairs : List (Int × Int)) : Prop := ∃ c' cell d kvs, H f = some (FnO f (W.nf cell c')) ∧ H c' = some (CodeO c' W.qual) ∧ H cell = some (CellO cell (.ref d)) ∧ H d = some (.dT kvs) ∧ KeysAre kvs pairs
def rEar (W : EW) : Rp (List (Int × Int)) := fun F v ps => ∃ f, v = .ref f ∧ EarAt W F f ps
theorem EarAt.mono {W : EW} {H H' : Hp} {f : Addr} {ps : List (Int × Int)} (x : EarAt W H f ps) (e : Ex H H') : EarAt W H' f ps := by
  obtain ⟨c', cell, d, kvs, h1, h2, h3, h4, h5⟩ := x
  exact ⟨c', cell, d, kvs, e _ _ h1, e _ _ h2, e _ _ h3, e _ _ h4, h5⟩
theorem mEar (W : EW) : Mono (rEar W) := fun _ _ _ _ e ⟨f, h1, h2⟩ => ⟨f, h1, h2.mono e⟩
theorem rEar_ref {W : EW} {F : Hp} {v : V} {ps : List (Int × Int)} (h : rEar W F v ps) : ∃ p, v = .ref p := by
  obtain ⟨f, h1, _⟩ := h
  exact ⟨f, h1⟩
theorem rEar_at {W : EW} {F : Hp} {p : Addr} {ps : List (Int × Int)} (h : rEar W F (.ref p) ps) : EarAt W F p ps := by
  obtain ⟨f, h1, h2⟩ := h
  cases h1
  exact h2
/-- the inner def's promise -/
def spH : List (Option V) → Sp := fun ws vs H Q _ => ∃ d kvs a b c, ws = [some (.ref d)] ∧ vs = [.int a, .int b, .int c] ∧ H d = some (.dT kvs) ∧ RetV (.int (if (valV kvs [.inl a, .inl b]).isSome = true then 1 - c else c)) H Q
/-- an ear is called: the name in slot i holds it -/
def tEar (W : EW) (i : Nat) (t : TA) : TE := fun σ H Q => ∃ f pairs, σ[i]? = some (some (.ref f)) ∧ EarAt W H f pairs ∧ t σ H fun vs H1 => ∃ a b c, vs = [.int a, .int b, .int c] ∧ EarAt W H1 f pairs ∧ RetV (.int (earI pairs a b c)) H1 Q
def noC (H : Hp) (cell : Addr) : Hp := fun b => if b = cell then none else H b
theorem noC_at {H : Hp} {cell : Addr} : noC H cell cell = none := if_pos rfl
theorem noC_ne {H : Hp} {cell b : Addr} (h : b ≠ cell) : noC H cell b = H b := if_neg h
theorem noC_none {H : Hp} {cell b : Addr} (h : H b = none) : noC H cell b = none := by
  unfold noC
  split
  · rfl
  · exact h
theorem noC_some {H : Hp} {cell b : Addr} {o : HO} (h : noC H cell b = some o) : b ≠ cell ∧ H b = some o := by
  unfold noC at h
  split at h
  · cases h
  · exact ⟨by assumption, h⟩
section
variable {X : Cx} {W : EW} {ps : List Str} {i j k : Nat} {x : Str} {t : TA} {e : Expr} {es : List Expr} {p pos : Pos}
theorem ear_run {pins : List (Addr × Obj)} {σ : L2.St} {H : Hp} {s : Shared} {Q : VK} {f : Addr} {us : List Value} {pairs : List (Int × Int)} {a b c : Int} (Fn : ∀ f cell c', NOk X.prog X.w X.K X.mg X.base CX0 k f (W.nf cell c') ps [W.z] spH) (hr : Room j X.A) (hk : k ≤ j) (I : Inv X pins σ H s)
    (E : EarAt W H f pairs) (r : Vals [.int a, .int b, .int c] us) (q : RetV (.int (earI pairs a b c)) H Q) : wpAny (model X.prog X.w) X.A (call (.ref f) us) (EP X pins σ Q) X.xe s := by
  obtain ⟨c', cell, d, kvs, hf, hc, hcell, hd, hkeys⟩ := E
  obtain ⟨u0, ru0, o0, ho0, hd0⟩ := cellO_at I.hok hcell
  have nef : f ≠ cell := fun z => by
    obtain ⟨od, sl, doc, pm, ctv, ho⟩ := fnO_at I.hok hf
    rw [z, ho0] at ho
    cases ho
    cases hd0
  have nec : c' ≠ cell := fun z => by
    obtain ⟨c2, oc, vs, t, e2, hoc, hdd, hv⟩ := codeO_at I.hok hc
    cases e2
    rw [z, ho0] at hoc
    cases hoc
    rw [hd0] at hdd
    cases hdd
  have ned : d ≠ cell := fun z => by
    rw [z, hcell] at hd
    cases hd
  have e0 := I.env0
  have E0' : Env0 X.prog X.w X.K X.mg X.base X.A X.stack s (noC H cell) := ⟨e0.frames, e0.mod, fun b o h => ⟨(e0.bs b o h).1, noC_none (e0.bs b o h).2⟩, e0.bsz, e0.funs, fun b hb => noC_none (e0.frf b hb), fun b o h => by
    obtain ⟨nb, h⟩ := noC_some h
    exact (e0.hok b o h).stay (fun _ _ _ q => q) (fun d' q => by rw [noC_ne (fun z => by rw [z, hcell] at q; cases q)]; exact q) (fun d' xs q => by rw [noC_ne (fun z => by rw [z, hcell] at q; cases q)]; exact q), e0.bare⟩
  have C : CellsAt (W.nf cell c').cl [W.z] [some (.ref d)] s.heap (noC H cell) := by
    refine ⟨rfl, fun y c1 hl => ?_, fun y1 y2 c1 h1 h2 => ?_, fun n y hy => ?_⟩
    · have hl : [(W.z, cell)].lookup y = some c1 := hl
      simp only [List.lookup] at hl
      split at hl
      · cases hl
        exact ⟨noC_at, some u0, o0, ho0, hd0⟩
      · cases hl
    · have h1 : [(W.z, cell)].lookup y1 = some c1 := h1
      have h2 : [(W.z, cell)].lookup y2 = some c1 := h2
      simp only [List.lookup] at h1 h2
      split at h1
      · rename_i q1
        split at h2
        · rename_i q2
          rw [eq_of_beq q1, eq_of_beq q2]
        · cases h2
      · cases h1
    · cases n with
      | zero =>
        cases hy
        refine ⟨cell, by show [(W.z, cell)].lookup W.z = some cell; simp [List.lookup], fun v hv => ?_⟩
        cases hv
        exact ⟨u0, ru0, o0, ho0, hd0⟩
      | succ n => simp at hy
  refine wpAny_call (codeAny_mono ((Fn f cell c').run X.A X.stack s (noC H cell) us _ [some (.ref d)] (fun v H' => v = .int (earI pairs a b c) ∧ Ex (noC H cell) H') E0 (hr.mono hk) E0' (by rw [noC_ne nef]; exact hf) (by show noC H cell c' = _; rw [noC_ne nec]; exact hc) C r
    ⟨d, kvs, a, b, c, rfl, rfl, by rw [noC_ne ned]; exact hd, fun H' ex => ⟨by unfold earI; rw [hkeys a b], ex⟩⟩) fun rs s' hq => ?_)
  cases rs with
  | error e => exact False.elim hq
  | ok fl =>
    cases fl with
    | next => exact False.elim hq
    | brk => exact False.elim hq
    | cont => exact False.elim hq
    | ret u =>
      obtain ⟨v, H', os, bare, un, hok, rv, ev, ex⟩ := hq
      subst ev
      have nC : H' cell = none := un.free cell o0 ho0 noC_at (by simp)
      obtain ⟨sl, hsl⟩ := un.any ho0 noC_at (by simp)
      refine I.after ⟨.int (earI pairs a b c), upd H' cell (CellO cell (.ref d)), os, bare, ⟨fun b1 o h n hb hx => un.keep b1 o h (noC_none n) hb hx, fun b1 o h n hb hx => un.slot b1 o h (noC_none n) hb hx, fun b1 o h n hx => ?_, un.there, fun b1 xs h => ?_, fun b1 o z h => ?_, fun b1 qs h => ?_⟩, hok_add hok nC (cellO_ok ru0 ⟨_, hsl, hd0⟩), rv, q _ fun b1 o h => ?_⟩
      · rw [upd_ne (fun z => by rw [z, hcell] at n; cases n)]
        exact un.free b1 o h (noC_none n) hx
      · have nb : b1 ≠ cell := fun z => by rw [z, hcell] at h; cases h
        rw [upd_ne nb]
        exact un.tups b1 xs (by rw [noC_ne nb]; exact h)
      · have nb : b1 ≠ cell := fun z' => by rw [z', hcell] at h; cases h
        rw [upd_ne nb]
        exact un.frzs b1 o z (by rw [noC_ne nb]; exact h)
      · have nb : b1 ≠ cell := fun z => by rw [z, hcell] at h; cases h
        rw [upd_ne nb]
        exact un.tbls b1 qs (by rw [noC_ne nb]; exact h)
      · by_cases nb : b1 = cell
        · subst nb
          rw [hcell] at h
          rw [upd_same, h]
        · rw [upd_ne nb]
          exact ex _ _ (by rw [noC_ne nb]; exact h)
theorem pe_ear (Fn : ∀ f cell c', NOk X.prog X.w X.K X.mg X.base CX0 k f (W.nf cell c') ps [W.z] spH) (hr : Room j X.A) (hk : k ≤ j) (hN : X.N[i]? = some x) (hv : Vis X.env.scope x) (ha : PA X (e :: es) t)
    (hd : (x == ("__debug__" : Str)) = false := by decide) (hcd : (x == ("__classdict__" : Str)) = false := by decide)
    (he : starEach (e :: es) X.env = (false, eval e X.env) :: starEach es X.env := by rfl) (hpl : (backTo pos (starEach es X.env)).any (·.1) = false := by rfl) : PE X (.Call (.Name x p) (e :: es) [] pos) (tEar W i t) := by
  refine ⟨fun pins s σ H Q I h => ?_⟩
  obtain ⟨f, pairs, hs, hE, ht⟩ := h
  have fnf : ∀ {s' : Shared} {H' : Hp}, Inv X pins σ H' s' → EarAt W H' f pairs → PySem.W.FnAt f s'.heap := fun J ⟨_, _, _, _, z, _⟩ => fnAt_of J z
  refine wpAny_Call_Name_kw (thn ((pe_var (pos := p) hN hv hd hcd).run pins s σ H (fun v H1 => v = .ref f ∧ H1 = H) I ⟨.ref f, hs, rfl, rfl⟩) fun u s1 ⟨v, H1, I1, r1, ev, eH⟩ => ?_)
  subst ev
  subst eH
  obtain rfl : u = Value.ref f := r1
  refine PySem.W.callWith_F (first := []) (fnf I1 hE) (thn (ha.run pos pins s1 σ H1 _ I1 ht) fun us s2 ⟨vs, H2, I2, r, a, b, c, ev, hE2, q⟩ => ⟨fnf I2 hE2, ?_⟩) he hpl
  subst ev
  exact ear_run Fn hr hk I2 hE2 r q
end
theorem o_din {td ty : TE} {σ : L2.St} {H : Hp} {Q : VK} (h : ty σ H fun y H1 => td σ H1 fun x H2 => ∃ a o, x = .ref a ∧ DGet H2 a y o ∧ Q (.bl o.isSome) H2) : tDIn ty td σ H Q := h
theorem o_dnewT {σ : L2.St} {H : Hp} {Q : VK} (h : ∀ p, H p = none → Q (.ref p) (upd H p (.dT []))) : tDNewT σ H Q := h
theorem o_dput {td ty tv : TE} {σ : L2.St} {H : Hp} {n b k : L2.St → Hp → Prop} {w : VK} (h : tv σ H fun v H1 => td σ H1 fun x H2 => ty σ H2 fun y H3 => ∃ a H4, x = .ref a ∧ DPut H3 a y v H4 ∧ n σ H4) : sDPut td ty tv (Ends.mk n w b k) σ H := h
theorem o_heard {P : Addr} {i : Nat} {q : Str} {mk : Addr → NF} {σ : L2.St} {H : Hp} {n b k : L2.St → Hp → Prop} {w : VK} (h : ∃ ps, H P = some (.tbl ps) ∧ CodesAt H q ps ∧
  ∀ (f c' : Addr) (ps' : Array Value) (H1 : Hp), (∀ b o, b ≠ P → H b = some o → H1 b = some o) → (∀ b, H1 b = none → H b = none) → H1 P = some (.tbl ps') → TabGrown H ps ps' c' → H f = none → H1 f = some (FnO f (mk c')) → H1 c' = some (CodeO c' q) → n (σ.set i (some (.ref f))) H1) : tHeard P i q mk (Ends.mk n w b k) σ H := h
/-! ### the table of the inner def's code, handed on by those who make ears -/
def oTab (W : EW) (P : Addr) : Ob Unit := fun F a L _ => a = P ∧ ∃ ps, L = [(P, .tbl ps)] ∧ CodesAt F W.qual ps
theorem moTab (W : EW) (P : Addr) : MonoO (oTab W P) := fun _ _ _ _ _ e ⟨h0, ps, h1, h2⟩ => ⟨h0, ps, h1, h2.mono fun b h => e b _ h⟩
theorem keys_nil : KeysAre [] [] := fun _ _ => rfl
theorem keys_put {kvs : List (List Key × V)} {ps : List (Int × Int)} {x : Int × Int} {v : V} (h : KeysAre kvs ps) : KeysAre (putK kvs [.inl x.1, .inl x.2] v) (ps ++ [x]) := fun a b => by
  rw [valV_put]
  unfold inP
  rw [List.any_append]
  by_cases c : x.1 = a ∧ x.2 = b
  · obtain ⟨rfl, rfl⟩ := c
    rw [if_pos rfl]
    simp
  · rw [if_neg (fun z => c (by simp only [List.cons.injEq, Sum.inl.injEq] at z; exact ⟨z.1.symm, z.2.1.symm⟩)), h a b]
    unfold inP
    have : (decide (x.1 = a) && decide (x.2 = b)) = false := by
      rw [← Bool.decide_and]
      exact decide_eq_false c
    simp [this]
theorem putV_len {κ : Type} [DecidableEq κ] (kvs : List (κ × V)) (k : κ) (v : V) : (putK kvs k v).length ≤ kvs.length + 1 := by
  unfold putK
  split
  · rw [List.length_map]
    exact Nat.le_succ _
  · rw [List.length_append]
    exact Nat.le_refl _
end Bt

set_option Elab.async false
set_option linter.all false
set_option maxRecDepth 100000
set_option maxHeartbeats 4000000
/-! What rails need beside. -/
namespace Bt
open PySem L2
abbrev rQ (W : EW) := rEar W
abbrev mQ (W : EW) := mEar W
theorem rQ_ref {W : EW} {F : Hp} {v : V} {ps : List (Int × Int)} (h : rQ W F v ps) : ∃ p, v = .ref p := rEar_ref h
theorem nnQ {W : EW} : NN (rQ W) := fun _ _ _ h => by
  obtain ⟨p, rfl⟩ := rEar_ref h
  simp
theorem o_ear {W : EW} {i : Nat} {t : TA} {σ : L2.St} {H : Hp} {Q : VK} (h : ∃ f pairs, σ[i]? = some (some (.ref f)) ∧ EarAt W H f pairs ∧ t σ H fun vs H1 => ∃ a b c, vs = [.int a, .int b, .int c] ∧ EarAt W H1 f pairs ∧ RetV (.int (earI pairs a b c)) H1 Q) : tEar W i t σ H Q := h
/-! a list of one's own lists, seen as data -/
section
variable {α : Type} {P : Rp α} {f : α → V} {F R H : Hp} {C L : List Cell} {a : Addr} {xs : List (List α)}
theorem rows_allD (m : Mono P) (e : Ex F H) {as : List Addr} {Ls : List (List Cell)} (h : All3 (oRowD P F) as Ls xs) (hg : ∀ c ∈ Ls.flatten, H c.1 = some c.2) : All2 (rL P H) (as.map V.ref) xs := by
  induction h with
  | nil => exact .nil
  | @cons p L x as Ls xs h _ ih =>
    obtain ⟨vs, rfl, ha⟩ := h
    refine .cons ⟨p, vs, rfl, hg (p, _) (by simp), mA m e ha⟩ (ih fun c hc => hg c (by simp at hc ⊢; exact .inr hc))
theorem rows_viewD (m : Mono P) (O : Own R H C) (h : oLs (oRowD P) F a L xs) (hs : ∀ c ∈ L, c ∈ C) (e : Ex F H) : rL (rL P) H (.ref a) xs := by
  obtain ⟨as, Ls, hp, h3⟩ := h
  refine ⟨a, _, rfl, O.mem (hs _ (hp.mem_iff.mpr (List.Mem.head _))), rows_allD m e h3 fun c hc => O.at_ c (hs _ (hp.mem_iff.mpr (List.Mem.tail _ hc)))⟩
theorem rows_view (hP : ∀ F x, P F (f x) x) (O : Own R H C) (h : oLs (oRow f) F a L xs) (hs : ∀ c ∈ L, c ∈ C) : rL (rL P) H (.ref a) xs := by
  obtain ⟨as, Ls, hp, h3⟩ := h
  exact ⟨a, _, rfl, O.mem (hs _ (hp.mem_iff.mpr (List.Mem.head _))), rows_all hP h3 fun c hc => O.at_ c (hs _ (hp.mem_iff.mpr (List.Mem.tail _ hc)))⟩
end
end Bt

set_option Elab.async false
set_option linter.all false
set_option maxRecDepth 100000
set_option maxHeartbeats 4000000
/-! The head of a law in which a table of code objects grows. -/
namespace Bt
open PySem L2 PySem.Spec PyProof.Rows
abbrev earP : Str × Option Str := ("ear", none)
structure SaysT (fa : List FP) (fn : List He.FnD) (h : Heap) (K : PySem.W.Frag) : Prop where
  s : SaysH fa fn K
  hd : PySem.W.codeHdIn K (He.cT K earP).1 (He.cT K earP).2 = true
  out : K.lookup (He.cT K earP).2 = none
  empty : h.get? (He.cT K earP).2 = some { cls := .none, data := .fields #[] }
abbrev AlT2 : Type := He.Al × Bool
def tabE (g : Addr → Option Obj) (K : PySem.W.Frag) : Bool := PySem.W.codeHdIn K (He.cT K earP).1 (He.cT K earP).2 && (match g (He.cT K earP).2 with
  | some o => He.emptyTab o
  | none => false)
def obsTG (n : Nat) (fa : List FP) (fn : List He.FnD) (g : Addr → Option Obj) : AlT2 := (obsH fa fn (He.frT g (PySem.cStatics :: lvH g n [mainGlobals])), tabE g (He.frT g (PySem.cStatics :: lvH g n [mainGlobals])))
theorem saysT_of {n : Nat} {fa : List FP} {fn : List He.FnD} {h : Heap} (e : obsTG n fa fn h.get? = (He.valE fn, true)) : SaysT fa fn h (He.frT h.get? (PySem.cStatics :: lvH h.get? n [mainGlobals])) := by
  have e1 := congrArg (fun z : AlT2 => z.1) e
  have e2 : tabE h.get? (He.frT h.get? (PySem.cStatics :: lvH h.get? n [mainGlobals])) = true := congrArg (fun z : AlT2 => z.2) e
  obtain ⟨h1, h2⟩ := He.ba e2
  cases q : h.get? (He.cT (He.frT h.get? (PySem.cStatics :: lvH h.get? n [mainGlobals])) earP).2 with
  | none =>
    rw [q] at h2
    cases h2
  | some o =>
    rw [q] at h2
    exact ⟨e1, h1, He.frT_none q h2, by rw [q, He.emptyTab_eq h2]⟩
def hookT (n : Nat) (fa : List FP) (fn : List He.FnD) : PySem.W.Hook where
  α := AlT2
  obs := fun s => obsTG n fa fn s.heap.get?
  val := fun _ => (He.valE fn, true)
  says := fun _ h => ∃ K : PySem.W.Frag, K.In h ∧ SaysT fa fn h K
  of := fun _ _ e => ⟨_, He.frT_in, saysT_of e⟩
  keeps := fun _ _ _ ⟨K, hK, c⟩ k => ⟨K, PySem.W.Frag.In.keeps hK k, ⟨c.s, c.hd, c.out, k _ _ c.empty⟩⟩
theorem obsTG_eq {n : Nat} {fa : List FP} {fn : List He.FnD} {g : Addr → Option Obj} {s : Shared} (h : ∀ a, g a = s.heap.get? a) : obsTG n fa fn g = (hookT n fa fn).obs s := by
  have e : g = s.heap.get? := funext h
  rw [e] <;> rfl
/-- the ear's own def: its code object is the one whose table is known -/
theorem SaysH.ear {fa : List FP} {fn : List He.FnD} {K : PySem.W.Frag} {h : Heap} {mg : Str → Option Value} (c : SaysH fa fn K) (X : K.In h) (G : h.Ns mainGlobals mg) (i : Nat) {st : Stmt} (hi : fn[i]? = some (dF earP "ear" "ear" st)) (h1 : PySem.W.nsIn K mainGlobals "ear" = some (some (.ref (He.ga K "ear"))))
    (h3 : PySem.W.keepIn K (.ref (He.ga K "ear")) = true) : ∃ f fd, Fun K "ear" "ear" st f fd ∧ mg "ear" = some (.ref f) ∧ fd.code = .ref (He.cT K earP).1 := by
  obtain ⟨oc, od, osl, kV, doc, pm, an, cdv, ct, e1, e2⟩ := c.def_ i hi
  obtain ⟨ce, rfl⟩ := He.codeIn_ref e2
  refine ⟨He.ga K "ear", _, ⟨⟨_, _, _, _, _, _, _, _, _, rfl, e1, e2⟩, h3⟩, PySem.W.mg_of X G h1, ?_⟩
  have e3 : He.codeOf K earP = ce := He.codeOf_eq (p := earP) e1 rfl
  show Value.ref ce = .ref (He.codeOf K earP)
  rw [e3]
/-- the law's promise holds where its table is still empty -/
theorem walk_ofTE {l : PySem.W.OpenLaw} {n k : Nat} {q : Program} {loose : List Str} {XP : (Str → Option Value) → Heap → Prop} {YP : World → Heap → Prop} {d : DefRec} {x : Str} (hn : l.most = some n) (hn2 : n ≤ sizeLine) (hdf : d.params.defaults = []) (hr : Room k callerA)
    (F : ∀ (w : World) (mg : Str → Option Value) (fa : Addr) (h : Heap), YP w h → h.Ns mainGlobals mg → mg d.name = some (.ref fa) → ∃ K : PySem.W.Frag, K.In h ∧ LamX.LawAtS l w K CX0 k n x mg fa h) : PySem.W.WalkO q loose XP YP l.row.toRowW d [] (fun f vs => PySem.call f vs) := by
  refine Att.attach_callB hn hdf fun w s0 s1 mg mb fa o pm cd doc a vs ns G Y ho hd hcd hmg hobj hints hlen hbits hg => ?_
  obtain ⟨K, KX, fd, cs, sp, hT, nT, C, hb, hsp, hF⟩ := F w mg fa _ Y G.T.g hmg
  exact LamX.law_callTs KX G.T.g G.T.b G.T.builtins G.T.nolimit hg hT nT C G.T.bmain hobj hints (Nat.le_trans hlen hn2) hr hF hb (fun H hH hS => hsp H a ns hlen hbits hH hS) fun H e s' z => z
/-- what the law's promise asks at the start -/
theorem tab_start {K : PySem.W.Frag} {W : EW} {P a : Addr} {H : Hp} {ns : List Int} (h : H P = some (.tbl #[])) (hs : SqL K H a (ns.map V.int)) :
    Own (hsub H [(P, .tbl #[])]) H [(P, .tbl #[])] ∧ SqL K (hsub H [(P, .tbl #[])]) a (ns.map V.int) ∧ oTab W P (hsub H [(P, .tbl #[])]) P [(P, .tbl #[])] () := by
  refine ⟨⟨hsub_ex, fun c hc => ?_, fun c hc => hsub_in hc, by simp⟩, ?_, rfl, #[], rfl, CodesAt.nil⟩
  · obtain rfl : c = (P, .tbl #[]) := by simpa using hc
    exact h
  · have ne : ∀ u : HO, H a = some u → (∀ q, u ≠ .tbl q) → hsub H [(P, .tbl #[])] a = some u := fun u e nu => by
      unfold hsub
      rw [if_neg (by
        intro m
        have : a = P := by simpa using m
        rw [this, h] at e
        exact nu _ (Option.some.inj e).symm)]
      exact e
    rcases hs with (z | ⟨o, z⟩) | z
    · exact .inl (.inl (ne _ z fun q e => by cases e))
    · exact .inl (.inr ⟨o, ne _ z fun q e => by cases e⟩)
    · exact .inr z
end Bt

set_option Elab.async false
set_option linter.all false
set_option maxRecDepth 100000
set_option maxHeartbeats 4000000
set_option synthInstance.maxHeartbeats 400000
set_option synthInstance.maxSize 4096
namespace Bt
open PySem L2
open HAppend (hAppend)
def top (i : Nat) : Stmt := PySem.Challenge.pw_bitrail_k50_an_ear.main.body.getD i (.Pass ⟨0, 0, 0, 0⟩)
abbrev s__law_draw : Stmt := top 3
abbrev s__law_pairs : Stmt := top 4
abbrev s_ear : Stmt := top 1
abbrev s__law_tells : Stmt := top 5
abbrev s_law : Stmt := top 6
open LamX NdefX
abbrev s_heard : Stmt := (defBody s_ear).getD 2 (.Pass ⟨0, 0, 0, 0⟩)
open PySem.Spec PyProof.Rows
def hfa0 : List FP := [mkF (fG "_law_draw"), mkF (fK "_law_draw"), mkF (fG "_law_pairs"), mkF (fK "_law_pairs"), mkF (fG "ear"), mkF (fK "ear"), mkF (fG "_law_tells"), mkF (fK "_law_tells"), mkF (fG "law"), mkF (fK "law"), mkF (fZ "bool"), mkF (fZ "int"), mkF (fZ "isinstance"), mkF (fZ "len"), mkF (fZ "list"), mkF (fZ "range")]
def hfa : List FP := hfa0
def hfn0 : List He.FnD := [dF ("_law_draw", none) "_law_draw" "_law_draw" s__law_draw,
  dF ("_law_pairs", none) "_law_pairs" "_law_pairs" s__law_pairs,
  dF ("ear", none) "ear" "ear" s_ear,
  dF ("_law_tells", none) "_law_tells" "_law_tells" s__law_tells,
  dF ("law", none) "law" "law" s_law]
def hfn : List He.FnD := hfn0
def hnm0 : List Str := ["__name__", "ear", "_law_draw", "_law_pairs", "_law_tells"]
def hnm : List Str := hnm0
abbrev hR : PySem.W.OpenRow := PySem.W.OpenLaw.row PySem.Challenge.rw_bitrail_k50_an_ear
abbrev hqv : Program := PySem.W.view hR.prog [6]
abbrev hk : PySem.W.Hook := hookT 4 hfa hfn
def hob (s : PySem.W.SharedT) : AlT2 := obsTG 4 hfa hfn (HandSHeadRun.getT s)
theorem hob_eq (s : PySem.W.SharedT) : hob s = hk.obs s.abs := obsTG_eq (HandSHeadRun.getT_eq s)
set_option maxHeartbeats 0 in
theorem hrunA (w : World) : RunA hR 30000 w := by
  intro os
  kernel_rfl
set_option maxHeartbeats 0 in
theorem hrunB (w : World) : RunB hR hqv 30000 hnm w := by
  intro os
  kernel_rfl
set_option maxHeartbeats 0 in
theorem hrunC (w : World) : RunC hR AlT2 hob (He.valE hfn, true) 30000 w := by
  intro os
  kernel_rfl
theorem hrun (w : World) : HandSHeadRun.RunEq hR hqv hk hob 30000 hnm w := run3 (hrunA w) (hrunB w) (hrunC w)
end Bt

set_option Elab.async false
set_option linter.all false
set_option maxRecDepth 100000
set_option maxHeartbeats 4000000
set_option synthInstance.maxHeartbeats 400000
set_option synthInstance.maxSize 4096
namespace Bt
open PySem L2
open HAppend (hAppend)
open LamX NdefX
abbrev eW : EW := ⟨s_heard, "heard", "ear.<locals>.heard", "kept"⟩
structure Ad where
  f__law_draw : Addr
  fd__law_draw : FuncData
  f__law_pairs : Addr
  fd__law_pairs : FuncData
  f_ear : Addr
  fd_ear : FuncData
  f__law_tells : Addr
  fd__law_tells : FuncData
  f_law : Addr
  fd_law : FuncData
  te : Addr
  ce : Addr
  es : Eds
abbrev o_Tab (ad : Ad) : Ob Unit := oTab eW ad.te
abbrev mo_Tab (ad : Ad) := moTab eW ad.te
structure Txt (K : PySem.W.Frag) (mg : Str → Option Value) (base : Heap) (ad : Ad) : Prop where
  F__law_draw : Fun K "_law_draw" "_law_draw" s__law_draw ad.f__law_draw ad.fd__law_draw
  g__law_draw : mg "_law_draw" = some (.ref ad.f__law_draw)
  b__law_draw : Binds K ad.fd__law_draw ["script", "k", "many"] []
  F__law_pairs : Fun K "_law_pairs" "_law_pairs" s__law_pairs ad.f__law_pairs ad.fd__law_pairs
  g__law_pairs : mg "_law_pairs" = some (.ref ad.f__law_pairs)
  b__law_pairs : Binds K ad.fd__law_pairs ["script", "base"] []
  F_ear : Fun K "ear" "ear" s_ear ad.f_ear ad.fd_ear
  g_ear : mg "ear" = some (.ref ad.f_ear)
  b_ear : Binds K ad.fd_ear ["wrong"] []
  F__law_tells : Fun K "_law_tells" "_law_tells" s__law_tells ad.f__law_tells ad.fd__law_tells
  g__law_tells : mg "_law_tells" = some (.ref ad.f__law_tells)
  b__law_tells : Binds K ad.fd__law_tells ["hearing", "pairs", "post", "turn", "bit"] []
  F_law : Fun K "law" "law" s_law ad.f_law ad.fd_law
  g_law : mg "law" = some (.ref ad.f_law)
  b_law : Binds K ad.fd_law ["script"] []
  z_bool : mg "bool" = none
  z_int : mg "int" = none
  z_isinstance : mg "isinstance" = none
  z_len : mg "len" = none
  z_list : mg "list" = none
  z_range : mg "range" = none
  U_ear : ad.fd_ear.code = .ref ad.ce
  TB : LamX.TabB base mg ad.ce ad.te
section
variable {P : Program} {w : World} {K : PySem.W.Frag} {mg : Str → Option Value} {base : Heap}
def m__law_draw (script_1 : List Int) (k_3 : Int) (many_4 : Int) : Option (Int) :=
  bnd (ifB (decide ((0 : Int) < (List.length script_1 : Int))) (bnd (modG k_3 (List.length script_1 : Int)) fun t_5 =>
  bnd (atI script_1 t_5) fun e_7 => some e_7) ( some (0 : Int))) fun z_10 =>
  bnd (mulG ((31 : Int) * k_3) k_3) fun t_12 =>
  ltv ((((z_10 % (1000003 : Int)) + t_12) + (1 : Int))) fun seed_14 =>
  bnd (modG ((((seed_14 * (48271 : Int)) % (999983 : Int)) * (7919 : Int)) % (524287 : Int)) many_4) fun t_16 =>
  some t_16
def sp__law_draw (K : PySem.W.Frag) : Sp := fun vs H Q _ => ∃ (script_1 : List Int) (a_2 : Addr) (k_3 : Int) (many_4 : Int) (r : Int), vs = [.ref a_2, .int k_3, .int many_4] ∧ SqL K H a_2 (List.map V.int script_1) ∧ m__law_draw script_1 k_3 many_4 = some r ∧ RetV (.int r) H Q
abbrev N__law_draw : List Str := ["script", "k", "many", "cell", "seed"]
theorem sc__law_draw : FnScope N__law_draw ["script", "k", "many"] (defScope s__law_draw) := ⟨rfl, rfl, rfl, by decide +kernel, rfl, by decide +kernel, by decide +kernel⟩
theorem ok__law_draw {ad : Ad} (T : Txt K mg base ad) : FnOk P w K mg base CX0 1 ad.f__law_draw ad.fd__law_draw ["script", "k", "many"] (sp__law_draw K) := by
  refine T.F__law_draw.ok sc__law_draw (fun vs H Q E h => ?_) (fun cdv A outer s H vs Q E hr h => ?_)
  · obtain ⟨_, _, _, _, _, rfl, _⟩ := h
    rfl
  · obtain ⟨script_1, a_2, k_3, many_4, r, rfl, hp_a_2, hm, k⟩ := h
    unfold m__law_draw at hm
    obtain ⟨H0, hH0⟩ : ∃ H0 : Hp, H0 = H := ⟨H, rfl⟩
    have O : Own H0 H [] := by rw [hH0]; exact Own.start H
    rw [← hH0] at k hp_a_2
    clear hH0
    refine ⟨_, (pss_cons (ps_set (i := 3) sc__law_draw.nd rfl (Or.inl rfl) (pe_ifExp (pt_cmpR op_gt (pe_callB (r := rLenQ K) call_lenQ (by rfl) T.z_len PySem.boot_len (pa_cons (pv 0) pa_nil)) pe_int (nomark _)) (pe_ix (r := rIxL K) ix_list (pv 0) (pe_op op_mod (pv 1) (pe_callB (r := rLenQ K) call_lenQ (by rfl) T.z_len PySem.boot_len (pa_cons (pv 0) pa_nil))) (fun _ _ => rfl)) pe_int)) (pss_cons (ps_set (i := 4) sc__law_draw.nd rfl (Or.inl rfl) (pe_op op_add (pe_op op_add (pe_op op_mod (pv 3) pe_int) (pe_op op_mulW (pe_op op_mul pe_int (pv 1)) (pv 1))) pe_int)) (pss_one (ps_ret (pe_op op_mod (pe_op op_mod (pe_op op_mul (pe_op op_mod (pe_op op_mul (pv 4) pe_int) pe_int) pe_int) pe_int) (pv 2)))))), ?_⟩
    -- 14
    refine o_seq ?_
    refine o_asg ?_
    obtain ⟨z_10, h11, hm⟩ := bndE hm
    refine x_if (c := decide ((0 : Int) < (List.length script_1 : Int))) (x := .int z_10) (y := .int z_10) (v := .int z_10) O (fun Q1 k1 => ?_) (fun h9 => ⟨rfl, fun H O Q2 k2 => ?_⟩) (fun h9 => ⟨rfl, fun H O Q2 k2 => ?_⟩) (fun H O => ?_)
    · refine ⟨_, rfl, ?_⟩
      refine x_nil ?_
      refine n_len (O.ex.l hp_a_2) ?_
      refine ⟨_, _, rfl, rfl, _, rfl, ?_⟩
      exact k1 _ O
    · replace hm := ifT h11 h9
      obtain ⟨t_5, h6, hm⟩ := bndE hm
      obtain ⟨e_7, h8, hm⟩ := bndE hm
      obtain rfl := Option.some.inj hm
      refine ⟨_, rfl, _, rfl, _, rfl, ?_⟩
      refine x_nil ?_
      refine n_len (O.ex.l hp_a_2) ?_
      refine k_mod h6 ?_
      refine k_ixL (f := V.int) (O.ex.l hp_a_2) h8 ?_
      exact k2 _ O
    · replace hm := ifF h11 h9
      obtain rfl := Option.some.inj hm
      refine o_c ?_
      exact k2 _ O
    -- 15
    refine o_seq ?_
    refine o_asg ?_
    obtain ⟨t_12, h13, hm⟩ := bndE hm
    refine ⟨_, rfl, _, _, rfl, rfl, (by show (0 : Int) < 1000003; decide), _, rfl, _, _, rfl, rfl, .inl ⟨by decide, by decide⟩, _, rfl, ?_⟩
    refine k_mul h13 ?_
    refine ⟨_, _, rfl, rfl, _, _, rfl, rfl, ?_⟩
    obtain ⟨seed_14, h15, hm⟩ := ltvE hm
    refine a_set (congrArg V.int h15) ?_
    -- 16
    refine o_ret ?_
    obtain ⟨t_16, h17, hm⟩ := bndE hm
    refine ⟨_, rfl, _, _, rfl, rfl, .inr ⟨by decide, by decide⟩, _, _, rfl, rfl, (by show (0 : Int) < 999983; decide), _, _, rfl, rfl, .inr ⟨by decide, by decide⟩, _, _, rfl, rfl, (by show (0 : Int) < 524287; decide), _, rfl, ?_⟩
    refine k_mod h17 ?_
    obtain rfl := Option.some.inj hm
    exact RetV.go k O
def m__law_pairs_L0 (script_1 : List Int) (base_3 : Int) (k_17 : Int) (pairs_9 : List (Int × Int)) : Option ((List (Int × Int))) :=
  bnd (m__law_draw script_1 ((base_3 + ((3 : Int) * k_17)) + (1 : Int)) (31 : Int)) fun law_dr_21 =>
  bnd (ifB (decide ((0 : Int) < (List.length script_1 : Int))) (bnd (m__law_draw script_1 ((base_3 + ((3 : Int) * k_17)) + (2 : Int)) (6 : Int)) fun law_dr_26 => some (decide (law_dr_26 = (0 : Int)))) (some false)) fun c_28 =>
  bnd (ifB c_28 (
    bnd (modG k_17 (List.length script_1 : Int)) fun t_32 =>
    bnd (atI script_1 t_32) fun e_34 =>
    bnd (powG (10 : Int) (18 : Int)) fun t_36 =>
    bnd (modG e_34 t_36) fun t_38 =>
    some t_38) (
    some law_dr_21)) fun turn_40 =>
  bnd (m__law_draw script_1 ((base_3 + ((3 : Int) * k_17)) + (3 : Int)) (5 : Int)) fun law_dr_41 =>
  bnd (appG pairs_9 (law_dr_41, turn_40)) fun l_44 =>
  bnd (m__law_draw script_1 (base_3 + k_17) (8 : Int)) fun law_dr_46 =>
  ifB (decide (law_dr_46 = (0 : Int))) (
    bnd (atI l_44 (k_17 / (2 : Int))) fun e_49 =>
    bnd (appG l_44 e_49) fun l_54 =>
    some l_54) (
    some l_44)
def m__law_pairs (script_1 : List Int) (base_3 : Int) : Option (List (Int × Int)) :=
  bnd (m__law_draw script_1 base_3 (41 : Int)) fun law_dr_5 =>
  bnd (rng1 law_dr_5) fun rg_7 =>
  bnd (loopM (fun k_17 s => m__law_pairs_L0 script_1 base_3 k_17 s) rg_7 ([] : List (Int × Int))) fun pairs_13 =>
  some pairs_13
def sp__law_pairs (K : PySem.W.Frag) (ad : Ad) : Sp := fun vs H Q _ => ∃ (script_1 : List Int) (a_2 : Addr) (base_3 : Int) (R0 : Hp) (r : List (Int × Int)), vs = [.ref a_2, .int base_3] ∧ Own R0 H [] ∧ SqL K (hsub H []) a_2 (List.map V.int script_1) ∧ m__law_pairs script_1 base_3 = some r ∧ RetX R0 (hsub H []) (dP (rL (rT2 rI rI)) r) Q
abbrev N__law_pairs : List Str := ["script", "base", "pairs", "k", "turn"]
theorem sc__law_pairs : FnScope N__law_pairs ["script", "base"] (defScope s__law_pairs) := ⟨rfl, rfl, rfl, by decide +kernel, rfl, by decide +kernel, by decide +kernel⟩
theorem ok__law_pairs {ad : Ad} (T : Txt K mg base ad) : FnOk P w K mg base CX0 2 ad.f__law_pairs ad.fd__law_pairs ["script", "base"] (sp__law_pairs K ad) := by
  have G__law_draw := ok__law_draw (P := P) (w := w) (base := base) T
  refine T.F__law_pairs.ok sc__law_pairs (fun vs H Q E h => ?_) (fun cdv A outer s H vs Q E hr h => ?_)
  · obtain ⟨_, _, _, _, _, rfl, _⟩ := h
    rfl
  · obtain ⟨script_1, a_2, base_3, R0, r, rfl, OO, hp_a_2, hm, k⟩ := h
    unfold m__law_pairs at hm
    obtain ⟨Hb, hHb⟩ : ∃ Hb : Hp, Hb = hsub H [] := ⟨_, rfl⟩
    obtain ⟨H0, hH0⟩ : ∃ H0 : Hp, H0 = Hb := ⟨Hb, rfl⟩
    have O : Own H0 H [] := by rw [hH0, hHb]; exact OO.startX
    have eR : Ex R0 Hb := by rw [hHb]; exact OO.subR
    rw [← hHb] at k hp_a_2
    have eB : Ex Hb H0 := by rw [hH0]; exact Ex.refl _
    have eS : Ex R0 (ovr R0 Hb H0) := by rw [hH0]; exact ovr_start eR
    rw [← hH0] at hp_a_2
    clear hH0
    refine ⟨_, (pss_cons (ps_set (i := 2) sc__law_pairs.nd rfl (Or.inl rfl) (pe_lstQ (pe_lst pa_nil))) (pss_cons (ps_for PassesOwn.never rfl (pi_range1 (by rfl) T.z_range (pa_cons (pe_call G__law_draw (hr.mono (by decide)) (by rfl) T.g__law_draw T.F__law_draw.kp T.b__law_draw .nil pass0 (pa_cons (pv 0) (pa_cons (pv 1) (pa_cons pe_int pa_nil)))) pa_nil)) (pg_name (i := 3) sc__law_pairs.nd rfl (Or.inl rfl)) (pss_cons (ps_set (i := 4) sc__law_pairs.nd rfl (Or.inl rfl) (pe_call G__law_draw (hr.mono (by decide)) (by rfl) T.g__law_draw T.F__law_draw.kp T.b__law_draw .nil pass0 (pa_cons (pv 0) (pa_cons (pe_op op_add (pe_op op_add (pv 1) (pe_op op_mul pe_int (pv 3))) pe_int) (pa_cons pe_int pa_nil))))) (Evl.pss_cut (ps_if (PW.pt (pw_and (pt_cmpR op_gt (pe_callB (r := rLenQ K) call_lenQ (by rfl) T.z_len PySem.boot_len (pa_cons (pv 0) pa_nil)) pe_int (nomark _)) (pw_and1 (pt_cmpR op_eq (pe_call G__law_draw (hr.mono (by decide)) (by rfl) T.g__law_draw T.F__law_draw.kp T.b__law_draw .nil pass0 (pa_cons (pv 0) (pa_cons (pe_op op_add (pe_op op_add (pv 1) (pe_op op_mul pe_int (pv 3))) pe_int) (pa_cons pe_int pa_nil)))) pe_int (nomark _))))) (pss_one (ps_set (i := 4) sc__law_pairs.nd rfl (Or.inl rfl) (pe_op op_mod (pe_ix (r := rIxL K) ix_list (pv 0) (pe_op op_mod (pv 3) (pe_callB (r := rLenQ K) call_lenQ (by rfl) T.z_len PySem.boot_len (pa_cons (pv 0) pa_nil))) (fun _ _ => rfl)) (pe_op op_pow pe_int pe_int)))) pss_nil) (pss_cons (ps_expr (pe_bm PySem.F.plainAttrs_list PySem.F.slot_list_append PySem.F.type_list_append mt_append (pv 2) (pa_cons (pe_tupQ (pe_tup (pa_cons (pe_call G__law_draw (hr.mono (by decide)) (by rfl) T.g__law_draw T.F__law_draw.kp T.b__law_draw .nil pass0 (pa_cons (pv 0) (pa_cons (pe_op op_add (pe_op op_add (pv 1) (pe_op op_mul pe_int (pv 3))) pe_int) (pa_cons pe_int pa_nil)))) (pa_cons (pv 4) pa_nil)))) pa_nil))) (pss_one (ps_if (pt_cmpR op_eq (pe_call G__law_draw (hr.mono (by decide)) (by rfl) T.g__law_draw T.F__law_draw.kp T.b__law_draw .nil pass0 (pa_cons (pv 0) (pa_cons (pe_op op_add (pv 1) (pv 3)) (pa_cons pe_int pa_nil)))) pe_int (nomark _)) (pss_one (ps_expr (pe_bm PySem.F.plainAttrs_list PySem.F.slot_list_append PySem.F.type_list_append mt_append (pv 2) (pa_cons (pe_ix (r := rIxL K) ix_list (pv 2) (pe_op op_fdiv (pv 3) pe_int) (fun _ _ => rfl)) pa_nil)))) pss_nil)))))) (pss_one (ps_ret (pv 2))))), ?_⟩
    -- 18
    refine o_seq ?_
    refine o_asg ?_
    refine x_nil ?_
    refine n_lstV O (by show 0 ≤ sizeLine; decide) fun p_4 H O => ?_
    have ha_p_4 : All2 ((rT2 rI rI) (ovr R0 Hb H0)) ([] : List V) (([] : List (Int × Int)) : List (Int × Int)) := .nil
    -- 19
    refine o_seq ?_
    refine o_for ?_
    obtain ⟨law_dr_5, h6, hm⟩ := bndE hm
    refine ⟨_, rfl, _, rfl, ?_⟩
    refine o_cons ?_
    refine o_c ?_
    refine x_nil ?_
    refine ⟨_, _, _, _, law_dr_5, rfl, (O.ex.l hp_a_2), h6, ?_⟩
    refine O.retV fun H O => ?_
    obtain ⟨rg_7, h8, hm⟩ := bndE hm
    refine x_nil ?_
    obtain ⟨c1, c2, rfl⟩ := rng1E h8
    obtain ⟨pairs_13, h14, hm⟩ := bndE hm
    refine ⟨_, rfl, c1, c2, q_forR (fun r σ H => ∃ (R_ : Hp) (pairs_9 : List (Int × Int)) (vs_10 : List V) (j_11 : Option V) (j_12 : Option V), σ = [some (.ref a_2), some (.int base_3), some (.ref p_4), j_11, j_12] ∧ Ex H0 R_ ∧ Own R_ H [(p_4, .lst vs_10)] ∧ All2 ((rT2 rI rI) (ovr R0 Hb R_)) vs_10 pairs_9 ∧ loopM (fun k_17 s => m__law_pairs_L0 script_1 base_3 k_17 s) r pairs_9 = some pairs_13) ⟨H0, ([] : List (Int × Int)), (([] : List V)), _, _, rfl, Ex.refl _, O, ha_p_4, h14⟩ ?_ ?_⟩
    · rintro k_17 r σ H ⟨H0, pairs_9, vs_10, j_11, j_12, rfl, eL18, O, ha_p_4, hL⟩
      replace hp_a_2 := eL18.l hp_a_2
      replace eB := eB.trans eL18
      obtain ⟨s_, hm, h16⟩ := loopM_cons hL
      replace hm : m__law_pairs_L0 script_1 base_3 k_17 pairs_9 = some s_ := hm
      unfold m__law_pairs_L0 at hm
      -- 20
      refine o_seq ?_
      refine o_asg ?_
      obtain ⟨law_dr_21, h22, hm⟩ := bndE hm
      refine ⟨_, rfl, _, rfl, _, rfl, _, _, rfl, rfl, .inl ⟨by decide, by decide⟩, _, _, rfl, rfl, _, _, rfl, rfl, ?_⟩
      refine o_cons ?_
      refine o_c ?_
      refine x_nil ?_
      refine ⟨_, _, _, _, law_dr_21, rfl, (O.ex.l hp_a_2), h22, ?_⟩
      refine O.retV fun H O => ?_
      -- 21
      obtain ⟨c_28, h29, hm⟩ := bndE hm
      obtain ⟨turn_40, h31, hm⟩ := bndE hm
      refine o_cut (fun σ H => ∃ (R_ : Hp), σ = [some (.ref a_2), some (.int base_3), some (.ref p_4), some (.int k_17), some (.int turn_40)] ∧ Ex H0 R_ ∧ Own R_ H [(p_4, .lst vs_10)]) ?_ ?_
      · have eJ23 : Ex H0 H0 := Ex.refl _
        refine o_ifs ?_
        refine x_andJ (c := decide ((0 : Int) < (List.length script_1 : Int))) (e := c_28) (d := c_28) (fun H => ∃ (R_ : Hp), Ex H0 R_ ∧ Own R_ H [(p_4, .lst vs_10)]) (fun Q1 k1 => ?_) (fun h24 => ⟨rfl, fun H hJ Q2 k2 => ?_⟩) (fun h24 => Option.some.inj (ifF h29 h24)) (fun H hJ => ?_)
        · have eJ25 : Ex H0 H0 := Ex.refl _
          refine ⟨_, rfl, ?_⟩
          refine x_nil ?_
          refine n_len (O.ex.l hp_a_2) ?_
          refine ⟨_, _, rfl, rfl, _, rfl, ?_⟩
          exact k1 _ ⟨H0, eJ25, O⟩
        · replace hm := ifT h29 h24
          obtain ⟨law_dr_26, h27, hm⟩ := bndE hm
          obtain rfl := Option.some.inj hm
          obtain ⟨H0, eJ25, O⟩ := hJ
          replace hp_a_2 := eJ25.l hp_a_2
          replace ha_p_4 := mA (mT2 mI mI) (ovr_mono eJ25) ha_p_4
          replace eB := eB.trans eJ25
          replace eL18 := eL18.trans eJ25
          replace eJ23 := eJ23.trans eJ25
          refine ⟨_, rfl, _, rfl, _, rfl, _, _, rfl, rfl, .inl ⟨by decide, by decide⟩, _, _, rfl, rfl, _, _, rfl, rfl, ?_⟩
          refine o_cons ?_
          refine o_c ?_
          refine x_nil ?_
          refine ⟨_, _, _, _, law_dr_26, rfl, (O.ex.l hp_a_2), h27, ?_⟩
          refine O.retV fun H O => ?_
          refine o_c ?_
          refine k_eqI ?_
          refine ⟨_, rfl, ?_⟩
          exact k2 _ ⟨H0, eJ25, O⟩
        obtain ⟨H0, eJ25, O⟩ := hJ
        replace hp_a_2 := eJ25.l hp_a_2
        replace ha_p_4 := mA (mT2 mI mI) (ovr_mono eJ25) ha_p_4
        replace eB := eB.trans eJ25
        replace eL18 := eL18.trans eJ25
        replace eJ23 := eJ23.trans eJ25
        refine iteS (c := c_28) (fun h30 => ?_) (fun h30 => ?_)
        · replace hm := ifT h31 h30
          -- 22
          refine o_asg ?_
          refine ⟨_, rfl, _, rfl, _, rfl, ?_⟩
          refine x_nil ?_
          refine n_len (O.ex.l hp_a_2) ?_
          obtain ⟨t_32, h33, hm⟩ := bndE hm
          refine k_mod h33 ?_
          obtain ⟨e_34, h35, hm⟩ := bndE hm
          refine k_ixL (f := V.int) (O.ex.l hp_a_2) h35 ?_
          obtain ⟨t_36, h37, hm⟩ := bndE hm
          refine o_op ?_
          refine o_c ?_
          refine o_c ?_
          refine k_pow h37 ?_
          obtain ⟨t_38, h39, hm⟩ := bndE hm
          refine k_mod h39 ?_
          have Oz := O
          have hq_ := Option.some.inj hm
          subst hq_
          exact ⟨H0, rfl, eJ23, Oz⟩
        · replace hm := ifF h31 h30
          refine o_next ?_
          have Oz := O
          have hq_ := Option.some.inj hm
          subst hq_
          exact ⟨H0, rfl, eJ23, Oz⟩
      rintro σ H ⟨H0, rfl, eJ_, O⟩
      replace hp_a_2 := eJ_.l hp_a_2
      replace ha_p_4 := mA (mT2 mI mI) (ovr_mono eJ_) ha_p_4
      replace eB := eB.trans eJ_
      replace eL18 := eL18.trans eJ_
      -- 23
      refine o_seq ?_
      refine o_drop ?_
      obtain ⟨law_dr_41, h42, hm⟩ := bndE hm
      refine ⟨_, rfl, .inl ⟨rfl, _, (SqL.of (O.mem (hd_)))⟩, _, rfl, _, rfl, _, rfl, _, _, rfl, rfl, .inl ⟨by decide, by decide⟩, _, _, rfl, rfl, _, _, rfl, rfl, ?_⟩
      refine o_cons ?_
      refine o_c ?_
      refine x_nil ?_
      refine ⟨_, _, _, _, law_dr_41, rfl, (O.ex.l hp_a_2), h42, ?_⟩
      refine O.retV fun H O => ?_
      refine ⟨_, rfl, ?_⟩
      refine x_nil ?_
      refine n_tup O (by show 2 ≤ sizeLine; decide) fun p_43 H O => ?_
      refine x_nil ?_
      obtain ⟨H0, O, e_, hp_p_43⟩ := O.frzO (R0 := R0) eB
      replace hp_a_2 := e_.l hp_a_2
      replace ha_p_4 := mA (mT2 mI mI) (ovr_mono e_) ha_p_4
      replace eB := eB.trans e_
      replace eL18 := eL18.trans e_
      have hn_p_43 : (rT2 rI rI) (ovr R0 Hb H0) (.ref p_43) (law_dr_41, turn_40) := ⟨_, _, _, rfl, hp_p_43, rfl, rfl⟩
      obtain ⟨l_44, h45, hm⟩ := bndE hm
      refine k_appA (O.mem (hd_)) ha_p_4 (fun _ => O.put0) h45 hn_p_43 fun H O ha_p_4 => ?_
      -- 24
      refine o_ifs ?_
      obtain ⟨law_dr_46, h47, hm⟩ := bndE hm
      refine ⟨_, rfl, _, rfl, _, rfl, _, _, rfl, rfl, ?_⟩
      refine o_cons ?_
      refine o_c ?_
      refine x_nil ?_
      refine ⟨_, _, _, _, law_dr_46, rfl, (O.ex.l hp_a_2), h47, ?_⟩
      refine O.retV fun H O => ?_
      refine o_c ?_
      refine k_eqI ?_
      refine ⟨_, rfl, ?_⟩
      refine iteS (c := (decide (law_dr_46 = (0 : Int)))) (fun h48 => ?_) (fun h48 => ?_)
      · replace hm := ifT hm h48
        -- 25
        refine o_drop ?_
        obtain ⟨e_49, h50, hm⟩ := bndE hm
        refine ⟨_, rfl, .inl ⟨rfl, _, (SqL.of (O.mem (hd_)))⟩, _, rfl, _, rfl, _, _, rfl, rfl, ⟨by decide, by decide⟩, ?_⟩
        refine k_ixA (SqL.of (O.mem (hd_))) ha_p_4 h50 fun w_51 h52 => ?_
        obtain ⟨p_53, rfl⟩ := rT2_ref h52
        have hn_p_53 := h52
        refine x_nil ?_
        obtain ⟨l_54, h55, hm⟩ := bndE hm
        refine k_appA (O.mem (hd_)) ha_p_4 (fun _ => O.put0) h55 hn_p_53 fun H O ha_p_4 => ?_
        have Oz := O
        obtain rfl := Option.some.inj hm
        exact ⟨H0, _, (((vs_10 ++ [.ref p_43]) ++ [.ref p_53])), _, _, rfl, eL18, Oz, ha_p_4, h16⟩
      · replace hm := ifF hm h48
        refine o_next ?_
        have Oz := O
        obtain rfl := Option.some.inj hm
        exact ⟨H0, _, ((vs_10 ++ [.ref p_43])), _, _, rfl, eL18, Oz, ha_p_4, h16⟩
    rintro σ H ⟨H0, pairs_9, vs_10, j_11, j_12, rfl, eJ_, O, ha_p_4, hL⟩
    replace hp_a_2 := eJ_.l hp_a_2
    replace eB := eB.trans eJ_
    cases loopM_nil hL
    -- 26
    refine o_ret ?_
    refine ⟨_, rfl, ?_⟩
    obtain rfl := Option.some.inj hm
    obtain ⟨H0, O, e_, hp_p_4⟩ := O.frzO (R0 := R0) eB
    replace hp_a_2 := e_.l hp_a_2
    replace ha_p_4 := mA (mT2 mI mI) (ovr_mono e_) ha_p_4
    replace eB := eB.trans e_
    have hn_p_4 : (rL (rT2 rI rI)) (ovr R0 Hb H0) (.ref p_4) pairs_13 := ⟨_, _, rfl, hp_p_4, ha_p_4⟩
    exact k _ _ H0 _ eB (by exact (Own.pk O [] (by decide) rfl)) ⟨rfl, hn_p_4⟩
theorem nsc_heard : NScope ["post", "turn", "bit", "kept"] ["post", "turn", "bit"] ["kept"] (C8.fnScope s_heard) := nscope_by (by decide +kernel)
theorem ok_heard (f cell c' : Addr) : NOk P w K mg base CX0 1 f (eW.nf cell c') ["post", "turn", "bit"] ["kept"] spH := by
  refine nok_of nsc_heard (fun doc pm ctv us hl => match us, hl with | [_, _, _], _ => rfl) (fun ws vs H Q E h => ?_) fun A outer s H vs ws Q E hr _ _ _ h => ?_
  · obtain ⟨_, _, _, _, _, _, rfl, _⟩ := h
    rfl
  obtain ⟨d, kvs, a, b, c, rfl, rfl, hd, k⟩ := h
  refine ⟨_, (pss_cons (ps_if (pt_cmp (pc_din (hu_of hr) (pe_tupQ (pe_tup (pa_cons (pv 0) (pa_cons (pv 1) pa_nil)))) (pv 3))) (pss_one (ps_ret (pe_op op_sub pe_int (pv 2)))) pss_nil) (pss_one (ps_ret (pv 2)))), ?_⟩
  obtain ⟨H0, hH0⟩ : ∃ H0 : Hp, H0 = H := ⟨H, rfl⟩
  have O : Own H0 H [] := by rw [hH0]; exact Own.start H
  rw [← hH0] at hd k
  clear hH0
  refine o_seq ?_
  refine o_ifs ?_
  refine o_B ?_
  refine o_din ?_
  refine o_cons ?_
  refine ⟨_, rfl, ?_⟩
  refine o_cons ?_
  refine ⟨_, rfl, ?_⟩
  refine x_nil ?_
  refine n_tup O (by show 2 ≤ sizeLine; decide) fun p H O => ?_
  refine ⟨_, rfl, ?_⟩
  refine ⟨d, _, rfl, DGet.t (k := [.inl a, .inl b]) (O.ex _ _ hd) (O.mem (List.Mem.head _)), ?_⟩
  refine ⟨_, rfl, ?_⟩
  refine iteS (fun hc => ?_) (fun hc => ?_)
  · rw [if_pos hc] at k
    refine o_ret ?_
    refine o_op ?_
    refine o_c ?_
    refine ⟨_, rfl, ?_⟩
    refine ⟨_, _, rfl, rfl, ?_⟩
    exact RetV.go k O
  · rw [if_neg (by rw [hc]; decide)] at k
    refine o_next ?_
    refine o_ret ?_
    refine ⟨_, rfl, ?_⟩
    exact RetV.go k O

theorem nd_ear : ndefB (defScope s_ear) (C8.fnScope s_heard) ["kept"] = true := by decide +kernel
def m_ear (ps : List (Int × Int)) (tb : Unit) : Option (Unit × List (Int × Int)) := grd (ps.length < 16777216) (tb, ps)
def sp_ear (K : PySem.W.Frag) (ad : Ad) : Sp := fun vs H Q _ => ∃ (ps : List (Int × Int)) (aw : Addr) (tb0 : Unit) (at0 : Addr) (L : List Cell) (R0 : Hp) (r : Unit × List (Int × Int)), vs = [.ref aw] ∧ Own R0 H (hAppend L []) ∧ rL (rT2 rI rI) (hsub H (hAppend L [])) (.ref aw) ps ∧ o_Tab ad R0 at0 L tb0 ∧ m_ear ps tb0 = some r ∧ RetX R0 (hsub H (hAppend L [])) (dX (o_Tab ad) at0 r.1 (dP (rQ eW) r.2)) Q
theorem sc_ear : FnScope ["wrong", "kept", "pair", "heard"] ["wrong"] (defScope s_ear) := ⟨rfl, rfl, rfl, by decide +kernel, rfl, by decide +kernel, by decide +kernel⟩
theorem ok_ear {ad : Ad} (T : Txt K mg base ad) : FnOk P w K mg base CX0 1 ad.f_ear ad.fd_ear ["wrong"] (sp_ear K ad) := by
  refine ear_of (i := 3) (j := 1) (y := "heard") (z := "kept") T.F_ear sc_ear T.U_ear (fun vs H Q E h => ?_) rfl rfl (.inl rfl) (by decide) (by decide) rfl rfl fun A outer s H vs Q E c hr h hc => ?_
  · obtain ⟨_, _, _, _, _, _, _, rfl, _⟩ := h
    rfl
  obtain ⟨ps, aw, tb0, at0, L, R0, r, rfl, O0, hw, ⟨rfl, tb, rfl, hT⟩, hm, k⟩ := h
  replace O0 : Own R0 H [(ad.te, .tbl tb)] := O0
  replace hw : rL (rT2 rI rI) (hsub H [(ad.te, .tbl tb)]) (.ref aw) ps := hw
  replace k : RetX R0 (hsub H [(ad.te, .tbl tb)]) (dX (o_Tab ad) ad.te r.1 (dP (rQ eW) r.2)) Q := k
  obtain ⟨hlen, rfl⟩ := grdE hm
  refine ⟨_, _, _, ps_set (i := 1) sc_ear.nd rfl (Or.inr rfl) pe_dnewT, ps_for PassesOwn.never rfl (pi_list (pv 0)) (pg_name (i := 2) sc_ear.nd rfl (Or.inl rfl)) (pss_one (ps_dput (hu_of hr) (pv 1) (pe_tupQ (pe_tup (pa_cons (pe_ix (r := rIxT K) ix_tup (pv 2) pe_int (fun _ _ => rfl)) (pa_cons (pe_ix (r := rIxT K) ix_tup (pv 2) pe_int (fun _ _ => rfl)) pa_nil)))) pe_bl rfl)),
    ps_heard (st := s_heard) (i := 3) rfl T.TB rfl (ndef_free nd_ear) rfl rfl rfl sc_ear.nd rfl (.inl rfl) (.inl rfl), ?_⟩
  obtain ⟨Hb, hHb⟩ : ∃ Hb : Hp, Hb = hsub H [(ad.te, .tbl tb)] := ⟨_, rfl⟩
  have eRH : Ex R0 (hsub H [(ad.te, .tbl tb)]) := O0.subR
  have O : Own Hb H [(ad.te, .tbl tb)] := by rw [hHb]; exact O0.startX
  rw [← hHb] at hw k eRH
  obtain ⟨vs, hl, ha⟩ := rL_at hw
  refine o_seq ?_
  refine o_asg ?_
  refine o_dnewT ?_
  intro d hd
  replace O := Own.new (o := .dT []) O hd
  generalize upd H d (.dT []) = H1 at O ⊢
  refine o_seq ?_
  refine o_for ?_
  refine o_il ?_
  refine ⟨_, rfl, ?_⟩
  refine ⟨_, rfl, ⟨_, (SqL.of (O.ex _ _ hl))⟩, q_forA (b := fun _ _ => False) (k := fun _ _ => False) ha (fun r σ H => ∃ (kvs : List (List Key × V)) (done : List (Int × Int)) (j : Option V), σ = [some (.ref aw), some (.ref d), j, none] ∧ Own Hb H [(d, .dT kvs), (ad.te, .tbl tb)] ∧ ps = done ++ r ∧ KeysAre kvs done ∧ kvs.length ≤ done.length)
    ⟨[], [], none, rfl, O, rfl, keys_nil, Nat.le_refl _⟩ (by rintro r σ H ⟨kvs, done, j, rfl, O, _⟩; exact SqL.of (O.ex _ _ hl)) ?_ ?_⟩
  · rintro ⟨x, y⟩ v r σ H hv ⟨kvs, done, j, rfl, O, hps, hk, hz⟩
    obtain ⟨p, rfl⟩ := rT2_ref hv
    obtain ⟨_, _, hp, h1, h2⟩ := rT2_at hv
    obtain rfl := h1
    obtain rfl := h2
    refine o_dput ?_
    refine o_c ?_
    refine ⟨_, rfl, ?_⟩
    refine o_cons ?_
    refine o_op ?_
    refine ⟨_, rfl, ?_⟩
    refine o_c ?_
    refine k_ixT (xs := [.int x, .int y]) (SqT.of (O.ex _ _ hp)) rfl ?_
    refine o_cons ?_
    refine o_op ?_
    refine ⟨_, rfl, ?_⟩
    refine o_c ?_
    refine k_ixT (xs := [.int x, .int y]) (SqT.of (O.ex _ _ hp)) rfl ?_
    refine x_nil ?_
    refine n_tup O (by show 2 ≤ sizeLine; decide) fun q H O => ?_
    have hz2 : kvs.length < sizeLine := by
      have : ps.length = done.length + (r.length + 1) := by rw [hps, List.length_append]; rfl
      have : sizeLine = 16777216 := sizeLine_eq
      omega
    refine ⟨_, _, rfl, DPut.t (k := [.inl x, .inl y]) (O.mem (tl_ hd_)) (O.mem hd_) hz2, ?_⟩
    refine ⟨putK kvs [.inl x, .inl y] (.bl true), done ++ [(x, y)], _, rfl, (O.put1).tl, by rw [hps, List.append_assoc]; rfl, keys_put (x := (x, y)) hk, Nat.le_trans (putV_len _ _ _) (by rw [List.length_append]; exact Nat.succ_le_succ hz)⟩
  rintro σ H ⟨kvs, done, j, rfl, O, hps, hk, hz⟩
  obtain rfl : ps = done := by rw [hps, List.append_nil]
  refine o_heard ?_
  refine ⟨tb, O.mem (tl_ hd_), hT.mono fun b h => O.ex _ _ (eRH _ _ h), fun f c' tb' H1 k1 k0 kP kT f0 f1 c1 => ?_⟩
  refine ⟨_, _, rfl, rfl, fun nc => ?_⟩
  have hfr := O.fr (ad.te, .tbl tb) (tl_ hd_)
  have hfd := O.fr (d, .dT kvs) hd_
  have nd : d ≠ ad.te := by
    have := O.nd
    simp at this
    exact this
  have hc2 : cloFrom (cellsFrom (s.heap.objs.size + 1) (defScope s_ear).names []) (C8.fnScope s_heard).names [] = [(("kept" : Str), c)] := by
    have : cloFrom (cellsFrom (s.heap.objs.size + 1) (defScope s_ear).names []) (C8.fnScope s_heard).names [] = [(("kept" : Str), ((cellsFrom (s.heap.objs.size + 1) (defScope s_ear).names []).lookup ("kept" : Str)).getD 0)] := rfl
    rw [this, hc]
    rfl
  have f1' : H1 f = some (FnO f (eW.nf c c')) := by
    have := f1
    rw [show eW.nf c c' = NF.of s_heard "heard" "ear.<locals>.heard" (cloFrom (cellsFrom (s.heap.objs.size + 1) (defScope s_ear).names []) (C8.fnScope s_heard).names []) c' from by rw [hc2]]
    exact this
  have nP : ∀ b o, H1 b = some o → (∀ q, o ≠ .tbl q) → b ≠ ad.te := fun b o e q z => by
    rw [z, kP] at e
    exact q _ (Option.some.inj e).symm
  -- the frame: all that is there but the table
  refine k _ _ (hsub (upd H1 c (CellO c (.ref d))) [(ad.te, .tbl tb')]) [(ad.te, .tbl tb')] (fun b o e => ?_) ⟨hsub_ex, fun q hq => ?_, fun q hq => ?_, by simp⟩ ?_
  · have nb : b ≠ ad.te := ne_of_none e hfr
    have e1 := k1 b o nb (O.ex _ _ e)
    unfold hsub
    rw [if_neg (by simpa using nb), upd_ne (ne_of_none e1 nc)]
    exact e1
  · obtain rfl : q = (ad.te, .tbl tb') := by simpa using hq
    rw [upd_ne (ne_of_none kP nc)]
    exact kP
  · obtain rfl : q = (ad.te, .tbl tb') := by simpa using hq
    exact hsub_in (List.Mem.head _)
  · have at_ : ∀ b o, H1 b = some o → (∀ q, o ≠ .tbl q) → (R0 b = none → Hb b = none) → ovr R0 Hb (hsub (upd H1 c (CellO c (.ref d))) [(ad.te, .tbl tb')]) b = some o := fun b o e q nb => by
      refine ovr_mk ?_ ?_
      · cases hz : R0 b with
        | none => exact .inr (nb hz)
        | some _ => exact .inl (by simp)
      · unfold hsub
        rw [if_neg (by simpa using nP b o e q), upd_ne (ne_of_none e nc)]
        exact e
    have cO : ovr R0 Hb (hsub (upd H1 c (CellO c (.ref d))) [(ad.te, .tbl tb')]) c' = some (CodeO c' "ear.<locals>.heard") := at_ _ _ c1 (fun q z => codeO_ne q z) fun z => by
      rcases kT.2.2 with h | ⟨p', h⟩
      · exact O.ex.back h
      · obtain ⟨c2, e1, e2⟩ := hT.2 p' _ h
        cases e1
        rw [z] at e2
        cases e2
    refine ⟨_, _, rfl, ⟨rfl, tb', rfl, kT.1, fun pos cv q => ?_⟩, rfl, f, rfl, c', c, d, kvs, at_ _ _ f1' (fun q z => fnO_ne q z) (fun _ => O.ex.back f0), cO, ?_, at_ _ _ (k1 _ _ nd (O.mem hd_)) (fun q z => by cases z) (fun _ => hfd), hk⟩
    · rcases kT.2.1 pos cv q with ⟨p', h⟩ | h
      · obtain ⟨c2, e1, e2⟩ := hT.2 p' _ h
        refine ⟨c2, e1, at_ _ _ (k1 _ _ (fun z => ?_) (O.ex _ _ (eRH _ _ e2))) (fun q z => codeO_ne q z) fun z => ?_⟩
        · have := eRH _ _ e2
          rw [z, hfr] at this
          cases this
        · rw [z] at e2
          cases e2
      · exact ⟨c', h, cO⟩
    · refine ovr_mk (.inr ?_) ?_
      · exact O.ex.back (k0 _ nc)
      · unfold hsub
        rw [if_neg (by simpa using fun z : c = ad.te => by rw [z, kP] at nc; cases nc), upd_same]

def m__law_tells (hearing_1 : List (Int × Int)) (pairs_3 : List (Int × Int)) (post_5 : Int) (turn_6 : Int) (bit_7 : Int) : Option (Bool) :=
  bnd (ifB (inL (post_5, turn_6) pairs_3) (
    some ((1 : Int) - bit_7)) (
    some bit_7)) fun due_16 =>
  ltv ((earI hearing_1 post_5 turn_6 bit_7)) fun found_17 =>
  some (true && ((!false) && (decide (found_17 = due_16))))
def sp__law_tells (K : PySem.W.Frag) : Sp := fun vs H Q _ => ∃ (hearing_1 : List (Int × Int)) (a_2 : Addr) (pairs_3 : List (Int × Int)) (a_4 : Addr) (post_5 : Int) (turn_6 : Int) (bit_7 : Int) (r : Bool), vs = [.ref a_2, .ref a_4, .int post_5, .int turn_6, .int bit_7] ∧ (rQ eW) H (.ref a_2) hearing_1 ∧ (rL (rT2 rI rI)) H (.ref a_4) pairs_3 ∧ m__law_tells hearing_1 pairs_3 post_5 turn_6 bit_7 = some r ∧ RetV (.bl r) H Q
abbrev N__law_tells : List Str := ["hearing", "pairs", "post", "turn", "bit", "due", "found"]
theorem sc__law_tells : FnScope N__law_tells ["hearing", "pairs", "post", "turn", "bit"] (defScope s__law_tells) := ⟨rfl, rfl, rfl, by decide +kernel, rfl, by decide +kernel, by decide +kernel⟩
theorem ok__law_tells {ad : Ad} (T : Txt K mg base ad) : FnOk P w K mg base CX0 2 ad.f__law_tells ad.fd__law_tells ["hearing", "pairs", "post", "turn", "bit"] (sp__law_tells K) := by
  refine T.F__law_tells.ok sc__law_tells (fun vs H Q E h => ?_) (fun cdv A outer s H vs Q E hr h => ?_)
  · obtain ⟨_, _, _, _, _, _, _, _, rfl, _⟩ := h
    rfl
  · obtain ⟨hearing_1, a_2, pairs_3, a_4, post_5, turn_6, bit_7, r, rfl, hn_a_2, hn_a_4, hm, k⟩ := h
    unfold m__law_tells at hm
    obtain ⟨H0, hH0⟩ : ∃ H0 : Hp, H0 = H := ⟨H, rfl⟩
    have O : Own H0 H [] := by rw [hH0]; exact Own.start H
    rw [← hH0] at k hn_a_2 hn_a_4
    clear hH0
    refine ⟨_, (pss_cons (ps_set (i := 5) sc__law_tells.nd rfl (Or.inl rfl) (pv 4)) (Evl.pss_cut (ps_if (pt_cmpR (r := rInD K) (op_inD (room65 hr)) (pe_tupQ (pe_tup (pa_cons (pv 2) (pa_cons (pv 3) pa_nil)))) (pv 1) (by rfl)) (pss_one (ps_set (i := 5) sc__law_tells.nd rfl (Or.inl rfl) (pe_op op_sub pe_int (pv 4)))) pss_nil) (pss_cons (ps_set (i := 6) sc__law_tells.nd rfl (Or.inl rfl) (pe_ear (W := eW) (i := 0) (fun f c c' => ok_heard f c c') (hr.mono (by decide)) (Nat.le_refl 1) (by rfl) (by first | exact Or.inl rfl | exact Or.inr (Or.inl rfl) | exact Or.inr (Or.inr rfl)) (pa_cons (pv 2) (pa_cons (pv 3) (pa_cons (pv 4) pa_nil))))) (pss_one (ps_ret (pe_and (pe_callB (r := rIsi K) call_isi (by rfl) T.z_isinstance (by decide +kernel) (pa_cons (pv 6) (pa_cons (pe_bltn (v := V.ty "int") (u := .type "int") (by rfl) T.z_int (by decide +kernel) rfl) pa_nil))) (pe_and (pe_not (pe_callB (r := rIsi K) call_isi (by rfl) T.z_isinstance (by decide +kernel) (pa_cons (pv 6) (pa_cons (pe_bltn (v := V.ty "bool") (u := .type "bool") (by rfl) T.z_bool (by decide +kernel) rfl) pa_nil)))) (pe_one (pe_cmpR op_eq (pv 6) (pv 5) (nomark _)))))))))), ?_⟩
    -- 28
    refine o_seq ?_
    refine o_asg ?_
    refine ⟨_, rfl, ?_⟩
    -- 29
    obtain ⟨due_16, h14, hm⟩ := bndE hm
    refine o_cut (fun σ H => ∃ (j_15 : Option V), σ = [some (.ref a_2), j_15, some (.int post_5), some (.int turn_6), some (.int bit_7), some (.int due_16), none] ∧ Own H0 H []) ?_ ?_
    · refine o_ifs ?_
      refine ⟨_, rfl, _, rfl, ?_⟩
      refine x_nil ?_
      refine n_tup O (by show 2 ≤ sizeLine; decide) fun p_9 H O => ?_
      refine ⟨_, rfl, ?_⟩
      obtain ⟨vs_10, h11, h12⟩ := rL_at hn_a_4
      refine k_inJ (x := (post_5, turn_6)) (deT2 deI deI) (mT2 mI mI) (by decide) ⟨_, _, _, rfl, (O.mem (hd_)), rfl, rfl⟩ (Ex.refl _) (SqL.of (O.ex _ _ h11)) h12 O.ex ?_
      refine ⟨_, rfl, ?_⟩
      replace O := O.tl
      refine iteS (c := (inL (post_5, turn_6) pairs_3)) (fun h13 => ?_) (fun h13 => ?_)
      · replace hm := ifT h14 h13
        -- 30
        refine o_asg ?_
        refine ⟨_, rfl, _, _, rfl, rfl, ?_⟩
        have Oz := O
        have hq_ := Option.some.inj hm
        subst hq_
        exact ⟨_, rfl, Oz⟩
      · replace hm := ifF h14 h13
        refine o_next ?_
        have Oz := O
        have hq_ := Option.some.inj hm
        subst hq_
        exact ⟨_, rfl, Oz⟩
    rintro σ H ⟨j_15, rfl, O⟩
    -- 31
    refine o_seq ?_
    refine o_asg ?_
    refine o_ear ?_
    refine ⟨a_2, hearing_1, rfl, ((rEar_at hn_a_2).mono O.ex), ?_⟩
    refine ⟨_, rfl, _, rfl, _, rfl, ?_⟩
    refine x_nil ?_
    refine ⟨_, _, _, rfl, ((rEar_at hn_a_2).mono O.ex), ?_⟩
    refine O.retV fun H O => ?_
    obtain ⟨found_17, h18, hm⟩ := ltvE hm
    refine a_set (congrArg V.int h18) ?_
    -- 32
    refine o_ret ?_
    refine x_andV (c := true) (e := ((!false) && (decide (found_17 = due_16)))) (d := (true && ((!false) && (decide (found_17 = due_16))))) O (fun Q1 k1 => ?_) (fun h19 => ⟨by rw [h19]; rfl, fun H O Q2 k2 => ?_⟩) (fun h19 => by rw [h19]; rfl) (fun H O => ?_)
    · refine ⟨_, rfl, _, _, _, _, true, rfl, .ty _, .base (.int _), kit_ty (by decide +kernel), ?_⟩
      exact k1 _ O
    · refine x_andV (c := (!false)) (e := (decide (found_17 = due_16))) (d := ((!false) && (decide (found_17 = due_16)))) O (fun Q1 k1 => ?_) (fun h20 => ⟨by rw [h20]; rfl, fun H O Q2 k2 => ?_⟩) (fun h20 => by rw [h20]; rfl) (fun H O => ?_)
      · refine ⟨_, rfl, _, _, _, _, false, rfl, .ty _, .base (.int _), kit_ty (by decide +kernel), _, rfl, ?_⟩
        exact k1 _ O
      · refine ⟨_, rfl, _, rfl, ?_⟩
        refine k_eqI ?_
        exact k2 _ O
      exact k2 _ O
    obtain rfl := Option.some.inj hm
    exact RetV.go k O
def m_law_L0 (script_1 : List Int) (k_114 : Int) (asked_107 : List (Int × Int)) : Option ((List (Int × Int))) :=
  bnd (m__law_draw script_1 ((400 : Int) + k_114) (5 : Int)) fun law_dr_118 =>
  bnd (m__law_draw script_1 ((430 : Int) + k_114) (31 : Int)) fun law_dr_120 =>
  bnd (appG asked_107 (law_dr_118, law_dr_120)) fun l_123 =>
  some l_123
def m_law_L2 (script_1 : List Int) (law_pa_6 : List (Int × Int)) (law_pa_12 : List (Int × Int)) (ear_51 : List (Int × Int)) (tab_70 : Unit) (ear_71 : List (Int × Int)) (asked_110 : List (Int × Int)) (again_138 : Int) (k_150 : Int) : Option (Fl (Unit) (Unit × Bool)) :=
  ltv (((k_150 + again_138) % (2 : Int))) fun side_154 =>
  bnd (m__law_draw script_1 (((460 : Int) + k_150) + again_138) (2 : Int)) fun law_dr_156 =>
  bnd (atI ([ear_51, ear_71]) side_154) fun e_158 =>
  bnd (atI ([law_pa_6, law_pa_12]) side_154) fun e_163 =>
  bnd (atI asked_110 k_150) fun e_168 =>
  bnd (atI asked_110 k_150) fun e_178 =>
  bnd (m__law_tells e_158 e_163 e_168.1 e_178.2 law_dr_156) fun law_te_188 =>
  ifB (!law_te_188) (
    some (.rt (tab_70, false))) (
    some (.nx ()))
def m_law_L1 (script_1 : List Int) (law_pa_6 : List (Int × Int)) (law_pa_12 : List (Int × Int)) (ear_51 : List (Int × Int)) (tab_70 : Unit) (ear_71 : List (Int × Int)) (asked_110 : List (Int × Int)) (again_138 : Int) (handed_127 : List (List (Int × Int))) : Option (Fl ((List (List (Int × Int)))) (Unit × Bool)) :=
  bnd (rng1 (List.length asked_110 : Int)) fun rg_142 =>
  flo (loopF (fun k_150 (_ : Unit) => m_law_L2 script_1 law_pa_6 law_pa_12 ear_51 tab_70 ear_71 asked_110 again_138 k_150) rg_142 ()) fun _ =>
  ifB (decide (again_138 = (0 : Int))) (
    ifB (!decide ((handed_127 : List (List (Int × Int))) = [law_pa_6, law_pa_12])) (
      some (.rt (tab_70, false))) (
      bnd (atI handed_127 (0 : Int)) fun o_193 =>
      bnd (appG o_193 ((0 : Int), (0 : Int))) fun l_204 =>
      bnd (setG handed_127 (0 : Int) l_204) fun ys_207 =>
      bnd (atI ys_207 (0 : Int)) fun o_210 =>
      bnd (appG o_210 ((1 : Int), (7 : Int))) fun l_221 =>
      bnd (setG ys_207 (0 : Int) l_221) fun ys_224 =>
      bnd (atI ys_224 (1 : Int)) fun o_227 =>
      bnd (setG ys_224 (1 : Int) ([] : List (Int × Int))) fun ys_238 =>
      some (.nx ys_238))) (
    some (.nx handed_127))
def m_law (script_1 : List Int) (tab_3 : Unit) : Option (Unit × Bool) :=
  bnd (m__law_pairs script_1 (10 : Int)) fun law_pa_6 =>
  bnd (m__law_pairs script_1 (200 : Int)) fun law_pa_12 =>
  bnd (atI ([law_pa_6, law_pa_12]) (0 : Int)) fun e_19 =>
  bnd (atI ([law_pa_6, law_pa_12]) (1 : Int)) fun e_28 =>
  bnd (atI ([e_19, e_28] : List (List (Int × Int))) (0 : Int)) fun o_40 =>
  bnd (m_ear o_40 tab_3) fun (tab_50, ear_51) =>
  bnd (atI ([e_19, e_28] : List (List (Int × Int))) (1 : Int)) fun o_60 =>
  bnd (m_ear o_60 tab_50) fun (tab_70, ear_71) =>
  bnd (atI ([law_pa_6, law_pa_12]) (0 : Int)) fun e_81 =>
  bnd (atI ([law_pa_6, law_pa_12]) (1 : Int)) fun e_91 =>
  bnd (catG (cutL e_81 none (some (30 : Int))) (cutL e_91 none (some (30 : Int)))) fun t_101 =>
  bnd (rng1 (20 : Int)) fun rg_105 =>
  bnd (loopM (fun k_114 s => m_law_L0 script_1 k_114 s) rg_105 t_101) fun asked_110 =>
  bnd (rng1 (2 : Int)) fun rg_125 =>
  fin (loopF (fun again_138 s => m_law_L1 script_1 law_pa_6 law_pa_12 ear_51 tab_70 ear_71 asked_110 again_138 s) rg_125 ([e_19, e_28] : List (List (Int × Int)))) fun handed_127 =>
  some (tab_70, true)
def sp_law (K : PySem.W.Frag) (ad : Ad) : Sp := fun vs H Q _ => ∃ (script_1 : List Int) (a_2 : Addr) (tab_3 : Unit) (a_4 : Addr) (L_5 : List Cell) (R0 : Hp) (r : Unit × Bool), vs = [.ref a_2] ∧ Own R0 H (hAppend L_5 []) ∧ SqL K (hsub H (hAppend L_5 [])) a_2 (List.map V.int script_1) ∧ (o_Tab ad) R0 a_4 L_5 tab_3 ∧ m_law script_1 tab_3 = some r ∧ RetX R0 (hsub H (hAppend L_5 [])) (dX (o_Tab ad) a_4 r.1 (dV (.bl r.2))) Q
abbrev N_law : List Str := ["script", "pairs", "handed", "hearings", "asked", "k", "again", "side", "bit"]
theorem sc_law : FnScope N_law ["script"] (defScope s_law) := ⟨rfl, rfl, rfl, by decide +kernel, rfl, by decide +kernel, by decide +kernel⟩
theorem ok_law {ad : Ad} (T : Txt K mg base ad) : FnOk P w K mg base CX0 3 ad.f_law ad.fd_law ["script"] (sp_law K ad) := by
  have G__law_draw := ok__law_draw (P := P) (w := w) (base := base) T
  have G__law_pairs := ok__law_pairs (P := P) (w := w) (base := base) T
  have G__law_tells := ok__law_tells (P := P) (w := w) (base := base) T
  have G_ear := ok_ear (P := P) (w := w) (base := base) T
  refine T.F_law.ok sc_law (fun vs H Q E h => ?_) (fun cdv A outer s H vs Q E hr h => ?_)
  · obtain ⟨_, _, _, _, _, _, _, rfl, _⟩ := h
    rfl
  · obtain ⟨script_1, a_2, tab_3, a_4, L_5, R0, r, rfl, OO, hp_a_2, hb_a_4, hm, k⟩ := h
    unfold m_law at hm
    obtain ⟨Hb, hHb⟩ : ∃ Hb : Hp, Hb = hsub H (hAppend L_5 []) := ⟨_, rfl⟩
    obtain ⟨H0, hH0⟩ : ∃ H0 : Hp, H0 = Hb := ⟨Hb, rfl⟩
    have O : Own H0 H (hAppend L_5 []) := by rw [hH0, hHb]; exact OO.startX
    have eR : Ex R0 Hb := by rw [hHb]; exact OO.subR
    rw [← hHb] at k hp_a_2
    have eB : Ex Hb H0 := by rw [hH0]; exact Ex.refl _
    have eS : Ex R0 (ovr R0 Hb H0) := by rw [hH0]; exact ovr_start eR
    rw [← hH0] at hp_a_2
    replace hb_a_4 := (mo_Tab ad) _ _ _ _ _ eS hb_a_4
    clear hH0
    refine ⟨_, (pss_cons (ps_set (i := 1) sc_law.nd rfl (Or.inl rfl) (pe_lstQ (pe_lst (pa_cons (pe_call G__law_pairs (hr.mono (by decide)) (by rfl) T.g__law_pairs T.F__law_pairs.kp T.b__law_pairs .nil pass0 (pa_cons (pv 0) (pa_cons pe_int pa_nil))) (pa_cons (pe_call G__law_pairs (hr.mono (by decide)) (by rfl) T.g__law_pairs T.F__law_pairs.kp T.b__law_pairs .nil pass0 (pa_cons (pv 0) (pa_cons pe_int pa_nil))) pa_nil))))) (pss_cons (ps_set (i := 2) sc_law.nd rfl (Or.inl rfl) (pe_lstQ (pe_lst (pa_cons (pe_callTy (r := rListQ K) call_listQ (by rfl) T.z_list (by decide +kernel) (pa_cons (pe_ix (r := rIxL K) ix_list (pv 1) pe_int (fun _ _ => rfl)) pa_nil)) (pa_cons (pe_callTy (r := rListQ K) call_listQ (by rfl) T.z_list (by decide +kernel) (pa_cons (pe_ix (r := rIxL K) ix_list (pv 1) pe_int (fun _ _ => rfl)) pa_nil)) pa_nil))))) (pss_cons (ps_set (i := 3) sc_law.nd rfl (Or.inl rfl) (pe_lstQ (pe_lst (pa_cons (pe_call G_ear (hr.mono (by decide)) (by rfl) T.g_ear T.F_ear.kp T.b_ear .nil pass0 (pa_cons (pe_ix (r := rIxL K) ix_list (pv 2) pe_int (fun _ _ => rfl)) pa_nil)) (pa_cons (pe_call G_ear (hr.mono (by decide)) (by rfl) T.g_ear T.F_ear.kp T.b_ear .nil pass0 (pa_cons (pe_ix (r := rIxL K) ix_list (pv 2) pe_int (fun _ _ => rfl)) pa_nil)) pa_nil))))) (pss_cons (ps_set (i := 4) sc_law.nd rfl (Or.inl rfl) (pe_op op_cat (pe_slice (r := rSlL K) sl_list (pe_ix (r := rIxL K) ix_list (pv 1) pe_int (fun _ _ => rfl)) po_none (po_some pe_int)) (pe_slice (r := rSlL K) sl_list (pe_ix (r := rIxL K) ix_list (pv 1) pe_int (fun _ _ => rfl)) po_none (po_some pe_int)))) (pss_cons (ps_for PassesOwn.never rfl (pi_range1 (by rfl) T.z_range (pa_cons pe_int pa_nil)) (pg_name (i := 5) sc_law.nd rfl (Or.inl rfl)) (pss_one (ps_expr (pe_bm PySem.F.plainAttrs_list PySem.F.slot_list_append PySem.F.type_list_append mt_append (pv 4) (pa_cons (pe_tupQ (pe_tup (pa_cons (pe_call G__law_draw (hr.mono (by decide)) (by rfl) T.g__law_draw T.F__law_draw.kp T.b__law_draw .nil pass0 (pa_cons (pv 0) (pa_cons (pe_op op_add pe_int (pv 5)) (pa_cons pe_int pa_nil)))) (pa_cons (pe_call G__law_draw (hr.mono (by decide)) (by rfl) T.g__law_draw T.F__law_draw.kp T.b__law_draw .nil pass0 (pa_cons (pv 0) (pa_cons (pe_op op_add pe_int (pv 5)) (pa_cons pe_int pa_nil)))) pa_nil)))) pa_nil))))) (pss_cons (ps_for PassesOwn.never rfl (pi_range1 (by rfl) T.z_range (pa_cons pe_int pa_nil)) (pg_name (i := 6) sc_law.nd rfl (Or.inl rfl)) (pss_cons (ps_for PassesOwn.never rfl (pi_range1 (by rfl) T.z_range (pa_cons (pe_callB (r := rLenQ K) call_lenQ (by rfl) T.z_len PySem.boot_len (pa_cons (pv 4) pa_nil)) pa_nil)) (pg_name (i := 5) sc_law.nd rfl (Or.inl rfl)) (pss_cons (ps_set (i := 7) sc_law.nd rfl (Or.inl rfl) (pe_op op_mod (pe_op op_add (pv 5) (pv 6)) pe_int)) (pss_cons (ps_set (i := 8) sc_law.nd rfl (Or.inl rfl) (pe_call G__law_draw (hr.mono (by decide)) (by rfl) T.g__law_draw T.F__law_draw.kp T.b__law_draw .nil pass0 (pa_cons (pv 0) (pa_cons (pe_op op_add (pe_op op_add pe_int (pv 5)) (pv 6)) (pa_cons pe_int pa_nil))))) (pss_one (ps_if (pt_not (pt_val (pe_call G__law_tells (hr.mono (by decide)) (by rfl) T.g__law_tells T.F__law_tells.kp T.b__law_tells .nil pass0 (pa_cons (pe_ix (r := rIxL K) ix_list (pv 3) (pv 7) (fun _ _ => rfl)) (pa_cons (pe_ix (r := rIxL K) ix_list (pv 1) (pv 7) (fun _ _ => rfl)) (pa_cons (pe_ix (r := rIxT K) ix_tup (pe_ix (r := rIxL K) ix_list (pv 4) (pv 5) (fun _ _ => rfl)) pe_int (fun _ _ => rfl)) (pa_cons (pe_ix (r := rIxT K) ix_tup (pe_ix (r := rIxL K) ix_list (pv 4) (pv 5) (fun _ _ => rfl)) pe_int (fun _ _ => rfl)) (pa_cons (pv 8) pa_nil)))))))) (pss_one (ps_ret pe_bl)) pss_nil))))) (pss_one (ps_if (pt_cmpR op_eq (pv 6) pe_int (nomark _)) (pss_cons (ps_if (pt_cmpR (r := rNeD K) (op_neD hr.units) (pv 2) (pv 1) (nomark _)) (pss_one (ps_ret pe_bl)) pss_nil) (pss_cons (ps_expr (pe_bm PySem.F.plainAttrs_list PySem.F.slot_list_append PySem.F.type_list_append mt_append (pe_ix (r := rIxL K) ix_list (pv 2) pe_int (fun _ _ => rfl)) (pa_cons (pe_tupQ (pe_tup (pa_cons pe_int (pa_cons pe_int pa_nil)))) pa_nil))) (pss_cons (ps_expr (pe_bm PySem.F.plainAttrs_list PySem.F.slot_list_append PySem.F.type_list_append mt_append (pe_ix (r := rIxL K) ix_list (pv 2) pe_int (fun _ _ => rfl)) (pa_cons (pe_tupQ (pe_tup (pa_cons pe_int (pa_cons pe_int pa_nil)))) pa_nil))) (pss_one (ps_expr (pe_bm0 PySem.F.plainAttrs_list PySem.F.slot_list_clear PySem.F.type_list_clear mt_clear (pe_ix (r := rIxL K) ix_list (pv 2) pe_int (fun _ _ => rfl)))))))) pss_nil)))) (pss_one (ps_ret pe_bl)))))))), ?_⟩
    replace O := Own.cv (L' := (hAppend L_5 [])) O (by first | with_reducible rfl | simp only [n1, n2, n3, n4, n5, n6, n7])
    -- 34
    refine o_seq ?_
    refine o_asg ?_
    obtain ⟨law_pa_6, h7, hm⟩ := bndE hm
    refine ⟨_, rfl, ?_⟩
    refine o_cons ?_
    refine o_c ?_
    refine x_nil ?_
    have Oc : Own H0 H (hAppend [] (hAppend L_5 [])) := (Own.pkB O [_] rfl [0] (by decide) (by simp only [g1, g2, g3, g4, n2, n3, n4, n5, n6, n7]))
    refine ⟨script_1, a_2, (10 : Int), ovr R0 Hb H0, law_pa_6, rfl, (Own.shrink Oc.left ovr_ex), (Oc.left.subR.l hp_a_2), h7, ?_⟩
    refine Oc.retXO (mdP (mL (mT2 mI mI))) eB fun w_8 H H0 L_9 O e_ d_ => ?_
    replace hp_a_2 := e_.l hp_a_2
    replace hb_a_4 := (mo_Tab ad) _ _ _ _ _ (ovr_mono e_) hb_a_4
    replace eB := eB.trans e_
    obtain ⟨rfl, h10⟩ := d_
    replace O := Own.cv (L' := (hAppend L_5 [])) O (by first | with_reducible rfl | simp only [n1, n2, n3, n4, n5, n6, n7])
    obtain ⟨p_11, rfl⟩ := rL_ref h10
    have hn_p_11 := h10
    obtain ⟨law_pa_12, h13, hm⟩ := bndE hm
    refine ⟨_, rfl, ?_⟩
    refine o_cons ?_
    refine o_c ?_
    refine x_nil ?_
    have Oc : Own H0 H (hAppend [] (hAppend L_5 [])) := (Own.pkB O [_] rfl [0] (by decide) (by simp only [g1, g2, g3, g4, n2, n3, n4, n5, n6, n7]))
    refine ⟨script_1, a_2, (200 : Int), ovr R0 Hb H0, law_pa_12, rfl, (Own.shrink Oc.left ovr_ex), (Oc.left.subR.l hp_a_2), h13, ?_⟩
    refine Oc.retXO (mdP (mL (mT2 mI mI))) eB fun w_14 H H0 L_15 O e_ d_ => ?_
    replace hp_a_2 := e_.l hp_a_2
    replace hb_a_4 := (mo_Tab ad) _ _ _ _ _ (ovr_mono e_) hb_a_4
    replace hn_p_11 := (mL (mT2 mI mI)) _ _ _ _ (ovr_mono e_) hn_p_11
    replace eB := eB.trans e_
    obtain ⟨rfl, h16⟩ := d_
    replace O := Own.cv (L' := (hAppend L_5 [])) O (by first | with_reducible rfl | simp only [n1, n2, n3, n4, n5, n6, n7])
    obtain ⟨p_17, rfl⟩ := rL_ref h16
    have hn_p_17 := h16
    refine x_nil ?_
    refine n_lstV O (by show 2 ≤ sizeLine; decide) fun p_18 H O => ?_
    have ha_p_18 : All2 ((rL (rT2 rI rI)) (ovr R0 Hb H0)) ([.ref p_11, .ref p_17] : List V) ([law_pa_6, law_pa_12] : List (List (Int × Int))) := (.cons hn_p_11 (.cons hn_p_17 .nil))
    -- 35
    refine o_seq ?_
    refine o_asg ?_
    obtain ⟨e_19, h20, hm⟩ := bndE hm
    refine ⟨_, rfl, ?_⟩
    refine o_c ?_
    refine k_ixA (SqL.of (O.mem (hd_))) ha_p_18 h20 fun w_21 h22 => ?_
    obtain ⟨p_23, rfl⟩ := rL_ref h22
    have hn_p_23 := h22
    refine x_nil ?_
    obtain ⟨vs_25, h26, h27⟩ := rL_at hn_p_23
    refine n_list O (SqL.of ((ovr_ex.trans O.ex) _ _ h26)) fun p_24 H O => ?_
    have ha_p_24 := h27
    obtain ⟨e_28, h29, hm⟩ := bndE hm
    refine ⟨_, rfl, ?_⟩
    refine o_c ?_
    refine k_ixA (SqL.of (O.mem (tl_ (hd_)))) ha_p_18 h29 fun w_30 h31 => ?_
    obtain ⟨p_32, rfl⟩ := rL_ref h31
    have hn_p_32 := h31
    refine x_nil ?_
    obtain ⟨vs_34, h35, h36⟩ := rL_at hn_p_32
    refine n_list O (SqL.of ((ovr_ex.trans O.ex) _ _ h35)) fun p_33 H O => ?_
    have ha_p_33 := h36
    refine x_nil ?_
    refine n_lstV O (by show 2 ≤ sizeLine; decide) fun p_37 H O => ?_
    have h38 : (oLs (oRowD (rT2 rI rI))) (ovr R0 Hb H0) p_37 ((p_37, .lst ([.ref p_24, .ref p_33] : List V)) :: (hAppend [(p_24, .lst vs_25)] (hAppend [(p_33, .lst vs_34)] []))) ([e_19, e_28] : List (List (Int × Int))) := ⟨[p_24, p_33], [[(p_24, .lst vs_25)], [(p_33, .lst vs_34)]], List.Perm.refl _, (.cons ⟨_, rfl, ha_p_24⟩ (.cons ⟨_, rfl, ha_p_33⟩ .nil))⟩
    replace O := (Own.pkB (L' := ((p_37, .lst ([.ref p_24, .ref p_33] : List V)) :: ((p_24, .lst vs_25) :: ((p_33, .lst vs_34) :: ((p_18, .lst ([.ref p_11, .ref p_17] : List V)) :: (hAppend L_5 [])))))) O [[_], [_], [_], [_], _] rfl [0, 2, 1, 3, 4] (by decide) rfl)
    obtain ⟨L_39, hLb_⟩ : ∃ L_ : List Cell, L_ = ((p_37, .lst ([.ref p_24, .ref p_33] : List V)) :: (hAppend [(p_24, .lst vs_25)] (hAppend [(p_33, .lst vs_34)] []))) := ⟨_, rfl⟩
    rw [← hLb_] at h38
    replace O : Own H0 H (hAppend L_39 ((p_18, .lst ([.ref p_11, .ref p_17] : List V)) :: (hAppend L_5 []))) := by rw [hLb_]; exact Own.cv O (by first | with_reducible rfl | simp only [n1, n2, n3, n4, n5, n6, n7])
    clear hLb_
    replace O := Own.cv (L' := (hAppend L_39 ((p_18, .lst ([.ref p_11, .ref p_17] : List V)) :: (hAppend L_5 [])))) O (by first | with_reducible rfl | simp only [n1, n2, n3, n4, n5, n6, n7])
    replace O := (Own.pkB (L' := ((p_18, .lst ([.ref p_11, .ref p_17] : List V)) :: (hAppend L_39 (hAppend L_5 [])))) O [_, [_], _] rfl [1, 0, 2] (by decide) rfl)
    -- 36
    refine o_seq ?_
    refine o_asg ?_
    obtain ⟨o_40, h41, hm⟩ := bndE hm
    refine ⟨_, rfl, ?_⟩
    refine o_c ?_
    replace O := (Own.pkB (L' := (hAppend L_39 ((p_18, .lst ([.ref p_11, .ref p_17] : List V)) :: (hAppend L_5 [])))) O [[_], _, _] rfl [1, 0, 2] (by decide) rfl)
    obtain ⟨vs_, a_42, L_43, L_44, hl_, hat_, _, h45, h48, O, h46, h47⟩ := Own.lsAt (A := []) (moRowD (mT2 mI mI)) O h38 h41
    refine ⟨_, vs_, _, _, rfl, rfl, SqL.of hl_, hat_, ?_⟩
    replace O := Own.cv (L' := (hAppend L_43 (hAppend L_44 ((p_18, .lst ([.ref p_11, .ref p_17] : List V)) :: (hAppend L_5 []))))) O (by first | with_reducible rfl | simp only [n1, n2, n3, n4, n5, n6, n7])
    replace O := (Own.pkB (L' := ((p_18, .lst ([.ref p_11, .ref p_17] : List V)) :: (hAppend L_43 (hAppend L_44 (hAppend L_5 []))))) O [_, _, [_], _] rfl [2, 0, 1, 3] (by decide) rfl)
    refine x_nil ?_
    obtain ⟨vs_49, rfl, ha_a_42⟩ := h45
    replace O := Own.cv (L' := ((p_18, .lst ([.ref p_11, .ref p_17] : List V)) :: ((a_42, .lst vs_49) :: (hAppend L_44 (hAppend L_5 []))))) O (by first | with_reducible rfl | simp only [n1, n2, n3, n4, n5, n6, n7])
    obtain ⟨⟨tab_50, ear_51⟩, h52, hm⟩ := bndE hm
    have Oc : Own H0 H (hAppend (hAppend L_5 []) ((p_18, .lst ([.ref p_11, .ref p_17] : List V)) :: ((a_42, .lst vs_49) :: (hAppend L_44 [])))) := (Own.pkB O [[_], [_], _, _] rfl [3, 0, 1, 2] (by decide) (by simp only [g1, g2, g3, g4, n2, n3, n4, n5, n6, n7]))
    refine ⟨o_40, _, tab_3, a_4, _, ovr R0 Hb H0, (tab_50, ear_51), rfl, (Own.shrink Oc.left ovr_ex), ⟨_, _, rfl, (Own.inC Oc (tl_ (hd_))), (mA (mT2 mI mI) (Ex.trans ovr_ex Oc.left.subR) ha_a_42)⟩, hb_a_4, h52, ?_⟩
    refine Oc.retXO (mdX (mo_Tab ad) (mdP (mQ eW))) eB fun w_53 H H0 L_54 O e_ d_ => ?_
    replace hp_a_2 := e_.l hp_a_2
    replace hb_a_4 := (mo_Tab ad) _ _ _ _ _ (ovr_mono e_) hb_a_4
    replace hn_p_11 := (mL (mT2 mI mI)) _ _ _ _ (ovr_mono e_) hn_p_11
    replace hn_p_17 := (mL (mT2 mI mI)) _ _ _ _ (ovr_mono e_) hn_p_17
    replace ha_p_18 := mA (mL (mT2 mI mI)) (ovr_mono e_) ha_p_18
    replace hn_p_23 := (mL (mT2 mI mI)) _ _ _ _ (ovr_mono e_) hn_p_23
    replace ha_p_24 := mA (mT2 mI mI) (ovr_mono e_) ha_p_24
    replace hn_p_32 := (mL (mT2 mI mI)) _ _ _ _ (ovr_mono e_) hn_p_32
    replace ha_p_33 := mA (mT2 mI mI) (ovr_mono e_) ha_p_33
    replace h38 := (moLs (moRowD (mT2 mI mI))) _ _ _ _ _ (ovr_mono e_) h38
    replace h46 := fun F_ L_ x_ q_ => h46 F_ L_ x_ ((ovr_mono e_).trans q_)
    replace h47 := fun F_ L_ q_ => h47 F_ L_ ((ovr_mono e_).trans q_)
    replace ha_a_42 := mA (mT2 mI mI) (ovr_mono e_) ha_a_42
    replace eB := eB.trans e_
    obtain ⟨L_56, L_58, rfl, h57, ⟨rfl, h55⟩⟩ := d_
    replace O := Own.cv (L' := (hAppend L_56 ((p_18, .lst ([.ref p_11, .ref p_17] : List V)) :: ((a_42, .lst vs_49) :: (hAppend L_44 []))))) O (by first | with_reducible rfl | simp only [n1, n2, n3, n4, n5, n6, n7])
    replace O := (Own.pkB (L' := ((p_18, .lst ([.ref p_11, .ref p_17] : List V)) :: ((a_42, .lst vs_49) :: (hAppend L_56 (hAppend L_44 []))))) O [_, [_], [_], _] rfl [1, 2, 0, 3] (by decide) rfl)
    obtain ⟨p_59, rfl⟩ := rQ_ref h55
    have hn_p_59 := h55
    replace O := Own.cv (L' := ((p_18, .lst ([.ref p_11, .ref p_17] : List V)) :: ((a_42, .lst vs_49) :: (hAppend L_56 (hAppend L_44 []))))) O (by first | with_reducible rfl | simp only [n1, n2, n3, n4, n5, n6, n7])
    replace O := (Own.pkB (L' := ((a_42, .lst vs_49) :: (hAppend L_44 ((p_18, .lst ([.ref p_11, .ref p_17] : List V)) :: (hAppend L_56 []))))) O [[_], [_], _, _] rfl [1, 3, 0, 2] (by decide) rfl)
    replace O : Own H0 H (hAppend L_39 ((p_18, .lst ([.ref p_11, .ref p_17] : List V)) :: (hAppend L_56 []))) := Own.unls (A := []) (Own.cv (L' := (hAppend [] (hAppend [(a_42, .lst vs_49)] (hAppend L_44 ((p_18, .lst ([.ref p_11, .ref p_17] : List V)) :: (hAppend L_56 [])))))) O (by first | with_reducible rfl | simp only [n1, n2, n3, n4, n5, n6, n7])) h48
    replace O := Own.cv (L' := (hAppend L_39 ((p_18, .lst ([.ref p_11, .ref p_17] : List V)) :: (hAppend L_56 [])))) O (by first | with_reducible rfl | simp only [n1, n2, n3, n4, n5, n6, n7])
    replace O := (Own.pkB (L' := ((p_18, .lst ([.ref p_11, .ref p_17] : List V)) :: (hAppend L_39 (hAppend L_56 [])))) O [_, [_], _] rfl [1, 0, 2] (by decide) rfl)
    obtain ⟨o_60, h61, hm⟩ := bndE hm
    refine ⟨_, rfl, ?_⟩
    refine o_c ?_
    replace O := (Own.pkB (L' := (hAppend L_39 ((p_18, .lst ([.ref p_11, .ref p_17] : List V)) :: (hAppend L_56 [])))) O [[_], _, _] rfl [1, 0, 2] (by decide) rfl)
    obtain ⟨vs_, a_62, L_63, L_64, hl_, hat_, _, h65, h68, O, h66, h67⟩ := Own.lsAt (A := []) (moRowD (mT2 mI mI)) O h38 h61
    refine ⟨_, vs_, _, _, rfl, rfl, SqL.of hl_, hat_, ?_⟩
    replace O := Own.cv (L' := (hAppend L_63 (hAppend L_64 ((p_18, .lst ([.ref p_11, .ref p_17] : List V)) :: (hAppend L_56 []))))) O (by first | with_reducible rfl | simp only [n1, n2, n3, n4, n5, n6, n7])
    replace O := (Own.pkB (L' := ((p_18, .lst ([.ref p_11, .ref p_17] : List V)) :: (hAppend L_63 (hAppend L_64 (hAppend L_56 []))))) O [_, _, [_], _] rfl [2, 0, 1, 3] (by decide) rfl)
    refine x_nil ?_
    obtain ⟨vs_69, rfl, ha_a_62⟩ := h65
    replace O := Own.cv (L' := ((p_18, .lst ([.ref p_11, .ref p_17] : List V)) :: ((a_62, .lst vs_69) :: (hAppend L_64 (hAppend L_56 []))))) O (by first | with_reducible rfl | simp only [n1, n2, n3, n4, n5, n6, n7])
    obtain ⟨⟨tab_70, ear_71⟩, h72, hm⟩ := bndE hm
    have Oc : Own H0 H (hAppend (hAppend L_56 []) ((p_18, .lst ([.ref p_11, .ref p_17] : List V)) :: ((a_62, .lst vs_69) :: (hAppend L_64 [])))) := (Own.pkB O [[_], [_], _, _] rfl [3, 0, 1, 2] (by decide) (by simp only [g1, g2, g3, g4, n2, n3, n4, n5, n6, n7]))
    refine ⟨o_60, _, tab_50, a_4, _, ovr R0 Hb H0, (tab_70, ear_71), rfl, (Own.shrink Oc.left ovr_ex), ⟨_, _, rfl, (Own.inC Oc (tl_ (hd_))), (mA (mT2 mI mI) (Ex.trans ovr_ex Oc.left.subR) ha_a_62)⟩, h57, h72, ?_⟩
    refine Oc.retXO (mdX (mo_Tab ad) (mdP (mQ eW))) eB fun w_73 H H0 L_74 O e_ d_ => ?_
    replace hp_a_2 := e_.l hp_a_2
    replace hb_a_4 := (mo_Tab ad) _ _ _ _ _ (ovr_mono e_) hb_a_4
    replace hn_p_11 := (mL (mT2 mI mI)) _ _ _ _ (ovr_mono e_) hn_p_11
    replace hn_p_17 := (mL (mT2 mI mI)) _ _ _ _ (ovr_mono e_) hn_p_17
    replace ha_p_18 := mA (mL (mT2 mI mI)) (ovr_mono e_) ha_p_18
    replace hn_p_23 := (mL (mT2 mI mI)) _ _ _ _ (ovr_mono e_) hn_p_23
    replace ha_p_24 := mA (mT2 mI mI) (ovr_mono e_) ha_p_24
    replace hn_p_32 := (mL (mT2 mI mI)) _ _ _ _ (ovr_mono e_) hn_p_32
    replace ha_p_33 := mA (mT2 mI mI) (ovr_mono e_) ha_p_33
    replace h38 := (moLs (moRowD (mT2 mI mI))) _ _ _ _ _ (ovr_mono e_) h38
    replace ha_a_42 := mA (mT2 mI mI) (ovr_mono e_) ha_a_42
    replace h57 := (mo_Tab ad) _ _ _ _ _ (ovr_mono e_) h57
    replace hn_p_59 := (mQ eW) _ _ _ _ (ovr_mono e_) hn_p_59
    replace h66 := fun F_ L_ x_ q_ => h66 F_ L_ x_ ((ovr_mono e_).trans q_)
    replace h67 := fun F_ L_ q_ => h67 F_ L_ ((ovr_mono e_).trans q_)
    replace ha_a_62 := mA (mT2 mI mI) (ovr_mono e_) ha_a_62
    replace eB := eB.trans e_
    obtain ⟨L_76, L_78, rfl, h77, ⟨rfl, h75⟩⟩ := d_
    replace O := Own.cv (L' := (hAppend L_76 ((p_18, .lst ([.ref p_11, .ref p_17] : List V)) :: ((a_62, .lst vs_69) :: (hAppend L_64 []))))) O (by first | with_reducible rfl | simp only [n1, n2, n3, n4, n5, n6, n7])
    replace O := (Own.pkB (L' := ((p_18, .lst ([.ref p_11, .ref p_17] : List V)) :: ((a_62, .lst vs_69) :: (hAppend L_76 (hAppend L_64 []))))) O [_, [_], [_], _] rfl [1, 2, 0, 3] (by decide) rfl)
    obtain ⟨p_79, rfl⟩ := rQ_ref h75
    have hn_p_79 := h75
    replace O := Own.cv (L' := ((p_18, .lst ([.ref p_11, .ref p_17] : List V)) :: ((a_62, .lst vs_69) :: (hAppend L_76 (hAppend L_64 []))))) O (by first | with_reducible rfl | simp only [n1, n2, n3, n4, n5, n6, n7])
    replace O := (Own.pkB (L' := ((a_62, .lst vs_69) :: (hAppend L_64 ((p_18, .lst ([.ref p_11, .ref p_17] : List V)) :: (hAppend L_76 []))))) O [[_], [_], _, _] rfl [1, 3, 0, 2] (by decide) rfl)
    replace O : Own H0 H (hAppend L_39 ((p_18, .lst ([.ref p_11, .ref p_17] : List V)) :: (hAppend L_76 []))) := Own.unls (A := []) (Own.cv (L' := (hAppend [] (hAppend [(a_62, .lst vs_69)] (hAppend L_64 ((p_18, .lst ([.ref p_11, .ref p_17] : List V)) :: (hAppend L_76 [])))))) O (by first | with_reducible rfl | simp only [n1, n2, n3, n4, n5, n6, n7])) h68
    replace O := Own.cv (L' := (hAppend L_39 ((p_18, .lst ([.ref p_11, .ref p_17] : List V)) :: (hAppend L_76 [])))) O (by first | with_reducible rfl | simp only [n1, n2, n3, n4, n5, n6, n7])
    replace O := (Own.pkB (L' := ((p_18, .lst ([.ref p_11, .ref p_17] : List V)) :: (hAppend L_39 (hAppend L_76 [])))) O [_, [_], _] rfl [1, 0, 2] (by decide) rfl)
    refine x_nil ?_
    refine n_lstV O (by show 2 ≤ sizeLine; decide) fun p_80 H O => ?_
    have ha_p_80 : All2 ((rQ eW) (ovr R0 Hb H0)) ([.ref p_59, .ref p_79] : List V) ([ear_51, ear_71] : List (List (Int × Int))) := (.cons hn_p_59 (.cons hn_p_79 .nil))
    -- 37
    refine o_seq ?_
    refine o_asg ?_
    obtain ⟨e_81, h82, hm⟩ := bndE hm
    refine ⟨_, rfl, ?_⟩
    refine o_c ?_
    refine k_ixA (SqL.of (O.mem (tl_ (hd_)))) ha_p_18 h82 fun w_83 h84 => ?_
    obtain ⟨p_85, rfl⟩ := rL_ref h84
    have hn_p_85 := h84
    refine ⟨_, rfl, ?_⟩
    obtain ⟨vs_87, h88, h89⟩ := rL_at hn_p_85
    refine k_cutA O (SqL.of ((ovr_ex.trans O.ex) _ _ h88)) h89 fun p_86 H vs_90 O ha_p_86 => ?_
    obtain ⟨e_91, h92, hm⟩ := bndE hm
    refine ⟨_, rfl, ?_⟩
    refine o_c ?_
    refine k_ixA (SqL.of (O.mem (tl_ (tl_ (hd_))))) ha_p_18 h92 fun w_93 h94 => ?_
    obtain ⟨p_95, rfl⟩ := rL_ref h94
    have hn_p_95 := h94
    refine ⟨_, rfl, ?_⟩
    obtain ⟨vs_97, h98, h99⟩ := rL_at hn_p_95
    refine k_cutA O (SqL.of ((ovr_ex.trans O.ex) _ _ h98)) h99 fun p_96 H vs_100 O ha_p_96 => ?_
    obtain ⟨t_101, h102, hm⟩ := bndE hm
    refine k_catA O (O.mem (tl_ (hd_))) ha_p_86 (O.mem (hd_)) ha_p_96 h102 fun p_103 H vs_104 O ha_p_103 => ?_
    -- 38
    refine o_seq ?_
    refine o_for ?_
    obtain ⟨rg_105, h106, hm⟩ := bndE hm
    refine o_ir1 ?_
    refine o_cons ?_
    refine o_c ?_
    refine x_nil ?_
    obtain ⟨c1, c2, rfl⟩ := rng1E h106
    obtain ⟨asked_110, h111, hm⟩ := bndE hm
    refine ⟨_, rfl, c1, c2, q_forR (fun r σ H => ∃ (R_ : Hp) (asked_107 : List (Int × Int)) (vs_108 : List V) (j_109 : Option V), σ = [some (.ref a_2), some (.ref p_18), some (.ref p_37), some (.ref p_80), some (.ref p_103), j_109, none, none, none] ∧ Ex H0 R_ ∧ Own R_ H ((p_18, .lst ([.ref p_11, .ref p_17] : List V)) :: ((p_80, .lst ([.ref p_59, .ref p_79] : List V)) :: ((p_103, .lst vs_108) :: (hAppend L_39 (hAppend L_76 []))))) ∧ All2 ((rT2 rI rI) (ovr R0 Hb R_)) vs_108 asked_107 ∧ loopM (fun k_114 s => m_law_L0 script_1 k_114 s) r asked_107 = some asked_110) ⟨H0, _, (vs_104), _, rfl, Ex.refl _, (Own.pkB (L' := ((p_18, .lst ([.ref p_11, .ref p_17] : List V)) :: ((p_80, .lst ([.ref p_59, .ref p_79] : List V)) :: ((p_103, .lst vs_104) :: (hAppend L_39 (hAppend L_76 [])))))) O [[_], [_], [_], [_], [_], _, _] rfl [4, 3, 0, 5, 6] (by decide) rfl), ha_p_103, h111⟩ ?_ ?_⟩
    · rintro k_114 r σ H ⟨H0, asked_107, vs_108, j_109, rfl, eL115, O, ha_p_103, hL⟩
      replace hp_a_2 := eL115.l hp_a_2
      replace ha_p_18 := mA (mL (mT2 mI mI)) (ovr_mono eL115) ha_p_18
      replace ha_p_80 := mA (mQ eW) (ovr_mono eL115) ha_p_80
      replace h38 := (moLs (moRowD (mT2 mI mI))) _ _ _ _ _ (ovr_mono eL115) h38
      replace h77 := (mo_Tab ad) _ _ _ _ _ (ovr_mono eL115) h77
      replace eB := eB.trans eL115
      obtain ⟨s_, hm, h113⟩ := loopM_cons hL
      replace hm : m_law_L0 script_1 k_114 asked_107 = some s_ := hm
      unfold m_law_L0 at hm
      -- 39
      refine o_drop ?_
      obtain ⟨law_dr_118, h119, hm⟩ := bndE hm
      refine ⟨_, rfl, .inl ⟨rfl, _, (SqL.of (O.mem (tl_ (tl_ (hd_)))))⟩, _, rfl, _, rfl, _, _, rfl, rfl, ?_⟩
      refine o_cons ?_
      refine o_c ?_
      refine x_nil ?_
      refine ⟨_, _, _, _, law_dr_118, rfl, (O.ex.l hp_a_2), h119, ?_⟩
      refine O.retV fun H O => ?_
      obtain ⟨law_dr_120, h121, hm⟩ := bndE hm
      refine ⟨_, rfl, _, rfl, _, _, rfl, rfl, ?_⟩
      refine o_cons ?_
      refine o_c ?_
      refine x_nil ?_
      refine ⟨_, _, _, _, law_dr_120, rfl, (O.ex.l hp_a_2), h121, ?_⟩
      refine O.retV fun H O => ?_
      refine x_nil ?_
      refine n_tup O (by show 2 ≤ sizeLine; decide) fun p_122 H O => ?_
      refine x_nil ?_
      obtain ⟨H0, O, e_, hp_p_122⟩ := O.frzO (R0 := R0) eB
      replace hp_a_2 := e_.l hp_a_2
      replace ha_p_18 := mA (mL (mT2 mI mI)) (ovr_mono e_) ha_p_18
      replace ha_p_80 := mA (mQ eW) (ovr_mono e_) ha_p_80
      replace ha_p_103 := mA (mT2 mI mI) (ovr_mono e_) ha_p_103
      replace h38 := (moLs (moRowD (mT2 mI mI))) _ _ _ _ _ (ovr_mono e_) h38
      replace h77 := (mo_Tab ad) _ _ _ _ _ (ovr_mono e_) h77
      replace eB := eB.trans e_
      replace eL115 := eL115.trans e_
      have hn_p_122 : (rT2 rI rI) (ovr R0 Hb H0) (.ref p_122) (law_dr_118, law_dr_120) := ⟨_, _, _, rfl, hp_p_122, rfl, rfl⟩
      obtain ⟨l_123, h124, hm⟩ := bndE hm
      refine k_appA (O.mem (tl_ (tl_ (hd_)))) ha_p_103 (fun _ => O.put2) h124 hn_p_122 fun H O ha_p_103 => ?_
      have Oz := O
      obtain rfl := Option.some.inj hm
      exact ⟨H0, _, ((vs_108 ++ [.ref p_122])), _, rfl, eL115, (Own.pkB (L' := ((p_18, .lst ([.ref p_11, .ref p_17] : List V)) :: ((p_80, .lst ([.ref p_59, .ref p_79] : List V)) :: ((p_103, .lst (vs_108 ++ [.ref p_122])) :: (hAppend L_39 (hAppend L_76 [])))))) Oz [[_], [_], [_], _, _] rfl [0, 1, 2, 3, 4] (by decide) rfl), ha_p_103, h113⟩
    rintro σ H ⟨H0, asked_107, vs_108, j_109, rfl, eJ_, O, ha_p_103, hL⟩
    replace hp_a_2 := eJ_.l hp_a_2
    replace ha_p_18 := mA (mL (mT2 mI mI)) (ovr_mono eJ_) ha_p_18
    replace ha_p_80 := mA (mQ eW) (ovr_mono eJ_) ha_p_80
    replace h38 := (moLs (moRowD (mT2 mI mI))) _ _ _ _ _ (ovr_mono eJ_) h38
    replace h77 := (mo_Tab ad) _ _ _ _ _ (ovr_mono eJ_) h77
    replace eB := eB.trans eJ_
    cases loopM_nil hL
    -- 40
    refine o_seq ?_
    refine o_for ?_
    obtain ⟨rg_125, h126, hm⟩ := bndE hm
    refine o_ir1 ?_
    refine o_cons ?_
    refine o_c ?_
    refine x_nil ?_
    obtain ⟨c1, c2, rfl⟩ := rng1E h126
    obtain ⟨out_139, h135, h136⟩ := bndE hm
    refine ⟨_, rfl, c1, c2, q_forR (fun r σ H => ∃ (R_ : Hp) (handed_127 : List (List (Int × Int))) (B_128 : List Cell) (j_130 : Option V) (j_131 : Option V) (j_132 : Option V) (j_133 : Option V), σ = [some (.ref a_2), some (.ref p_18), some (.ref p_37), some (.ref p_80), some (.ref p_103), j_130, j_131, j_132, j_133] ∧ Ex H0 R_ ∧ Own R_ H ((p_18, .lst ([.ref p_11, .ref p_17] : List V)) :: ((p_80, .lst ([.ref p_59, .ref p_79] : List V)) :: ((p_103, .lst vs_108) :: (hAppend B_128 (hAppend L_76 []))))) ∧ (oLs (oRowD (rT2 rI rI))) (ovr R0 Hb R_) p_37 B_128 handed_127 ∧ loopF (fun again_138 s => m_law_L1 script_1 law_pa_6 law_pa_12 ear_51 tab_70 ear_71 asked_110 again_138 s) r handed_127 = some out_139) ⟨H0, _, L_39, _, _, _, _, rfl, Ex.refl _, (Own.pkB O [[_], [_], [_], _, _] rfl [0, 1, 2, 3, 4] (by decide) (by simp only [g1, g2, g3, g4, n2, n3, n4, n5, n6, n7])), h38, h135⟩ ?_ ?_⟩
    · rintro again_138 r σ H ⟨H0, handed_127, B_128, j_130, j_131, j_132, j_133, rfl, eL139, O, h129, hL⟩
      replace hp_a_2 := eL139.l hp_a_2
      replace ha_p_18 := mA (mL (mT2 mI mI)) (ovr_mono eL139) ha_p_18
      replace ha_p_80 := mA (mQ eW) (ovr_mono eL139) ha_p_80
      replace ha_p_103 := mA (mT2 mI mI) (ovr_mono eL139) ha_p_103
      replace h77 := (mo_Tab ad) _ _ _ _ _ (ovr_mono eL139) h77
      replace eB := eB.trans eL139
      obtain ⟨s_, hm, h137⟩ := loopF_cons hL
      replace hm : m_law_L1 script_1 law_pa_6 law_pa_12 ear_51 tab_70 ear_71 asked_110 again_138 handed_127 = some s_ := hm
      unfold m_law_L1 at hm
      -- 41
      refine o_seq ?_
      refine o_for ?_
      refine ⟨_, rfl, ?_⟩
      refine x_nil ?_
      refine n_lenA (SqL.of (O.mem (tl_ (tl_ (hd_))))) ha_p_103 ?_
      obtain ⟨rg_142, h143, hm⟩ := bndE hm
      refine x_nil ?_
      obtain ⟨c1, c2, rfl⟩ := rng1E h143
      obtain ⟨out_151, h147, h148⟩ := bndE hm
      refine ⟨_, rfl, c1, c2, q_forR (fun r σ H => ∃ (R_ : Hp) (j_144 : Option V) (j_145 : Option V) (j_146 : Option V), σ = [some (.ref a_2), some (.ref p_18), some (.ref p_37), some (.ref p_80), some (.ref p_103), j_144, some (.int again_138), j_145, j_146] ∧ Ex H0 R_ ∧ Own R_ H ((p_18, .lst ([.ref p_11, .ref p_17] : List V)) :: ((p_80, .lst ([.ref p_59, .ref p_79] : List V)) :: ((p_103, .lst vs_108) :: (hAppend B_128 (hAppend L_76 []))))) ∧ loopF (fun k_150 (_ : Unit) => m_law_L2 script_1 law_pa_6 law_pa_12 ear_51 tab_70 ear_71 asked_110 again_138 k_150) r () = some out_151) ⟨H0, _, _, _, rfl, Ex.refl _, (Own.pkB (L' := ((p_18, .lst ([.ref p_11, .ref p_17] : List V)) :: ((p_80, .lst ([.ref p_59, .ref p_79] : List V)) :: ((p_103, .lst vs_108) :: (hAppend B_128 (hAppend L_76 [])))))) O [[_], [_], [_], _, _] rfl [0, 1, 2, 3, 4] (by decide) rfl), h147⟩ ?_ ?_⟩
      · rintro k_150 r σ H ⟨H0, j_144, j_145, j_146, rfl, eL151, O, hL⟩
        replace hp_a_2 := eL151.l hp_a_2
        replace ha_p_18 := mA (mL (mT2 mI mI)) (ovr_mono eL151) ha_p_18
        replace ha_p_80 := mA (mQ eW) (ovr_mono eL151) ha_p_80
        replace ha_p_103 := mA (mT2 mI mI) (ovr_mono eL151) ha_p_103
        replace h129 := (moLs (moRowD (mT2 mI mI))) _ _ _ _ _ (ovr_mono eL151) h129
        replace h77 := (mo_Tab ad) _ _ _ _ _ (ovr_mono eL151) h77
        replace eB := eB.trans eL151
        replace eL139 := eL139.trans eL151
        obtain ⟨s_, hm, h149⟩ := loopF_cons hL
        replace hm : m_law_L2 script_1 law_pa_6 law_pa_12 ear_51 tab_70 ear_71 asked_110 again_138 k_150 = some s_ := hm
        unfold m_law_L2 at hm
        -- 42
        refine o_seq ?_
        refine o_asg ?_
        refine ⟨_, rfl, _, rfl, _, _, rfl, rfl, _, _, rfl, rfl, (by show (0 : Int) < 2; decide), ?_⟩
        obtain ⟨side_154, h155, hm⟩ := ltvE hm
        refine a_set (congrArg V.int h155) ?_
        -- 43
        refine o_seq ?_
        refine o_asg ?_
        obtain ⟨law_dr_156, h157, hm⟩ := bndE hm
        refine ⟨_, rfl, _, rfl, _, _, rfl, rfl, _, rfl, _, _, rfl, rfl, ?_⟩
        refine o_cons ?_
        refine o_c ?_
        refine x_nil ?_
        refine ⟨_, _, _, _, law_dr_156, rfl, (O.ex.l hp_a_2), h157, ?_⟩
        refine O.retV fun H O => ?_
        -- 44
        refine o_ifs ?_
        obtain ⟨e_158, h159, hm⟩ := bndE hm
        refine ⟨_, rfl, _, rfl, ?_⟩
        refine k_ixA (SqL.of (O.mem (tl_ (hd_)))) ha_p_80 h159 fun w_160 h161 => ?_
        obtain ⟨p_162, rfl⟩ := rQ_ref h161
        have hn_p_162 := h161
        obtain ⟨e_163, h164, hm⟩ := bndE hm
        refine ⟨_, rfl, _, rfl, ?_⟩
        refine k_ixA (SqL.of (O.mem (hd_))) ha_p_18 h164 fun w_165 h166 => ?_
        obtain ⟨p_167, rfl⟩ := rL_ref h166
        have hn_p_167 := h166
        obtain ⟨e_168, h169, hm⟩ := bndE hm
        refine ⟨_, rfl, _, rfl, ?_⟩
        refine k_ixA (SqL.of (O.mem (tl_ (tl_ (hd_))))) ha_p_103 h169 fun w_170 h171 => ?_
        obtain ⟨p_172, rfl⟩ := rT2_ref h171
        have hn_p_172 := h171
        refine o_c ?_
        obtain ⟨w_173, w_174, h175, h176, h177⟩ := rT2_at hn_p_172
        refine k_ixT (xs := [w_173, w_174]) (SqT.of ((ovr_ex.trans O.ex) _ _ h175)) rfl ?_
        obtain rfl := h176
        obtain ⟨e_178, h179, hm⟩ := bndE hm
        refine ⟨_, rfl, _, rfl, ?_⟩
        refine k_ixA (SqL.of (O.mem (tl_ (tl_ (hd_))))) ha_p_103 h179 fun w_180 h181 => ?_
        obtain ⟨p_182, rfl⟩ := rT2_ref h181
        have hn_p_182 := h181
        refine o_c ?_
        obtain ⟨w_183, w_184, h185, h186, h187⟩ := rT2_at hn_p_182
        refine k_ixT (xs := [w_183, w_184]) (SqT.of ((ovr_ex.trans O.ex) _ _ h185)) rfl ?_
        obtain rfl := h187
        obtain ⟨law_te_188, h189, hm⟩ := bndE hm
        refine ⟨_, rfl, ?_⟩
        refine x_nil ?_
        refine ⟨e_158, _, e_163, _, _, _, _, law_te_188, rfl, ((mQ eW) _ _ _ _ (ovr_ex.trans O.ex) hn_p_162), ((mL (mT2 mI mI)) _ _ _ _ (ovr_ex.trans O.ex) hn_p_167), h189, ?_⟩
        refine O.retV fun H O => ?_
        refine ⟨_, rfl, ?_⟩
        refine iteS (c := (!law_te_188)) (fun h190 => ?_) (fun h190 => ?_)
        · replace hm := ifT hm h190
          -- 45
          refine o_ret ?_
          refine o_c ?_
          obtain rfl := Option.some.inj hm
          obtain rfl := contRt h149
          obtain rfl := floRt h148
          obtain rfl := contRt h137
          obtain rfl := finRt h136
          exact k _ _ H0 (hAppend L_76 []) eB (by exact (Own.pkB O [[_], [_], [_], _, _] rfl [4] (by decide) (by simp only [g1, g2, g3, g4, n2, n3, n4, n5, n6, n7]))) ⟨_, _, rfl, h77, ⟨rfl, rfl⟩⟩
        · replace hm := ifF hm h190
          refine o_next ?_
          have Oz := O
          obtain rfl := Option.some.inj hm
          exact ⟨H0, _, _, _, rfl, eL151, (Own.pkB (L' := ((p_18, .lst ([.ref p_11, .ref p_17] : List V)) :: ((p_80, .lst ([.ref p_59, .ref p_79] : List V)) :: ((p_103, .lst vs_108) :: (hAppend B_128 (hAppend L_76 [])))))) Oz [[_], [_], [_], _, _] rfl [0, 1, 2, 3, 4] (by decide) rfl), h149⟩
      rintro σ H ⟨H0, j_144, j_145, j_146, rfl, eJ_, O, hL⟩
      replace hp_a_2 := eJ_.l hp_a_2
      replace ha_p_18 := mA (mL (mT2 mI mI)) (ovr_mono eJ_) ha_p_18
      replace ha_p_80 := mA (mQ eW) (ovr_mono eJ_) ha_p_80
      replace ha_p_103 := mA (mT2 mI mI) (ovr_mono eJ_) ha_p_103
      replace h129 := (moLs (moRowD (mT2 mI mI))) _ _ _ _ _ (ovr_mono eJ_) h129
      replace h77 := (mo_Tab ad) _ _ _ _ _ (ovr_mono eJ_) h77
      replace eB := eB.trans eJ_
      replace eL139 := eL139.trans eJ_
      obtain rfl := loopF_nil hL
      replace hm := floNx h148
      -- 46
      refine o_ifs ?_
      refine ⟨_, rfl, ?_⟩
      refine o_c ?_
      refine k_eqI ?_
      refine ⟨_, rfl, ?_⟩
      refine iteS (c := (decide (again_138 = (0 : Int)))) (fun h191 => ?_) (fun h191 => ?_)
      · replace hm := ifT hm h191
        -- 47
        refine o_seq ?_
        refine o_ifs ?_
        refine ⟨_, rfl, _, rfl, ?_⟩
        refine k_neN (x := handed_127) (y := ([law_pa_6, law_pa_12])) (deL (deL (deT2 deI deI))) (mL (mL (mT2 mI mI))) (by decide) (rows_viewD (mT2 mI mI) O h129 (fun c_ h_ => tl_ (tl_ (tl_ (List.mem_append_left _ h_)))) (ovr_ex.trans O.ex)) (Ex.refl _) ⟨_, _, rfl, (O.mem (hd_)), (mA (mL (mT2 mI mI)) (ovr_ex.trans O.ex) ha_p_18)⟩ (Ex.refl _) ?_
        refine ⟨_, rfl, ?_⟩
        refine iteS (c := (!decide ((handed_127 : List (List (Int × Int))) = [law_pa_6, law_pa_12]))) (fun h192 => ?_) (fun h192 => ?_)
        · replace hm := ifT hm h192
          -- 48
          refine o_ret ?_
          refine o_c ?_
          obtain rfl := Option.some.inj hm
          obtain rfl := contRt h137
          obtain rfl := finRt h136
          exact k _ _ H0 (hAppend L_76 []) eB (by exact (Own.pkB O [[_], [_], [_], _, _] rfl [4] (by decide) (by simp only [g1, g2, g3, g4, n2, n3, n4, n5, n6, n7]))) ⟨_, _, rfl, h77, ⟨rfl, rfl⟩⟩
        · replace hm := ifF hm h192
          refine o_next ?_
          -- 49
          refine o_seq ?_
          refine o_drop ?_
          obtain ⟨o_193, h194, hm⟩ := bndE hm
          refine ⟨_, rfl, ?_⟩
          refine o_c ?_
          replace O := (Own.pkB (L' := (hAppend B_128 ((p_18, .lst ([.ref p_11, .ref p_17] : List V)) :: ((p_80, .lst ([.ref p_59, .ref p_79] : List V)) :: ((p_103, .lst vs_108) :: (hAppend L_76 [])))))) O [[_], [_], [_], _, _] rfl [3, 0, 1, 2, 4] (by decide) rfl)
          obtain ⟨vs_, a_195, L_196, L_197, hl_, hat_, _, h198, h201, O, h199, h200⟩ := Own.lsAt (A := []) (moRowD (mT2 mI mI)) O h129 h194
          refine ⟨_, vs_, _, _, rfl, rfl, SqL.of hl_, hat_, ?_⟩
          replace O := Own.cv (L' := (hAppend L_196 (hAppend L_197 ((p_18, .lst ([.ref p_11, .ref p_17] : List V)) :: ((p_80, .lst ([.ref p_59, .ref p_79] : List V)) :: ((p_103, .lst vs_108) :: (hAppend L_76 []))))))) O (by first | with_reducible rfl | simp only [n1, n2, n3, n4, n5, n6, n7])
          replace O := (Own.pkB (L' := ((p_18, .lst ([.ref p_11, .ref p_17] : List V)) :: ((p_80, .lst ([.ref p_59, .ref p_79] : List V)) :: ((p_103, .lst vs_108) :: (hAppend L_196 (hAppend L_197 (hAppend L_76 []))))))) O [_, _, [_], [_], [_], _] rfl [2, 3, 4, 0, 1, 5] (by decide) rfl)
          obtain ⟨vs_202, rfl, ha_a_195⟩ := h198
          replace O := Own.cv (L' := ((p_18, .lst ([.ref p_11, .ref p_17] : List V)) :: ((p_80, .lst ([.ref p_59, .ref p_79] : List V)) :: ((p_103, .lst vs_108) :: ((a_195, .lst vs_202) :: (hAppend L_197 (hAppend L_76 []))))))) O (by first | with_reducible rfl | simp only [n1, n2, n3, n4, n5, n6, n7])
          refine ⟨.inl ⟨rfl, _, (SqL.of (O.mem (tl_ (tl_ (tl_ (hd_))))))⟩, ?_⟩
          refine o_cons ?_
          refine o_cons ?_
          refine o_c ?_
          refine o_cons ?_
          refine o_c ?_
          refine x_nil ?_
          refine n_tup O (by show 2 ≤ sizeLine; decide) fun p_203 H O => ?_
          refine x_nil ?_
          obtain ⟨H0, O, e_, hp_p_203⟩ := O.frzO (R0 := R0) eB
          replace hp_a_2 := e_.l hp_a_2
          replace ha_p_18 := mA (mL (mT2 mI mI)) (ovr_mono e_) ha_p_18
          replace ha_p_80 := mA (mQ eW) (ovr_mono e_) ha_p_80
          replace ha_p_103 := mA (mT2 mI mI) (ovr_mono e_) ha_p_103
          replace h129 := (moLs (moRowD (mT2 mI mI))) _ _ _ _ _ (ovr_mono e_) h129
          replace h77 := (mo_Tab ad) _ _ _ _ _ (ovr_mono e_) h77
          replace h199 := fun F_ L_ x_ q_ => h199 F_ L_ x_ ((ovr_mono e_).trans q_)
          replace h200 := fun F_ L_ q_ => h200 F_ L_ ((ovr_mono e_).trans q_)
          replace ha_a_195 := mA (mT2 mI mI) (ovr_mono e_) ha_a_195
          replace eB := eB.trans e_
          replace eL139 := eL139.trans e_
          have hn_p_203 : (rT2 rI rI) (ovr R0 Hb H0) (.ref p_203) ((0 : Int), (0 : Int)) := ⟨_, _, _, rfl, hp_p_203, rfl, rfl⟩
          obtain ⟨l_204, h205, hm⟩ := bndE hm
          refine k_appA (O.mem (tl_ (tl_ (tl_ (hd_))))) ha_a_195 (fun _ => O.put3) h205 hn_p_203 fun H O ha_a_195 => ?_
          replace O := Own.cv (L' := ((p_18, .lst ([.ref p_11, .ref p_17] : List V)) :: ((p_80, .lst ([.ref p_59, .ref p_79] : List V)) :: ((p_103, .lst vs_108) :: (hAppend [(a_195, .lst (vs_202 ++ [.ref p_203]))] (hAppend L_197 (hAppend L_76 []))))))) O (by first | with_reducible rfl | simp only [n1, n2, n3, n4, n5, n6, n7])
          replace O := (Own.pkB (L' := (hAppend [(a_195, .lst (vs_202 ++ [.ref p_203]))] (hAppend L_197 ((p_18, .lst ([.ref p_11, .ref p_17] : List V)) :: ((p_80, .lst ([.ref p_59, .ref p_79] : List V)) :: ((p_103, .lst vs_108) :: (hAppend L_76 []))))))) O [[_], [_], [_], _, _, _] rfl [3, 4, 0, 1, 2, 5] (by decide) rfl)
          obtain ⟨ys_207, h208, hm⟩ := bndE hm
          have h206 := h199 _ _ _ (Ex.refl _) (show (oRowD (rT2 rI rI)) (ovr R0 Hb H0) a_195 [(a_195, .lst (vs_202 ++ [.ref p_203]))] l_204 from ⟨_, rfl, ha_a_195⟩) _ h208
          obtain ⟨L_209, hLb_⟩ : ∃ L_ : List Cell, L_ = (hAppend [(a_195, .lst (vs_202 ++ [.ref p_203]))] L_197) := ⟨_, rfl⟩
          rw [← hLb_] at h206
          replace O : Own H0 H (hAppend L_209 ((p_18, .lst ([.ref p_11, .ref p_17] : List V)) :: ((p_80, .lst ([.ref p_59, .ref p_79] : List V)) :: ((p_103, .lst vs_108) :: (hAppend L_76 []))))) := by rw [hLb_]; exact Own.cv O (by first | with_reducible rfl | simp only [n1, n2, n3, n4, n5, n6, n7])
          clear hLb_
          replace O := Own.cv (L' := (hAppend L_209 ((p_18, .lst ([.ref p_11, .ref p_17] : List V)) :: ((p_80, .lst ([.ref p_59, .ref p_79] : List V)) :: ((p_103, .lst vs_108) :: (hAppend L_76 [])))))) O (by first | with_reducible rfl | simp only [n1, n2, n3, n4, n5, n6, n7])
          replace O := (Own.pkB (L' := ((p_18, .lst ([.ref p_11, .ref p_17] : List V)) :: ((p_80, .lst ([.ref p_59, .ref p_79] : List V)) :: ((p_103, .lst vs_108) :: (hAppend L_209 (hAppend L_76 [])))))) O [_, [_], [_], [_], _] rfl [1, 2, 3, 0, 4] (by decide) rfl)
          -- 50
          refine o_seq ?_
          refine o_drop ?_
          obtain ⟨o_210, h211, hm⟩ := bndE hm
          refine ⟨_, rfl, ?_⟩
          refine o_c ?_
          replace O := (Own.pkB (L' := (hAppend L_209 ((p_18, .lst ([.ref p_11, .ref p_17] : List V)) :: ((p_80, .lst ([.ref p_59, .ref p_79] : List V)) :: ((p_103, .lst vs_108) :: (hAppend L_76 [])))))) O [[_], [_], [_], _, _] rfl [3, 0, 1, 2, 4] (by decide) rfl)
          obtain ⟨vs_, a_212, L_213, L_214, hl_, hat_, _, h215, h218, O, h216, h217⟩ := Own.lsAt (A := []) (moRowD (mT2 mI mI)) O h206 h211
          refine ⟨_, vs_, _, _, rfl, rfl, SqL.of hl_, hat_, ?_⟩
          replace O := Own.cv (L' := (hAppend L_213 (hAppend L_214 ((p_18, .lst ([.ref p_11, .ref p_17] : List V)) :: ((p_80, .lst ([.ref p_59, .ref p_79] : List V)) :: ((p_103, .lst vs_108) :: (hAppend L_76 []))))))) O (by first | with_reducible rfl | simp only [n1, n2, n3, n4, n5, n6, n7])
          replace O := (Own.pkB (L' := ((p_18, .lst ([.ref p_11, .ref p_17] : List V)) :: ((p_80, .lst ([.ref p_59, .ref p_79] : List V)) :: ((p_103, .lst vs_108) :: (hAppend L_213 (hAppend L_214 (hAppend L_76 []))))))) O [_, _, [_], [_], [_], _] rfl [2, 3, 4, 0, 1, 5] (by decide) rfl)
          obtain ⟨vs_219, rfl, ha_a_212⟩ := h215
          replace O := Own.cv (L' := ((p_18, .lst ([.ref p_11, .ref p_17] : List V)) :: ((p_80, .lst ([.ref p_59, .ref p_79] : List V)) :: ((p_103, .lst vs_108) :: ((a_212, .lst vs_219) :: (hAppend L_214 (hAppend L_76 []))))))) O (by first | with_reducible rfl | simp only [n1, n2, n3, n4, n5, n6, n7])
          refine ⟨.inl ⟨rfl, _, (SqL.of (O.mem (tl_ (tl_ (tl_ (hd_))))))⟩, ?_⟩
          refine o_cons ?_
          refine o_cons ?_
          refine o_c ?_
          refine o_cons ?_
          refine o_c ?_
          refine x_nil ?_
          refine n_tup O (by show 2 ≤ sizeLine; decide) fun p_220 H O => ?_
          refine x_nil ?_
          obtain ⟨H0, O, e_, hp_p_220⟩ := O.frzO (R0 := R0) eB
          replace hp_a_2 := e_.l hp_a_2
          replace ha_p_18 := mA (mL (mT2 mI mI)) (ovr_mono e_) ha_p_18
          replace ha_p_80 := mA (mQ eW) (ovr_mono e_) ha_p_80
          replace ha_p_103 := mA (mT2 mI mI) (ovr_mono e_) ha_p_103
          replace h77 := (mo_Tab ad) _ _ _ _ _ (ovr_mono e_) h77
          replace ha_a_195 := mA (mT2 mI mI) (ovr_mono e_) ha_a_195
          replace hn_p_203 := (mT2 mI mI) _ _ _ _ (ovr_mono e_) hn_p_203
          replace hp_p_203 := (ovr_mono e_) _ _ hp_p_203
          replace h206 := (moLs (moRowD (mT2 mI mI))) _ _ _ _ _ (ovr_mono e_) h206
          replace h216 := fun F_ L_ x_ q_ => h216 F_ L_ x_ ((ovr_mono e_).trans q_)
          replace h217 := fun F_ L_ q_ => h217 F_ L_ ((ovr_mono e_).trans q_)
          replace ha_a_212 := mA (mT2 mI mI) (ovr_mono e_) ha_a_212
          replace eB := eB.trans e_
          replace eL139 := eL139.trans e_
          have hn_p_220 : (rT2 rI rI) (ovr R0 Hb H0) (.ref p_220) ((1 : Int), (7 : Int)) := ⟨_, _, _, rfl, hp_p_220, rfl, rfl⟩
          obtain ⟨l_221, h222, hm⟩ := bndE hm
          refine k_appA (O.mem (tl_ (tl_ (tl_ (hd_))))) ha_a_212 (fun _ => O.put3) h222 hn_p_220 fun H O ha_a_212 => ?_
          replace O := Own.cv (L' := ((p_18, .lst ([.ref p_11, .ref p_17] : List V)) :: ((p_80, .lst ([.ref p_59, .ref p_79] : List V)) :: ((p_103, .lst vs_108) :: (hAppend [(a_212, .lst (vs_219 ++ [.ref p_220]))] (hAppend L_214 (hAppend L_76 []))))))) O (by first | with_reducible rfl | simp only [n1, n2, n3, n4, n5, n6, n7])
          replace O := (Own.pkB (L' := (hAppend [(a_212, .lst (vs_219 ++ [.ref p_220]))] (hAppend L_214 ((p_18, .lst ([.ref p_11, .ref p_17] : List V)) :: ((p_80, .lst ([.ref p_59, .ref p_79] : List V)) :: ((p_103, .lst vs_108) :: (hAppend L_76 []))))))) O [[_], [_], [_], _, _, _] rfl [3, 4, 0, 1, 2, 5] (by decide) rfl)
          obtain ⟨ys_224, h225, hm⟩ := bndE hm
          have h223 := h216 _ _ _ (Ex.refl _) (show (oRowD (rT2 rI rI)) (ovr R0 Hb H0) a_212 [(a_212, .lst (vs_219 ++ [.ref p_220]))] l_221 from ⟨_, rfl, ha_a_212⟩) _ h225
          obtain ⟨L_226, hLb_⟩ : ∃ L_ : List Cell, L_ = (hAppend [(a_212, .lst (vs_219 ++ [.ref p_220]))] L_214) := ⟨_, rfl⟩
          rw [← hLb_] at h223
          replace O : Own H0 H (hAppend L_226 ((p_18, .lst ([.ref p_11, .ref p_17] : List V)) :: ((p_80, .lst ([.ref p_59, .ref p_79] : List V)) :: ((p_103, .lst vs_108) :: (hAppend L_76 []))))) := by rw [hLb_]; exact Own.cv O (by first | with_reducible rfl | simp only [n1, n2, n3, n4, n5, n6, n7])
          clear hLb_
          replace O := Own.cv (L' := (hAppend L_226 ((p_18, .lst ([.ref p_11, .ref p_17] : List V)) :: ((p_80, .lst ([.ref p_59, .ref p_79] : List V)) :: ((p_103, .lst vs_108) :: (hAppend L_76 [])))))) O (by first | with_reducible rfl | simp only [n1, n2, n3, n4, n5, n6, n7])
          replace O := (Own.pkB (L' := ((p_18, .lst ([.ref p_11, .ref p_17] : List V)) :: ((p_80, .lst ([.ref p_59, .ref p_79] : List V)) :: ((p_103, .lst vs_108) :: (hAppend L_226 (hAppend L_76 [])))))) O [_, [_], [_], [_], _] rfl [1, 2, 3, 0, 4] (by decide) rfl)
          -- 51
          refine o_drop ?_
          obtain ⟨o_227, h228, hm⟩ := bndE hm
          refine ⟨_, rfl, ?_⟩
          refine o_c ?_
          replace O := (Own.pkB (L' := (hAppend L_226 ((p_18, .lst ([.ref p_11, .ref p_17] : List V)) :: ((p_80, .lst ([.ref p_59, .ref p_79] : List V)) :: ((p_103, .lst vs_108) :: (hAppend L_76 [])))))) O [[_], [_], [_], _, _] rfl [3, 0, 1, 2, 4] (by decide) rfl)
          obtain ⟨vs_, a_229, L_230, L_231, hl_, hat_, _, h232, h235, O, h233, h234⟩ := Own.lsAt (A := []) (moRowD (mT2 mI mI)) O h223 h228
          refine ⟨_, vs_, _, _, rfl, rfl, SqL.of hl_, hat_, ?_⟩
          replace O := Own.cv (L' := (hAppend L_230 (hAppend L_231 ((p_18, .lst ([.ref p_11, .ref p_17] : List V)) :: ((p_80, .lst ([.ref p_59, .ref p_79] : List V)) :: ((p_103, .lst vs_108) :: (hAppend L_76 []))))))) O (by first | with_reducible rfl | simp only [n1, n2, n3, n4, n5, n6, n7])
          replace O := (Own.pkB (L' := ((p_18, .lst ([.ref p_11, .ref p_17] : List V)) :: ((p_80, .lst ([.ref p_59, .ref p_79] : List V)) :: ((p_103, .lst vs_108) :: (hAppend L_230 (hAppend L_231 (hAppend L_76 []))))))) O [_, _, [_], [_], [_], _] rfl [2, 3, 4, 0, 1, 5] (by decide) rfl)
          obtain ⟨vs_236, rfl, ha_a_229⟩ := h232
          replace O := Own.cv (L' := ((p_18, .lst ([.ref p_11, .ref p_17] : List V)) :: ((p_80, .lst ([.ref p_59, .ref p_79] : List V)) :: ((p_103, .lst vs_108) :: ((a_229, .lst vs_236) :: (hAppend L_231 (hAppend L_76 []))))))) O (by first | with_reducible rfl | simp only [n1, n2, n3, n4, n5, n6, n7])
          refine ⟨.inl ⟨rfl, _, (SqL.of (O.mem (tl_ (tl_ (tl_ (hd_))))))⟩, ?_⟩
          refine k_clrA (O.mem (tl_ (tl_ (tl_ (hd_))))) (fun _ => O.put3) fun H O => ?_
          have ha_a_229 : All2 ((rT2 rI rI) (ovr R0 Hb H0)) [] ([] : List (Int × Int)) := .nil
          replace O := Own.cv (L' := ((p_18, .lst ([.ref p_11, .ref p_17] : List V)) :: ((p_80, .lst ([.ref p_59, .ref p_79] : List V)) :: ((p_103, .lst vs_108) :: (hAppend [(a_229, .lst ([]))] (hAppend L_231 (hAppend L_76 []))))))) O (by first | with_reducible rfl | simp only [n1, n2, n3, n4, n5, n6, n7])
          replace O := (Own.pkB (L' := (hAppend [(a_229, .lst ([]))] (hAppend L_231 ((p_18, .lst ([.ref p_11, .ref p_17] : List V)) :: ((p_80, .lst ([.ref p_59, .ref p_79] : List V)) :: ((p_103, .lst vs_108) :: (hAppend L_76 []))))))) O [[_], [_], [_], _, _, _] rfl [3, 4, 0, 1, 2, 5] (by decide) rfl)
          obtain ⟨ys_238, h239, hm⟩ := bndE hm
          have h237 := h233 _ _ _ (Ex.refl _) (show (oRowD (rT2 rI rI)) (ovr R0 Hb H0) a_229 [(a_229, .lst ([]))] ([] : List (Int × Int)) from ⟨_, rfl, ha_a_229⟩) _ h239
          obtain ⟨L_240, hLb_⟩ : ∃ L_ : List Cell, L_ = (hAppend [(a_229, .lst ([]))] L_231) := ⟨_, rfl⟩
          rw [← hLb_] at h237
          replace O : Own H0 H (hAppend L_240 ((p_18, .lst ([.ref p_11, .ref p_17] : List V)) :: ((p_80, .lst ([.ref p_59, .ref p_79] : List V)) :: ((p_103, .lst vs_108) :: (hAppend L_76 []))))) := by rw [hLb_]; exact Own.cv O (by first | with_reducible rfl | simp only [n1, n2, n3, n4, n5, n6, n7])
          clear hLb_
          replace O := Own.cv (L' := (hAppend L_240 ((p_18, .lst ([.ref p_11, .ref p_17] : List V)) :: ((p_80, .lst ([.ref p_59, .ref p_79] : List V)) :: ((p_103, .lst vs_108) :: (hAppend L_76 [])))))) O (by first | with_reducible rfl | simp only [n1, n2, n3, n4, n5, n6, n7])
          replace O := (Own.pkB (L' := ((p_18, .lst ([.ref p_11, .ref p_17] : List V)) :: ((p_80, .lst ([.ref p_59, .ref p_79] : List V)) :: ((p_103, .lst vs_108) :: (hAppend L_240 (hAppend L_76 [])))))) O [_, [_], [_], [_], _] rfl [1, 2, 3, 0, 4] (by decide) rfl)
          have Oz := O
          obtain rfl := Option.some.inj hm
          exact ⟨H0, _, L_240, _, _, _, _, rfl, eL139, (Own.pkB Oz [[_], [_], [_], _, _] rfl [0, 1, 2, 3, 4] (by decide) (by simp only [g1, g2, g3, g4, n2, n3, n4, n5, n6, n7])), h237, h137⟩
      · replace hm := ifF hm h191
        refine o_next ?_
        have Oz := O
        obtain rfl := Option.some.inj hm
        exact ⟨H0, _, B_128, _, _, _, _, rfl, eL139, (Own.pkB Oz [[_], [_], [_], _, _] rfl [0, 1, 2, 3, 4] (by decide) (by simp only [g1, g2, g3, g4, n2, n3, n4, n5, n6, n7])), h129, h137⟩
    rintro σ H ⟨H0, handed_127, B_128, j_130, j_131, j_132, j_133, rfl, eJ_, O, h129, hL⟩
    replace hp_a_2 := eJ_.l hp_a_2
    replace ha_p_18 := mA (mL (mT2 mI mI)) (ovr_mono eJ_) ha_p_18
    replace ha_p_80 := mA (mQ eW) (ovr_mono eJ_) ha_p_80
    replace ha_p_103 := mA (mT2 mI mI) (ovr_mono eJ_) ha_p_103
    replace h77 := (mo_Tab ad) _ _ _ _ _ (ovr_mono eJ_) h77
    replace eB := eB.trans eJ_
    obtain rfl := loopF_nil hL
    replace hm := finNx h136
    -- 52
    refine o_ret ?_
    refine o_c ?_
    obtain rfl := Option.some.inj hm
    exact k _ _ H0 (hAppend L_76 []) eB (by exact (Own.pkB O [[_], [_], [_], _, _] rfl [4] (by decide) (by simp only [g1, g2, g3, g4, n2, n3, n4, n5, n6, n7]))) ⟨_, _, rfl, h77, ⟨rfl, rfl⟩⟩
end
end Bt

/-! The laws' own draw: the same text in all of them. -/
namespace Bt
open PySem L2
theorem draw_ok (ns : List Int) (k many : Int) (hk : 0 ≤ k) (hk2 : k ≤ 1000000000) (hm : 0 < many) : ∃ v, m__law_draw ns k many = some v ∧ 0 ≤ v ∧ v < many := by
  have hc : ∃ c, (ifB (decide ((0 : Int) < (List.length ns : Int))) (bnd (modG k (List.length ns : Int)) fun t => bnd (atI ns t) fun e => some e) (some (0 : Int))) = some c := by
    by_cases h : (0 : Int) < (List.length ns : Int)
    · rw [decide_eq_true h, ifB_t, modG_ok h, bnd_some]
      obtain ⟨x, hx, _⟩ := atI_mem (xs := ns) (i := k % (ns.length : Int)) (Int.emod_nonneg _ (by omega)) (Int.emod_lt_of_pos _ h)
      exact ⟨x, by rw [hx]; rfl⟩
    · rw [decide_eq_false h]
      exact ⟨0, rfl⟩
  obtain ⟨c, hc⟩ := hc
  refine ⟨(((c % 1000003 + 31 * k * k + 1) * 48271 % 999983) * 7919 % 524287) % many, ?_, Int.emod_nonneg _ (by omega), Int.emod_lt_of_pos _ hm⟩
  unfold m__law_draw
  rw [bnd_of hc, mulG_ok (a := 40) (b := 40) (by omega) (by omega) (by omega), bnd_some, ltv_eq, modG_ok hm, bnd_some]
end Bt

namespace Bt
open PySem L2
theorem inL_iff {α : Type} [DecidableEq α] (x : α) (xs : List α) : inL x xs = true ↔ x ∈ xs := decide_eq_true_iff
theorem inP_mem (ps : List (Int × Int)) (a b : Int) : inP ps a b = inL (a, b) ps := by
  rw [Bool.eq_iff_iff, inL_iff]
  unfold inP
  rw [List.any_eq_true]
  constructor
  · rintro ⟨⟨x, y⟩, hp, c⟩
    simp only [Bool.and_eq_true, decide_eq_true_eq] at c
    obtain ⟨rfl, rfl⟩ := c
    exact hp
  · intro h
    exact ⟨(a, b), h, by simp⟩
theorem tells_ok (ps : List (Int × Int)) (a b c : Int) : m__law_tells ps ps a b c = some true := by
  unfold m__law_tells earI
  rw [inP_mem]
  cases inL (a, b) ps <;> simp [ifB, bnd, ltv]
theorem ten18' : powG 10 18 = some (10 ^ (18 : Int).toNat) := grd_of (by decide)
theorem pair_step (ns : List Int) (base k : Int) (hb : 0 ≤ base) (hb2 : base ≤ 1000) (hk : 0 ≤ k) (hk2 : k < 41) (s : List (Int × Int)) (h1 : k ≤ (s.length : Int)) (h2 : (s.length : Int) ≤ 2 * k) :
    ∃ s', m__law_pairs_L0 ns base k s = some s' ∧ k + 1 ≤ (s'.length : Int) ∧ (s'.length : Int) ≤ 2 * (k + 1) := by
  unfold m__law_pairs_L0
  obtain ⟨a, e1, _, _⟩ := draw_ok ns (base + 3 * k + 1) 31 (by omega) (by omega) (by decide)
  obtain ⟨b, e2, _, _⟩ := draw_ok ns (base + 3 * k + 2) 6 (by omega) (by omega) (by decide)
  obtain ⟨c, e3, _, _⟩ := draw_ok ns (base + 3 * k + 3) 5 (by omega) (by omega) (by decide)
  obtain ⟨d, e4, _, _⟩ := draw_ok ns (base + k) 8 (by omega) (by omega) (by decide)
  rw [e1, bnd_some, e2]
  have ht : ∃ t, (bnd (ifB (decide ((0 : Int) < (List.length ns : Int))) (bnd (some b) fun law_dr_26 => some (decide (law_dr_26 = (0 : Int)))) (some false)) fun c_28 => ifB c_28 (bnd (modG k (List.length ns : Int)) fun t_32 => bnd (atI ns t_32) fun e_34 => bnd (powG (10 : Int) (18 : Int)) fun t_36 => bnd (modG e_34 t_36) fun t_38 => some t_38) (some a)) = some t := by
    by_cases h : (0 : Int) < (List.length ns : Int)
    · rw [decide_eq_true h, ifB_t, bnd_some, bnd_some]
      by_cases hz : b = 0
      · rw [decide_eq_true hz, ifB_t, modG_ok h, bnd_some]
        obtain ⟨x, hx, _⟩ := atI_mem (xs := ns) (i := k % (ns.length : Int)) (Int.emod_nonneg _ (by omega)) (Int.emod_lt_of_pos _ h)
        rw [hx, bnd_some, ten18', bnd_some, modG_ok (by decide), bnd_some]
        exact ⟨_, rfl⟩
      · rw [decide_eq_false hz, ifB_f]
        exact ⟨_, rfl⟩
    · rw [decide_eq_false h, ifB_f, bnd_some, ifB_f]
      exact ⟨_, rfl⟩
  obtain ⟨t, ht⟩ := ht
  cases hc : (ifB (decide ((0 : Int) < (List.length ns : Int))) (bnd (some b) fun law_dr_26 => some (decide (law_dr_26 = (0 : Int)))) (some false)) with
  | none => rw [hc] at ht; cases ht
  | some q =>
    rw [hc, bnd_some] at ht
    rw [bnd_some, ht, bnd_some, e3, bnd_some, appG_ok (by omega), bnd_some, e4, bnd_some]
    have hl : ((s ++ [(c, t)]).length : Int) = s.length + 1 := by simp
    by_cases hd : d = 0
    · rw [decide_eq_true hd, ifB_t]
      obtain ⟨x, hx, _⟩ := atI_mem (xs := s ++ [(c, t)]) (i := k / 2) (by omega) (by omega)
      rw [hx, bnd_some, appG_ok (by omega), bnd_some]
      refine ⟨_, rfl, ?_, ?_⟩ <;> rw [List.length_append] <;> simp only [List.length_singleton] <;> omega
    · rw [decide_eq_false hd, ifB_f]
      exact ⟨_, rfl, by omega, by omega⟩
theorem pairs_ok (ns : List Int) (base : Int) (hb : 0 ≤ base) (hb2 : base ≤ 1000) : ∃ s, m__law_pairs ns base = some s ∧ s.length ≤ 80 := by
  unfold m__law_pairs
  obtain ⟨n, e1, h0, h1⟩ := draw_ok ns base 41 hb (by omega) (by decide)
  rw [e1, bnd_some, rng1_ok (by omega) (by omega), bnd_some]
  obtain ⟨s, e2, _, h3⟩ := loopM_rng (f := fun k_17 s => m__law_pairs_L0 ns base k_17 s) (hi := n) (fun k s => 0 ≤ k ∧ k ≤ (s.length : Int) ∧ (s.length : Int) ≤ 2 * k) (fun k s hk ⟨q0, q1, q2⟩ => by
    obtain ⟨s', a1, a2, a3⟩ := pair_step ns base k hb hb2 q0 (by omega) s q1 q2
    exact ⟨s', a1, by omega, a2, a3⟩) _ 0 [] rfl h0 ⟨by decide, by simp, by simp⟩
  rw [e2, bnd_some]
  exact ⟨s, rfl, by omega⟩
theorem l0_ok (ns : List Int) (k : Int) (hk : 0 ≤ k) (hk2 : k < 20) (s : List (Int × Int)) (h : (s.length : Int) ≤ 100 + k) : ∃ s', m_law_L0 ns k s = some s' ∧ (s'.length : Int) ≤ 100 + (k + 1) := by
  unfold m_law_L0
  obtain ⟨a, e1, _, _⟩ := draw_ok ns (400 + k) 5 (by omega) (by omega) (by decide)
  obtain ⟨b, e2, _, _⟩ := draw_ok ns (430 + k) 31 (by omega) (by omega) (by decide)
  rw [e1, bnd_some, e2, bnd_some, appG_ok (by omega), bnd_some]
  exact ⟨_, rfl, by rw [List.length_append, List.length_singleton]; omega⟩
theorem two_at {α : Type} (a b : α) (i : Int) (h0 : 0 ≤ i) (h1 : i < 2) : atI [a, b] i = some (if i = 0 then a else b) := by
  have : i = 0 ∨ i = 1 := by omega
  rcases this with rfl | rfl <;> rfl
theorem l2_ok (ns : List Int) (P Q asked : List (Int × Int)) (t : Unit) (again k : Int) (ha : 0 ≤ again) (ha2 : again < 2) (hk : 0 ≤ k) (hk2 : k < asked.length) (hl : asked.length ≤ 1000) : m_law_L2 ns P Q P t Q asked again k = some (.nx ()) := by
  unfold m_law_L2
  rw [ltv_eq]
  obtain ⟨c, e1, _, _⟩ := draw_ok ns (460 + k + again) 2 (by omega) (by omega) (by decide)
  obtain ⟨x, hx, _⟩ := atI_mem (xs := asked) hk hk2
  rw [e1, bnd_some, two_at _ _ _ (by omega) (by omega), bnd_some, bnd_some, hx, bnd_some, bnd_some, tells_ok, bnd_some]
  rfl
theorem l1_ok (ns : List Int) (P Q asked : List (Int × Int)) (t : Unit) (again : Int) (hd : List (List (Int × Int))) (ha : 0 ≤ again) (ha2 : again < 2) (hl : asked.length ≤ 1000) (hP : P.length ≤ 80) (hh : again = 0 → hd = [P, Q]) : ∃ hd', m_law_L1 ns P Q P t Q asked again hd = some (.nx hd') := by
  unfold m_law_L1
  rw [rng1_ok (by omega) (by omega), bnd_some]
  unfold flo
  rw [loopF_unit (fun k hk => l2_ok ns P Q asked t again k ha ha2 (mem_rangeI hk).1 (mem_rangeI hk).2 hl), bnd_some]
  unfold floK
  dsimp only
  by_cases h : again = 0
  · rw [decide_eq_true h, ifB_t, hh h, decide_eq_true rfl]
    simp only [Bool.not_true, ifB_f]
    have e1 : atI [P, Q] 0 = some P := rfl
    rw [e1, bnd_some, appG_ok (by omega), bnd_some, setG_ok (by decide) (by simp), bnd_some]
    have e2 : atI (([P, Q] : List (List (Int × Int))).set (0 : Int).toNat (P ++ [((0 : Int), (0 : Int))])) 0 = some (P ++ [(0, 0)]) := rfl
    rw [e2, bnd_some, appG_ok (by simp; omega), bnd_some, setG_ok (by decide) (by simp), bnd_some]
    have e3 : atI ((([P, Q] : List (List (Int × Int))).set (0 : Int).toNat (P ++ [((0 : Int), (0 : Int))])).set (0 : Int).toNat (P ++ [((0 : Int), (0 : Int))] ++ [((1 : Int), (7 : Int))])) 1 = some Q := rfl
    rw [e3, bnd_some, setG_ok (by decide) (by simp), bnd_some]
    exact ⟨_, rfl⟩
  · rw [decide_eq_false h, ifB_f]
    exact ⟨_, rfl⟩
theorem law_true (ns : List Int) (hn : ns.length ≤ 63) : m_law ns () = some ((), true) := by
  unfold m_law
  obtain ⟨P, e1, h1⟩ := pairs_ok ns 10 (by decide) (by decide)
  obtain ⟨Q, e2, h2⟩ := pairs_ok ns 200 (by decide) (by decide)
  rw [e1, bnd_some, e2, bnd_some]
  have e3 : atI [P, Q] 0 = some P := rfl
  have e4 : atI [P, Q] 1 = some Q := rfl
  rw [e3, bnd_some, e4, bnd_some, e3, bnd_some]
  have e5 : m_ear P () = some ((), P) := grd_of (by omega)
  have e6 : m_ear Q () = some ((), Q) := grd_of (by omega)
  rw [e5, bnd_some]
  show bnd (atI [P, Q] 1) _ = _
  rw [e4, bnd_some, e6, bnd_some]
  show bnd (atI [P, Q] 0) _ = _
  rw [e3, bnd_some, bnd_some]
  have c1 : (cutL P none (some (30 : Int))).length ≤ 80 := by
    unfold cutL
    rw [List.length_take, List.length_drop]
    omega
  have c2 : (cutL Q none (some (30 : Int))).length ≤ 80 := by
    unfold cutL
    rw [List.length_take, List.length_drop]
    omega
  rw [catG_ok (by omega), bnd_some, rng1_ok (by omega) (by omega), bnd_some]
  obtain ⟨asked, e7, _, h7⟩ := loopM_rng (f := fun k_114 s => m_law_L0 ns k_114 s) (hi := 20) (fun k s => 0 ≤ k ∧ (s.length : Int) ≤ 160 + k) (fun k s hk ⟨q0, q1⟩ => by
    unfold m_law_L0
    obtain ⟨a, e1, _, _⟩ := draw_ok ns (400 + k) 5 (by omega) (by omega) (by decide)
    obtain ⟨b, e2, _, _⟩ := draw_ok ns (430 + k) 31 (by omega) (by omega) (by decide)
    rw [e1, bnd_some, e2, bnd_some, appG_ok (by omega), bnd_some]
    exact ⟨_, rfl, by omega, by rw [List.length_append, List.length_singleton]; omega⟩) _ 0 (cutL P none (some (30 : Int)) ++ cutL Q none (some (30 : Int))) rfl (by decide) ⟨by decide, by rw [List.length_append]; omega⟩
  rw [e7, bnd_some, rng1_ok (by omega) (by omega), bnd_some]
  have e8 : rangeI 0 2 = [0, 1] := rfl
  rw [e8]
  obtain ⟨a1, f1⟩ := l1_ok ns P Q asked () 0 [P, Q] (by decide) (by decide) (by omega) h1 (fun _ => rfl)
  obtain ⟨a2, f2⟩ := l1_ok ns P Q asked () 1 a1 (by decide) (by decide) (by omega) h1 (fun h => by cases h)
  rw [loopF_go f1, loopF_go f2]
  rfl
end Bt

namespace Bt
open PySem L2 PySem.Spec PyProof.Rows
theorem walkH {l : PySem.W.OpenLaw} {q : Program} {loose : List Str} {XP : (Str → Option Value) → Heap → Prop} {YP : World → Heap → Prop} {d : DefRec} (M : ∀ ns : List Int, ns.length ≤ 63 → m_law ns () = some ((), true)) (hn : l.most = some 63) (hdf : d.params.defaults = [])
    (F : ∀ (w : World) (mg : Str → Option Value) (fa : Addr) (h : Heap), YP w h → h.Ns mainGlobals mg → mg d.name = some (.ref fa) →
      ∃ (K : PySem.W.Frag) (fd : FuncData) (ad : Ad), K.In h ∧ K.lookup ad.te = none ∧ h.get? ad.te = some { cls := .none, data := .fields #[] } ∧ PySem.W.codeHdIn K ad.ce ad.te = true ∧ (∀ (s : Shared) (u : Value), BindsTo s fd ⟨[u], []⟩ [("script", u)]) ∧ ∀ base : Heap, LamX.TabB base mg ad.ce ad.te → FnOk l.prog w K mg base CX0 3 fa fd ["script"] (sp_law K ad)) :
    PySem.W.WalkO q loose XP YP l.row.toRowW d [] (fun f vs => PySem.call f vs) :=
  walk_ofTE (n := 63) (k := 3) hn (by decide) hdf ⟨rfl, by decide, by decide⟩ fun w mg fa h Y G e => by
    obtain ⟨K, fd, ad, KX, h1, h2, h3, hb, hF⟩ := F w mg fa h Y G e
    refine ⟨K, KX, fd, [(ad.ce, ad.te)], sp_law K ad, fun p hp => ?_, fun p hp => ?_, fun p hp => ?_, hb, fun H a ns hl _ hT hS => ?_, fun base _ _ tb => hF base (tb _ hd_)⟩
    · obtain rfl : p = (ad.ce, ad.te) := by simpa using hp
      exact h2
    · obtain rfl : p = (ad.ce, ad.te) := by simpa using hp
      exact h1
    · obtain rfl : p = (ad.ce, ad.te) := by simpa using hp
      exact PySem.W.codeHd_of_K KX h3
    · obtain ⟨o1, o2, o3⟩ := tab_start (W := eW) (hT _ hd_) hS
      refine ⟨ns, a, (), ad.te, _, _, ((), true), rfl, o1, o2, o3, M ns hl, fun v H' R' L' e O d => ?_⟩
      obtain ⟨_, _, _, _, _, z⟩ := d
      exact z
end Bt
open PySem PySem.W PySem.Calls PyProof.Rows in
set_option maxRecDepth 100000 in
set_option maxHeartbeats 0 in
theorem PySem.Challenge.cw_bitrail_k50_an_ear_holds : PySem.Challenge.rw_bitrail_k50_an_ear.Holds := by
  w_on; o_law
  refine HandSHeadRun.head_any (r := OpenLaw.row PySem.Challenge.rw_bitrail_k50_an_ear) (q := Bt.hqv) (H := Bt.hk) (ob := Bt.hob) (M := 30000) (loose := Bt.hnm) (d := HandSHeadRun.topDef (OpenLaw.row PySem.Challenge.rw_bitrail_k50_an_ear).prog 6) (kwd := []) Bt.hob_eq
    (by kernel_rfl) (fun s => by kernel_rfl) Bt.hrun (by kernel_rfl) (by kernel_rfl) (by kernel_rfl) (by rfl) (by first | assumption | decide +kernel) (by decide +kernel) ⟨rfl, rfl, rfl, rfl, rfl, by decide +kernel⟩ ?hw ?hc
  case hw => w_witness2
  case hc =>
    refine Bt.walkH Bt.law_true (l := PySem.Challenge.rw_bitrail_k50_an_ear) rfl (by kernel_rfl) ?F
    intro w mg fa h Y G hmg0
    obtain ⟨K, KX, c0⟩ := Y
    have c := c0.s
    have hmg : mg ("law" : PySem.Str) = some (.ref fa) := by
      have e : (HandSHeadRun.topDef (OpenLaw.row PySem.Challenge.rw_bitrail_k50_an_ear).prog 6).name = ("law" : PySem.Str) := by kernel_rfl
      rw [← e]
      exact hmg0
    have q0 : Bt.fG "_law_draw" K := c.fact 0 rfl
    have q1 : Bt.fK "_law_draw" K := c.fact 1 rfl
    obtain ⟨f__law_draw, fd__law_draw, F__law_draw, g__law_draw⟩ : ∃ f fd, L2.Fun K "_law_draw" "_law_draw" Bt.s__law_draw f fd ∧ mg "_law_draw" = some (.ref f) := c.fun_ KX G 0 rfl q0 q1
    have q2 : Bt.fG "_law_pairs" K := c.fact 2 rfl
    have q3 : Bt.fK "_law_pairs" K := c.fact 3 rfl
    obtain ⟨f__law_pairs, fd__law_pairs, F__law_pairs, g__law_pairs⟩ : ∃ f fd, L2.Fun K "_law_pairs" "_law_pairs" Bt.s__law_pairs f fd ∧ mg "_law_pairs" = some (.ref f) := c.fun_ KX G 1 rfl q2 q3
    have q4 : Bt.fG "ear" K := c.fact 4 rfl
    have q5 : Bt.fK "ear" K := c.fact 5 rfl
    obtain ⟨f_ear, fd_ear, F_ear, g_ear, U_ear⟩ : ∃ f fd, L2.Fun K "ear" "ear" Bt.s_ear f fd ∧ mg "ear" = some (.ref f) ∧ fd.code = .ref (He.cT K Bt.earP).1 := c.ear KX G 2 rfl q4 q5
    have q6 : Bt.fG "_law_tells" K := c.fact 6 rfl
    have q7 : Bt.fK "_law_tells" K := c.fact 7 rfl
    obtain ⟨f__law_tells, fd__law_tells, F__law_tells, g__law_tells⟩ : ∃ f fd, L2.Fun K "_law_tells" "_law_tells" Bt.s__law_tells f fd ∧ mg "_law_tells" = some (.ref f) := c.fun_ KX G 3 rfl q6 q7
    have q8 : Bt.fG "law" K := c.fact 8 rfl
    have q9 : Bt.fK "law" K := c.fact 9 rfl
    obtain ⟨f_law, fd_law, F_law, g_law⟩ : ∃ f fd, L2.Fun K "law" "law" Bt.s_law f fd ∧ mg "law" = some (.ref f) := c.fun_ KX G 4 rfl q8 q9
    have q10 : Bt.fZ "bool" K := c.fact 10 rfl
    have z_bool : mg "bool" = none := PySem.W.mg_none_of KX G q10
    have q11 : Bt.fZ "int" K := c.fact 11 rfl
    have z_int : mg "int" = none := PySem.W.mg_none_of KX G q11
    have q12 : Bt.fZ "isinstance" K := c.fact 12 rfl
    have z_isinstance : mg "isinstance" = none := PySem.W.mg_none_of KX G q12
    have q13 : Bt.fZ "len" K := c.fact 13 rfl
    have z_len : mg "len" = none := PySem.W.mg_none_of KX G q13
    have q14 : Bt.fZ "list" K := c.fact 14 rfl
    have z_list : mg "list" = none := PySem.W.mg_none_of KX G q14
    have q15 : Bt.fZ "range" K := c.fact 15 rfl
    have z_range : mg "range" = none := PySem.W.mg_none_of KX G q15
    cases hmg.symm.trans g_law
    refine ⟨K, fd_law, ⟨f__law_draw, fd__law_draw, f__law_pairs, fd__law_pairs, f_ear, fd_ear, f__law_tells, fd__law_tells, fa, fd_law, (He.cT K Bt.earP).2, (He.cT K Bt.earP).1, ⟨fa, fa, fa, fa, fa, fa, fa, fa, fa, fa, fa⟩⟩, KX, c0.out, c0.empty, c0.hd, ?_, fun base tb_ => Bt.ok_law ⟨F__law_draw, g__law_draw, F__law_draw.binds (ps := ["script", "k", "many"]) fun _ _ _ _ _ _ us hl => match us, hl with | [_, _, _], _ => rfl, F__law_pairs, g__law_pairs, F__law_pairs.binds (ps := ["script", "base"]) fun _ _ _ _ _ _ us hl => match us, hl with | [_, _], _ => rfl, F_ear, g_ear, F_ear.binds (ps := ["wrong"]) fun _ _ _ _ _ _ us hl => match us, hl with | [_], _ => rfl, F__law_tells, g__law_tells, F__law_tells.binds (ps := ["hearing", "pairs", "post", "turn", "bit"]) fun _ _ _ _ _ _ us hl => match us, hl with | [_, _, _, _, _], _ => rfl, F_law, g_law, F_law.binds (ps := ["script"]) fun _ _ _ _ _ _ us hl => match us, hl with | [_], _ => rfl, z_bool, z_int, z_isinstance, z_len, z_list, z_range, U_ear, tb_⟩⟩
    obtain ⟨oc, od, kV, doc, pm, an, cdv, ct, osl, rfl, lk, hcd⟩ := F_law.ex
    exact fun s u => .of_eq rfl
