import PyProof.Rows.All
import Wide.All
import OpenK.AllK
import Wide.FinOn
import HandS.ForMost
import HandS.Exc
import HandS.TryOnly
import HandS.ExcOwn
import HandS.WordsExc
import HandS.IsInst
import HandS.Wide
import HandS.WideBits
import HandS.Flow
import HandS.Evl
import HandS.TryMany
import HandS.Style
import HandS.SortKw
import KE.DatumOrd
import HandS.ExcIs
import HandS.HotCalls
import KE.KExcIs
import HandS.ExcInit
import HandS.ExcField
import HandS.Deep
import HandS.Iter
import HandS.Text
import HandS.Codes
import HandS.StrMore
import HandS.Replace
import HandS.Zip
import HandS.SortInts
import KE.DataCmp
import HandS.Head0
import HandS.Head1
import HandS.Head2
import HandS.HeadEnd
import HandS.HeadHook1
import HandS.HeadHook2
import PyProof.ListOps
import HandS.More
import PySem.Challenge.RW_bitrail_k40_posts_and_frames_refused
set_option Elab.async false
set_option linter.all false
set_option maxRecDepth 100000
set_option maxHeartbeats 4000000
/-! The base of all proofs over bitrail: owned cells over a frame, and the readings' steps, one a construct. -/
namespace Bt
open PySem L2
theorem n1 {α β : Type} {f : α → β} : List.map f [] = [] := rfl
theorem n2 {α : Type} {l : List α} {L : List (List α)} : (l :: L).flatten = l ++ L.flatten := List.flatten_cons
theorem n3 {α : Type} : ([] : List (List α)).flatten = [] := rfl
theorem n4 {α : Type} {a : α} {l m : List α} : (a :: l) ++ m = a :: (l ++ m) := rfl
theorem n5 {α : Type} {l : List α} : [] ++ l = l := rfl
theorem n6 {α : Type} {l : List α} : l ++ [] = l := List.append_nil l
theorem n7 {α : Type} {l m n : List α} : (l ++ m) ++ n = l ++ (m ++ n) := List.append_assoc l m n
theorem hd_ {α : Type} {a : α} {l : List α} : a ∈ a :: l := List.Mem.head _
theorem tl_ {α : Type} {a b : α} {l : List α} (h : a ∈ l) : a ∈ b :: l := List.Mem.tail _ h

/-! ### owned cells -/
abbrev Cell := Addr × HO
abbrev Ex (H H' : Hp) : Prop := ∀ a o, H a = some o → H' a = some o
theorem Ex.refl (H : Hp) : Ex H H := fun _ _ h => h
theorem Ex.trans {H H1 H2 : Hp} (a : Ex H H1) (b : Ex H1 H2) : Ex H H2 := fun x o h => b x o (a x o h)
theorem Ex.new {H : Hp} {p : Addr} {o : HO} (h : H p = none) : Ex H (upd H p o) := fun a u e => by
  rw [upd_ne (ne_of_none e h)]
  exact e
theorem Ex.back {H H' : Hp} {p : Addr} (e : Ex H H') (h : H' p = none) : H p = none := by
  cases h1 : H p with
  | none => rfl
  | some o =>
    rw [e p o h1] at h
    cases h
theorem Ex.rd {H H' : Hp} {a : Addr} {u : HO} (e : Ex H H') (h : Rd H a u) : Rd H' a u := by
  rcases h with h | ⟨o, h⟩
  · exact Or.inl (e a _ h)
  · exact Or.inr ⟨o, e a _ h⟩
theorem Ex.l {K : PySem.W.Frag} {H H' : Hp} {a : Addr} {xs : List V} (e : Ex H H') (h : SqL K H a xs) : SqL K H' a xs := by
  rcases h with h | h
  · exact Or.inl (e.rd h)
  · exact Or.inr h
theorem Ex.t {K : PySem.W.Frag} {H H' : Hp} {a : Addr} {xs : List V} (e : Ex H H') (h : SqT K H a xs) : SqT K H' a xs := by
  rcases h with h | h
  · exact Or.inl (e.rd h)
  · exact Or.inr h

/-- H holds the frame R, and beside it the cells L, at unlike places that R does not know -/
structure Own (R H : Hp) (L : List Cell) : Prop where
  ex : Ex R H
  at_ : ∀ c ∈ L, H c.1 = some c.2
  fr : ∀ c ∈ L, R c.1 = none
  nd : (L.map (·.1)).Nodup

section
variable {R H H' : Hp} {L L' A B C : List Cell} {a p q : Addr} {o o' : HO}
theorem Own.start (H : Hp) : Own H H [] := ⟨Ex.refl H, fun _ h => (nomatch h), fun _ h => (nomatch h), List.Pairwise.nil⟩
theorem Own.mem (O : Own R H L) (h : (a, o) ∈ L) : H a = some o := O.at_ _ h
theorem Own.g0 {c1 : Cell} (O : Own R H (c1 :: L)) : H c1.1 = some c1.2 := O.at_ _ (List.Mem.head _)
theorem Own.tl {c1 : Cell} (O : Own R H (c1 :: L)) : Own R H L :=
  ⟨O.ex, fun c h => O.at_ c (List.Mem.tail _ h), fun c h => O.fr c (List.Mem.tail _ h), (List.nodup_cons.mp O.nd).2⟩
theorem Own.ext (O : Own R H L) (e : Ex H H') : Own R H' L := ⟨O.ex.trans e, fun c h => e _ _ (O.at_ c h), O.fr, O.nd⟩
theorem Own.notin (O : Own R H L) (h : H p = none) : p ∉ L.map (·.1) := fun m => by
  obtain ⟨c, hc, e⟩ := List.mem_map.mp m
  have := O.at_ c hc
  rw [e, h] at this
  cases this
theorem Own.ext1 (O : Own R H L) (e : Ex H H') (h : H p = none) (h' : H' p = some o) : Own R H' ((p, o) :: L) :=
  ⟨O.ex.trans e, fun c hc => by
    rcases List.mem_cons.mp hc with rfl | hc
    · exact h'
    · exact e _ _ (O.at_ c hc), fun c hc => by
    rcases List.mem_cons.mp hc with rfl | hc
    · exact O.ex.back h
    · exact O.fr c hc, List.nodup_cons.mpr ⟨O.notin h, O.nd⟩⟩
theorem Own.new (O : Own R H L) (h : H p = none) : Own R (upd H p o) ((p, o) :: L) := O.ext1 (Ex.new h) h upd_same
/-- more cells, owned over H -/
theorem Own.app (O : Own R H L) (N : Own H H' A) : Own R H' (A ++ L) :=
  ⟨O.ex.trans N.ex, fun c hc => by
    rcases List.mem_append.mp hc with hc | hc
    · exact N.at_ c hc
    · exact N.ex _ _ (O.at_ c hc), fun c hc => by
    rcases List.mem_append.mp hc with hc | hc
    · exact O.ex.back (N.fr c hc)
    · exact O.fr c hc, by
    rw [List.map_append]
    refine List.nodup_append.mpr ⟨N.nd, O.nd, fun x hx y hy e => ?_⟩
    subst e
    obtain ⟨c, hc, e⟩ := List.mem_map.mp hx
    have := N.fr c hc
    rw [e] at this
    exact O.notin this hy⟩
theorem Own.put (O : Own R H (A ++ (p, o) :: B)) : Own R (upd H p o') (A ++ (p, o') :: B) := by
  have nd := O.nd
  rw [List.map_append, List.map_cons] at nd
  have nA : p ∉ A.map (·.1) := fun m => by
    have := (List.nodup_append.mp nd).2.2
    exact this _ m p (List.Mem.head _) rfl
  have nB : p ∉ B.map (·.1) := (List.nodup_cons.mp (List.nodup_append.mp nd).2.1).1
  have hp : R p = none := O.fr (p, o) (by simp)
  refine ⟨fun b u e => ?_, fun c hc => ?_, fun c hc => ?_, by rw [List.map_append, List.map_cons]; exact nd⟩
  · rw [upd_ne (ne_of_none e hp)]
    exact O.ex _ _ e
  · rcases List.mem_append.mp hc with hA | hc
    · rw [upd_ne (fun e : c.1 = p => nA (by rw [← e]; exact List.mem_map_of_mem hA))]
      exact O.at_ c (List.mem_append.mpr (Or.inl hA))
    · rcases List.mem_cons.mp hc with rfl | hB
      · exact upd_same
      · rw [upd_ne (fun e : c.1 = p => nB (by rw [← e]; exact List.mem_map_of_mem hB))]
        exact O.at_ c (List.mem_append.mpr (Or.inr (List.mem_cons_of_mem _ hB)))
  · rcases List.mem_append.mp hc with hA | hc
    · exact O.fr c (List.mem_append.mpr (Or.inl hA))
    · rcases List.mem_cons.mp hc with rfl | hB
      · exact hp
      · exact O.fr c (List.mem_append.mpr (Or.inr (List.mem_cons_of_mem _ hB)))
theorem Own.put0 (O : Own R H ((p, o) :: B)) : Own R (upd H p o') ((p, o') :: B) := Own.put (A := []) O
theorem Own.put1 {c1 : Cell} (O : Own R H (c1 :: (p, o) :: B)) : Own R (upd H p o') (c1 :: (p, o') :: B) := Own.put (A := [c1]) O
theorem Own.put2 {c1 c2 : Cell} (O : Own R H (c1 :: c2 :: (p, o) :: B)) : Own R (upd H p o') (c1 :: c2 :: (p, o') :: B) := Own.put (A := [c1, c2]) O
theorem Own.put3 {c1 c2 c3 : Cell} (O : Own R H (c1 :: c2 :: c3 :: (p, o) :: B)) : Own R (upd H p o') (c1 :: c2 :: c3 :: (p, o') :: B) := Own.put (A := [c1, c2, c3]) O
theorem Own.put4 {c1 c2 c3 c4 : Cell} (O : Own R H (c1 :: c2 :: c3 :: c4 :: (p, o) :: B)) : Own R (upd H p o') (c1 :: c2 :: c3 :: c4 :: (p, o') :: B) := Own.put (A := [c1, c2, c3, c4]) O
theorem Own.put5 {c1 c2 c3 c4 c5 : Cell} (O : Own R H (c1 :: c2 :: c3 :: c4 :: c5 :: (p, o) :: B)) : Own R (upd H p o') (c1 :: c2 :: c3 :: c4 :: c5 :: (p, o') :: B) := Own.put (A := [c1, c2, c3, c4, c5]) O
theorem Own.put6 {c1 c2 c3 c4 c5 c6 : Cell} (O : Own R H (c1 :: c2 :: c3 :: c4 :: c5 :: c6 :: (p, o) :: B)) : Own R (upd H p o') (c1 :: c2 :: c3 :: c4 :: c5 :: c6 :: (p, o') :: B) := Own.put (A := [c1, c2, c3, c4, c5, c6]) O
theorem Own.perm (O : Own R H L) (e : L.Perm L') : Own R H L' :=
  ⟨O.ex, fun c h => O.at_ c (e.mem_iff.mpr h), fun c h => O.fr c (e.mem_iff.mpr h), (e.map _).nodup_iff.mp O.nd⟩
/-- fewer cells -/
theorem Own.sub (O : Own R H L) (e : L'.Sublist L) : Own R H L' :=
  ⟨O.ex, fun c h => O.at_ c (e.subset h), fun c h => O.fr c (e.subset h), List.Nodup.sublist (e.map _) O.nd⟩
/-- THE FRAME: what is done to some of the cells, the others being its frame -/
theorem Own.focus (O : Own R H (A ++ B)) : ∃ R', Own R' H A ∧ Ex R R' ∧ (∀ c ∈ B, R' c.1 = some c.2) ∧ ∀ H' A', Own R' H' A' → Own R H' (A' ++ B) := by
  have nd := O.nd
  rw [List.map_append] at nd
  obtain ⟨ndA, ndB, dis⟩ := List.nodup_append.mp nd
  refine ⟨fun b => if b ∈ A.map (·.1) then none else H b, ⟨fun b u e => ?_, fun c h => O.at_ c (List.mem_append.mpr (Or.inl h)), fun c h => if_pos (List.mem_map_of_mem h), ndA⟩, fun b u e => ?_, fun c hc => ?_, fun H' A' O' => ?_⟩
  · by_cases hb : b ∈ A.map (·.1)
    · rw [if_pos hb] at e; cases e
    · rw [if_neg hb] at e; exact e
  · have hb : b ∉ A.map (·.1) := fun m => by
      obtain ⟨c, hc, e1⟩ := List.mem_map.mp m
      have := O.fr c (List.mem_append.mpr (Or.inl hc))
      rw [e1, e] at this
      cases this
    show (if b ∈ A.map (·.1) then none else H b) = some u
    rw [if_neg hb]
    exact O.ex _ _ e
  · have hb : c.1 ∉ A.map (·.1) := fun m => dis _ m _ (List.mem_map_of_mem hc) rfl
    show (if c.1 ∈ A.map (·.1) then none else H c.1) = some c.2
    rw [if_neg hb]
    exact O.at_ c (List.mem_append.mpr (Or.inr hc))
  · have hB : ∀ c ∈ B, (if c.1 ∈ A.map (·.1) then none else H c.1) = some c.2 := fun c hc => by
      have hb : c.1 ∉ A.map (·.1) := fun m => dis _ m _ (List.mem_map_of_mem hc) rfl
      rw [if_neg hb]
      exact O.at_ c (List.mem_append.mpr (Or.inr hc))
    have hR : ∀ b u, R b = some u → (if b ∈ A.map (·.1) then none else H b) = some u := fun b u e => by
      have hb : b ∉ A.map (·.1) := fun m => by
        obtain ⟨c, hc, e1⟩ := List.mem_map.mp m
        have := O.fr c (List.mem_append.mpr (Or.inl hc))
        rw [e1, e] at this
        cases this
      rw [if_neg hb]
      exact O.ex _ _ e
    refine ⟨fun b u e => O'.ex _ _ (hR b u e), fun c hc => ?_, fun c hc => ?_, ?_⟩
    · rcases List.mem_append.mp hc with hc | hc
      · exact O'.at_ c hc
      · exact O'.ex _ _ (hB c hc)
    · rcases List.mem_append.mp hc with hc | hc
      · cases e : R c.1 with
        | none => rfl
        | some u =>
          have := O'.fr c hc
          rw [hR _ _ e] at this
          cases this
      · exact O.fr c (List.mem_append.mpr (Or.inr hc))
    · rw [List.map_append]
      refine List.nodup_append.mpr ⟨O'.nd, ndB, fun x hx y hy e => ?_⟩
      subst e
      obtain ⟨c, hc, e⟩ := List.mem_map.mp hx
      obtain ⟨d, hd, e2⟩ := List.mem_map.mp hy
      have h1 := O'.fr c hc
      have h2 := hB d hd
      rw [e2, ← e, h1] at h2
      cases h2
/-- the frame may be what is there now: all else is kept -/
theorem Own.over (O : Own R H L) : Own H H [] := Own.start H
end

/-! ### what a call hands back: a value; a new list; a new tuple -/
def RetV (v : V) (H : Hp) (Q : VK) : Prop := ∀ H', Ex H H' → Q v H'
def RetL (xs : List V) (H : Hp) (Q : VK) : Prop := ∀ p H', H p = none → Ex H H' → H' p = some (.lst xs) → Q (.ref p) H'
def RetT (xs : List V) (H : Hp) (Q : VK) : Prop := ∀ p H', H p = none → Ex H H' → H' p = some (.tup xs) → Q (.ref p) H'
/-- any new cells, as D says -/
def RetN (D : V → List Cell → Prop) (H : Hp) (Q : VK) : Prop := ∀ v H' L, Own H H' L → D v L → Q v H'
section
variable {R H : Hp} {L : List Cell} {Q : VK} {v : V} {xs : List V}
theorem Own.retV (O : Own R H L) (k : ∀ H', Own R H' L → Q v H') : RetV v H Q := fun H' e => k H' (O.ext e)
theorem Own.retL (O : Own R H L) (k : ∀ p H', Own R H' ((p, .lst xs) :: L) → Q (.ref p) H') : RetL xs H Q := fun p H' h e h' => k p H' (O.ext1 e h h')
theorem Own.retT (O : Own R H L) (k : ∀ p H', Own R H' ((p, .tup xs) :: L) → Q (.ref p) H') : RetT xs H Q := fun p H' h e h' => k p H' (O.ext1 e h h')
theorem Own.retN {D : V → List Cell → Prop} (O : Own R H L) (k : ∀ v H' N, Own R H' (N ++ L) → D v N → Q v H') : RetN D H Q := fun v H' N o d => k v H' N (O.app o) d
/-- the end of a def that started at H: what it hands back is new -/
theorem RetV.go {H0 H : Hp} {L : List Cell} {v : V} {Q : VK} (k : RetV v H0 Q) (O : Own H0 H L) : Q v H := k H O.ex
theorem RetL.go {H0 H : Hp} {L : List Cell} {xs : List V} {Q : VK} {p : Addr} (k : RetL xs H0 Q) (O : Own H0 H L) (h : (p, HO.lst xs) ∈ L) : Q (.ref p) H := k p H (O.fr _ h) O.ex (O.at_ _ h)
theorem RetT.go {H0 H : Hp} {L : List Cell} {xs : List V} {Q : VK} {p : Addr} (k : RetT xs H0 Q) (O : Own H0 H L) (h : (p, HO.tup xs) ∈ L) : Q (.ref p) H := k p H (O.fr _ h) O.ex (O.at_ _ h)
theorem RetN.go {H0 H : Hp} {L N : List Cell} {D : V → List Cell → Prop} {Q : VK} {v : V} (k : RetN D H0 Q) (O : Own H0 H L) (e : N.Sublist L) (d : D v N) : Q v H := k v H N (O.sub e) d
end

end Bt

set_option Elab.async false
set_option linter.all false
set_option maxRecDepth 100000
set_option maxHeartbeats 4000000
/-! The mirror's words (partial functions: none where the program would stop), and the steps that join a reading with its mirror. -/
namespace Bt
open PySem L2

/-! ### the mirror's words -/
section
variable {α β γ S R T : Type}
def ltv (a : α) (f : α → Option β) : Option β := f a
theorem ltvE {a : α} {f : α → Option β} {r : β} (h : ltv a f = some r) : ∃ x, a = x ∧ f x = some r := ⟨a, rfl, h⟩
def bnd (a : Option α) (f : α → Option β) : Option β := match a with
  | some x => f x
  | none => none
theorem bndE {a : Option α} {f : α → Option β} {r : β} (h : bnd a f = some r) : ∃ x, a = some x ∧ f x = some r := by
  cases a with
  | none => cases h
  | some x => exact ⟨x, rfl, h⟩
def ifB (c : Bool) (a b : α) : α := match c with
  | true => a
  | false => b
theorem ifT {c : Bool} {a b r : α} (h : ifB c a b = r) (hc : c = true) : a = r := by subst hc; exact h
theorem ifF {c : Bool} {a b r : α} (h : ifB c a b = r) (hc : c = false) : b = r := by subst hc; exact h
inductive Fl (S R : Type) where
  | nx (s : S)
  | rt (r : R)
  | bk (s : S)
def finK (rest : S → Option R) : Fl S R → Option R
  | .nx s => rest s
  | .rt r => some r
  | .bk _ => none
def fin (a : Option (Fl S R)) (rest : S → Option R) : Option R := bnd a (finK rest)
def floK (rest : S → Option (Fl T R)) : Fl S R → Option (Fl T R)
  | .nx s => rest s
  | .rt r => some (.rt r)
  | .bk _ => none
def flo (a : Option (Fl S R)) (rest : S → Option (Fl T R)) : Option (Fl T R) := bnd a (floK rest)
theorem finRt {rest : S → Option R} {v r : R} (h : finK rest (.rt v) = some r) : v = r := Option.some.inj h
theorem floRt {rest : S → Option (Fl T R)} {v : R} {fl : Fl T R} (h : floK rest (.rt v) = some fl) : Fl.rt v = fl := Option.some.inj h
def loopM (f : α → S → Option S) : List α → S → Option S
  | [], s => some s
  | x :: r, s => bnd (f x s) (loopM f r)
theorem loopM_nil {f : α → S → Option S} {s out : S} (h : loopM f [] s = some out) : out = s := (Option.some.inj h).symm
theorem loopM_cons {f : α → S → Option S} {x : α} {r : List α} {s out : S} (h : loopM f (x :: r) s = some out) : ∃ s', f x s = some s' ∧ loopM f r s' = some out := bndE h
def contF (go : S → Option (Fl S R)) : Fl S R → Option (Fl S R)
  | .nx s => go s
  | .rt r => some (.rt r)
  | .bk s => some (.nx s)
def loopF (f : α → S → Option (Fl S R)) : List α → S → Option (Fl S R)
  | [], s => some (.nx s)
  | x :: r, s => bnd (f x s) (contF (loopF f r))
theorem loopF_nil {f : α → S → Option (Fl S R)} {s : S} {out : Fl S R} (h : loopF f [] s = some out) : Fl.nx s = out := Option.some.inj h
theorem loopF_cons {f : α → S → Option (Fl S R)} {x : α} {r : List α} {s : S} {out : Fl S R} (h : loopF f (x :: r) s = some out) : ∃ fl, f x s = some fl ∧ contF (loopF f r) fl = some out := bndE h
theorem contRt {go : S → Option (Fl S R)} {v : R} {out : Fl S R} (h : contF go (.rt v) = some out) : Fl.rt v = out := Option.some.inj h
theorem contBk {go : S → Option (Fl S R)} {s : S} {out : Fl S R} (h : contF go (.bk s) = some out) : Fl.nx s = out := Option.some.inj h
def whileM (c : S → Option Bool) (f : S → Option S) : Nat → S → Option S
  | 0, _ => none
  | n + 1, s => bnd (c s) fun b => ifB b (bnd (f s) (whileM c f n)) (some s)
theorem whileM_zero {c : S → Option Bool} {f : S → Option S} {s out : S} (h : whileM c f 0 s = some out) : False := nomatch h
theorem whileM_succ {c : S → Option Bool} {f : S → Option S} {n : Nat} {s out : S} (h : whileM c f (n + 1) s = some out) : ∃ b, c s = some b ∧ ifB b (bnd (f s) (whileM c f n)) (some s) = some out := bndE h
def whileF (c : S → Option Bool) (f : S → Option (Fl S R)) : Nat → S → Option (Fl S R)
  | 0, _ => none
  | n + 1, s => bnd (c s) fun b => ifB b (bnd (f s) (contF (whileF c f n))) (some (.nx s))
theorem whileF_succ {c : S → Option Bool} {f : S → Option (Fl S R)} {n : Nat} {s : S} {out : Fl S R} (h : whileF c f (n + 1) s = some out) : ∃ b, c s = some b ∧ ifB b (bnd (f s) (contF (whileF c f n))) (some (.nx s)) = some out := bndE h
/-- a comprehension: what is kept, in order -/
def compM (f : α → Option β) : List α → List β → Option (List β)
  | [], acc => some acc
  | x :: r, acc => bnd (f x) fun y => if acc.length < 16777216 then compM f r (acc ++ [y]) else none
theorem compM_cons {f : α → Option β} {x : α} {r : List α} {acc out : List β} (h : compM f (x :: r) acc = some out) : ∃ y, f x = some y ∧ acc.length < 16777216 ∧ compM f r (acc ++ [y]) = some out := by
  obtain ⟨y, h1, h2⟩ := bndE (show bnd (f x) (fun y => if acc.length < 16777216 then compM f r (acc ++ [y]) else none) = some out from h)
  by_cases c : acc.length < 16777216
  · rw [if_pos c] at h2
    exact ⟨y, h1, c, h2⟩
  · rw [if_neg c] at h2
    cases h2
theorem compM_nil {f : α → Option β} {acc out : List β} (h : compM f [] acc = some out) : out = acc := (Option.some.inj h).symm
/-- .. with a test -/
def compT (c : α → Option Bool) (f : α → Option β) : List α → List β → Option (List β)
  | [], acc => some acc
  | x :: r, acc => bnd (c x) fun b => ifB b (bnd (f x) fun y => if acc.length < 16777216 then compT c f r (acc ++ [y]) else none) (compT c f r acc)
theorem compT_nil {c : α → Option Bool} {f : α → Option β} {acc out : List β} (h : compT c f [] acc = some out) : out = acc := (Option.some.inj h).symm
theorem compT_cons {c : α → Option Bool} {f : α → Option β} {x : α} {r : List α} {acc out : List β} (h : compT c f (x :: r) acc = some out) :
    ∃ b, c x = some b ∧ ifB b (bnd (f x) fun y => if acc.length < 16777216 then compT c f r (acc ++ [y]) else none) (compT c f r acc) = some out := bndE h
theorem compT_yes {c : α → Option Bool} {f : α → Option β} {x : α} {r : List α} {acc out : List β} (h : (bnd (f x) fun y => if acc.length < 16777216 then compT c f r (acc ++ [y]) else none) = some out) :
    ∃ y, f x = some y ∧ acc.length < 16777216 ∧ compT c f r (acc ++ [y]) = some out := by
  obtain ⟨y, h1, h2⟩ := bndE h
  by_cases c : acc.length < 16777216
  · rw [if_pos c] at h2
    exact ⟨y, h1, c, h2⟩
  · rw [if_neg c] at h2
    cases h2
end
section
variable {α : Type}
def grd (c : Prop) [Decidable c] (a : α) : Option α := if c then some a else none
theorem grdE {c : Prop} [Decidable c] {a r : α} (h : grd c a = some r) : c ∧ a = r := by
  unfold grd at h
  by_cases hc : c
  · rw [if_pos hc] at h
    exact ⟨hc, Option.some.inj h⟩
  · rw [if_neg hc] at h
    cases h
theorem grd_of {c : Prop} [Decidable c] {a : α} (h : c) : grd c a = some a := if_pos h
def appG (xs : List α) (y : α) : Option (List α) := grd (xs.length < 16777216) (xs ++ [y])
def catG (xs ys : List α) : Option (List α) := grd (xs.length + ys.length ≤ 16777216) (xs ++ ys)
def repL (xs : List α) : Nat → List α
  | 0 => []
  | n + 1 => xs ++ repL xs n
def repG (xs : List α) (k : Int) : Option (List α) := grd (-(2 ^ 63) ≤ k ∧ k < 2 ^ 63 ∧ xs.length * k.toNat ≤ 16777216) (List.flatten (List.replicate k.toNat xs))
def setG (xs : List α) (i : Int) (y : α) : Option (List α) := match ixN xs.length i with
  | some j => some (xs.set j y)
  | none => none
def cutL (xs : List α) (lo hi : Option Int) : List α := (xs.drop (HT.sIx xs.length 0 lo)).take (HT.sIx xs.length xs.length hi - HT.sIx xs.length 0 lo)
def rangeI (lo hi : Int) : List Int := (List.range (hi - lo).toNat).map fun (i : Nat) => lo + (i : Int)
def rng1 (hi : Int) : Option (List Int) := grd (-(2 ^ 62) ≤ hi ∧ hi < 2 ^ 62) (rangeI 0 hi)
def rng2 (lo hi : Int) : Option (List Int) := grd (-(2 ^ 62) ≤ lo ∧ lo < 2 ^ 62 ∧ -(2 ^ 62) ≤ hi ∧ hi < 2 ^ 62) (rangeI lo hi)
end
def modG (i j : Int) : Option Int := grd (0 < j) (i % j)
def fdivG (i j : Int) : Option Int := grd (0 < j ∧ j.natAbs.log2 < 9000) (i / j)
def mulG (i j : Int) : Option Int := grd (i.natAbs.log2 + j.natAbs.log2 < 1000000) (i * j)
def shlG (i j : Int) : Option Int := grd (0 ≤ j ∧ (Builtin.Int.intBits i : Int) + j ≤ 2 ^ 27) (i * 2 ^ j.toNat)
def shrG (i j : Int) : Option Int := grd (0 ≤ j) (i / 2 ^ j.toNat)
def powG (i j : Int) : Option Int := grd (0 ≤ j ∧ j ≤ 1000000 ∧ i.natAbs < 2 ^ 64) (i ^ j.toNat)

/-! ### the steps -/
section
variable {K : PySem.W.Frag} {σ : St} {H R : Hp} {L : List Cell} {Q : VK} {i j t : Int} {x y z v : V} {a b p q : Addr} {α : Type} {f : α → V} {xs ys zs : List α} {xs' ys' : List Int}
theorem k_mul (h : mulG i j = some t) (k : Q (.int t) H) : rI CMulW (fun i j => .int (i * j)) (.int i) (.int j) H Q := by
  obtain ⟨c, rfl⟩ := grdE h
  exact ⟨_, _, rfl, rfl, c, k⟩
theorem k_mod (h : modG i j = some t) (k : Q (.int t) H) : rI (fun _ j => 0 < j) (fun i j => .int (i % j)) (.int i) (.int j) H Q := by
  obtain ⟨c, rfl⟩ := grdE h
  exact ⟨_, _, rfl, rfl, c, k⟩
theorem k_fdiv (h : fdivG i j = some t) (k : Q (.int t) H) : rI CDivW (fun i j => .int (i / j)) (.int i) (.int j) H Q := by
  obtain ⟨c, rfl⟩ := grdE h
  exact ⟨_, _, rfl, rfl, c, k⟩
theorem k_shl (h : shlG i j = some t) (k : Q (.int t) H) : rI CShl (fun i j => .int (i * 2 ^ j.toNat)) (.int i) (.int j) H Q := by
  obtain ⟨c, rfl⟩ := grdE h
  exact ⟨_, _, rfl, rfl, c, k⟩
theorem k_shr (h : shrG i j = some t) (k : Q (.int t) H) : rI (fun _ j => 0 ≤ j) (fun i j => .int (i / 2 ^ j.toNat)) (.int i) (.int j) H Q := by
  obtain ⟨c, rfl⟩ := grdE h
  exact ⟨_, _, rfl, rfl, c, k⟩
theorem k_pow (h : powG i j = some t) (k : Q (.int t) H) : rI CPow (fun i j => .int (i ^ j.toNat)) (.int i) (.int j) H Q := by
  obtain ⟨c, rfl⟩ := grdE h
  exact ⟨_, _, rfl, rfl, c, k⟩
theorem dec_int (i j : Int) : decide (V.int i = V.int j) = decide (i = j) := by
  by_cases h : i = j
  · subst h; simp
  · have : ¬ V.int i = V.int j := fun e => h (V.int.inj e)
    simp [h, this]
theorem dec_bl (i j : Bool) : decide (V.bl i = V.bl j) = decide (i = j) := by
  by_cases h : i = j
  · subst h; simp
  · have : ¬ V.bl i = V.bl j := fun e => h (V.bl.inj e)
    simp [h, this]
theorem dec_str (i j : Str) : decide (V.str i = V.str j) = decide (i = j) := by
  by_cases h : i = j
  · subst h; simp
  · have : ¬ V.str i = V.str j := fun e => h (V.str.inj e)
    simp [h, this]
theorem k_eqI (k : Q (.bl (decide (i = j))) H) : rEq (.int i) (.int j) H Q := ⟨rfl, by rw [dec_int]; exact k⟩
theorem k_neI (k : Q (.bl (!decide (i = j))) H) : rNe (.int i) (.int j) H Q := ⟨rfl, by rw [dec_int]; exact k⟩
theorem k_eqB {c d : Bool} (k : Q (.bl (decide (c = d))) H) : rEq (.bl c) (.bl d) H Q := ⟨rfl, by rw [dec_bl]; exact k⟩
theorem k_neB {c d : Bool} (k : Q (.bl (!decide (c = d))) H) : rNe (.bl c) (.bl d) H Q := ⟨rfl, by rw [dec_bl]; exact k⟩
theorem k_eqS {c d : Str} (k : Q (.bl (decide (c = d))) H) : rEq (.str c) (.str d) H Q := ⟨rfl, by rw [dec_str]; exact k⟩
theorem k_neS {c d : Str} (k : Q (.bl (!decide (c = d))) H) : rNe (.str c) (.str d) H Q := ⟨rfl, by rw [dec_str]; exact k⟩
/-! deep == of flat lists -/
theorem dpI : ∀ (ns : List Int), DpAll K H (ns.map V.int) (ns.map PyData.int)
  | [] => .nil
  | n :: r => .cons (.int n) (dpI r)
theorem dpB : ∀ (ns : List Bool), DpAll K H (ns.map V.bl) (ns.map PyData.bool)
  | [] => .nil
  | n :: r => .cons (.bl n) (dpB r)
theorem dpS : ∀ (ns : List Str), DpAll K H (ns.map V.str) (ns.map PyData.str)
  | [] => .nil
  | n :: r => .cons (.str n) (dpS r)

theorem sh_I (ns : List Int) : SeqAt.shaped (.list (ns.map PyData.int)) = true := by
  have h1 : ∀ ns : List Int, PyData.canLayAll0 (ns.map PyData.int) = true := fun ns => by
    induction ns with
    | nil => rfl
    | cons n r ih => simpa [PyData.canLayAll0, PyData.canLay0] using ih
  have h2 : ∀ ns : List Int, PyData.depthAll (ns.map PyData.int) = 0 := fun ns => by
    induction ns with
    | nil => rfl
    | cons n r ih => simpa [PyData.depthAll, PyData.depth] using ih
  simp [SeqAt.shaped, PyData.canLay0, h1, PyData.depth, h2]
theorem sh_B (ns : List Bool) : SeqAt.shaped (.list (ns.map PyData.bool)) = true := by
  have h1 : ∀ ns : List Bool, PyData.canLayAll0 (ns.map PyData.bool) = true := fun ns => by
    induction ns with
    | nil => rfl
    | cons n r ih => simpa [PyData.canLayAll0, PyData.canLay0] using ih
  have h2 : ∀ ns : List Bool, PyData.depthAll (ns.map PyData.bool) = 0 := fun ns => by
    induction ns with
    | nil => rfl
    | cons n r ih => simpa [PyData.depthAll, PyData.depth] using ih
  simp [SeqAt.shaped, PyData.canLay0, h1, PyData.depth, h2]
theorem ev_I : ∀ (ns ms : List Int), PyData.eqv (.list (ns.map PyData.int)) (.list (ms.map PyData.int)) = decide (ns = ms) := by
  have h : ∀ (ns ms : List Int), PyData.eqvAll (ns.map PyData.int) (ms.map PyData.int) = decide (ns = ms) := fun ns => by
    induction ns with
    | nil => intro ms; cases ms <;> simp [PyData.eqvAll]
    | cons n r ih =>
      intro ms
      cases ms with
      | nil => simp [PyData.eqvAll]
      | cons m s =>
        simp only [List.map_cons, PyData.eqvAll, PyData.eqv, ih, List.cons.injEq, Bool.decide_and]
        rw [Bool.beq_eq_decide_eq]
  exact fun ns ms => by simpa only [PyData.eqv] using h ns ms
theorem k_eqLI (ha : SqL K H a (xs'.map V.int)) (hb : SqL K H b (ys'.map V.int)) (k : Q (.bl (decide (xs' = ys'))) H) : rEqD K (.ref a) (.ref b) H Q :=
  ⟨_, _, .lst ha (dpI _), .lst hb (dpI _), sh_I _, sh_I _, by rw [ev_I]; exact k⟩
theorem k_neLI (ha : SqL K H a (xs'.map V.int)) (hb : SqL K H b (ys'.map V.int)) (k : Q (.bl (!decide (xs' = ys'))) H) : rNeD K (.ref a) (.ref b) H Q :=
  ⟨_, _, .lst ha (dpI _), .lst hb (dpI _), sh_I _, sh_I _, by rw [ev_I]; exact k⟩
/-! lists -/
theorem k_len (h : SqL K H a (xs.map f)) (k : Q (.int (xs.length : Int)) H) : ∃ p ys, [V.ref a] = [V.ref p] ∧ (SqL K H p ys ∨ SqT K H p ys) ∧ Q (.int ys.length) H :=
  ⟨a, _, rfl, .inl h, by rw [List.length_map]; exact k⟩
theorem k_list (O : Own R H L) {ys : List V} (h : SqL K H a ys) (k : ∀ p H', Own R H' ((p, .lst ys) :: L) → Q (.ref p) H') : ∃ p ys, [V.ref a] = [V.ref p] ∧ (SqL K H p ys ∨ SqT K H p ys) ∧ ∀ l, H l = none → Q (.ref l) (upd H l (.lst ys)) :=
  ⟨a, _, rfl, .inl h, fun l hl => k l _ (O.new hl)⟩
theorem k_sum (h : SqL K H a (xs'.map V.int)) (k : Q (.int xs'.sum) H) : rSum K [.ref a] H Q := ⟨a, _, rfl, h, k⟩
theorem k_new {zs : List V} (O : Own R H L) (k : ∀ p H', Own R H' ((p, .lst zs) :: L) → Q (.ref p) H') : ∀ p, H p = none → Q (.ref p) (upd H p (.lst zs)) := fun p hp => k p _ (O.new hp)
theorem k_newT {zs : List V} (O : Own R H L) (k : ∀ p H', Own R H' ((p, .tup zs) :: L) → Q (.ref p) H') : ∀ p, H p = none → Q (.ref p) (upd H p (.tup zs)) := fun p hp => k p _ (O.new hp)
theorem at_map {xs : List α} {i : Int} {x : α} (h : atI xs i = some x) (f : α → V) : atI (xs.map f) i = some (f x) := by
  unfold atI at h ⊢
  rw [List.length_map]
  cases e : ixN xs.length i with
  | none => rw [e] at h; cases h
  | some j =>
    rw [e] at h
    show (xs.map f)[j]? = some (f x)
    rw [List.getElem?_map, (show xs[j]? = some x from h)]
    rfl
theorem k_ixL {x : α} (hs : SqL K H a (xs.map f)) (h : atI xs i = some x) (k : Q (f x) H) : rIxL K (.ref a) (.int i) H Q := ⟨a, _, i, _, rfl, rfl, hs, at_map h f, k⟩
theorem map_snoc (xs : List α) (x : α) (f : α → V) : xs.map f ++ [f x] = (xs ++ [x]).map f := by rw [List.map_append]; rfl
theorem k_app {x : α} {g : HO → List Cell} (hl : H a = some (.lst (xs.map f))) (hp : ∀ o', Own R (upd H a o') (g o')) (h : appG xs x = some ys) (k : ∀ H', Own R H' (g (.lst (ys.map f))) → Q .non H') : rAppend (.ref a) [f x] H Q := by
  obtain ⟨c, rfl⟩ := grdE h
  refine ⟨a, _, _, rfl, rfl, hl, by rw [List.length_map]; exact c, ?_⟩
  rw [map_snoc]
  exact k _ (hp _)
theorem map_cut (xs : List α) (lo hi : Option Int) (f : α → V) : cutV (xs.map f) lo hi = (cutL xs lo hi).map f := by
  unfold cutV cutL
  rw [List.length_map, ← List.map_drop, ← List.map_take]
theorem k_cut {lo hi : Option Int} (O : Own R H L) (hs : SqL K H a (xs.map f)) (k : ∀ p H', Own R H' ((p, .lst ((cutL xs lo hi).map f)) :: L) → Q (.ref p) H') : rSlL K (.ref a) lo hi H Q :=
  ⟨a, _, rfl, hs, fun p hp => by rw [map_cut]; exact k p _ (O.new hp)⟩
theorem k_cat {ys zs : List α} (O : Own R H L) (h1 : H a = some (.lst (xs.map f))) (h2 : H b = some (.lst (ys.map f))) (h : catG xs ys = some zs) (k : ∀ p H', Own R H' ((p, .lst (zs.map f)) :: L) → Q (.ref p) H') : rCat (.ref a) (.ref b) H Q := by
  obtain ⟨c, rfl⟩ := grdE h
  exact ⟨a, b, _, _, rfl, rfl, h1, h2, by rw [List.length_map, List.length_map]; exact c, fun p hp => by rw [← List.map_append]; exact k p _ (O.new hp)⟩
theorem k_setL {x : α} {g : HO → List Cell} {QH : Hp → Prop} (hl : H a = some (.lst (xs.map f))) (hp : ∀ o', Own R (upd H a o') (g o')) (h : setG xs i x = some ys) (k : ∀ H', Own R H' (g (.lst (ys.map f))) → QH H') : rSetL (.ref a) (.int i) (f x) H QH := by
  unfold setG at h
  cases e : ixN xs.length i with
  | none => rw [e] at h; cases h
  | some j =>
    rw [e] at h
    cases h
    refine ⟨a, _, i, j, rfl, rfl, hl, by rw [List.length_map]; exact e, ?_⟩
    have e2 : (xs.map f).set j (f x) = (xs.set j x).map f := by rw [List.map_set]
    rw [e2]
    exact k _ (hp _)
/-! tests with two sides: what the one is asked for, the other is not seen -/
theorem x_and {c d e : Bool} {tt uu : TT} {QB : Bool → Hp → Prop} (O : Own R H L) (h1 : ∀ Q1 : Bool → Hp → Prop, (∀ H', Own R H' L → Q1 c H') → tt σ H Q1) (h2 : c = true → e = d ∧ ∀ H', Own R H' L → ∀ Q2 : Bool → Hp → Prop, (∀ H'', Own R H'' L → Q2 e H'') → uu σ H' Q2)
    (h3 : c = false → false = d) (k : ∀ H', Own R H' L → QB d H') : tAnd tt uu σ H QB := by
  refine h1 _ fun H' O' => ?_
  cases c with
  | true =>
    obtain ⟨e1, g2⟩ := h2 rfl
    subst e1
    exact g2 H' O' QB k
  | false =>
    rw [← h3 rfl] at k
    exact k H' O'
theorem x_or {c d e : Bool} {tt uu : TT} {QB : Bool → Hp → Prop} (O : Own R H L) (h1 : ∀ Q1 : Bool → Hp → Prop, (∀ H', Own R H' L → Q1 c H') → tt σ H Q1) (h2 : c = false → e = d ∧ ∀ H', Own R H' L → ∀ Q2 : Bool → Hp → Prop, (∀ H'', Own R H'' L → Q2 e H'') → uu σ H' Q2)
    (h3 : c = true → true = d) (k : ∀ H', Own R H' L → QB d H') : tOr tt uu σ H QB := by
  refine h1 _ fun H' O' => ?_
  cases c with
  | false =>
    obtain ⟨e1, g2⟩ := h2 rfl
    subst e1
    exact g2 H' O' QB k
  | true =>
    rw [← h3 rfl] at k
    exact k H' O'
theorem x_andV {c d e : Bool} {tt uu : TE} (O : Own R H L) (h1 : ∀ Q1 : VK, (∀ H', Own R H' L → Q1 (.bl c) H') → tt σ H Q1) (h2 : c = true → e = d ∧ ∀ H', Own R H' L → ∀ Q2 : VK, (∀ H'', Own R H'' L → Q2 (.bl e) H'') → uu σ H' Q2)
    (h3 : c = false → false = d) (k : ∀ H', Own R H' L → Q (.bl d) H') : tAndV tt uu σ H Q := by
  refine h1 _ fun H' O' => ⟨_, rfl, ?_⟩
  cases c with
  | true =>
    obtain ⟨e1, g2⟩ := h2 rfl
    subst e1
    exact g2 H' O' Q k
  | false =>
    rw [← h3 rfl] at k
    exact k H' O'
theorem x_orV {c d e : Bool} {tt uu : TE} (O : Own R H L) (h1 : ∀ Q1 : VK, (∀ H', Own R H' L → Q1 (.bl c) H') → tt σ H Q1) (h2 : c = false → e = d ∧ ∀ H', Own R H' L → ∀ Q2 : VK, (∀ H'', Own R H'' L → Q2 (.bl e) H'') → uu σ H' Q2)
    (h3 : c = true → true = d) (k : ∀ H', Own R H' L → Q (.bl d) H') : tOrV tt uu σ H Q := by
  refine h1 _ fun H' O' => ⟨_, rfl, ?_⟩
  cases c with
  | false =>
    obtain ⟨e1, g2⟩ := h2 rfl
    subst e1
    exact g2 H' O' Q k
  | true =>
    rw [← h3 rfl] at k
    exact k H' O'
/-- a < b < c -/
theorem x_chain {r r' : R2} {c d e : Bool} {ta tb tc : TE} (O : Own R H L) (h1 : ∀ Q1 : VK, (∀ H', Own R H' L → Q1 x H') → ta σ H Q1) (h2 : ∀ H', Own R H' L → ∀ Q1 : VK, (∀ H', Own R H' L → Q1 y H') → tb σ H' Q1) (h3 : ∀ H' (Q1 : VK), Q1 (.bl c) H' → r x y H' Q1)
    (h4 : c = true → e = d ∧ ∀ H', Own R H' L → ∀ Q1 : VK, (∀ H', Own R H' L → Q1 z H') → tc σ H' Q1) (h5 : ∀ H' (Q1 : VK), Q1 (.bl e) H' → r' y z H' Q1) (h6 : c = false → false = d) (k : ∀ H', Own R H' L → Q (.bl d) H') : tChain r r' ta tb tc σ H Q := by
  refine h1 _ fun H1 O1 => h2 H1 O1 _ fun H2 O2 => h3 H2 _ ⟨c, rfl, ?_⟩
  cases c with
  | true =>
    obtain ⟨e1, g4⟩ := h4 rfl
    subst e1
    exact g4 H2 O2 _ fun H3 O3 => h5 H3 _ (k H3 O3)
  | false =>
    rw [← h6 rfl] at k
    exact k H2 O2
/-- a if c else b, a value -/
theorem x_if {c : Bool} {tt : TT} {ta tb : TE} (O : Own R H L) (h1 : ∀ Q1 : Bool → Hp → Prop, (∀ H', Own R H' L → Q1 c H') → tt σ H Q1) (h2 : c = true → x = v ∧ ∀ H', Own R H' L → ∀ Q2 : VK, (∀ H'', Own R H'' L → Q2 x H'') → ta σ H' Q2)
    (h3 : c = false → y = v ∧ ∀ H', Own R H' L → ∀ Q2 : VK, (∀ H'', Own R H'' L → Q2 y H'') → tb σ H' Q2) (k : ∀ H', Own R H' L → Q v H') : tIf tt ta tb σ H Q := by
  refine h1 _ fun H' O' => ?_
  cases c with
  | true =>
    obtain ⟨e1, g2⟩ := h2 rfl
    subst e1
    exact g2 H' O' Q k
  | false =>
    obtain ⟨e1, g3⟩ := h3 rfl
    subst e1
    exact g3 H' O' Q k
theorem iteS {c : Bool} {A B : Prop} (h1 : c = true → A) (h2 : c = false → B) : if c = true then A else B := by
  cases c with
  | true => rw [if_pos rfl]; exact h1 rfl
  | false => rw [if_neg Bool.false_ne_true]; exact h2 rfl
/-! loops -/
theorem k_forL {g : TG} {tb : TS} {D : Ends} (J : List α → St → Hp → Prop) (h0 : J xs σ H) (hl : ∀ r σ H, J r σ H → SqL K H a (xs.map f))
    (hs : ∀ x r σ H, J (x :: r) σ H → g (f x) σ H fun σ2 H2 => tb { D with nx := J r, ct := J r, bk := D.nx } σ2 H2) (hd : ∀ σ H, J [] σ H → D.nx σ H) :
    ∃ W : Nat → Nat → St → Hp → Prop, (∃ m, W 0 m σ H) ∧ ∀ i m σ H, W i m σ H →
      ((Itl K a).stop i H ∧ D.nx σ H) ∨ ((Itl K a).go i H ∧ ∃ N : St → Hp → Prop, (∀ σ' H', N σ' H' → ∃ m', m' < m ∧ W (i + 1) m' σ' H') ∧ ∀ x H', (Itl K a).yld i H x H' → g x σ H' fun σ2 H2 => tb { D with nx := N, ct := N, bk := D.nx } σ2 H2) := by
  refine for_list (xs := xs.map f) (fun i σ H => J (xs.drop i) σ H) h0 (fun i σ H _ => hl _ σ H) (fun i x σ H hi hJ => ?_) fun σ H hJ => ?_
  · rw [List.getElem?_map] at hi
    cases e : xs[i]? with
    | none => rw [e] at hi; cases hi
    | some y =>
      rw [e] at hi
      cases hi
      have e2 : xs.drop i = y :: xs.drop (i + 1) := by
        obtain ⟨h1, h2⟩ := List.getElem?_eq_some_iff.mp e
        rw [← h2]
        exact List.drop_eq_getElem_cons h1
      rw [e2] at hJ
      exact hs y _ σ H hJ
  · rw [List.length_map, List.drop_length] at hJ
    exact hd σ H hJ
theorem k_forR {lo : Int} {n : Nat} {g : TG} {tb : TS} {D : Ends} (J : List Int → St → Hp → Prop) (h0 : J ((List.range n).map fun (i : Nat) => lo + (i : Int)) σ H)
    (hs : ∀ x r σ H, J (x :: r) σ H → g (.int x) σ H fun σ2 H2 => tb { D with nx := J r, ct := J r, bk := D.nx } σ2 H2) (hd : ∀ σ H, J [] σ H → D.nx σ H) :
    ∃ W : Nat → Nat → St → Hp → Prop, (∃ m, W 0 m σ H) ∧ ∀ i m σ H, W i m σ H →
      ((Itr lo n).stop i H ∧ D.nx σ H) ∨ ((Itr lo n).go i H ∧ ∃ N : St → Hp → Prop, (∀ σ' H', N σ' H' → ∃ m', m' < m ∧ W (i + 1) m' σ' H') ∧ ∀ x H', (Itr lo n).yld i H x H' → g x σ H' fun σ2 H2 => tb { D with nx := N, ct := N, bk := D.nx } σ2 H2) := by
  refine for_range (fun i σ H => J (((List.range n).map fun (i : Nat) => lo + (i : Int)).drop i) σ H) h0 (fun i σ H hi hJ => ?_) fun σ H hJ => ?_
  · have e2 : ((List.range n).map fun (i : Nat) => lo + (i : Int)).drop i = (lo + (i : Int)) :: ((List.range n).map fun (i : Nat) => lo + (i : Int)).drop (i + 1) := by
      have h1 : i < ((List.range n).map fun (i : Nat) => lo + (i : Int)).length := by simpa using hi
      rw [List.drop_eq_getElem_cons h1]
      simp
    rw [e2] at hJ
    exact hs _ _ σ H hJ
  · have e : ((List.range n).map fun (i : Nat) => lo + (i : Int)).drop n = [] := List.drop_eq_nil_of_le (by simp)
    rw [e] at hJ
    exact hd σ H hJ
theorem k_rng1 {RJ : It → Hp → Prop} (h : rng1 j = some xs') (k : xs' = ((List.range j.toNat).map fun (i : Nat) => (0 : Int) + (i : Int)) → RJ (Itr 0 j.toNat) H) : ∃ j' : Int, [V.int j] = [V.int j'] ∧ -(2 ^ 62) ≤ j' ∧ j' < 2 ^ 62 ∧ RJ (Itr 0 j'.toNat) H := by
  obtain ⟨⟨c1, c2⟩, rfl⟩ := grdE h
  exact ⟨j, rfl, c1, c2, k (by unfold rangeI; rw [Int.sub_zero])⟩
theorem k_rng2 {RJ : It → Hp → Prop} (h : rng2 i j = some xs') (k : xs' = ((List.range (j - i).toNat).map fun (n : Nat) => i + (n : Int)) → RJ (Itr i (j - i).toNat) H) :
    ∃ i' j' : Int, [V.int i, V.int j] = [V.int i', V.int j'] ∧ (-(2 ^ 62) ≤ i' ∧ i' < 2 ^ 62 ∧ -(2 ^ 62) ≤ j' ∧ j' < 2 ^ 62) ∧ RJ (Itr i' (j' - i').toNat) H := by
  obtain ⟨c, rfl⟩ := grdE h
  exact ⟨i, j, rfl, c, k rfl⟩
/-- while: J, by the turns that the mirror still has -/
theorem k_while {tc : TT} {tb : TS} {D : Ends} (J : Nat → St → Hp → Prop) (n : Nat) (h0 : J n σ H)
    (hs : ∀ n σ H, J n σ H → tc σ H fun b H1 => if b = true then ∃ N : St → Hp → Prop, (∀ σ' H', N σ' H' → ∃ m', m' < n ∧ J m' σ' H') ∧ tb { D with nx := N, ct := N, bk := D.nx } σ H1 else D.nx σ H1) : tWhile tc tb D σ H :=
  ⟨J, ⟨n, h0⟩, hs⟩
/-! comprehensions -/
theorem k_lcL {g : TG} {te : TE} {vs : List Nat} {D : Addr} {Qd : Hp → Prop} (J : List α → Hp → Prop) (h0 : J xs (upd H D (.lst []))) (hl : ∀ r H, J r H → SqL K H a (xs.map f))
    (hs : ∀ x r H, J (x :: r) H → g (f x) (wipe σ vs) H fun σ2 H2 => wipe σ2 vs = wipe σ vs ∧ te σ2 H2 fun y H4 => ∃ acc, H4 D = some (.lst acc) ∧ acc.length < sizeLine ∧ J r (upd H4 D (.lst (acc ++ [y])))) (hd : ∀ H, J [] H → Qd H) :
    ∃ W : Nat → Nat → Hp → Prop, (∃ m, W 0 m (upd H D (.lst []))) ∧ ∀ i m H, W i m H →
      ((Itl K a).stop i H ∧ Qd H) ∨ ((Itl K a).go i H ∧ ∃ Nx : Hp → Prop, (∀ H', Nx H' → ∃ m', m' < m ∧ W (i + 1) m' H') ∧ ∀ x H', (Itl K a).yld i H x H' → g x (wipe σ vs) H' fun σ2 H2 => wipe σ2 vs = wipe σ vs ∧ tYes σ2 H2 fun b H3 =>
        if b = true then te σ2 H3 fun y H4 => ∃ acc, H4 D = some (.lst acc) ∧ acc.length < sizeLine ∧ Nx (upd H4 D (.lst (acc ++ [y]))) else Nx H3) := by
  refine lc_list (xs := xs.map f) (fun i H => J (xs.drop i) H) h0 (fun i H _ => hl _ H) (fun i x H hi hJ => ?_) fun H hJ => ?_
  · rw [List.getElem?_map] at hi
    cases e : xs[i]? with
    | none => rw [e] at hi; cases hi
    | some y =>
      rw [e] at hi
      cases hi
      have e2 : xs.drop i = y :: xs.drop (i + 1) := by
        obtain ⟨h1, h2⟩ := List.getElem?_eq_some_iff.mp e
        rw [← h2]
        exact List.drop_eq_getElem_cons h1
      rw [e2] at hJ
      exact hs y _ H hJ
  · rw [List.length_map, List.drop_length] at hJ
    exact hd H hJ
theorem k_lcR {lo : Int} {n : Nat} {g : TG} {te : TE} {vs : List Nat} {D : Addr} {Qd : Hp → Prop} (J : List Int → Hp → Prop) (h0 : J ((List.range n).map fun (i : Nat) => lo + (i : Int)) (upd H D (.lst [])))
    (hs : ∀ x r H, J (x :: r) H → g (.int x) (wipe σ vs) H fun σ2 H2 => wipe σ2 vs = wipe σ vs ∧ te σ2 H2 fun y H4 => ∃ acc, H4 D = some (.lst acc) ∧ acc.length < sizeLine ∧ J r (upd H4 D (.lst (acc ++ [y])))) (hd : ∀ H, J [] H → Qd H) :
    ∃ W : Nat → Nat → Hp → Prop, (∃ m, W 0 m (upd H D (.lst []))) ∧ ∀ i m H, W i m H →
      ((Itr lo n).stop i H ∧ Qd H) ∨ ((Itr lo n).go i H ∧ ∃ Nx : Hp → Prop, (∀ H', Nx H' → ∃ m', m' < m ∧ W (i + 1) m' H') ∧ ∀ x H', (Itr lo n).yld i H x H' → g x (wipe σ vs) H' fun σ2 H2 => wipe σ2 vs = wipe σ vs ∧ tYes σ2 H2 fun b H3 =>
        if b = true then te σ2 H3 fun y H4 => ∃ acc, H4 D = some (.lst acc) ∧ acc.length < sizeLine ∧ Nx (upd H4 D (.lst (acc ++ [y]))) else Nx H3) := by
  refine lc_range (fun i H => J (((List.range n).map fun (i : Nat) => lo + (i : Int)).drop i) H) h0 (fun i H hi hJ => ?_) fun H hJ => ?_
  · have e2 : ((List.range n).map fun (i : Nat) => lo + (i : Int)).drop i = (lo + (i : Int)) :: ((List.range n).map fun (i : Nat) => lo + (i : Int)).drop (i + 1) := by
      have h1 : i < ((List.range n).map fun (i : Nat) => lo + (i : Int)).length := by simpa using hi
      rw [List.drop_eq_getElem_cons h1]
      simp
    rw [e2] at hJ
    exact hs _ _ H hJ
  · have e : ((List.range n).map fun (i : Nat) => lo + (i : Int)).drop n = [] := List.drop_eq_nil_of_le (by simp)
    rw [e] at hJ
    exact hd H hJ
end
end Bt

set_option Elab.async false
set_option linter.all false
set_option maxRecDepth 100000
set_option maxHeartbeats 4000000
/-! More steps. -/
namespace Bt
open PySem L2
/-- a name of the module that holds a value -/
def Gv (mg : Str → Option Value) (x : Str) (v : V) : Prop := ∃ u, mg x = some u ∧ RelV v u
theorem pe_gv {X : Cx} {x : Str} {v : V} {pos : Pos} (hg : Gl X x) (h : Gv X.mg x v) (hd : (x == ("__debug__" : Str)) = false := by decide) : PE X (.Name x pos) (tC v) := by
  obtain ⟨u, h1, h2⟩ := h
  exact pe_glob hg h1 h2 hd
section
variable {α S T R' : Type}
theorem finNx {rest : S → Option R'} {s : S} {r : R'} (h : finK rest (.nx s) = some r) : rest s = some r := h
theorem floNx {rest : S → Option (Fl T R')} {s : S} {fl : Fl T R'} (h : floK rest (.nx s) = some fl) : rest s = some fl := h
end
section
variable {K : PySem.W.Frag} {σ : St} {H R : Hp} {L L' : List Cell} {Q : VK} {a b p : Addr} {α : Type} {f : α → V} {xs ys zs : List α}
/-- some of the cells, by their places -/
theorem Own.sel (O : Own R H L) (is : List Nat) (hd : is.Nodup) (e : is.map (fun i => L[i]?) = L'.map some) : Own R H L' := by
  have hm : ∀ c ∈ L', c ∈ L := fun c hc => by
    have h1 : some c ∈ is.map (fun i => L[i]?) := by rw [e]; exact List.mem_map_of_mem hc
    obtain ⟨i, _, h2⟩ := List.mem_map.mp h1
    exact List.mem_of_getElem? h2
  refine ⟨O.ex, fun c h => O.at_ c (hm c h), fun c h => O.fr c (hm c h), ?_⟩
  clear hm
  induction is generalizing L' with
  | nil =>
    cases L' with
    | nil => exact List.Pairwise.nil
    | cons c r => simp at e
  | cons i is ih =>
    cases L' with
    | nil => simp at e
    | cons c r =>
      simp only [List.map_cons, List.cons.injEq] at e
      obtain ⟨e1, e2⟩ := e
      obtain ⟨n1, n2⟩ := List.nodup_cons.mp hd
      refine List.nodup_cons.mpr ⟨fun m => ?_, ih n2 e2⟩
      obtain ⟨d, hdm, ed⟩ := List.mem_map.mp m
      have h1 : some d ∈ is.map (fun i => L[i]?) := by rw [e2]; exact List.mem_map_of_mem hdm
      obtain ⟨j, hj, h2⟩ := List.mem_map.mp h1
      have g1 : (L.map (·.1))[i]? = some c.1 := by rw [List.getElem?_map, e1]; rfl
      have g2 : (L.map (·.1))[j]? = some c.1 := by
        rw [List.getElem?_map, h2]
        exact congrArg some ed
      have : i = j := nd_ix O.nd g1 g2
      subst this
      exact n1 hj
/-- the same, told by what is left -/
def pickL (L : List Cell) (is : List Nat) : List Cell := is.filterMap fun i => L[i]?
theorem pick_some (L : List Cell) : ∀ is : List Nat, (∀ i ∈ is, i < L.length) → is.map (fun i => L[i]?) = (pickL L is).map some
  | [], _ => rfl
  | i :: r, h => by
    have h1 := h i (List.Mem.head _)
    have ih := pick_some L r fun j hj => h j (List.Mem.tail _ hj)
    unfold pickL at ih ⊢
    rw [List.map_cons, List.filterMap_cons, ih, List.getElem?_eq_getElem h1]
    rfl
theorem Own.pk (O : Own R H L) (is : List Nat) (hd : is.Nodup) (e : pickL L is = L') : Own R H L' := by
  subst e
  have hm : pickL L is = pickL L (is.filter fun i => decide (i < L.length)) := by
    unfold pickL
    clear hd
    induction is with
    | nil => rfl
    | cons i r ih =>
      rw [List.filterMap_cons, List.filter_cons, ih]
      by_cases h : i < L.length
      · rw [decide_eq_true h, if_pos rfl, List.filterMap_cons]
      · rw [decide_eq_false h, if_neg (by simp), List.getElem?_eq_none (by omega)]
  rw [hm]
  exact O.sel _ (hd.filter _) (pick_some L _ fun i hi => by
    obtain ⟨_, h⟩ := List.mem_filter.mp hi
    exact of_decide_eq_true h)
theorem a_set {v v' : V} {nx : St → Hp → Prop} {i : Nat} (e : v = v') (k : nx (σ.set i (some v')) H) : nx (σ.set i (some v)) H := by rw [e]; exact k
theorem k_newM {zs : List V} (O : Own R H L) (e : xs.map f = zs) (k : ∀ p H', Own R H' ((p, .lst (xs.map f)) :: L) → Q (.ref p) H') : ∀ p, H p = none → Q (.ref p) (upd H p (.lst zs)) := by
  subst e
  exact fun p hp => k p _ (O.new hp)
theorem k_rep {k : Int} (O : Own R H L) (h1 : H a = some (.lst (xs.map f))) (h : repG xs k = some zs) (q : ∀ p H', Own R H' ((p, .lst (zs.map f)) :: L) → Q (.ref p) H') : rRep (.ref a) (.int k) H Q := by
  obtain ⟨⟨c1, c2, c3⟩, rfl⟩ := grdE h
  refine ⟨a, k, _, rfl, rfl, h1, c1, c2, by rw [List.length_map]; exact c3, fun p hp => ?_⟩
  have e : ∀ n : Nat, (List.replicate n (xs.map f)).flatten = (List.replicate n xs).flatten.map f := fun n => by
    induction n with
    | zero => rfl
    | succ n ih => rw [List.replicate_succ, List.flatten_cons, ih, List.replicate_succ, List.flatten_cons, List.map_append]
  first
    | (rw [e]; exact q p _ (O.new hp))
    | (show Q (.ref p) _; simpa only [e] using q p _ (O.new hp))
end
end Bt
namespace Bt
open PySem L2
/-! readings under a name of their own, so that what follows stands as an argument -/
@[irreducible] def rNewL (xs : List V) (H : Hp) (Q : VK) : Prop := xs.length ≤ sizeLine ∧ ∀ p, H p = none → Q (.ref p) (upd H p (.lst xs))
@[irreducible] def rNewT (xs : List V) (H : Hp) (Q : VK) : Prop := xs.length ≤ sizeLine ∧ ∀ p, H p = none → Q (.ref p) (upd H p (.tup xs))
@[irreducible] def rLenQ (K : PySem.W.Frag) (xs : List V) (H : Hp) (Q : VK) : Prop := ∃ p ys, xs = [V.ref p] ∧ (SqL K H p ys ∨ SqT K H p ys) ∧ Q (.int ys.length) H
@[irreducible] def rListQ (K : PySem.W.Frag) (xs : List V) (H : Hp) (Q : VK) : Prop := ∃ p ys, xs = [V.ref p] ∧ (SqL K H p ys ∨ SqT K H p ys) ∧ ∀ l, H l = none → Q (.ref l) (upd H l (.lst ys))
section
variable {X : Cx}
theorem pe_lstQ {es : List Expr} {t : TA} {pos : Pos} (h : PE X (.List es pos) (tLst t)) : PE X (.List es pos) (fun σ H Q => t σ H fun xs H1 => rNewL xs H1 Q) := by
  unfold rNewL
  exact h
theorem pe_tupQ {es : List Expr} {k : Nat} {t : TA} {pos : Pos} (h : PE X (.Tuple es k pos) (tTup t)) : PE X (.Tuple es k pos) (fun σ H Q => t σ H fun xs H1 => rNewT xs H1 Q) := by
  unfold rNewT
  exact h
theorem call_lenQ : CallR X (.builtin "len") (rLenQ X.K) := by
  have e : rLenQ X.K = fun xs H Q => ∃ p ys, xs = [V.ref p] ∧ (SqL X.K H p ys ∨ SqT X.K H p ys) ∧ Q (.int ys.length) H := by
    funext xs H Q
    unfold rLenQ
    rfl
  rw [e]
  exact call_len_seq
theorem call_listQ : CallR X (.type "list") (rListQ X.K) := by
  have e : rListQ X.K = fun xs H Q => ∃ p ys, xs = [V.ref p] ∧ (SqL X.K H p ys ∨ SqT X.K H p ys) ∧ ∀ l, H l = none → Q (.ref l) (upd H l (.lst ys)) := by
    funext xs H Q
    unfold rListQ
    rfl
  rw [e]
  exact call_list_of
end
section
variable {K : PySem.W.Frag} {σ : St} {H R : Hp} {L L' : List Cell} {Q : VK} {a b p : Addr} {α : Type} {f : α → V} {xs ys zs : List α}
theorem x_nil {QA : List V → Hp → Prop} (h : QA [] H) : tNil σ H QA := h
theorem x_np {QO : Option Int → Hp → Prop} (h : QO none H) : tNoPart σ H QO := h
theorem n_lst {zs : List V} (O : Own R H L) (e : xs.map f = zs) (hz : zs.length ≤ sizeLine) (k : ∀ p H', Own R H' ((p, .lst (xs.map f)) :: L) → Q (.ref p) H') : rNewL zs H Q := by
  subst e
  unfold rNewL
  exact ⟨hz, fun p hp => k p _ (O.new hp)⟩
theorem n_lenT {K : PySem.W.Frag} {H : Hp} {Q : VK} {a : Addr} {ys : List V} {n : Nat} (hs : SqT K H a ys) (hn : ys.length = n) (q : Q (.int (n : Int)) H) : rLenQ K [.ref a] H Q := by
  unfold rLenQ
  exact ⟨a, ys, rfl, .inr hs, by rw [hn]; exact q⟩
theorem n_len (h : SqL K H a (xs.map f)) (k : Q (.int (xs.length : Int)) H) : rLenQ K [.ref a] H Q := by
  unfold rLenQ
  exact ⟨a, _, rfl, .inl h, by rw [List.length_map]; exact k⟩
theorem n_list {ys : List V} (O : Own R H L) (h : SqL K H a ys) (k : ∀ p H', Own R H' ((p, .lst ys) :: L) → Q (.ref p) H') : rListQ K [.ref a] H Q := by
  unfold rListQ
  exact ⟨a, _, rfl, .inl h, fun l hl => k l _ (O.new hl)⟩
theorem rng1E {j : Int} {xs : List Int} (h : rng1 j = some xs) : -(2 ^ 62) ≤ j ∧ j < 2 ^ 62 ∧ ((List.range j.toNat).map fun (i : Nat) => (0 : Int) + (i : Int)) = xs := by
  obtain ⟨⟨c1, c2⟩, rfl⟩ := grdE h
  exact ⟨c1, c2, by unfold rangeI; rw [Int.sub_zero]⟩
theorem rng2E {i j : Int} {xs : List Int} (h : rng2 i j = some xs) : (-(2 ^ 62) ≤ i ∧ i < 2 ^ 62 ∧ -(2 ^ 62) ≤ j ∧ j < 2 ^ 62) ∧ ((List.range (j - i).toNat).map fun (n : Nat) => i + (n : Int)) = xs := by
  obtain ⟨c, rfl⟩ := grdE h
  exact ⟨c, rfl⟩
end
end Bt
namespace Bt
open PySem L2
/-! a reading opened by one step, by its head -/
section
variable {K : PySem.W.Frag} {σ : St} {H : Hp} {Q : VK} {D : Ends} {t u ts : TS} {te ta tb tl : TE} {tr : TA} {c : TT} {v : V} {i : Nat} {r : R2} {QB : Bool → Hp → Prop} {QA : List V → Hp → Prop} {QO : Option Int → Hp → Prop} {R : It → Hp → Prop}
theorem o_seq {n b k : St → Hp → Prop} {w : VK} (h : t (Ends.mk (u (Ends.mk n w b k)) w b k) σ H) : tSeq t u (Ends.mk n w b k) σ H := h
theorem o_asg {n b k : St → Hp → Prop} {w : VK} (h : te σ H fun x H1 => n (σ.set i (some x)) H1) : tAsg te (gName i) (Ends.mk n w b k) σ H := h
theorem o_drop {n b k : St → Hp → Prop} {w : VK} (h : te σ H fun _ H1 => n σ H1) : tDrop te (Ends.mk n w b k) σ H := h
theorem o_ret {n b k : St → Hp → Prop} {w : VK} (h : te σ H w) : tRet te (Ends.mk n w b k) σ H := h
theorem o_ifs {n b k : St → Hp → Prop} {w : VK} (h : c σ H fun z H1 => if z = true then t (Ends.mk n w b k) σ H1 else u (Ends.mk n w b k) σ H1) : tIfS c t u (Ends.mk n w b k) σ H := h
theorem o_next {n b k : St → Hp → Prop} {w : VK} (h : n σ H) : tNext (Ends.mk n w b k) σ H := h
theorem o_brk {n b k : St → Hp → Prop} {w : VK} (h : b σ H) : tBreak (Ends.mk n w b k) σ H := h
theorem o_cont {n b k : St → Hp → Prop} {w : VK} (h : k σ H) : tCont (Ends.mk n w b k) σ H := h
theorem o_retN {n b k : St → Hp → Prop} {w : VK} (h : w .non H) : tRetN (Ends.mk n w b k) σ H := h
theorem o_cut {n b k : St → Hp → Prop} {w : VK} (Mid : St → Hp → Prop) (h1 : t (Ends.mk Mid w b k) σ H) (h2 : ∀ σ' H', Mid σ' H' → u (Ends.mk n w b k) σ' H') : Evl.tCut t u (Ends.mk n w b k) σ H := ⟨Mid, h1, h2⟩
theorem o_op (h : ta σ H fun x H1 => tb σ H1 fun y H2 => r x y H2 Q) : tOp r ta tb σ H Q := h
theorem o_un {r : V → Hp → VK → Prop} (h : ta σ H fun x H1 => r x H1 Q) : tUn r ta σ H Q := h
theorem o_c (h : Q v H) : tC v σ H Q := h
theorem o_test (h : te σ H fun x H' => ∃ k, x = .bl k ∧ QB k H') : tTest te σ H QB := h
theorem o_B (h : te σ H fun x H' => ∃ k, x = .bl k ∧ QB k H') : tB te σ H QB := h
theorem o_not (h : c σ H fun b H1 => QB (!b) H1) : tNot c σ H QB := h
theorem o_notV (h : te σ H fun x H1 => ∃ c, x = .bl c ∧ Q (.bl (!c)) H1) : tNotV te σ H Q := h
theorem o_cons (h : ta σ H fun x H1 => tr σ H1 fun xs H2 => QA (x :: xs) H2) : tCons ta tr σ H QA := h
theorem o_cb {r : List V → Hp → VK → Prop} (h : tr σ H fun vs H1 => r vs H1 Q) : tCB r tr σ H Q := h
theorem o_call {sp : Sp} {dvs : List V} {E : XK} (h : tr σ H fun vs H1 => sp (vs ++ dvs) H1 Q E) : tCall sp dvs E tr σ H Q := h
theorem o_bm {T : String} {r : V → List V → Hp → VK → Prop} (h : te σ H fun x H1 => tyV K T x H1 ∧ tr σ H1 fun xs H2 => r x xs H2 Q) : tBM K T r te tr σ H Q := h
theorem o_bm0 {T : String} {r : V → List V → Hp → VK → Prop} (h : te σ H fun x H1 => tyV K T x H1 ∧ r x [] H1 Q) : tBM0 K T r te σ H Q := h
theorem o_sl {r : V → Option Int → Option Int → Hp → VK → Prop} {t1 t2 : TO} (h : te σ H fun x H1 => t1 σ H1 fun l H2 => t2 σ H2 fun u H3 => r x l u H3 Q) : tSl r te t1 t2 σ H Q := h
theorem o_part (h : te σ H fun x H1 => ∃ i, x = .int i ∧ QO (some i) H1) : tPart te σ H QO := h
theorem o_for {wi : TI} {g : TG} {n b k : St → Hp → Prop} {w : VK} (h : wi σ H fun J H1 => ∃ W : Nat → Nat → St → Hp → Prop, (∃ m, W 0 m σ H1) ∧ ∀ i m σ H, W i m σ H →
    (J.stop i H ∧ n σ H) ∨ (J.go i H ∧ ∃ N : St → Hp → Prop, (∀ σ' H', N σ' H' → ∃ m', m' < m ∧ W (i + 1) m' σ' H') ∧ ∀ x H', J.yld i H x H' → g x σ H' fun σ2 H2 => ts (Ends.mk N w n N) σ2 H2)) : tFor wi g ts (Ends.mk n w b k) σ H := h
theorem o_il (h : tl σ H fun x H1 => ∃ a, x = .ref a ∧ (∃ xs, SqL K H1 a xs) ∧ R (Itl K a) H1) : iList K tl σ H R := h
theorem o_ir1 (h : tr σ H fun vs H1 => ∃ j : Int, vs = [.int j] ∧ -(2 ^ 62) ≤ j ∧ j < 2 ^ 62 ∧ R (Itr 0 j.toNat) H1) : iRng1 tr σ H R := h
theorem o_ir2 (h : tr σ H fun vs H1 => ∃ i j : Int, vs = [.int i, .int j] ∧ (-(2 ^ 62) ≤ i ∧ i < 2 ^ 62 ∧ -(2 ^ 62) ≤ j ∧ j < 2 ^ 62) ∧ R (Itr i (j - i).toNat) H1) : iRng2 tr σ H R := h
theorem o_sub {to ti : TE} {tset : TSet} {n b k : St → Hp → Prop} {w : VK} (h : te σ H fun x H1 => to σ H1 fun o H2 => ti σ H2 fun i H3 => tset o i x H3 fun H4 => n σ H4) : tAsg te (gSub to ti tset) (Ends.mk n w b k) σ H := h
/-! the loops once more, their ends apart -/
variable {α : Type} {f : α → V} {xs : List α} {a : Addr} {g : TG} {n b k : St → Hp → Prop} {w : VK}
theorem q_forL {j : Nat} (J : List α → St → Hp → Prop) (h0 : J xs σ H) (hl : ∀ r σ H, J r σ H → SqL K H a (xs.map f))
    (hs : ∀ x r σ H, J (x :: r) σ H → ts (Ends.mk (J r) w n (J r)) (σ.set j (some (f x))) H) (hd : ∀ σ H, J [] σ H → n σ H) :
    ∃ W : Nat → Nat → St → Hp → Prop, (∃ m, W 0 m σ H) ∧ ∀ i m σ H, W i m σ H →
      ((Itl K a).stop i H ∧ n σ H) ∨ ((Itl K a).go i H ∧ ∃ N : St → Hp → Prop, (∀ σ' H', N σ' H' → ∃ m', m' < m ∧ W (i + 1) m' σ' H') ∧ ∀ x H', (Itl K a).yld i H x H' → gName j x σ H' fun σ2 H2 => ts (Ends.mk N w n N) σ2 H2) :=
  k_forL (D := Ends.mk n w (fun _ _ => False) fun _ _ => False) (g := gName j) (tb := ts) J h0 hl hs hd
theorem q_forR {j : Nat} {lo : Int} {m : Nat} (J : List Int → St → Hp → Prop) (h0 : J ((List.range m).map fun (i : Nat) => lo + (i : Int)) σ H)
    (hs : ∀ x r σ H, J (x :: r) σ H → ts (Ends.mk (J r) w n (J r)) (σ.set j (some (.int x))) H) (hd : ∀ σ H, J [] σ H → n σ H) :
    ∃ W : Nat → Nat → St → Hp → Prop, (∃ m, W 0 m σ H) ∧ ∀ i m' σ H, W i m' σ H →
      ((Itr lo m).stop i H ∧ n σ H) ∨ ((Itr lo m).go i H ∧ ∃ N : St → Hp → Prop, (∀ σ' H', N σ' H' → ∃ m'', m'' < m' ∧ W (i + 1) m'' σ' H') ∧ ∀ x H', (Itr lo m).yld i H x H' → gName j x σ H' fun σ2 H2 => ts (Ends.mk N w n N) σ2 H2) :=
  k_forR (D := Ends.mk n w (fun _ _ => False) fun _ _ => False) (g := gName j) (tb := ts) J h0 hs hd
end
end Bt
namespace Bt
open PySem L2
/-! what the head tells of a def -/
theorem def_mk {K : PySem.W.Frag} {h : Heap} {mg : Str → Option Value} {name qual : Str} {st : Stmt} {f : Addr} {od an : Option Addr} {sl : Array (Option Value)} {oc kV dc pm cd ct : Value} (X : K.In h) (G : h.Ns mainGlobals mg)
    (a : PySem.W.nsIn K mainGlobals name = some (some (.ref f))) (l : K.lookup f = some ⟨oc, od, .func (PySem.W.fnOf name qual (defArgs st) (defBody st) (defScope st) .none kV dc pm an cd ct), sl⟩) (c : PySem.W.codeIn K cd qual = true) (k : PySem.W.keepIn K (.ref f) = true) :
    ∃ f fd, Fun K name qual st f fd ∧ mg name = some (.ref f) := ⟨f, _, fun_mk l c k, PySem.W.mg_of X G a⟩
theorem gv_int {K : PySem.W.Frag} {h : Heap} {mg : Str → Option Value} {x : Str} {i : Int} {t : Tok} (X : K.In h) (G : h.Ns mainGlobals mg) (a : PySem.W.nsIn K mainGlobals x = some (some (.int i t))) : Gv mg x (.int i) := ⟨_, PySem.W.mg_of X G a, _, rfl⟩
end Bt
namespace Bt
open PySem L2
section
variable {K : PySem.W.Frag} {σ : St} {H R : Hp} {L : List Cell} {Q : VK} {a p : Addr} {i : Int} {x v : V} {S R' : Type}
def FUEL : Nat := 100000
theorem whileM_end {c : Bool} {s out : S} {f : Option S} (h : ifB c f (some s) = some out) (hc : c = false) : out = s := (Option.some.inj (ifF h hc)).symm
theorem whileF_end {c : Bool} {s : S} {out : Fl S R'} {f : Option (Fl S R')} (h : ifB c f (some (.nx s)) = some out) (hc : c = false) : Fl.nx s = out := Option.some.inj (ifF h hc)
/-- while: J, by the turns that the mirror still has -/
theorem q_while {tc : TT} {ts : TS} {n b k : St → Hp → Prop} {w : VK} (J : Nat → St → Hp → Prop) (m : Nat) (h0 : J m σ H) (hz : ∀ σ H, J 0 σ H → False)
    (hs : ∀ m σ H, J (m + 1) σ H → tc σ H fun z H1 => if z = true then ts (Ends.mk (J m) w n (J m)) σ H1 else n σ H1) (mono : ∀ σ H (Q Q' : Bool → Hp → Prop), (∀ z H1, Q z H1 → Q' z H1) → tc σ H Q → tc σ H Q') : tWhile tc ts (Ends.mk n w b k) σ H := by
  refine ⟨J, ⟨m, h0⟩, fun m σ H hJ => ?_⟩
  cases m with
  | zero => exact (hz σ H hJ).elim
  | succ m =>
    refine mono σ H _ _ (fun z H1 q => ?_) (hs m σ H hJ)
    cases z with
    | true =>
      rw [if_pos rfl] at q ⊢
      exact ⟨J m, fun σ' H' hJ' => ⟨m, Nat.lt_succ_self m, hJ'⟩, q⟩
    | false =>
      rw [if_neg Bool.false_ne_true] at q ⊢
      exact q
theorem o_while {tc : TT} {ts : TS} {n b k : St → Hp → Prop} {w : VK} (J : Nat → St → Hp → Prop) (m : Nat) (h0 : J m σ H) (hz : ∀ σ H, J 0 σ H → False)
    (hs : ∀ m σ H, J (m + 1) σ H → tc σ H fun z H1 => if z = true then ∃ N : St → Hp → Prop, (∀ σ' H', N σ' H' → ∃ m', m' < m + 1 ∧ J m' σ' H') ∧ ts (Ends.mk N w n N) σ H1 else n σ H1) : tWhile tc ts (Ends.mk n w b k) σ H := by
  refine ⟨J, ⟨m, h0⟩, fun m σ H hJ => ?_⟩
  cases m with
  | zero => exact (hz σ H hJ).elim
  | succ m => exact hs m σ H hJ
theorem o_turn {J : Nat → St → Hp → Prop} {m : Nat} {ts : TS} {n : St → Hp → Prop} {w : VK} (h : ts (Ends.mk (J m) w n (J m)) σ H) :
    ∃ N : St → Hp → Prop, (∀ σ' H', N σ' H' → ∃ m', m' < m + 1 ∧ J m' σ' H') ∧ ts (Ends.mk N w n N) σ H := ⟨J m, fun _ _ hJ => ⟨m, Nat.lt_succ_self m, hJ⟩, h⟩
theorem n_tup {zs : List V} (O : Own R H L) (hz : zs.length ≤ sizeLine) (k : ∀ p H', Own R H' ((p, .tup zs) :: L) → Q (.ref p) H') : rNewT zs H Q := by
  unfold rNewT
  exact ⟨hz, fun p hp => k p _ (O.new hp)⟩
theorem k_ixT {xs : List V} (hs : SqT K H a xs) (h : atI xs i = some v) (k : Q v H) : rIxT K (.ref a) (.int i) H Q := ⟨a, xs, i, v, rfl, rfl, hs, h, k⟩
end
end Bt
namespace Bt
open PySem L2
section
variable {K : PySem.W.Frag} {σ : St} {H R : Hp} {L : List Cell} {Q : VK} {a p : Addr} {i : Int} {x v : V} {α : Type} {f : α → V} {xs : List α}
theorem inV_int (i : Int) : ∀ xs : List Int, inV (.int i) (xs.map V.int) = decide (i ∈ xs)
  | [] => rfl
  | y :: r => by
    have ih := inV_int i r
    have e : inV (.int i) ((y :: r).map V.int) = (eqV (.int y) (.int i) || inV (.int i) (r.map V.int)) := rfl
    rw [e, ih]
    have e2 : eqV (.int y) (.int i) = decide (i = y) := by
      by_cases h : i = y
      · subst h; simp [eqV]
      · have : ¬ y = i := fun q => h q.symm
        simp [eqV, h, this]
    rw [e2]
    simp
theorem flat_int : ∀ xs : List Int, (xs.map V.int).all flatV = true
  | [] => rfl
  | y :: r => by
    have ih := flat_int r
    show (flatV (.int y) && (r.map V.int).all flatV) = true
    rw [ih]
    rfl
theorem k_inL {ns : List Int} (hs : SqL K H a (ns.map V.int)) (k : Q (.bl (decide (i ∈ ns))) H) : rIn K false (.int i) (.ref a) H Q :=
  ⟨a, _, rfl, .inl hs, rfl, flat_int _, by rw [inV_int]; exact k⟩
theorem k_niL {ns : List Int} (hs : SqL K H a (ns.map V.int)) (k : Q (.bl (!decide (i ∈ ns))) H) : rIn K true (.int i) (.ref a) H Q :=
  ⟨a, _, rfl, .inl hs, rfl, flat_int _, by rw [inV_int]; exact k⟩
theorem k_inT {ns : List Int} (hs : SqT K H a (ns.map V.int)) (k : Q (.bl (decide (i ∈ ns))) H) : rIn K false (.int i) (.ref a) H Q :=
  ⟨a, _, rfl, .inr hs, rfl, flat_int _, by rw [inV_int]; exact k⟩
theorem k_niT {ns : List Int} (hs : SqT K H a (ns.map V.int)) (k : Q (.bl (!decide (i ∈ ns))) H) : rIn K true (.int i) (.ref a) H Q :=
  ⟨a, _, rfl, .inr hs, rfl, flat_int _, by rw [inV_int]; exact k⟩
/-! comprehensions with a test -/
theorem k_lcLt {g : TG} {tt : TT} {te : TE} {vs : List Nat} {D : Addr} {Qd : Hp → Prop} (J : List α → Hp → Prop) (h0 : J xs (upd H D (.lst []))) (hl : ∀ r H, J r H → SqL K H a (xs.map f))
    (hs : ∀ x r H, J (x :: r) H → g (f x) (wipe σ vs) H fun σ2 H2 => wipe σ2 vs = wipe σ vs ∧ tt σ2 H2 fun b H3 => if b = true then te σ2 H3 fun y H4 => ∃ acc, H4 D = some (.lst acc) ∧ acc.length < sizeLine ∧ J r (upd H4 D (.lst (acc ++ [y]))) else J r H3) (hd : ∀ H, J [] H → Qd H) :
    ∃ W : Nat → Nat → Hp → Prop, (∃ m, W 0 m (upd H D (.lst []))) ∧ ∀ i m H, W i m H →
      ((Itl K a).stop i H ∧ Qd H) ∨ ((Itl K a).go i H ∧ ∃ Nx : Hp → Prop, (∀ H', Nx H' → ∃ m', m' < m ∧ W (i + 1) m' H') ∧ ∀ x H', (Itl K a).yld i H x H' → g x (wipe σ vs) H' fun σ2 H2 => wipe σ2 vs = wipe σ vs ∧ tt σ2 H2 fun b H3 =>
        if b = true then te σ2 H3 fun y H4 => ∃ acc, H4 D = some (.lst acc) ∧ acc.length < sizeLine ∧ Nx (upd H4 D (.lst (acc ++ [y]))) else Nx H3) := by
  refine lc_list (xs := xs.map f) (fun i H => J (xs.drop i) H) h0 (fun i H _ => hl _ H) (fun i x H hi hJ => ?_) fun H hJ => ?_
  · rw [List.getElem?_map] at hi
    cases e : xs[i]? with
    | none => rw [e] at hi; cases hi
    | some y =>
      rw [e] at hi
      cases hi
      have e2 : xs.drop i = y :: xs.drop (i + 1) := by
        obtain ⟨h1, h2⟩ := List.getElem?_eq_some_iff.mp e
        rw [← h2]
        exact List.drop_eq_getElem_cons h1
      rw [e2] at hJ
      exact hs y _ H hJ
  · rw [List.length_map, List.drop_length] at hJ
    exact hd H hJ
theorem k_lcRt {lo : Int} {n : Nat} {g : TG} {tt : TT} {te : TE} {vs : List Nat} {D : Addr} {Qd : Hp → Prop} (J : List Int → Hp → Prop) (h0 : J ((List.range n).map fun (i : Nat) => lo + (i : Int)) (upd H D (.lst [])))
    (hs : ∀ x r H, J (x :: r) H → g (.int x) (wipe σ vs) H fun σ2 H2 => wipe σ2 vs = wipe σ vs ∧ tt σ2 H2 fun b H3 => if b = true then te σ2 H3 fun y H4 => ∃ acc, H4 D = some (.lst acc) ∧ acc.length < sizeLine ∧ J r (upd H4 D (.lst (acc ++ [y]))) else J r H3) (hd : ∀ H, J [] H → Qd H) :
    ∃ W : Nat → Nat → Hp → Prop, (∃ m, W 0 m (upd H D (.lst []))) ∧ ∀ i m H, W i m H →
      ((Itr lo n).stop i H ∧ Qd H) ∨ ((Itr lo n).go i H ∧ ∃ Nx : Hp → Prop, (∀ H', Nx H' → ∃ m', m' < m ∧ W (i + 1) m' H') ∧ ∀ x H', (Itr lo n).yld i H x H' → g x (wipe σ vs) H' fun σ2 H2 => wipe σ2 vs = wipe σ vs ∧ tt σ2 H2 fun b H3 =>
        if b = true then te σ2 H3 fun y H4 => ∃ acc, H4 D = some (.lst acc) ∧ acc.length < sizeLine ∧ Nx (upd H4 D (.lst (acc ++ [y]))) else Nx H3) := by
  refine lc_range (fun i H => J (((List.range n).map fun (i : Nat) => lo + (i : Int)).drop i) H) h0 (fun i H hi hJ => ?_) fun H hJ => ?_
  · have e2 : ((List.range n).map fun (i : Nat) => lo + (i : Int)).drop i = (lo + (i : Int)) :: ((List.range n).map fun (i : Nat) => lo + (i : Int)).drop (i + 1) := by
      have h1 : i < ((List.range n).map fun (i : Nat) => lo + (i : Int)).length := by simpa using hi
      rw [List.drop_eq_getElem_cons h1]
      simp
    rw [e2] at hJ
    exact hs _ _ H hJ
  · have e : ((List.range n).map fun (i : Nat) => lo + (i : Int)).drop n = [] := List.drop_eq_nil_of_le (by simp)
    rw [e] at hJ
    exact hd H hJ
/-! for i, x in enumerate(xs) -/
def enumI {α : Type} : Nat → List α → List (Int × α)
  | _, [] => []
  | n, x :: r => ((n : Int), x) :: enumI (n + 1) r
theorem enumI_drop {α : Type} : ∀ (xs : List α) (n i : Nat) (x : α), xs[i]? = some x → (enumI n xs).drop i = (((n + i : Nat) : Int), x) :: (enumI n xs).drop (i + 1)
  | [], _, _, _, h => by simp at h
  | y :: r, n, 0, x, h => by
    cases (Option.some.inj h)
    rfl
  | y :: r, n, i + 1, x, h => by
    have ih := enumI_drop r (n + 1) i x (by simpa using h)
    show (enumI (n + 1) r).drop i = _ :: (enumI (n + 1) r).drop (i + 1)
    rw [ih]
    have : n + 1 + i = n + (i + 1) := by omega
    rw [this]
theorem enumI_len {α : Type} : ∀ (xs : List α) (n : Nat), (enumI n xs).length = xs.length
  | [], _ => rfl
  | x :: r, n => by show (enumI (n + 1) r).length + 1 = r.length + 1; rw [enumI_len r]
theorem q_forE {i1 i2 : Nat} {ts : TS} {n b k : St → Hp → Prop} {w : VK} {KK : PySem.W.Frag} (J : List (Int × α) → St → Hp → Prop) (h0 : J (enumI 0 xs) σ H) (hl : ∀ r σ H, J r σ H → SqL K H a (xs.map f)) (hx : ∀ r σ H H', J r σ H → Ex H H' → J r σ H')
    (hs : ∀ j x r σ H, J ((j, x) :: r) σ H → ts (Ends.mk (J r) w n (J r)) ((σ.set i1 (some (.int j))).set i2 (some (f x))) H) (hd : ∀ σ H, J [] σ H → n σ H) :
    ∃ W : Nat → Nat → St → Hp → Prop, (∃ m, W 0 m σ H) ∧ ∀ i m σ H, W i m σ H →
      ((Ite K a).stop i H ∧ n σ H) ∨ ((Ite K a).go i H ∧ ∃ N : St → Hp → Prop, (∀ σ' H', N σ' H' → ∃ m', m' < m ∧ W (i + 1) m' σ' H') ∧ ∀ x H', (Ite K a).yld i H x H' → gTup KK 2 (gCons (gName i1) (gCons (gName i2) gNil)) x σ H' fun σ2 H2 => ts (Ends.mk N w n N) σ2 H2) := by
  refine ⟨fun i m σ H => m = xs.length - i ∧ i ≤ xs.length ∧ J ((enumI 0 xs).drop i) σ H, ⟨xs.length, by simp, Nat.zero_le _, h0⟩, ?_⟩
  rintro i m σ H ⟨rfl, hi, hJ⟩
  have hS := hl _ σ H hJ
  by_cases hlt : i < xs.length
  · have e : xs[i]? = some xs[i] := List.getElem?_eq_getElem hlt
    have e1 : (xs.map f)[i]? = some (f xs[i]) := by rw [List.getElem?_map, e]; rfl
    have e2 := enumI_drop xs 0 i xs[i] e
    rw [e2] at hJ
    refine .inr ⟨⟨_, _, hS, e1⟩, J ((enumI 0 xs).drop (i + 1)), fun σ' H' hJ' => ⟨_, by omega, rfl, hlt, hJ'⟩, fun y H' hy => ?_⟩
    obtain ⟨T, x, rfl, hT, rfl, hq⟩ := hy
    have hxx := hq _ hS
    rw [e1] at hxx
    cases hxx
    refine ⟨T, _, rfl, SqT.of upd_same, rfl, _, _, rfl, _, _, rfl, rfl, ?_⟩
    have hJ2 := hx _ _ _ (upd H T (.tup [.int ((i : Nat) : Int), f xs[i]])) hJ (Ex.new hT)
    have e3 : ((0 + i : Nat) : Int) = (i : Int) := by omega
    rw [e3] at hJ2
    exact hs _ _ _ _ _ hJ2
  · have e : (enumI 0 xs).drop i = [] := List.drop_eq_nil_of_le (by rw [enumI_len]; omega)
    rw [e] at hJ
    exact .inl ⟨⟨_, hS, by rw [List.length_map]; omega⟩, hd σ H hJ⟩
end
end Bt
namespace Bt
open PySem L2
/-! what is refused -/
inductive Er where
  | NoBits | NoName | NoKey | NoFrame | NoPost | NoThing | NoStrip | NoRail
  | NoWire (i : Int) | NoRow (i : Int)
  deriving DecidableEq
structure Eds where
  NoBits : Addr
  NoName : Addr
  NoKey : Addr
  NoFrame : Addr
  NoPost : Addr
  NoThing : Addr
  NoStrip : Addr
  NoRail : Addr
  NoWire : Addr
  NoRow : Addr
  RailError : Addr
def Eds.of (d : Eds) : Er → Addr
  | .NoBits => d.NoBits
  | .NoName => d.NoName
  | .NoKey => d.NoKey
  | .NoFrame => d.NoFrame
  | .NoPost => d.NoPost
  | .NoThing => d.NoThing
  | .NoStrip => d.NoStrip
  | .NoRail => d.NoRail
  | .NoWire _ => d.NoWire
  | .NoRow _ => d.NoRow
inductive Rs (R : Type) where
  | ok (r : R)
  | er (e : Er)
def RetE (d : Eds) (e : Er) (H : Hp) (E : XK) : Prop := match e with
  | .NoWire i => ∀ H' a, H a = none → Ex H H' → H' a = some (.xd [(("at" : Str), .int i)]) → E (.ref d.NoWire) (some a) H'
  | .NoRow i => ∀ H' a, H a = none → Ex H H' → H' a = some (.xd [(("word" : Str), .int i)]) → E (.ref d.NoRow) (some a) H'
  | e => ∀ H', Ex H H' → E (.ref (d.of e)) none H'
def RetR {R : Type} (P : R → Prop) (d : Eds) (r : Rs R) (H : Hp) (E : XK) : Prop := match r with
  | .ok r => P r
  | .er e => RetE d e H E
section
variable {α β S R' : Type} {d : Eds} {H H0 : Hp} {E : XK} {L : List Cell}
theorem RetE.go {e : Er} (k : RetE d e H0 E) (O : Own H0 H L) : RetE d e H E := by
  cases e <;> first
    | exact fun H' h => k H' (O.ex.trans h)
    | exact fun H' a ha h => k H' a (O.ex.back ha) (O.ex.trans h)
theorem RetR.ok {P : α → Prop} {y : α} (h : P y) : RetR P d (.ok y) H E := h
theorem RetR.split {P : α → Prop} {x : Rs α} (h2 : ∀ e, x = .er e → RetE d e H E) (h1 : ∀ y, x = .ok y → P y) : RetR P d x H E := by
  cases x with
  | ok y => exact h1 y rfl
  | er e => exact h2 e rfl
def contR (f : α → Option (Rs β)) : Rs α → Option (Rs β)
  | .ok x => f x
  | .er e => some (.er e)
def bndR (a : Option (Rs α)) (f : α → Option (Rs β)) : Option (Rs β) := bnd a (contR f)
def contRF (f : α → Option (Fl S (Rs β))) : Rs α → Option (Fl S (Rs β))
  | .ok x => f x
  | .er e => some (.rt (.er e))
def bndRF (a : Option (Rs α)) (f : α → Option (Fl S (Rs β))) : Option (Fl S (Rs β)) := bnd a (contRF f)
def contO (f : α → Option β) : Rs α → Option β
  | .ok x => f x
  | .er _ => none
def bndO (a : Option (Rs α)) (f : α → Option β) : Option β := bnd a (contO f)
theorem bndRE {a : Option (Rs α)} {f : α → Option (Rs β)} {r : Rs β} (h : bndR a f = some r) : ∃ x, a = some x ∧ contR f x = some r := bndE h
theorem bndRFE {a : Option (Rs α)} {f : α → Option (Fl S (Rs β))} {r : Fl S (Rs β)} (h : bndRF a f = some r) : ∃ x, a = some x ∧ contRF f x = some r := bndE h
theorem okR {f : α → Option (Rs β)} {y : α} {r : Rs β} (h : contR f (.ok y) = some r) : f y = some r := h
theorem okRF {f : α → Option (Fl S (Rs β))} {y : α} {r : Fl S (Rs β)} (h : contRF f (.ok y) = some r) : f y = some r := h
theorem erR {f : α → Option (Rs β)} {e : Er} {r : Rs β} (h : contR f (.er e) = some r) : Rs.er e = r := Option.some.inj h
theorem erRF {f : α → Option (Fl S (Rs β))} {e : Er} {r : Fl S (Rs β)} (h : contRF f (.er e) = some r) : Fl.rt (Rs.er e) = r := Option.some.inj h
theorem bndOE {a : Option (Rs α)} {f : α → Option β} {r : β} (h : bndO a f = some r) : ∃ y, a = some (.ok y) ∧ f y = some r := by
  obtain ⟨x, h1, h2⟩ := bndE h
  cases x with
  | ok y => exact ⟨y, h1, h2⟩
  | er e => cases h2
end
/-- a class of refusals, as the top has made it -/
structure ErrC (K : PySem.W.Frag) (mg : Str → Option Value) (x : Str) (C : Addr) : Prop where
  g : mg x = some (.ref C)
  ex : PySem.W.excIn K C [.type "ValueError", .type "Exception", .type "BaseException", .type "object"] "ValueError.__new__" = true
  kp : PySem.W.keepIn K (.ref C) = true
  b : PySem.W.subIn K (.ref C) (.type "BaseException") = some true
  t : PySem.W.typeIn K (.ref C) = some (.type "type")
theorem ps_err {X : Cx} {W : WX} {x m : Str} {j : Nat} {p p2 pos pos' : Pos} {C : Addr} (e : ErrC X.K X.mg x C) (tk : Takes X W) (hc : X.calm = true) (hg : Gl X x) (hdb : (x == ("__debug__" : Str)) = false := by decide) :
    PS X (.Raise (some (.Call (.Name x p) [.Constant (.str m) j p2] [] pos)) none pos') (fun _ σ H => W (.ref C) none σ H) :=
  ps_raise hc tk (pmk_own PySem.F.excBase_ValueError e.ex e.g e.kp (raises_own e.b e.t) hg hdb)
end Bt
namespace Bt
open PySem L2
theorem err_mk {K : PySem.W.Frag} {h : Heap} {mg : Str → Option Value} {x : Str} {C : Addr} (X : K.In h) (G : h.Ns mainGlobals mg) (a : PySem.W.nsIn K mainGlobals x = some (some (.ref C)))
    (e : PySem.W.excIn K C [.type "ValueError", .type "Exception", .type "BaseException", .type "object"] "ValueError.__new__" = true) (k : PySem.W.keepIn K (.ref C) = true) (b : PySem.W.subIn K (.ref C) (.type "BaseException") = some true) (t : PySem.W.typeIn K (.ref C) = some (.type "type")) :
    ∃ C, ErrC K mg x C := ⟨C, PySem.W.mg_of X G a, e, k, b, t⟩
end Bt
namespace Bt
open PySem L2
inductive Ek where
  | NoBits | NoName | NoKey | NoFrame | NoPost | NoThing | NoStrip | NoRail | NoWire | NoRow
  deriving DecidableEq
def Er.k : Er → Ek
  | .NoBits => .NoBits
  | .NoName => .NoName
  | .NoKey => .NoKey
  | .NoFrame => .NoFrame
  | .NoPost => .NoPost
  | .NoThing => .NoThing
  | .NoStrip => .NoStrip
  | .NoRail => .NoRail
  | .NoWire _ => .NoWire
  | .NoRow _ => .NoRow
def tryR {α β : Type} (x : Rs α) (f : α → β) (g : Er → β) : β := match x with
  | .ok y => f y
  | .er e => g e
theorem tryOk {α β : Type} {y : α} {f : α → β} {g : Er → β} {r : β} (h : tryR (.ok y) f g = r) : f y = r := h
theorem tryEr {α β : Type} {e : Er} {f : α → β} {g : Er → β} {r : β} (h : tryR (.er e) f g = r) : g e = r := h
theorem exm_mk {K : PySem.W.Frag} {C S : Addr} {r : Bool} (h1 : PySem.W.subIn K (.ref S) (.type "BaseException") = some true) (h2 : (PySem.W.clsIn K S).isSome = true) (h3 : PySem.W.typeIn K (.ref S) = some (.type "type")) (h4 : PySem.W.subIn K (.ref C) (.ref S) = some r) :
    PySem.W.exmOne K (.ref C) (.ref S) = some r := by
  have e1 : (PySem.W.subIn K (.ref S) (.type "BaseException") == some true) = true := by rw [h1] <;> rfl
  have e2 : ((PySem.W.clsIn K S).isSome && PySem.W.typeIn K (.ref S) == some (.type "type")) = true := by
    rw [h2, h3] <;> rfl
  unfold PySem.W.exmOne
  rw [if_pos e1]
  unfold PySem.W.kitCls
  dsimp only
  rw [if_pos e2]
  exact h4
end Bt
namespace Bt
open PySem L2
theorem o_callS {sp : Sp} {E : L2.St → XK} {tr : TA} {σ : L2.St} {H : Hp} {Q : VK} (h : tr σ H fun vs H1 => sp vs H1 Q (E σ)) : tCallS sp E tr σ H Q := h
end Bt
namespace Bt
open PySem L2
section
variable {α : Type} {R H : Hp} {Q : VK} {a : Addr} {xs ys : List α} {y : α} {f : α → V}
def popL (xs : List α) : Option (α × List α) := match xs[xs.length - 1]? with
  | some y => some (y, xs.dropLast)
  | none => none
theorem popE (h : popL xs = some (y, ys)) : xs[xs.length - 1]? = some y ∧ xs.dropLast = ys := by
  unfold popL at h
  split at h
  · rename_i e
    cases h
    exact ⟨e, rfl⟩
  · cases h
theorem popL_ok {xs : List α} {y : α} : popL (xs ++ [y]) = some (y, xs) := by
  unfold popL
  rw [List.length_append, List.length_singleton, Nat.add_sub_cancel, List.getElem?_append_right (Nat.le_refl _), Nat.sub_self]
  simp
theorem k_clr {g : HO → List Cell} (hl : H a = some (.lst (xs.map f))) (hp : ∀ o', Own R (upd H a o') (g o')) (k : ∀ H', Own R H' (g (.lst (([] : List α).map f))) → Q .non H') : rClear (.ref a) [] H Q :=
  ⟨a, _, rfl, rfl, hl, k _ (hp _)⟩
theorem k_pop {g : HO → List Cell} (hl : H a = some (.lst (xs.map f))) (hp : ∀ o', Own R (upd H a o') (g o')) (h : popL xs = some (y, ys)) (k : ∀ H', Own R H' (g (.lst (ys.map f))) → Q (f y) H') : rPop (.ref a) [] H Q := by
  obtain ⟨e, rfl⟩ := popE h
  refine ⟨a, _, f y, rfl, rfl, hl, ?_, ?_⟩
  · rw [List.length_map, List.getElem?_map, e]; rfl
  · rw [← List.map_dropLast]
    exact k _ (hp _)
theorem k_ext {b : Addr} {zs : List α} {g : HO → List Cell} (hl : H a = some (.lst (xs.map f))) (hb : H b = some (.lst (zs.map f))) (hp : ∀ o', Own R (upd H a o') (g o')) (h : catG xs zs = some ys) (k : ∀ H', Own R H' (g (.lst (ys.map f))) → Q .non H') : rExtend (.ref a) [.ref b] H Q := by
  obtain ⟨c, rfl⟩ := grdE h
  refine ⟨a, b, _, _, rfl, rfl, hl, hb, ?_, ?_⟩
  · rw [List.length_map, List.length_map]; exact c
  · rw [← List.map_append]
    exact k _ (hp _)
end
end Bt

set_option Elab.async false
set_option linter.all false
set_option maxRecDepth 100000
set_option maxHeartbeats 4000000
/-! Built-ins that the kit's rules do not name. -/
namespace Bt
open PySem L2 PyProof.Rows
section
variable {X : Cx}
def maxL (d : Int) : List Int → Int
  | [] => d
  | n :: ns => ns.foldl (fun a y => if a < y then y else a) n
def rMaxD (K : PySem.W.Frag) : List V → List V → Hp → VK → Prop := fun xs zs H Q => ∃ a ns d, xs = [.ref a] ∧ zs = [.int d] ∧ SqL K H a (ns.map V.int) ∧ Q (.int (maxL d ns)) H
theorem maxOf_int (x : Int) (xs : List Int) : PySem.W.maxOf x xs = xs.foldl (fun a y => if a < y then y else a) x := by
  unfold PySem.W.maxOf
  congr 1
  funext a y
  show (if decide (a < y) = true then y else a) = _
  by_cases h : a < y
  · rw [if_pos (decide_eq_true h), if_pos h]
  · rw [if_neg (by simpa using h), if_neg h]
theorem cr_maxD (hc : X.calm = true) (hu : X.A.units + 64 < cLine) : CallRK X (.builtin "max") [Str.ofString "default"] (rMaxD X.K) := by
  intro pins s σ H xs zs us ws Q I r1 r2 h
  obtain ⟨a, ns, d, rfl, rfl, hs, q⟩ := h
  obtain ⟨its, rv, hl, _⟩ := I.list hs
  rw [Vals.ref1 r1]
  obtain ⟨w, rfl, t, rfl⟩ := r2.one
  refine PySem.W.max_list_datum_default (α := Int) (I.ok.hd hc) hl.isList (PySem.W.HoldAll.of_ints rv.ints) (by show X.A.units + 1 + 0 < cLine; omega) (fun e h' tk k => ?_) fun y ys i v h' tk e _ hv k => ?_
  · subst e
    exact ⟨.int d, H, I.kept k, ⟨_, rfl⟩, q⟩
  · subst e
    obtain ⟨bs, hv⟩ := hv
    rw [maxOf_int] at hv
    cases hv
    exact ⟨.int _, H, I.kept k, ⟨_, rfl⟩, q⟩
variable {K : PySem.W.Frag} {H : Hp} {Q : VK} {a : Addr} {ns : List Int} {d : Int} {t tk : TA} {r : List V → List V → Hp → VK → Prop} {σ : L2.St}
theorem o_kw (h : t σ H fun vs H1 => tk σ H1 fun zs H2 => r vs zs H2 Q) : tCKw r t tk σ H Q := h
theorem k_maxD (hs : SqL K H a (ns.map V.int)) (q : Q (.int (maxL d ns)) H) : rMaxD K [.ref a] [.int d] H Q := ⟨a, ns, d, rfl, rfl, hs, q⟩
theorem o_en {ta : TA} {R : It → Hp → Prop} (h : ta σ H fun vs H1 => ∃ a xs, vs = [.ref a] ∧ SqL K H1 a xs ∧ R (Ite K a) H1) : iEnum K ta σ H R := h
end
end Bt

set_option Elab.async false
set_option linter.all false
set_option maxRecDepth 100000
set_option maxHeartbeats 4000000
/-! Data in data: what stands in a heap that only grows. -/
namespace Bt
open PySem L2
inductive All2 {α β : Type} (P : α → β → Prop) : List α → List β → Prop
  | nil : All2 P [] []
  | cons {a : α} {b : β} {as : List α} {bs : List β} : P a b → All2 P as bs → All2 P (a :: as) (b :: bs)
section
variable {α β : Type} {P Q : α → β → Prop} {as cs : List α} {bs ds : List β} {a : α} {b : β}
theorem All2.mp (f : ∀ a b, P a b → Q a b) (h : All2 P as bs) : All2 Q as bs := by
  induction h with
  | nil => exact .nil
  | cons h _ ih => exact .cons (f _ _ h) ih
theorem All2.app (h : All2 P as bs) (k : All2 P cs ds) : All2 P (as ++ cs) (bs ++ ds) := by
  induction h with
  | nil => exact k
  | cons h _ ih => exact .cons h ih
theorem All2.snoc (h : All2 P as bs) (k : P a b) : All2 P (as ++ [a]) (bs ++ [b]) := h.app (.cons k .nil)
theorem All2.len (h : All2 P as bs) : as.length = bs.length := by
  induction h with
  | nil => rfl
  | cons _ _ ih => simp [ih]
theorem All2.get (h : All2 P as bs) : ∀ {i : Nat} {b : β}, bs[i]? = some b → ∃ a, as[i]? = some a ∧ P a b := by
  induction h with
  | nil => intro i b e; simp at e
  | cons h _ ih =>
    intro i b e
    cases i with
    | zero => cases Option.some.inj e; exact ⟨_, rfl, h⟩
    | succ i => exact ih (by simpa using e)
theorem All2.drop (h : All2 P as bs) : ∀ n, All2 P (as.drop n) (bs.drop n) := by
  induction h with
  | nil => intro n; simp; exact .nil
  | cons h t ih =>
    intro n
    cases n with
    | zero => exact .cons h t
    | succ n => exact ih n
theorem All2.take (h : All2 P as bs) : ∀ n, All2 P (as.take n) (bs.take n) := by
  induction h with
  | nil => intro n; simp; exact .nil
  | cons h t ih =>
    intro n
    cases n with
    | zero => exact .nil
    | succ n => exact .cons h (ih n)
theorem All2.set (h : All2 P as bs) (k : P a b) : ∀ n, All2 P (as.set n a) (bs.set n b) := by
  induction h with
  | nil => intro n; exact .nil
  | cons h t ih =>
    intro n
    cases n with
    | zero => exact .cons k t
    | succ n => exact .cons h (ih n)
end
/-- what a value stands for, in a heap -/
abbrev Rp (α : Type) := Hp → V → α → Prop
def Mono {α : Type} (P : Rp α) : Prop := ∀ F F' v x, Ex F F' → P F v x → P F' v x
def rI : Rp Int := fun _ v a => v = .int a
def rB : Rp Bool := fun _ v a => v = .bl a
def rS : Rp Str := fun _ v a => v = .str a
def rL {α : Type} (P : Rp α) : Rp (List α) := fun F v xs => ∃ p vs, v = .ref p ∧ F p = some (.lst vs) ∧ All2 (P F) vs xs
def rT2 {α β : Type} (P : Rp α) (Q : Rp β) : Rp (α × β) := fun F v x => ∃ p a b, v = .ref p ∧ F p = some (.tup [a, b]) ∧ P F a x.1 ∧ Q F b x.2
def rT3 {α β γ : Type} (P : Rp α) (Q : Rp β) (R : Rp γ) : Rp (α × β × γ) := fun F v x => ∃ p a b c, v = .ref p ∧ F p = some (.tup [a, b, c]) ∧ P F a x.1 ∧ Q F b x.2.1 ∧ R F c x.2.2
def rT4 {α β γ δ : Type} (P : Rp α) (Q : Rp β) (R : Rp γ) (S : Rp δ) : Rp (α × β × γ × δ) := fun F v x => ∃ p a b c d, v = .ref p ∧ F p = some (.tup [a, b, c, d]) ∧ P F a x.1 ∧ Q F b x.2.1 ∧ R F c x.2.2.1 ∧ S F d x.2.2.2
def rO {α : Type} (P : Rp α) : Rp (Option α) := fun F v x => match x with
  | none => v = .non
  | some y => P F v y
theorem mI : Mono rI := fun _ _ _ _ _ h => h
theorem mB : Mono rB := fun _ _ _ _ _ h => h
theorem mS : Mono rS := fun _ _ _ _ _ h => h
theorem mL {α : Type} {P : Rp α} (m : Mono P) : Mono (rL P) := fun F F' v x e ⟨p, vs, h1, h2, h3⟩ => ⟨p, vs, h1, e _ _ h2, h3.mp fun a b h => m F F' a b e h⟩
theorem mA {α : Type} {P : Rp α} (m : Mono P) {F F' : Hp} {vs : List V} {xs : List α} (e : Ex F F') (h : All2 (P F) vs xs) : All2 (P F') vs xs := h.mp fun a b h => m F F' a b e h
theorem mT2 {α β : Type} {P : Rp α} {Q : Rp β} (m : Mono P) (n : Mono Q) : Mono (rT2 P Q) := fun F F' v x e ⟨p, a, b, h1, h2, h3, h4⟩ => ⟨p, a, b, h1, e _ _ h2, m _ _ _ _ e h3, n _ _ _ _ e h4⟩
theorem mT3 {α β γ : Type} {P : Rp α} {Q : Rp β} {R : Rp γ} (m : Mono P) (n : Mono Q) (o : Mono R) : Mono (rT3 P Q R) := fun F F' v x e ⟨p, a, b, c, h1, h2, h3, h4, h5⟩ => ⟨p, a, b, c, h1, e _ _ h2, m _ _ _ _ e h3, n _ _ _ _ e h4, o _ _ _ _ e h5⟩
theorem mT4 {α β γ δ : Type} {P : Rp α} {Q : Rp β} {R : Rp γ} {S : Rp δ} (m : Mono P) (n : Mono Q) (o : Mono R) (q : Mono S) : Mono (rT4 P Q R S) := fun F F' v x e ⟨p, a, b, c, d, h1, h2, h3, h4, h5, h6⟩ => ⟨p, a, b, c, d, h1, e _ _ h2, m _ _ _ _ e h3, n _ _ _ _ e h4, o _ _ _ _ e h5, q _ _ _ _ e h6⟩
theorem mO {α : Type} {P : Rp α} (m : Mono P) : Mono (rO P) := fun F F' v x e h => by
  cases x with
  | none => exact h
  | some y => exact m _ _ _ _ e h
/-! flat lists in a heap -/
theorem aI {F : Hp} : ∀ {vs : List V} {xs : List Int}, All2 (rI F) vs xs → vs = xs.map V.int
  | _, _, .nil => rfl
  | _, _, .cons h t => by rw [show _ = _ from h, aI t]; rfl
theorem aB {F : Hp} : ∀ {vs : List V} {xs : List Bool}, All2 (rB F) vs xs → vs = xs.map V.bl
  | _, _, .nil => rfl
  | _, _, .cons h t => by rw [show _ = _ from h, aB t]; rfl
theorem aS {F : Hp} : ∀ {vs : List V} {xs : List Str}, All2 (rS F) vs xs → vs = xs.map V.str
  | _, _, .nil => rfl
  | _, _, .cons h t => by rw [show _ = _ from h, aS t]; rfl
theorem iA {F : Hp} : ∀ (xs : List Int), All2 (rI F) (xs.map V.int) xs
  | [] => .nil
  | x :: r => .cons rfl (iA r)
theorem bA {F : Hp} : ∀ (xs : List Bool), All2 (rB F) (xs.map V.bl) xs
  | [] => .nil
  | x :: r => .cons rfl (bA r)
theorem sA {F : Hp} : ∀ (xs : List Str), All2 (rS F) (xs.map V.str) xs
  | [] => .nil
  | x :: r => .cons rfl (sA r)
theorem fI {F : Hp} {v : V} {xs : List Int} (h : rL rI F v xs) : ∃ p, v = .ref p ∧ F p = some (.lst (xs.map V.int)) := by
  obtain ⟨p, vs, h1, h2, h3⟩ := h
  rw [aI h3] at h2
  exact ⟨p, h1, h2⟩
theorem fB {F : Hp} {v : V} {xs : List Bool} (h : rL rB F v xs) : ∃ p, v = .ref p ∧ F p = some (.lst (xs.map V.bl)) := by
  obtain ⟨p, vs, h1, h2, h3⟩ := h
  rw [aB h3] at h2
  exact ⟨p, h1, h2⟩
theorem fS {F : Hp} {v : V} {xs : List Str} (h : rL rS F v xs) : ∃ p, v = .ref p ∧ F p = some (.lst (xs.map V.str)) := by
  obtain ⟨p, vs, h1, h2, h3⟩ := h
  rw [aS h3] at h2
  exact ⟨p, h1, h2⟩
theorem gI {F : Hp} {p : Addr} {xs : List Int} (h : F p = some (.lst (xs.map V.int))) : rL rI F (.ref p) xs := ⟨p, _, rfl, h, iA xs⟩
theorem gB {F : Hp} {p : Addr} {xs : List Bool} (h : F p = some (.lst (xs.map V.bl))) : rL rB F (.ref p) xs := ⟨p, _, rfl, h, bA xs⟩
theorem gS {F : Hp} {p : Addr} {xs : List Str} (h : F p = some (.lst (xs.map V.str))) : rL rS F (.ref p) xs := ⟨p, _, rfl, h, sA xs⟩
/-! the frame grows -/
/-- of X what R knows, or what H does not -/
def ovr (R H X : Hp) : Hp := fun a => if R a ≠ none ∨ H a = none then X a else none
theorem ovr_some {R H X : Hp} {a : Addr} {u : HO} (h : ovr R H X a = some u) : (R a ≠ none ∨ H a = none) ∧ X a = some u := by
  unfold ovr at h
  split at h
  · exact ⟨by assumption, h⟩
  · cases h
theorem ovr_mk {R H X : Hp} {a : Addr} {u : HO} (h : R a ≠ none ∨ H a = none) (k : X a = some u) : ovr R H X a = some u := by
  unfold ovr
  rw [if_pos h]
  exact k
theorem ovr_ex {R H X : Hp} : Ex (ovr R H X) X := fun a o h => by
  unfold ovr at h
  split at h
  · exact h
  · cases h
theorem ovr_mono {R H X Y : Hp} (e : Ex X Y) : Ex (ovr R H X) (ovr R H Y) := fun a o h => by
  unfold ovr at h ⊢
  split at h
  · rename_i c
    rw [if_pos c]
    exact e _ _ h
  · cases h
theorem ovr_start {R H : Hp} (e : Ex R H) : Ex R (ovr R H H) := fun a o h => by
  unfold ovr
  rw [if_pos (.inl (by rw [h]; simp))]
  exact e _ _ h
section
variable {R H H' F H0 R0 : Hp} {L : List Cell} {p : Addr} {o : HO}
theorem Own.freeze (O : Own R H ((p, o) :: L)) : Own (upd R p o) H L :=
  ⟨fun a u h => by
    by_cases e : a = p
    · subst e
      rw [upd_same] at h
      cases h
      exact O.at_ _ (List.Mem.head _)
    · rw [upd_ne e] at h
      exact O.ex _ _ h, fun c h => O.at_ c (List.Mem.tail _ h), fun c h => by
    have hne : c.1 ≠ p := fun e => (List.nodup_cons.mp O.nd).1 (by rw [← e]; exact List.mem_map_of_mem (f := (·.1)) h)
    rw [upd_ne hne]
    exact O.fr c (List.Mem.tail _ h), (List.nodup_cons.mp O.nd).2⟩
/-- R grows by a cell; what was known of it stays, the new cell is known -/
theorem Own.frz (O : Own R H ((p, o) :: L)) : ∃ R', Own R' H L ∧ Ex R R' ∧ R' p = some o := ⟨_, O.freeze, Ex.new (O.fr _ (List.Mem.head _)), upd_same⟩
theorem Own.frzO (O : Own R H ((p, o) :: L)) (e0 : Ex H0 R) : ∃ R', Own R' H L ∧ Ex R R' ∧ ovr R0 H0 R' p = some o := ⟨_, O.freeze, Ex.new (O.fr _ (List.Mem.head _)), by
  unfold ovr
  rw [if_pos (.inr (e0.back (O.fr _ (List.Mem.head _))))]
  exact upd_same⟩
/-- R grows by all that is new -/
theorem Own.grow (O : Own R H L) (e : Ex H H') : ∃ R', Own R' H' L ∧ Ex R R' ∧ ∀ F, Ex F R → Ex (ovr F H H') R' := by
  refine ⟨fun a => if H a = none then H' a else R a, ⟨fun a u h => ?_, fun c h => e _ _ (O.at_ c h), fun c h => ?_, O.nd⟩, fun a u h => ?_, fun F hF a u h => ?_⟩
  · by_cases c : H a = none
    · rw [if_pos c] at h; exact h
    · rw [if_neg c] at h; exact e _ _ (O.ex _ _ h)
  · rw [if_neg (by rw [O.at_ c h]; simp)]
    exact O.fr c h
  · show (if H a = none then H' a else R a) = some u
    rw [if_neg (by rw [O.ex _ _ h]; simp)]
    exact h
  · unfold ovr at h
    split at h
    · rename_i q
      rcases q with q | q
      · cases hf : F a with
        | none => exact absurd hf q
        | some w =>
          have h1 := O.ex _ _ (hF _ _ hf)
          have h2 := e _ _ h1
          rw [h] at h2
          cases h2
          show (if H a = none then H' a else R a) = some u
          rw [if_neg (by rw [h1]; simp)]
          exact hF _ _ hf
      · show (if H a = none then H' a else R a) = some u
        rw [if_pos q]
        exact h
    · cases h
theorem Own.growO (O : Own R H L) (e : Ex H H') (e0 : Ex H0 R) : ∃ R', Own R' H' L ∧ Ex R R' ∧ Ex (ovr (ovr R0 H0 R) H H') (ovr R0 H0 R') := by
  obtain ⟨R', O', e1, e2⟩ := O.grow e
  refine ⟨R', O', e1, fun a u h => ?_⟩
  have h1 := e2 (ovr R0 H0 R) ovr_ex _ _ h
  obtain ⟨q, _⟩ := ovr_some h
  refine ovr_mk ?_ h1
  rcases q with q | q
  · cases hq : ovr R0 H0 R a with
    | none => exact absurd hq q
    | some w => exact (ovr_some hq).1
  · exact .inr (Ex.back (e0.trans O.ex) q)
end
/-- a new thing is handed back, in what R knows or what is new -/
def RetG {α : Type} (P : Rp α) (R : Hp) (r : α) (H : Hp) (Q : VK) : Prop := ∀ v H', Ex H H' → P (ovr R H H') v r → Q v H'
section
variable {α : Type} {P : Rp α} {R H F H0 R0 : Hp} {L : List Cell} {r : α} {Q : VK} {v : V}
theorem Own.retG (O : Own R H L) (m : Mono P) (k : ∀ v H' R', Own R' H' L → Ex R R' → P R' v r → Q v H') : RetG P R r H Q := fun v H' e h => by
  obtain ⟨R', O', e1, e2⟩ := O.grow e
  exact k v H' R' O' e1 (m _ _ _ _ (e2 R (Ex.refl R)) h)
theorem Own.retGO (O : Own R H L) (m : Mono P) (e0 : Ex H0 R) (k : ∀ v H' R', Own R' H' L → Ex R R' → P (ovr R0 H0 R') v r → Q v H') : RetG P (ovr R0 H0 R) r H Q := fun v H' e h => by
  obtain ⟨R', O', e1, e2⟩ := O.growO (R0 := R0) e e0
  exact k v H' R' O' e1 (m _ _ _ _ e2 h)
theorem RetG.go (k : RetG P R0 r H0 Q) (m : Mono P) (O : Own R H L) (e0 : Ex H0 R) (h : P (ovr R0 H0 R) v r) : Q v H := k v H (e0.trans O.ex) (m _ _ _ _ (ovr_mono O.ex) h)
theorem RetV.goR {v : V} (k : RetV v H0 Q) (O : Own R H L) (e0 : Ex H0 R) : Q v H := k H (e0.trans O.ex)
theorem RetL.goR {xs : List V} {p : Addr} (k : RetL xs H0 Q) (O : Own R H L) (e0 : Ex H0 R) (h : (p, HO.lst xs) ∈ L) : Q (.ref p) H := k p H (e0.back (O.fr _ h)) (e0.trans O.ex) (O.at_ _ h)
theorem RetT.goR {xs : List V} {p : Addr} (k : RetT xs H0 Q) (O : Own R H L) (e0 : Ex H0 R) (h : (p, HO.tup xs) ∈ L) : Q (.ref p) H := k p H (e0.back (O.fr _ h)) (e0.trans O.ex) (O.at_ _ h)
end
/-! == of such data -/
structure De {α : Type} [DecidableEq α] (P : Rp α) where
  d : α → PyData
  dp : ∀ (K : PySem.W.Frag) F v a, P F v a → Dp K F v (d a)
  ok : ∀ a, PyData.canLay0 (d a) = true
  n : Nat
  dep : ∀ a, PyData.depth (d a) ≤ n
  eq : ∀ a b, PyData.eqv (d a) (d b) = decide (a = b)
def deI : De rI where
  d := PyData.int
  dp := fun K F v a h => by rw [show v = V.int a from h]; exact .int a
  ok := fun _ => rfl
  n := 0
  dep := fun _ => Nat.le_refl _
  eq := fun a b => by simp only [PyData.eqv]; rw [Bool.beq_eq_decide_eq]
def deB : De rB where
  d := PyData.bool
  dp := fun K F v a h => by rw [show v = V.bl a from h]; exact .bl a
  ok := fun _ => rfl
  n := 0
  dep := fun _ => Nat.le_refl _
  eq := fun a b => by simp only [PyData.eqv]; rw [Bool.beq_eq_decide_eq]
section
variable {α β γ : Type} [DecidableEq α] [DecidableEq β] [DecidableEq γ]
theorem de_all {P : Rp α} (e : De P) {K : PySem.W.Frag} {F : Hp} : ∀ {vs : List V} {xs : List α}, All2 (P F) vs xs → DpAll K F vs (xs.map e.d)
  | _, _, .nil => .nil
  | _, _, .cons h t => .cons (e.dp K F _ _ h) (de_all e t)
theorem ok_all {P : Rp α} (e : De P) : ∀ xs : List α, PyData.canLayAll0 (xs.map e.d) = true
  | [] => rfl
  | x :: r => by simp only [List.map_cons, PyData.canLayAll0, e.ok x, ok_all e r, Bool.and_self]
theorem dep_all {P : Rp α} (e : De P) : ∀ xs : List α, PyData.depthAll (xs.map e.d) ≤ e.n
  | [] => by simp [PyData.depthAll]
  | x :: r => by
    have h1 := e.dep x
    have h2 := dep_all e r
    simp only [List.map_cons, PyData.depthAll]
    omega
theorem eq_all {P : Rp α} (e : De P) : ∀ xs ys : List α, PyData.eqvAll (xs.map e.d) (ys.map e.d) = decide (xs = ys)
  | [], [] => by simp [PyData.eqvAll]
  | [], y :: s => by simp [PyData.eqvAll]
  | x :: r, [] => by simp [PyData.eqvAll]
  | x :: r, y :: s => by simp only [List.map_cons, PyData.eqvAll, e.eq x y, eq_all e r s, List.cons.injEq, Bool.decide_and]
def deL {P : Rp α} (e : De P) : De (rL P) where
  d := fun xs => .list (xs.map e.d)
  dp := fun K F v xs ⟨p, vs, h1, h2, h3⟩ => by
    subst h1
    exact .lst (SqL.of h2) (de_all e h3)
  ok := fun xs => by simp only [PyData.canLay0]; exact ok_all e xs
  n := e.n + 1
  dep := fun xs => by
    have := dep_all e xs
    simp only [PyData.depth]
    omega
  eq := fun xs ys => by simp only [PyData.eqv]; exact eq_all e xs ys
def deT2 {P : Rp α} {Q : Rp β} (e : De P) (f : De Q) : De (rT2 P Q) where
  d := fun x => .tuple [e.d x.1, f.d x.2]
  dp := fun K F v x ⟨p, a, b, h1, h2, h3, h4⟩ => by
    subst h1
    exact .tup (SqT.of h2) (.cons (e.dp K F _ _ h3) (.cons (f.dp K F _ _ h4) .nil))
  ok := fun x => by simp only [PyData.canLay0, PyData.canLayAll0, e.ok, f.ok, Bool.and_self]
  n := max e.n f.n + 1
  dep := fun x => by
    have h1 := e.dep x.1
    have h2 := f.dep x.2
    simp only [PyData.depth, PyData.depthAll]
    omega
  eq := fun x y => by
    obtain ⟨x1, x2⟩ := x
    obtain ⟨y1, y2⟩ := y
    simp only [PyData.eqv, PyData.eqvAll, e.eq, f.eq, Prod.mk.injEq, Bool.decide_and, Bool.and_true]
def deT3 {P : Rp α} {Q : Rp β} {R : Rp γ} (e : De P) (f : De Q) (g : De R) : De (rT3 P Q R) where
  d := fun x => .tuple [e.d x.1, f.d x.2.1, g.d x.2.2]
  dp := fun K F v x ⟨p, a, b, c, h1, h2, h3, h4, h5⟩ => by
    subst h1
    exact .tup (SqT.of h2) (.cons (e.dp K F _ _ h3) (.cons (f.dp K F _ _ h4) (.cons (g.dp K F _ _ h5) .nil)))
  ok := fun x => by simp only [PyData.canLay0, PyData.canLayAll0, e.ok, f.ok, g.ok, Bool.and_self]
  n := max e.n (max f.n g.n) + 1
  dep := fun x => by
    have h1 := e.dep x.1
    have h2 := f.dep x.2.1
    have h3 := g.dep x.2.2
    simp only [PyData.depth, PyData.depthAll]
    omega
  eq := fun x y => by
    obtain ⟨x1, x2, x3⟩ := x
    obtain ⟨y1, y2, y3⟩ := y
    simp only [PyData.eqv, PyData.eqvAll, e.eq, f.eq, g.eq, Prod.mk.injEq, Bool.decide_and, Bool.and_true, Bool.and_assoc]
end
section
variable {α : Type} [DecidableEq α] {P : Rp α} {K : PySem.W.Frag} {F F' H : Hp} {v w : V} {x y : α} {Q : VK}
theorem sh_de (e : De P) (h : e.n ≤ 64) (x : α) : SeqAt.shaped (e.d x) = true := by
  have h1 := e.dep x
  simp only [SeqAt.shaped, e.ok, Bool.true_and]
  exact decide_eq_true (by omega)
theorem k_eqN (e : De P) (m : Mono P) (h : e.n ≤ 64) (h1 : P F v x) (e1 : Ex F H) (h2 : P F' w y) (e2 : Ex F' H) (k : Q (.bl (decide (x = y))) H) : rEqD K v w H Q :=
  ⟨_, _, e.dp K H _ _ (m _ _ _ _ e1 h1), e.dp K H _ _ (m _ _ _ _ e2 h2), sh_de e h x, sh_de e h y, by rw [e.eq]; exact k⟩
theorem k_neN (e : De P) (m : Mono P) (h : e.n ≤ 64) (h1 : P F v x) (e1 : Ex F H) (h2 : P F' w y) (e2 : Ex F' H) (k : Q (.bl (!decide (x = y))) H) : rNeD K v w H Q :=
  ⟨_, _, e.dp K H _ _ (m _ _ _ _ e1 h1), e.dp K H _ _ (m _ _ _ _ e2 h2), sh_de e h x, sh_de e h y, by rw [e.eq]; exact k⟩
end
section
variable {α : Type} {P : Rp α} {K : PySem.W.Frag} {F H R : Hp} {L : List Cell} {p a : Addr} {i : Int} {xs : List α} {y : α} {Q : VK} {vs : List V} {σ : L2.St}
theorem All2.at {β : Type} {P : α → β → Prop} {as : List α} {bs : List β} (h : All2 P as bs) {i : Int} {b : β} (e : atI bs i = some b) : ∃ a, atI as i = some a ∧ P a b := by
  unfold atI at e ⊢
  rw [h.len]
  cases hj : ixN bs.length i with
  | none => rw [hj] at e; cases e
  | some j =>
    rw [hj] at e
    obtain ⟨a, h1, h2⟩ := h.get e
    exact ⟨a, h1, h2⟩
theorem k_ixN (hn : rL P F (.ref p) xs) (e : Ex F H) (h : atI xs i = some y) (k : ∀ v, P F v y → Q v H) : rIxL K (.ref p) (.int i) H Q := by
  obtain ⟨q, vs, h1, h2, h3⟩ := hn
  cases h1
  obtain ⟨v, e1, hv⟩ := h3.at h
  exact ⟨p, vs, i, v, rfl, rfl, SqL.of (e _ _ h2), e1, k v hv⟩
theorem n_lenN (hn : rL P F (.ref p) xs) (e : Ex F H) (k : Q (.int (xs.length : Int)) H) : rLenQ K [.ref p] H Q := by
  obtain ⟨q, vs, h1, h2, h3⟩ := hn
  cases h1
  unfold rLenQ
  exact ⟨p, vs, rfl, .inl (SqL.of (e _ _ h2)), by rw [h3.len]; exact k⟩
theorem n_lstV (O : Own R H L) (hz : vs.length ≤ sizeLine) (k : ∀ p H', Own R H' ((p, .lst vs) :: L) → Q (.ref p) H') : rNewL vs H Q := by
  unfold rNewL
  exact ⟨hz, fun p hp => k p _ (O.new hp)⟩
end
end Bt

set_option Elab.async false
set_option linter.all false
set_option maxRecDepth 100000
set_option maxHeartbeats 4000000
/-! What is refused, caught by a name, asked of its class. -/
namespace Bt
open PySem L2 PyProof.Rows
theorem passN {X : Cx} : Passes (L2N.CX X.prog X.w) X E0 := fun _ _ _ _ _ _ _ h => by
  obtain ⟨_, _, _, _, _, _, _, _, _, _, _, _, z⟩ := h
  exact z.elim
theorem takesN0 {X : Cx} : L2N.Takes X (fun _ _ _ _ => False) := fun _ _ x => by
  obtain ⟨_, _, _, _, _, _, _, _, _, _, _, _, _, _, _, _, z⟩ := x
  exact z.elim
theorem okN {P : Program} {w : World} {K : PySem.W.Frag} {mg : Str → Option Value} {base : Heap} {x qual : Str} {st : Stmt} {f : Addr} {fd : FuncData} {N ps : List Str} {k : Nat} {sp : Sp} (F : Fun K x qual st f fd) (S : FnScope N ps (defScope st)) (len : ∀ vs H Q E, sp vs H Q E → vs.length = ps.length)
    (hbody : ∀ (cdv : Value) (A : Around) (outer : List Env) (s : Shared) (H : Hp) (vs : List V) (Q : VK) (E : XK), Room k (A.deeper (envOfC qual (defScope st) s.heap.objs.size f cdv)) → sp vs H Q E →
      ∃ t, PSs (cxOf (L2N.CX P w) P w K mg base N qual (defScope st) f cdv A outer s H E) (defBody st) t ∧ t { nx := fun _ H' => Q .non H', rt := Q } (start N vs) H) : FnOk P w K mg base (L2N.CX P w) (k + 1) f fd ps sp := by
  obtain ⟨oc, od, kV, doc, pm, an, cdv, ct, osl, rfl, lk, hcd⟩ := F.ex
  exact fn_of lk hcd S len fun A outer s H vs Q E hr hsp => hbody cdv A outer s H vs Q E hr hsp
theorem ps_errN {X : Cx} {W : WX} {x m : Str} {j : Nat} {p p2 pos pos' : Pos} {C : Addr} (e : ErrC X.K X.mg x C) (tk : L2N.Takes X W) (hc : X.calm = true) (hg : Gl X x) (hdb : (x == ("__debug__" : Str)) = false := by decide) :
    PS X (.Raise (some (.Call (.Name x p) [.Constant (.str m) j p2] [] pos)) none pos') (fun _ σ H => W (.ref C) none σ H) :=
  L2N.ps_raise hc tk (L2N.pmk_own PySem.F.excBase_ValueError e.ex e.g e.kp (raises_own e.b e.t) hg hdb)
/-! classes by their letters -/
def Eds.at (d : Eds) : Ek → Addr
  | .NoBits => d.NoBits
  | .NoName => d.NoName
  | .NoKey => d.NoKey
  | .NoFrame => d.NoFrame
  | .NoPost => d.NoPost
  | .NoThing => d.NoThing
  | .NoStrip => d.NoStrip
  | .NoRail => d.NoRail
  | .NoWire => d.NoWire
  | .NoRow => d.NoRow
/-- what the walk knows of the classes ks -/
structure EcF (K : PySem.W.Frag) (d : Eds) (ks : List Ek) : Prop where
  ec : ∀ k ∈ ks, ExcC K (d.at k)
  kt : ∀ k ∈ ks, ∀ c ∈ ks, PySem.W.kitOne K (.ref (d.at k)) (.ref (d.at c)) = some (decide (k = c))
  kv : ∀ k ∈ ks, PySem.W.kitOne K (.ref (d.at k)) (.type "ValueError") = some true
  kr : ∀ k ∈ ks, PySem.W.kitOne K (.ref (d.at k)) (.ref d.RailError) = some true
  xr : ∀ k ∈ ks, PySem.W.exmOne K (.ref (d.at k)) (.ref d.RailError) = some true
  xx : ∀ k ∈ ks, ∀ c ∈ ks, PySem.W.exmOne K (.ref (d.at k)) (.ref (d.at c)) = some (decide (k = c))
/-- what an exception's own dict holds -/
def XFl (e : Er) (d : Option Addr) (H : Hp) : Prop := match e with
  | .NoWire i => ∃ x, d = some x ∧ H x = some (.xd [(("at" : Str), .int i)])
  | .NoRow i => ∃ x, d = some x ∧ H x = some (.xd [(("word" : Str), .int i)])
  | _ => d = none
theorem XFl.ext {e : Er} {d : Option Addr} {H H' : Hp} (h : XFl e d H) (x : Ex H H') : XFl e d H' := by
  cases e <;> first
    | exact h
    | (obtain ⟨a, h1, h2⟩ := h; exact ⟨a, h1, x _ _ h2⟩)
theorem RetE.by {d : Eds} {e : Er} {H : Hp} {E : XK} (h : ∀ H' dd, Ex H H' → XFl e dd H' → E (.ref (d.at e.k)) dd H') : RetE d e H E := by
  cases e <;> first
    | exact fun H' x => h H' none x rfl
    | exact fun H' a _ x q => h H' (some a) x ⟨a, rfl, q⟩
/-! isinstance of the exception in hand -/
section
variable {X : Cx} {p : Addr × Obj} {D : Addr} {ex : Er}
theorem inst_pin {pins : List (Addr × Obj)} {σ : L2.St} {H : Hp} {s : Shared} (I : Inv X pins σ H s) (hp : p ∈ X.pn) (hz : p.2.cls = .ref D) (hd : XFl ex p.2.dict H) (hf : ∃ vs, p.2.data = .fields vs) : ∃ od, PySem.W.InstAt s.heap p.1 p.2 D od := by
  obtain ⟨hget, _⟩ := I.pin p (List.mem_append.mpr (.inl hp))
  obtain ⟨a, oc, od, oda, osl⟩ := p
  obtain ⟨vs, hv⟩ := hf
  dsimp only at hz hd hv hget
  subst hz hv
  have hk : od = none ∨ ∃ x fs, od = some x ∧ H x = some (.xd fs) := by
    cases ex <;> first
      | exact .inl hd
      | (obtain ⟨x, h1, h2⟩ := hd; exact .inr ⟨x, _, h1, h2⟩)
  rcases hk with rfl | ⟨x, fs, rfl, hx⟩
  · exact ⟨none, hget, rfl, rfl, trivial⟩
  · obtain ⟨_, ⟨o, _, _, e, _⟩, _⟩ := (show ∃ mA, s.heap.Ns1 x mA ∧ ∀ f, RelO (fs.lookup f) (mA f) from I.hok x _ hx)
    exact ⟨some _, hget, rfl, rfl, e⟩
theorem exc_cls {K : PySem.W.Frag} {D : Addr} (C : ExcC K D) : (PySem.W.clsIn K D).isSome = true := by
  obtain ⟨cd, hc, _⟩ := PySem.W.any_some C.hd
  rw [hc]; rfl
/-- isinstance(e, c), e the exception in hand -/
def rIsX (K : PySem.W.Frag) (D a : Addr) (ex : Er) (d : Option Addr) : List V → Hp → VK → Prop := fun xs H Q => ∃ (c : V) (cv : Value) (b : Bool), xs = [.ref a, c] ∧ ClsV c cv ∧ XFl ex d H ∧ PySem.W.kitOne K (.ref D) cv = some b ∧ Q (.bl b) H
theorem call_isP (hp : p ∈ X.pn) (C : ExcC X.K D) (hz : p.2.cls = .ref D) {d : Option Addr} (hdd : p.2.dict = d) (hf : ∃ vs, p.2.data = .fields vs) : CallR X (.builtin "isinstance") (rIsX X.K D p.1 ex d) := by
  subst hdd
  intro pins s σ H xs us Q I r h
  obtain ⟨c, cv, b, rfl, hcv, hd, e, q⟩ := h
  obtain ⟨u1, u2, rfl, r1, r2⟩ := vals2 r
  cases (show u1 = Value.ref p.1 from r1)
  have ec := hcv.eq r2
  subst ec
  obtain ⟨od, J⟩ := inst_pin I hp hz hd hf
  exact PySem.W.kia_one (PySem.W.kitx_exc (exc_cls C) C.hg C.hk C.hs C.ha C.hn C.ht C.hm) I.kIn J e (fun z => nomatch z) fun tk => ⟨.bl b, H, I.kept (t' := tk) fun _ _ z => z, rfl, q⟩
/-- .. and of a row of classes -/
def rIsXt (K : PySem.W.Frag) (D a : Addr) (ex : Er) (d : Option Addr) : List V → Hp → VK → Prop := fun xs H Q => ∃ (tp : Addr) (cs : List V) (us : List Value) (b : Bool), xs = [.ref a, .ref tp] ∧ H tp = some (.tup cs) ∧ Paired ClsV cs us ∧ XFl ex d H ∧ PySem.W.kitAny K (.ref D) us = some b ∧ Q (.bl b) H
theorem call_isPt (hp : p ∈ X.pn) (C : ExcC X.K D) (hz : p.2.cls = .ref D) {d : Option Addr} (hdd : p.2.dict = d) (hf : ∃ vs, p.2.data = .fields vs) : CallR X (.builtin "isinstance") (rIsXt X.K D p.1 ex d) := by
  subst hdd
  intro pins s σ H xs us Q I r h
  obtain ⟨tp, cs, ws, b, rfl, hT, k, hd, e, q⟩ := h
  obtain ⟨u1, u2, rfl, r1, r2⟩ := vals2 r
  cases (show u1 = Value.ref p.1 from r1)
  cases (show u2 = Value.ref tp from r2)
  obtain ⟨_, its, rv, o, h1, h2, n, h3⟩ := (show ObjOk X.prog X.w H s.heap tp (.tup cs) from I.hok tp _ hT)
  have e3 := ClsV.all k rv
  subst e3
  obtain ⟨oc, od, dt, sl⟩ := o
  simp only at h2 h3
  subst h2 h3
  obtain ⟨od, J⟩ := inst_pin I hp hz hd hf
  exact PySem.W.kia_tup (PySem.W.kitx_exc (exc_cls C) C.hg C.hk C.hs C.ha C.hn C.ht C.hm) I.kIn J h1 e (fun z => nomatch z) fun tk => ⟨.bl b, H, I.kept (t' := tk) fun _ _ z => z, rfl, q⟩
end
/-- the classes of a row, asked -/
def inKs (k : Ek) : List Ek → Bool
  | [] => false
  | c :: r => decide (k = c) || inKs k r
theorem kit_any {K : PySem.W.Frag} {d : Eds} {ks : List Ek} (T : EcF K d ks) {k : Ek} (hk : k ∈ ks) : ∀ (cs : List Ek), (∀ c ∈ cs, c ∈ ks) → PySem.W.kitAny K (.ref (d.at k)) (cs.map fun c => .ref (d.at c)) = some (inKs k cs)
  | [], _ => rfl
  | c :: r, h => by
    refine kitAny_cons (T.kt k hk c (h c (List.Mem.head _))) (fun e => ?_) fun e => ?_
    · rw [kit_any T hk r fun z hz => h z (List.Mem.tail _ hz)]
      show some (inKs k r) = some (decide (k = c) || inKs k r)
      rw [e, Bool.false_or]
    · show (decide (k = c) || inKs k r) = true
      rw [e, Bool.true_or]
/-! a def of the exception in hand, called in the suite -/
structure FnE (P : Program) (w : World) (K : PySem.W.Frag) (mg : Str → Option Value) (base : Heap) (k : Nat) (f : Addr) (fd : FuncData) (x : Str) (D : Addr) (ex : Er) (R : Bool) : Prop where
  run : ∀ (A : Around) (outer : List Env) (s : Shared) (H : Hp) (args : Args) (p : Addr × Obj) (Q : VK), L2H.RoomH k A → L2H.Hot1 A p → L2H.PinOk outer H s p → p.2.cls = .ref D → XFl ex p.2.dict H → Env0 P w K mg base A outer s H → BindsTo s fd args ([x].zip [.ref p.1]) → RetV (.bl R) H Q →
    codeAny (model P w) A (.call (.ref f) args) (CR CX0 outer P w H s Q E0) s
theorem fnE_of {P : Program} {w : World} {K : PySem.W.Frag} {mg : Str → Option Value} {base : Heap} {x qual : Str} {st : Stmt} {f : Addr} {fd : FuncData} {N : List Str} {y : Str} {k : Nat} {D : Addr} {ex : Er} {R : Bool} (F : Fun K x qual st f fd) (S : FnScope N [y] (defScope st))
    (hbody : ∀ (cdv : Value) (A : Around) (outer : List Env) (s : Shared) (H : Hp) (p : Addr × Obj) (Q : VK), A.units + 64 < cLine → p.2.cls = .ref D → XFl ex p.2.dict H → (∃ vs, p.2.data = .fields vs) → RetV (.bl R) H Q →
      ∃ t, PSs (L2H.cxH CX0 P w K mg base N qual (defScope st) f cdv A outer s H E0 p) (defBody st) t ∧ t { nx := fun _ H' => Q .non H', rt := Q } (start N [.ref p.1]) H) : FnE P w K mg base (k + 1) f fd y D ex R := by
  obtain ⟨oc, od, kV, doc, pm, an, cdv, ct, osl, rfl, lk, hcd⟩ := F.ex
  refine ⟨fun A outer s H args p Q hr hot hpin hz hd e0 hb hq => ?_⟩
  have KX : K.In s.heap := e0.mod.kin.keeps fun b o e => (e0.bs b o e).1
  have lim : s.heap.NoLimit := e0.mod.nolimit.keeps fun b o e => (e0.bs b o e).1
  have hkind : ∀ z ∈ [y].zip [Value.ref p.1], (defScope st).names.lookup z.1 = some .local ∨ ((defScope st).names.lookup z.1 = some .cell ∧ ((cellsFrom (s.heap.objs.size + 1) (defScope st).names []).lookup z.1).isSome = true) := fun ⟨n, v⟩ hy =>
    (S.par n (List.of_mem_zip hy).1).imp id fun q => ⟨q, PySem.W.cellsFrom_some _ _ _ (.inl q)⟩
  refine codeAny_call_function hr.depth (KX _ _ lk) rfl S.co S.gen rfl (PySem.W.codeRec_of KX hcd) (hb _ _ _ _ (wpAny_newFunctionEnv_cells S.kind hkind fun env he s1 hx => ?_))
  subst he
  refine ⟨lim.keeps hx.toInCall.keep, codeAny_func ?_⟩
  obtain ⟨h1, vs, h2, _⟩ := hot
  obtain ⟨t, ht, h3⟩ := hbody cdv A outer s H p Q (by have := hr.un; omega) hz hd ⟨vs, h2⟩ hq
  have rv : Vals [V.ref p.1] [Value.ref p.1] := .cons rfl .nil
  have I := L2H.inv_startH (CX := CX0) (qual := qual) (f := f) (cd := cdv) (E := E0) S hpin e0 rfl rv hx
  refine wpAny_mono (ht.run [] s1 _ H _ I h3) (fun fl s' hs => ?_) fun e s' hs => hs
  cases fl with
  | ret u =>
    obtain ⟨v, σ', H', J, r, q⟩ := hs
    exact ⟨v, H', J.os, J.bare, J.base, J.hok, r, q⟩
  | next =>
    obtain ⟨σ', H', J, q⟩ := hs
    exact ⟨V.non, H', J.os, J.bare, J.base, J.hok, rfl, q⟩
  | brk =>
    obtain ⟨_, _, _, q⟩ := hs
    exact q.elim
  | cont =>
    obtain ⟨_, _, _, q⟩ := hs
    exact q.elim
def tCallE (a : Addr) (ex : Er) (d : Option Addr) (R : Bool) (t : TA) : TE := fun σ H Q => t σ H fun vs H1 => vs = [.ref a] ∧ XFl ex d H1 ∧ RetV (.bl R) H1 Q
theorem pe_callE {X : Cx} {k : Nat} {f : Addr} {fd : FuncData} {x y : Str} {q pos : Pos} {e : Expr} {t : TA} {D : Addr} {ex : Er} {R : Bool} {p : Addr × Obj} (F : FnE X.prog X.w X.K X.mg X.base k f fd y D ex R) (hp : p ∈ X.pn) (hot : L2H.Hot1 X.A p) (hz : p.2.cls = .ref D) {d : Option Addr} (hdd : p.2.dict = d)
    (hr : L2H.RoomH k X.A) (hg : Gl X x) (hm : X.mg x = some (.ref f)) (hk : PySem.W.keepIn X.K (.ref f) = true) (hb : Binds X.K fd [y] []) (ha : PA X [e] t) (hdb : (x == ("__debug__" : Str)) = false := by decide)
    (he : starEach [e] X.env = (false, eval e X.env) :: starEach [] X.env := by rfl) (hpl : (backTo pos (starEach [] X.env)).any (·.1) = false := by rfl) : PE X (.Call (.Name x q) [e] [] pos) (tCallE p.1 ex d R t) := by
  subst hdd
  refine ⟨fun pins s σ H Q I h => ?_⟩
  refine wpAny_Call_Name_kw (ld_glob I hg hm ?_ hdb)
  refine PySem.W.callWith_K (h₀ := X.base) I.ok.mod.kin hk (thn (ha.run pos pins s σ H _ I h) fun us s1 ⟨vs, H1, I1, r, e1, hd, hq⟩ => ⟨I1.kIn, ?_⟩) he hpl
  subst e1
  obtain ⟨u, rfl, r1⟩ := r.one
  cases (show u = Value.ref p.1 from r1)
  have b := hb s1 [.ref p.1] I1.kIn (by rw [List.append_nil]; rfl)
  rw [List.append_nil] at b
  obtain ⟨p1, p2, p3, p4, p5⟩ := I1.pin p (List.mem_append_left _ hp)
  have hpin : L2H.PinOk X.stack H1 s1 p := ⟨p1, p2, fun hm => (List.mem_cons.mp (I1.stkSub p.1 hm)).elim p3 p4, p5⟩
  refine wpAny_call (codeAny_mono (F.run X.A X.stack s1 H1 ⟨[.ref p.1], []⟩ p Q hr hot hpin hz hd I1.env0 b hq) fun r s' hq => ?_)
  cases r with
  | error e => exact (show False from hq).elim
  | ok fl =>
    cases fl with
    | ret u => exact I1.after hq
    | next => exact False.elim hq
    | brk => exact False.elim hq
    | cont => exact False.elim hq
/-! all of it, class by class -/
structure EcP (K : PySem.W.Frag) (C : Addr) : Prop where
  hg : PySem.W.findIn K (.ref C) "__getattribute__" = some (some (.builtin "BaseException.__getattribute__"))
  hk : PySem.W.findIn K (.ref C) "__getattr__" = some none
  hs : PySem.W.subIn K (.ref C) (.type "BaseException") = some true
  hd : PySem.W.hasDictIn K C = true
  ha : PySem.W.findIn K (.ref C) "__class__" = some (some (.builtin "object.__class__"))
  hm : PySem.W.mroIn K C (.type "object") = some true
  ct : PySem.W.typeIn K (.ref C) = some (.type "type")
  sv : PySem.W.subIn K (.ref C) (.type "ValueError") = some true
theorem all_nil {α : Type} {P : α → Prop} : ∀ x ∈ ([] : List α), P x := fun _ h => (nomatch h)
theorem all_cons {α : Type} {P : α → Prop} {a : α} {l : List α} (h : P a) (t : ∀ x ∈ l, P x) : ∀ x ∈ a :: l, P x := fun x hx => by
  rcases List.mem_cons.mp hx with rfl | hx
  · exact h
  · exact t x hx
theorem ecf_mk {K : PySem.W.Frag} {d : Eds} {ks : List Ek} (h : ∀ k ∈ ks, EcP K (d.at k)) (hp : ∀ k ∈ ks, ∀ c ∈ ks, PySem.W.subIn K (.ref (d.at k)) (.ref (d.at c)) = some (decide (k = c)))
    (hr : ∀ k ∈ ks, PySem.W.subIn K (.ref (d.at k)) (.ref d.RailError) = some true) (rr : EcP K d.RailError)
    (hn : PySem.W.specialIn K (.builtin "object.__class__") "__get__" = some (some (.builtin "getset_descriptor.__get__"))) (ht : PySem.W.takesIn K (.builtin "object.__class__") = some true) (hv : PySem.W.kitMeta "ValueError" = true) : EcF K d ks := by
  have ec : ∀ k ∈ ks, ExcC K (d.at k) := fun k hk => by
    obtain ⟨h1, h2, h3, h4, h5, h6, h7, h8⟩ := h k hk
    exact ⟨h1, h2, h3, h4, h5, hn, ht, h6⟩
  have cl : ∀ {C : Addr}, EcP K C → (PySem.W.clsIn K C).isSome = true := fun q => by
    obtain ⟨cd, hc, _⟩ := PySem.W.any_some q.hd
    rw [hc]; rfl
  have ko : ∀ {a b : Addr} {r : Bool}, EcP K b → PySem.W.subIn K (.ref a) (.ref b) = some r → (a = b → r = true) → PySem.W.kitOne K (.ref a) (.ref b) = some r := fun {a b r} q e1 e2 => by
    unfold PySem.W.kitOne
    by_cases e : a = b
    · subst e
      rw [if_pos (by simp), e2 rfl]
    · rw [if_neg (by simp [e])]
      unfold PySem.W.kitCls
      dsimp only
      rw [if_pos (by rw [cl q, q.ct]; rfl)]
      exact e1
  refine ⟨ec, fun k hk c hc => ko (h c hc) (hp k hk c hc) (fun e => ?_), fun k hk => ?_, fun k hk => ko rr (hr k hk) fun _ => rfl, fun k hk => exm_mk rr.hs (cl rr) rr.ct (hr k hk), fun k hk c hc => exm_mk (h c hc).hs (cl (h c hc)) (h c hc).ct (hp k hk c hc)⟩
  · have e1 := hp k hk c hc
    have e2 := hp c hc c hc
    rw [e] at e1
    rw [e2] at e1
    rw [decide_eq_true (rfl : c = c)] at e1
    exact (Option.some.inj e1).symm
  · unfold PySem.W.kitOne
    rw [if_neg (by simp)]
    unfold PySem.W.kitCls
    dsimp only
    rw [if_pos hv]
    exact (h k hk).sv
theorem gv_ref {K : PySem.W.Frag} {h : Heap} {mg : Str → Option Value} {x : Str} {C : Addr} (X : K.In h) (G : h.Ns mainGlobals mg) (a : PySem.W.nsIn K mainGlobals x = some (some (.ref C))) : Gv mg x (.ref C) := ⟨_, PySem.W.mg_of X G a, rfl⟩
theorem err_at {K : PySem.W.Frag} {h : Heap} {mg : Str → Option Value} {x : Str} {C : Addr} (X : K.In h) (G : h.Ns mainGlobals mg) (a : PySem.W.nsIn K mainGlobals x = some (some (.ref C)))
    (e : PySem.W.excIn K C [.type "ValueError", .type "Exception", .type "BaseException", .type "object"] "ValueError.__new__" = true) (k : PySem.W.keepIn K (.ref C) = true) (b : PySem.W.subIn K (.ref C) (.type "BaseException") = some true) (t : PySem.W.typeIn K (.ref C) = some (.type "type")) : ErrC K mg x C :=
  ⟨PySem.W.mg_of X G a, e, k, b, t⟩
def Er.plain : Er → Bool
  | .NoWire _ => false
  | .NoRow _ => false
  | _ => true
theorem XFl.of {e : Er} {H : Hp} (h : e.plain = true) : XFl e none H := by
  cases e <;> first
    | rfl
    | cases h
theorem RetE.byP {d : Eds} {e : Er} {H : Hp} {E : XK} (hp : e.plain = true) (h : ∀ H', Ex H H' → E (.ref (d.at e.k)) none H') : RetE d e H E := by
  cases e <;> first
    | exact fun H' x => h H' x
    | cases hp
theorem Ek.all (k : Ek) : k ∈ [Ek.NoBits, .NoName, .NoKey, .NoFrame, .NoPost, .NoThing, .NoStrip, .NoRail, .NoWire, .NoRow] := by
  cases k <;> decide
/-! the suite, its exception known -/
theorem pss_exc {X : Cx} {ss : List Stmt} {es : Eds} {ks : List Ek} {cls : Value} {t : Er → TS} (h : ∀ e, e.k ∈ ks → cls = .ref (es.at e.k) → PSs X ss (t e)) :
    PSs X ss (fun D σ H => ∃ e : Er, e.k ∈ ks ∧ cls = .ref (es.at e.k) ∧ t e D σ H) :=
  ⟨fun pins s σ H D I ⟨e, h1, h2, q⟩ => (h e h1 h2).run pins s σ H D I q⟩
theorem hot_suite {X : Cx} {a : Addr} {oe : Obj} {pn : List (Addr × Obj)} {cls : Value} {d : Option Addr} (hz : L2N.Zn cls d oe) (hf : ∃ vs, oe.data = .fields vs) : L2H.Hot1 (X.suite a ((a, oe) :: pn)).A (a, oe) := by
  obtain ⟨vs, hv⟩ := hf
  exact ⟨rfl, vs, hv, hz.2.2 vs hv⟩
theorem roomE {X : Cx} {k : Nat} {v : Option Value} (hr : Room k X.A) : L2H.RoomH k (X.A.mark v) := ⟨hr.dp, hr.un⟩
def Er.num : Er → Int
  | .NoWire i => i
  | .NoRow i => i
  | _ => 0
end Bt
namespace Bt
open PySem L2 PyProof.Rows
def okE (ks : List Ek) (e : Er) : Bool := e.plain && decide (e.k ∈ ks)
theorem okE_iff {ks : List Ek} {e : Er} (h : okE ks e = true) : e.plain = true ∧ e.k ∈ ks := by
  unfold okE at h
  rw [Bool.and_eq_true, decide_eq_true_eq] at h
  exact h
theorem ifN {α : Type} {c : Bool} {a : Option α} {r : α} (h : ifB c a none = some r) : c = true ∧ a = some r := by
  cases c with
  | true => exact ⟨rfl, h⟩
  | false => cases h
theorem o_cE {a : Addr} {ex : Er} {d : Option Addr} {R : Bool} {t : TA} {σ : L2.St} {H : Hp} {Q : VK} (h : t σ H fun vs H1 => vs = [.ref a] ∧ XFl ex d H1 ∧ RetV (.bl R) H1 Q) : tCallE a ex d R t σ H Q := h
end Bt
namespace Bt
open PySem L2 PyProof.Rows
theorem pe_gr {X : Cx} {x : Str} {C : Addr} {pos : Pos} (hg : Gl X x) (h : X.mg x = some (.ref C)) (hd : (x == ("__debug__" : Str)) = false := by decide) : PE X (.Name x pos) (tC (.ref C)) := pe_gv hg ⟨_, h, rfl⟩ hd
end Bt
namespace Bt
open PySem L2 PyProof.Rows
theorem pe_callEs {X : Cx} {a : Addr} {oe : Obj} {pn : List (Addr × Obj)} {cls : Value} {k : Nat} {f : Addr} {fd : FuncData} {x y : Str} {q pos : Pos} {e : Expr} {t : TA} {D : Addr} {ex : Er} {R : Bool} {d : Option Addr} (F : FnE X.prog X.w X.K X.mg X.base k f fd y D ex R) (hz : L2N.Zn cls d oe) (hf : ∃ vs, oe.data = .fields vs) (hc : cls = .ref D)
    (hr : Room k X.A) (hg : Gl X x) (hm : X.mg x = some (.ref f)) (hk : PySem.W.keepIn X.K (.ref f) = true) (hb : Binds X.K fd [y] []) (ha : PA (X.suite a ((a, oe) :: pn)) [e] t) (hdb : (x == ("__debug__" : Str)) = false := by decide)
    (he : starEach [e] X.env = (false, eval e X.env) :: starEach [] X.env := by rfl) (hpl : (backTo pos (starEach [] X.env)).any (·.1) = false := by rfl) : PE (X.suite a ((a, oe) :: pn)) (.Call (.Name x q) [e] [] pos) (tCallE a ex d R t) :=
  pe_callE (X := X.suite a ((a, oe) :: pn)) (p := (a, oe)) F (List.Mem.head _) (hot_suite hz hf) (hz.1.trans hc) hz.2.1 (roomE hr) hg hm hk hb ha hdb he hpl
end Bt
namespace Bt
open PySem L2
theorem o_dn {n b k : L2.St → Hp → Prop} {w : VK} {σ : L2.St} {H : Hp} (h : n σ H) : (Ends.mk n w b k).nx σ H := h
end Bt
namespace Bt
open PySem L2
theorem RetE.up {d : Eds} {e : Er} {H H' : Hp} {E : XK} (k : RetE d e H E) (x : Ex H H') : RetE d e H' E := by
  cases e <;> first
    | exact fun H2 h => k H2 (x.trans h)
    | exact fun H2 a ha h => k H2 a (x.back ha) (x.trans h)
end Bt
namespace Bt
open PySem L2
/-! a refusal with its own dict, caught: the dict is laid in the frame -/
theorem RetE.byX {d : Eds} {e : Er} {H : Hp} {E : XK} (h : ∀ H' dd, Ex H H' → XFl e dd H' → (∀ x, dd = some x → H x = none) → E (.ref (d.at e.k)) dd H') : RetE d e H E := by
  cases e <;> first
    | exact fun H' x => h H' none x rfl (fun _ z => nomatch z)
    | exact fun H' a ha x q => h H' (some a) x ⟨a, rfl, q⟩ (fun y z => by cases z; exact ha)
theorem Own.growX {R H H' : Hp} {L : List Cell} {e : Er} {dd : Option Addr} (O : Own R H L) (x : Ex H H') (hX : XFl e dd H') (hn : ∀ y, dd = some y → H y = none) : ∃ R', Own R' H' L ∧ Ex R R' ∧ XFl e dd R' := by
  obtain ⟨R', O', e1, e2⟩ := O.grow x
  refine ⟨R', O', e1, ?_⟩
  cases e <;> first
    | exact hX
    | (obtain ⟨a, h1, h2⟩ := hX
       exact ⟨a, h1, e2 R (Ex.refl R) _ _ (ovr_mk (.inr (hn a h1)) h2)⟩)
end Bt

set_option Elab.async false
set_option linter.all false
set_option maxRecDepth 100000
set_option maxHeartbeats 4000000
/-! Refusals that are made of a whole number: their own __init__, raised where nothing is handled. -/
namespace Bt
open PySem L2 PyProof.Rows
/-- R.__init__(self, ..), R an own class that takes it from ValueError -/
theorem pe_rinit {X : Cx} {x : Str} {R : Addr} {e : Expr} {es : List Expr} {ta : TA} {p1 p2 pos : Pos} {pl : Sem Bool} (hg : Gl X x) (hm : X.mg x = some (.ref R))
    (ga : PySem.W.specialIn X.K (.ref R) "__getattribute__" = some (some (.builtin "type.__getattribute__"))) (rd : PySem.W.readsIn X.K R (.type "type") = true)
    (vV : PySem.W.findCls X.K (.ref R) (.type "type") "__init__" = some (.val (.builtin "ValueError.__init__"))) (ha : PA X (e :: es) ta)
    (hc : eval (.Call (.Attribute (.Name x p1) "__init__" p2) (e :: es) [] pos) X.env = (do
      let ov ← eval (.Name x p1) X.env
      standAt p2.atName
      let (f, first) ← holding [ov] (getMethod ov "__init__" pl)
      callWith pos f first (backTo pos (starEach (e :: es) X.env)) (backToKw pos (keywordEach [] X.env))) := by rfl)
    (hdb : (x == ("__debug__" : Str)) = false := by decide)
    (he : starEach (e :: es) X.env = (false, eval e X.env) :: starEach es X.env := by rfl) (hpl : (backTo pos (starEach es X.env)).any (·.1) = false := by rfl) :
    PE X (.Call (.Attribute (.Name x p1) "__init__" p2) (e :: es) [] pos) (tVeI X.K ta) := by
  refine ⟨fun pins s σ H Q I h => ?_⟩
  refine PySem.W.methodCall_KW (ld_glob I hg hm ?_ hdb) hc
  refine PySem.W.method_cls I.kIn ga (PySem.W.cls_value I.kIn rd vV (by decide +kernel) ?_)
  refine PyProof.Rows.callWith_method1 (thn (ha.run pos pins _ σ H _ (I.tok _) h) fun us s1 ⟨vs, H1, I1, r1, a, C, ws, ev, hl, T, ea, q⟩ => ?_) he hpl
  subst ev
  cases r1 with
  | @cons _ u0 _ ur ra rw' =>
    obtain rfl : u0 = Value.ref a := ra
    have hlen : ur.length ≤ sizeLine := by
      rw [← Paired.length rw', sizeLine_eq]
      omega
    exact oinit_ok T I1 ea hlen fun s' J => ⟨.non, H1, J, rfl, q⟩
/-- C(e, ..) where nothing is handled, its context None -/
theorem pmk_initN {X : Cx} {CX : CXT} {x : Str} {e : Expr} {es : List Expr} {ta : TA} {p pos : Pos} {C fI : Addr} {k : Nat} {fd : FuncData} {ps : List Str} {sp : Sp} (T : OexC X.K C) (iC : PySem.W.findIn X.K (.ref C) "__init__" = some (some (.ref fI))) (tI : PySem.W.typeIn X.K (.ref fI) = some (.type "function"))
    (F1 : FnOk X.prog X.w X.K X.mg X.base CX k fI fd ps sp) (hr : Room (k + 1) X.A) (hb : Binds X.K fd ps []) (hx : Passes CX X (fun _ _ _ => False)) (hg : Gl X x) (hm : X.mg x = some (.ref C)) (ha : PA X (e :: es) ta)
    (hdb : (x == ("__debug__" : Str)) = false := by decide) (he : starEach (e :: es) X.env = (false, eval e X.env) :: starEach es X.env := by rfl) (hpl : (backTo pos (starEach es X.env)).any (·.1) = false := by rfl) :
    L2N.PMk X (.Call (.Name x p) (e :: es) [] pos) (tMkO C sp [] ta) := by
  intro pins s σ H Q I h
  obtain ⟨nm, q, N, bs, bm, sn, sub, ab, col, dd, k0, k1, k2, k3, k5, hC, hbm⟩ := T.cls
  refine wpAny_Call_Name_kw (ld_glob I hg hm ?_ hdb)
  refine PySem.W.callWith_K (h₀ := X.base) I.ok.mod.kin T.kC (thn (ha.run pos pins s σ H _ I h) fun us s1 ⟨vs, H1, I1, r1, hz, q1⟩ => ⟨I1.kIn, ?_⟩) he hpl
  obtain ⟨hp, g, dr, tk, os⟩ := s1
  have hsz : hp.objs.size ≤ hp.objs.size + 1 := Nat.le_succ _
  have hq := q1 (hp.objs.size + 1) (I1.hok.fresh hsz)
  rw [List.append_nil] at hq
  have kk : ∀ b o, hp.get? b = some o → ((hp.push (PySem.W.kdv_tup us)).push (PySem.HandSPX.excO C hp.objs.size)).get? b = some o := fun b o z => Heap.get?_push_of_some _ (Heap.get?_push_of_some _ z)
  have I2 : Inv X pins σ (upd H1 (hp.objs.size + 1) (exo (hp.objs.size + 1) C none)) ⟨(hp.push (PySem.W.kdv_tup us)).push (PySem.HandSPX.excO C hp.objs.size), g, dr, tk, os⟩ :=
    I1.laid (t' := tk) (a := hp.objs.size + 1) (o := exo (hp.objs.size + 1) C none) (h' := (hp.push (PySem.W.kdv_tup us)).push (PySem.HandSPX.excO C hp.objs.size)) kk hsz (exo_ok (by heap_get))
  have r2 : Vals (V.ref (hp.objs.size + 1) :: vs) (Value.ref (hp.objs.size + 1) :: us) := .cons rfl r1
  have hl : (Value.ref (hp.objs.size + 1) :: us ++ []).length = ps.length := by
    have z := r2.length
    rw [F1.len _ _ _ _ hq] at z
    rw [List.append_nil]
    exact z.symm
  have hus : us.length ≤ sizeLine := by
    rw [← Paired.length r1, sizeLine_eq]
    omega
  have b2 := hb _ (Value.ref (hp.objs.size + 1) :: us) I2.kIn hl
  rw [List.append_nil] at b2
  refine wpAny_call (PySem.HandSPX.call_own PySem.F.excBase_ValueError (fun Y => PySem.HandSPX.refsVE_contains Y bm hbm) (I1.kIn _ _ hC) (PySem.W.looks_findIn I1.kIn iC) (fun self => PySem.W.bind_fn I1.kIn self tI) hus
    (codeAny_mono (F1.run _ X.stack _ _ ⟨Value.ref (hp.objs.size + 1) :: us, []⟩ (Value.ref (hp.objs.size + 1) :: us) _ _ (fun _ _ _ => False) (hr.make C us []) (I2.env0.make C us []) b2 r2 hq) fun r s' hq' => ?_))
  cases r with
  | error er => exact hx pins σ _ _ er s' I2 hq'
  | ok fl =>
    cases fl with
    | ret u =>
      obtain ⟨v, H2, os2, bare2, un2, hok2, rv, ev, d, fs, ea, ed, hd1, q2⟩ := hq'
      subst ev
      obtain ⟨h2, g2, d2, t2, os'⟩ := s'
      obtain ⟨t0, G, J, kG, ge, hoe, na⟩ := mk_end0 (d2 := d2) (t2 := t2) I1 hsz kk un2 hok2 os2 bare2 ea ed hd1
      exact ⟨rv, _, _, _, ⟨G, g2, d2, t2, os'⟩, _, .ref C, some d, rfl, J, kG, ge, hoe, ⟨rfl, rfl, fun vs z => by cases z; rfl⟩, rfl, rfl, na, rfl, bare2, raises_own T.exC T.tyC, q2⟩
    | next => exact False.elim hq'
    | brk => exact False.elim hq'
    | cont => exact False.elim hq'
/-- what such an __init__ promises: the field laid -/
def spI (C : Addr) (fld : Str) : Sp := fun vs H Q _ => ∃ (a : Addr) (i : Int), vs = [.ref a, .int i] ∧ H a = some (exo a C none) ∧ ∀ dx, H dx = none → dx ≠ a → Q .non (upd (upd H dx (exd dx [(fld, .int i)])) a (exo a C (some dx)))
def rMkI (C : Addr) (fld : Str) (vs : List V) (H1 : Hp) (Q : XK) : Prop := vs.length ≤ 1000 ∧ ∀ a, H1 a = none → spI C fld (.ref a :: (vs ++ [])) (upd H1 a (exo a C none))
  (fun v H2 => v = .non ∧ ∃ (d : Addr) (fs : List (Str × V)), H2 a = some (exo a C (some d)) ∧ H2 d = some (exd d fs) ∧ H1 d = none ∧ Q (.ref C) (some d) (upd (del H2 a) d (.xd fs))) (fun _ _ _ => False)
theorem o_mkI {C : Addr} {fld : Str} {t : TA} {σ : L2.St} {H : Hp} {Q : XK} (h : t σ H fun vs H1 => rMkI C fld vs H1 Q) : tMkO C (spI C fld) [] t σ H Q := h
theorem k_mkI {C : Addr} {fld : Str} {H1 : Hp} {Q : XK} {i : Int} (k : ∀ H' dx, H1 dx = none → Ex H1 H' → H' dx = some (.xd [(fld, .int i)]) → Q (.ref C) (some dx) H') : rMkI C fld [.int i] H1 Q := by
  refine ⟨by show 1 ≤ 1000; decide, fun a ha => ⟨a, i, rfl, upd_same, fun dx h1 h2 => ?_⟩⟩
  rw [upd_ne h2] at h1
  refine ⟨rfl, dx, _, upd_same, ?_, h1, k _ dx h1 (fun b o hb => ?_) upd_same⟩
  · rw [upd_ne h2, upd_same]
  · have hba : b ≠ a := fun z => by rw [z, ha] at hb; cases hb
    have hbd : b ≠ dx := fun z => by rw [z, h1] at hb; cases hb
    rw [upd_ne hbd, del_ne hba, upd_ne hba, upd_ne hbd, upd_ne hba]
    exact hb
/-- the facts of such a class -/
structure InF (K : PySem.W.Frag) (mg : Str → Option Value) (C R f : Addr) (fld : Str) : Prop where
  o : OexC K C
  i : PySem.W.findIn K (.ref C) "__init__" = some (some (.ref f))
  t : PySem.W.typeIn K (.ref f) = some (.type "function")
  n : PySem.W.findIn K (.ref C) fld = some none
  ga : PySem.W.specialIn K (.ref R) "__getattribute__" = some (some (.builtin "type.__getattribute__"))
  rd : PySem.W.readsIn K R (.type "type") = true
  v : PySem.W.findCls K (.ref R) (.type "type") "__init__" = some (.val (.builtin "ValueError.__init__"))
  mr : mg "RailError" = some (.ref R)
end Bt
namespace Bt
open PySem
/-- the statements of a class -/
def clsB (s : Stmt) : List Stmt := match s with
  | .ClassDef _ _ _ b _ _ _ _ _ _ _ => b
  | _ => []
end Bt

set_option linter.all false
set_option maxRecDepth 100000
set_option maxHeartbeats 1000000
/-! Plain facts about the mirror's words. -/
namespace Bt
open PySem L2
section
variable {α β S R : Type}
theorem bnd_some {a : α} {f : α → Option β} : bnd (some a) f = f a := rfl
theorem bnd_of {a : Option α} {x : α} {f : α → Option β} (h : a = some x) : bnd a f = f x := by rw [h]; rfl
theorem ltv_eq {a : α} {f : α → Option β} : ltv a f = f a := rfl
theorem ifB_t {a b : α} : ifB true a b = a := rfl
theorem ifB_f {a b : α} : ifB false a b = b := rfl
theorem ifB_dec {c : Prop} [Decidable c] {a b : α} : ifB (decide c) a b = if c then a else b := by
  by_cases h : c
  · rw [if_pos h, decide_eq_true h]; rfl
  · rw [if_neg h, decide_eq_false h]; rfl
theorem ifB_ite {c : Bool} {a b : α} : ifB c a b = if c = true then a else b := by cases c <;> rfl
theorem fin_nx {s : S} {rest : S → Option R} : fin (some (.nx s)) rest = rest s := rfl
theorem fin_rt {r : R} {rest : S → Option R} : fin (some (.rt r)) rest = some r := rfl
theorem loopM_ok {f : α → S → Option S} (I : List α → S → Prop) (hs : ∀ x r s, I (x :: r) s → ∃ s', f x s = some s' ∧ I r s') : ∀ (xs : List α) (s : S), I xs s → ∃ out, loopM f xs s = some out ∧ I [] out
  | [], s, h => ⟨s, rfl, h⟩
  | x :: r, s, h => by
    obtain ⟨s', h1, h2⟩ := hs x r s h
    obtain ⟨out, h3, h4⟩ := loopM_ok I hs r s' h2
    exact ⟨out, by show bnd (f x s) (loopM f r) = some out; rw [h1]; exact h3, h4⟩
theorem loopF_ok {f : α → S → Option (Fl S R)} (I : List α → S → Prop) (hs : ∀ x r s, I (x :: r) s → ∃ s', f x s = some (.nx s') ∧ I r s') : ∀ (xs : List α) (s : S), I xs s → ∃ out, loopF f xs s = some (.nx out) ∧ I [] out
  | [], s, h => ⟨s, rfl, h⟩
  | x :: r, s, h => by
    obtain ⟨s', h1, h2⟩ := hs x r s h
    obtain ⟨out, h3, h4⟩ := loopF_ok I hs r s' h2
    exact ⟨out, by show bnd (f x s) (contF (loopF f r)) = some (.nx out); rw [h1]; exact h3, h4⟩
/-- a search that finds nothing -/
theorem loopF_unit {f : α → Unit → Option (Fl Unit R)} {xs : List α} (h : ∀ x ∈ xs, f x () = some (.nx ())) : loopF f xs () = some (.nx ()) := by
  induction xs with
  | nil => rfl
  | cons x r ih =>
    show bnd (f x ()) (contF (loopF f r)) = some (.nx ())
    rw [h x (List.Mem.head _)]
    exact ih fun y hy => h y (List.Mem.tail _ hy)
theorem compM_ok {f : α → Option β} {g : α → β} : ∀ (xs : List α) (acc : List β), (∀ x ∈ xs, f x = some (g x)) → acc.length + xs.length ≤ 16777216 → compM f xs acc = some (acc ++ xs.map g)
  | [], acc, _, _ => by simp [compM]
  | x :: r, acc, h, hz => by
    have hl : acc.length < 16777216 := by simp only [List.length_cons] at hz; omega
    have ih := compM_ok r (acc ++ [g x]) (fun y hy => h y (List.Mem.tail _ hy)) (by simp only [List.length_append, List.length_cons, List.length_nil] at hz ⊢; omega)
    show bnd (f x) (fun y => if acc.length < 16777216 then compM f r (acc ++ [y]) else none) = _
    rw [h x (List.Mem.head _), bnd_some, if_pos hl, ih]
    simp
/-- the elements' property alone -/
theorem compM_all {f : α → Option β} {P : β → Prop} : ∀ (xs : List α) (acc : List β), (∀ x ∈ xs, ∃ y, f x = some y ∧ P y) → acc.length + xs.length ≤ 16777216 → (∀ y ∈ acc, P y) → ∃ out, compM f xs acc = some out ∧ out.length = acc.length + xs.length ∧ ∀ y ∈ out, P y
  | [], acc, _, _, ha => ⟨acc, rfl, by simp, ha⟩
  | x :: r, acc, h, hz, ha => by
    obtain ⟨y, h1, h2⟩ := h x (List.Mem.head _)
    have hl : acc.length < 16777216 := by simp only [List.length_cons] at hz; omega
    obtain ⟨out, h3, h4, h5⟩ := compM_all r (acc ++ [y]) (fun y hy => h y (List.Mem.tail _ hy)) (by simp only [List.length_append, List.length_cons, List.length_nil] at hz ⊢; omega) (fun z hz => by
      rcases List.mem_append.mp hz with q | q
      · exact ha z q
      · rw [List.mem_singleton.mp q]; exact h2)
    refine ⟨out, ?_, by rw [h4]; simp only [List.length_append, List.length_cons, List.length_nil]; omega, h5⟩
    show bnd (f x) (fun y => if acc.length < 16777216 then compM f r (acc ++ [y]) else none) = _
    rw [h1, bnd_some, if_pos hl, h3]
theorem appG_ok {xs : List α} {y : α} (h : xs.length < 16777216) : appG xs y = some (xs ++ [y]) := grd_of h
theorem catG_ok {xs ys : List α} (h : xs.length + ys.length ≤ 16777216) : catG xs ys = some (xs ++ ys) := grd_of h
theorem ixN_nat' {n : Nat} {i : Int} (h0 : 0 ≤ i) (h1 : i < n) : ixN n i = some i.toNat := by
  unfold ixN
  rw [if_pos h0, if_pos h1]
theorem atI_ok {xs : List α} {i : Int} (h0 : 0 ≤ i) (h1 : i < xs.length) : atI xs i = xs[i.toNat]? := by
  unfold atI
  rw [ixN_nat' h0 h1]
  rfl
theorem atI_mem {xs : List α} {i : Int} (h0 : 0 ≤ i) (h1 : i < xs.length) : ∃ x, atI xs i = some x ∧ x ∈ xs := by
  have hn : i.toNat < xs.length := by omega
  exact ⟨xs[i.toNat], by rw [atI_ok h0 h1]; exact List.getElem?_eq_getElem hn, List.getElem_mem hn⟩
theorem setG_ok {xs : List α} {i : Int} {y : α} (h0 : 0 ≤ i) (h1 : i < xs.length) : setG xs i y = some (xs.set i.toNat y) := by
  unfold setG
  rw [ixN_nat' h0 h1]
theorem repG_ok {xs : List α} {k : Int} (h0 : 0 ≤ k) (h1 : k ≤ 1000000) (h2 : xs.length * k.toNat ≤ 16777216) : repG xs k = some (List.replicate k.toNat xs).flatten := grd_of ⟨by omega, by omega, h2⟩
end
theorem modG_ok {i j : Int} (h : 0 < j) : modG i j = some (i % j) := grd_of h
theorem log2_small {n k : Nat} (h : n < 2 ^ k) : n.log2 ≤ k := by
  by_cases h0 : n = 0
  · subst h0; rw [show Nat.log2 0 = 0 from by decide]; exact Nat.zero_le _
  · exact Nat.le_of_lt ((Nat.log2_lt h0).mpr h)
theorem mulG_ok {i j : Int} {a b : Nat} (h1 : i.natAbs < 2 ^ a) (h2 : j.natAbs < 2 ^ b) (h : a + b < 1000000) : mulG i j = some (i * j) := by
  refine grd_of ?_
  have := log2_small h1
  have := log2_small h2
  omega
theorem fdivG_ok {i j : Int} {b : Nat} (h : 0 < j) (h2 : j.natAbs < 2 ^ b) (hb : b < 9000) : fdivG i j = some (i / j) := by
  refine grd_of ⟨h, ?_⟩
  have := log2_small h2
  omega
theorem shrG_ok {i j : Int} (h : 0 ≤ j) : shrG i j = some (i / 2 ^ j.toNat) := grd_of h
theorem rng1_ok {j : Int} (h : j ≤ 1000000) (h0 : -1000000 ≤ j) : rng1 j = some (rangeI 0 j) := grd_of ⟨by omega, by omega⟩
theorem rng2_ok {i j : Int} (h : j ≤ 1000000) (h0 : -1000000 ≤ j) (h1 : -1000000 ≤ i) (h2 : i ≤ 1000000) : rng2 i j = some (rangeI i j) := grd_of ⟨by omega, by omega, by omega, by omega⟩
theorem mem_rangeI {i j x : Int} (h : x ∈ rangeI i j) : i ≤ x ∧ x < j := by
  unfold rangeI at h
  obtain ⟨n, hn, rfl⟩ := List.mem_map.mp h
  have := List.mem_range.mp hn
  omega
theorem rangeI_length (i j : Int) : (rangeI i j).length = (j - i).toNat := by simp [rangeI]
theorem rangeI_cons {i j : Int} (h : i < j) : rangeI i j = i :: rangeI (i + 1) j := by
  unfold rangeI
  have e : (j - i).toNat = (j - (i + 1)).toNat + 1 := by omega
  rw [e, List.range_succ_eq_map]
  simp only [List.map_cons, List.map_map]
  congr 1
  · simp
  · refine List.map_congr_left fun n _ => ?_
    simp only [Function.comp]
    omega
theorem rangeI_nil {i j : Int} (h : j ≤ i) : rangeI i j = [] := by
  unfold rangeI
  rw [show (j - i).toNat = 0 from by omega]
  rfl
/-- a loop over a range: the invariant by the number ahead -/
theorem loopM_rng {S : Type} {f : Int → S → Option S} (I : Int → S → Prop) {hi : Int} (hs : ∀ i s, i < hi → I i s → ∃ s', f i s = some s' ∧ I (i + 1) s') : ∀ (n : Nat) (lo : Int) (s : S), (hi - lo).toNat = n → lo ≤ hi → I lo s → ∃ out, loopM f (rangeI lo hi) s = some out ∧ I hi out
  | 0, lo, s, e, h, h0 => by
    have : lo = hi := by omega
    subst this
    rw [rangeI_nil (Int.le_refl _)]
    exact ⟨s, rfl, h0⟩
  | n + 1, lo, s, e, h, h0 => by
    rw [rangeI_cons (by omega)]
    obtain ⟨s', h1, h2⟩ := hs lo s (by omega) h0
    obtain ⟨out, h3, h4⟩ := loopM_rng I hs n (lo + 1) s' (by omega) (by omega) h2
    exact ⟨out, by show bnd (f lo s) _ = _; rw [h1]; exact h3, h4⟩
theorem loopF_rng {S R : Type} {f : Int → S → Option (Fl S R)} (I : Int → S → Prop) {hi : Int} (hs : ∀ i s, i < hi → I i s → ∃ s', f i s = some (.nx s') ∧ I (i + 1) s') : ∀ (n : Nat) (lo : Int) (s : S), (hi - lo).toNat = n → lo ≤ hi → I lo s → ∃ out, loopF f (rangeI lo hi) s = some (.nx out) ∧ I hi out
  | 0, lo, s, e, h, h0 => by
    have : lo = hi := by omega
    subst this
    rw [rangeI_nil (Int.le_refl _)]
    exact ⟨s, rfl, h0⟩
  | n + 1, lo, s, e, h, h0 => by
    rw [rangeI_cons (by omega)]
    obtain ⟨s', h1, h2⟩ := hs lo s (by omega) h0
    obtain ⟨out, h3, h4⟩ := loopF_rng I hs n (lo + 1) s' (by omega) (by omega) h2
    exact ⟨out, by show bnd (f lo s) _ = _; rw [h1]; exact h3, h4⟩
end Bt
namespace Bt
open PySem L2
theorem bits_le {i : Int} {n : Nat} (h : i.natAbs < 2 ^ n) : Builtin.Int.intBits i ≤ n := by
  unfold Builtin.Int.intBits
  split
  · exact Nat.zero_le _
  · rename_i h0
    have h1 : i.natAbs ≠ 0 := by simpa using h0
    have := (Nat.log2_lt h1).mpr h
    omega
theorem shlG_ok {i j : Int} {n : Nat} (h : i.natAbs < 2 ^ n) (h0 : 0 ≤ j) (h1 : (n : Int) + j ≤ 100000000) : shlG i j = some (i * 2 ^ j.toNat) := by
  refine grd_of ⟨h0, ?_⟩
  have := bits_le h
  omega
end Bt
namespace Bt
open PySem L2
theorem whileM_go {S : Type} {c : S → Option Bool} {f : S → Option S} {n : Nat} {s s' : S} (h1 : c s = some true) (h2 : f s = some s') : whileM c f (n + 1) s = whileM c f n s' := by
  show bnd (c s) (fun b => ifB b (bnd (f s) (whileM c f n)) (some s)) = _
  rw [h1, bnd_some, ifB_t, h2, bnd_some]
theorem whileM_stop {S : Type} {c : S → Option Bool} {f : S → Option S} {n : Nat} {s : S} (h1 : c s = some false) : whileM c f (n + 1) s = some s := by
  show bnd (c s) (fun b => ifB b (bnd (f s) (whileM c f n)) (some s)) = _
  rw [h1, bnd_some, ifB_f]
theorem loopM_go {α S : Type} {f : α → S → Option S} {x : α} {r : List α} {s s' : S} (h : f x s = some s') : loopM f (x :: r) s = loopM f r s' := by
  show bnd (f x s) (loopM f r) = _
  rw [h, bnd_some]
theorem loopF_go {α S R : Type} {f : α → S → Option (Fl S R)} {x : α} {r : List α} {s s' : S} (h : f x s = some (.nx s')) : loopF f (x :: r) s = loopF f r s' := by
  show bnd (f x s) (contF (loopF f r)) = _
  rw [h, bnd_some]
  rfl
end Bt
namespace Bt
open PySem L2
theorem compT_ok {α β : Type} {c : α → Option Bool} {f : α → Option β} {p : α → Bool} {g : α → β} : ∀ (xs : List α) (acc : List β), (∀ x ∈ xs, c x = some (p x)) → (∀ x ∈ xs, f x = some (g x)) → acc.length + xs.length ≤ 16777216 → compT c f xs acc = some (acc ++ (xs.filter p).map g)
  | [], acc, _, _, _ => by simp [compT]
  | x :: r, acc, h, k, hz => by
    simp only [List.length_cons] at hz
    show bnd (c x) (fun b => ifB b (bnd (f x) fun y => if acc.length < 16777216 then compT c f r (acc ++ [y]) else none) (compT c f r acc)) = _
    rw [h x (List.Mem.head _), bnd_some]
    cases e : p x with
    | true =>
      rw [ifB_t, k x (List.Mem.head _), bnd_some, if_pos (by omega), compT_ok r (acc ++ [g x]) (fun y hy => h y (List.Mem.tail _ hy)) (fun y hy => k y (List.Mem.tail _ hy)) (by simp; omega)]
      simp [e]
    | false =>
      rw [ifB_f, compT_ok r acc (fun y hy => h y (List.Mem.tail _ hy)) (fun y hy => k y (List.Mem.tail _ hy)) (by omega)]
      simp [e]
end Bt
namespace Bt
theorem bndO_ok {α β : Type} {y : α} {f : α → Option β} : bndO (some (.ok y)) f = f y := rfl
theorem bndR_ok {α β : Type} {y : α} {f : α → Option (Rs β)} : bndR (some (.ok y)) f = f y := rfl
theorem bndR_er {α β : Type} {e : Er} {f : α → Option (Rs β)} : bndR (some (.er e)) f = some (.er e) := rfl
theorem tryR_ok {α β : Type} {y : α} {f : α → β} {g : Er → β} : tryR (.ok y) f g = f y := rfl
theorem tryR_er {α β : Type} {e : Er} {f : α → β} {g : Er → β} : tryR (.er e) f g = g e := rfl
end Bt

set_option Elab.async false
set_option linter.all false
set_option maxRecDepth 100000
set_option maxHeartbeats 4000000
/-! Objects: what a def is handed to change, and gives back. -/
namespace Bt
open PySem L2
section
variable {R R' H H' H0 R0 Hb F : Hp} {L L' A B C : List Cell} {Bs Bs' Cs : List (List Cell)} {a p q : Addr} {o o' : HO} {Q : VK} {v : V} {D : Hp → V → List Cell → Prop} {α : Type}
/-- some of the blocks, by their places -/
theorem flat_mem {i : Nat} {b : List Cell} (h : Bs[i]? = some b) {c : Cell} (hc : c ∈ b) : c ∈ Bs.flatten := List.mem_flatten.mpr ⟨b, List.mem_of_getElem? h, hc⟩
theorem flat_nd : ∀ {Bs : List (List Cell)}, (Bs.flatten.map (·.1)).Nodup → ∀ {i j : Nat} {b b' : List Cell}, Bs[i]? = some b → Bs[j]? = some b' → i ≠ j → ∀ c ∈ b, ∀ d ∈ b', c.1 ≠ d.1
  | [], _, i, j, b, b', h, _, _ => by simp at h
  | x :: r, nd, i, j, b, b', h, h', n => by
    rw [List.flatten_cons, List.map_append] at nd
    obtain ⟨_, n2, n3⟩ := List.nodup_append.mp nd
    intro c hc d hd e
    cases i with
    | zero =>
      cases j with
      | zero => exact n rfl
      | succ j =>
        cases Option.some.inj h
        exact n3 _ (List.mem_map_of_mem (f := (·.1)) hc) _ (List.mem_map_of_mem (f := (·.1)) (flat_mem (by simpa using h') hd)) e
    | succ i =>
      cases j with
      | zero =>
        cases Option.some.inj h'
        exact n3 _ (List.mem_map_of_mem (f := (·.1)) hd) _ (List.mem_map_of_mem (f := (·.1)) (flat_mem (by simpa using h) hc)) e.symm
      | succ j => exact flat_nd n2 (by simpa using h) (by simpa using h') (fun z => n (by rw [z])) c hc d hd e
theorem flat_nd1 : ∀ {Bs : List (List Cell)}, (Bs.flatten.map (·.1)).Nodup → ∀ {i : Nat} {b : List Cell}, Bs[i]? = some b → (b.map (·.1)).Nodup
  | [], _, i, b, h => by simp at h
  | x :: r, nd, i, b, h => by
    rw [List.flatten_cons, List.map_append] at nd
    obtain ⟨n1, n2, _⟩ := List.nodup_append.mp nd
    cases i with
    | zero => cases Option.some.inj h; exact n1
    | succ i => exact flat_nd1 n2 (by simpa using h)
theorem Own.selB (O : Own R H Bs.flatten) (is : List Nat) (hd : is.Nodup) (e : is.map (fun i => Bs[i]?) = Bs'.map some) : Own R H Bs'.flatten := by
  have hm : ∀ c ∈ Bs'.flatten, c ∈ Bs.flatten := fun c hc => by
    obtain ⟨b, hb, hc⟩ := List.mem_flatten.mp hc
    have h1 : some b ∈ is.map (fun i => Bs[i]?) := by rw [e]; exact List.mem_map_of_mem hb
    obtain ⟨i, _, h2⟩ := List.mem_map.mp h1
    exact flat_mem h2 hc
  refine ⟨O.ex, fun c h => O.at_ c (hm c h), fun c h => O.fr c (hm c h), ?_⟩
  clear hm
  induction is generalizing Bs' with
  | nil =>
    cases Bs' with
    | nil => exact List.Pairwise.nil
    | cons c r => simp at e
  | cons i is ih =>
    cases Bs' with
    | nil => simp at e
    | cons b r =>
      simp only [List.map_cons, List.cons.injEq] at e
      obtain ⟨e1, e2⟩ := e
      obtain ⟨n1, n2⟩ := List.nodup_cons.mp hd
      rw [List.flatten_cons, List.map_append]
      refine List.nodup_append.mpr ⟨flat_nd1 O.nd e1, ih n2 e2, fun x hx y hy exy => ?_⟩
      obtain ⟨c, hc, rfl⟩ := List.mem_map.mp hx
      obtain ⟨d, hd', rfl⟩ := List.mem_map.mp hy
      obtain ⟨b', hb', hd'⟩ := List.mem_flatten.mp hd'
      have h1 : some b' ∈ is.map (fun i => Bs[i]?) := by rw [e2]; exact List.mem_map_of_mem hb'
      obtain ⟨j, hj, h2⟩ := List.mem_map.mp h1
      exact flat_nd O.nd e1 h2 (fun z => n1 (by rw [z]; exact hj)) c hc d hd' exy
/-- the same, told by what is left -/
def nthB : List (List Cell) → Nat → List Cell
  | [], _ => []
  | b :: _, 0 => b
  | _ :: r, n + 1 => nthB r n
def pickG (Bs : List (List Cell)) : List Nat → List (List Cell)
  | [] => []
  | i :: r => nthB Bs i :: pickG Bs r
theorem g1 {Bs : List (List Cell)} : pickG Bs [] = [] := rfl
theorem g2 {Bs : List (List Cell)} {i : Nat} {r : List Nat} : pickG Bs (i :: r) = nthB Bs i :: pickG Bs r := rfl
theorem g3 {b : List Cell} {r : List (List Cell)} : nthB (b :: r) 0 = b := rfl
theorem g4 {b : List Cell} {r : List (List Cell)} {n : Nat} : nthB (b :: r) (n + 1) = nthB r n := rfl
theorem nth_some : ∀ {Bs : List (List Cell)} {i : Nat}, i < Bs.length → Bs[i]? = some (nthB Bs i)
  | [], i, h => by simp at h
  | b :: r, 0, _ => rfl
  | b :: r, i + 1, h => by
    rw [List.getElem?_cons_succ]
    exact nth_some (by simpa using h)
theorem nth_none : ∀ {Bs : List (List Cell)} {i : Nat}, ¬ i < Bs.length → nthB Bs i = []
  | [], i, h => rfl
  | b :: r, 0, h => by simp at h
  | b :: r, i + 1, h => nth_none (Bs := r) (by simpa using h)
theorem pick_flat (Bs : List (List Cell)) : ∀ is : List Nat, (pickG Bs is).flatten = (pickG Bs (is.filter fun i => decide (i < Bs.length))).flatten
  | [] => rfl
  | i :: r => by
    rw [g2, List.flatten_cons, pick_flat Bs r, List.filter_cons]
    by_cases h : i < Bs.length
    · rw [decide_eq_true h, if_pos rfl, g2, List.flatten_cons]
    · rw [decide_eq_false h, if_neg (by simp), nth_none h, List.nil_append]
theorem pick_ok (Bs : List (List Cell)) : ∀ is : List Nat, (∀ i ∈ is, i < Bs.length) → is.map (fun i => Bs[i]?) = (pickG Bs is).map some
  | [], _ => rfl
  | i :: r, h => by
    rw [g2, List.map_cons, List.map_cons, nth_some (h i (List.Mem.head _)), pick_ok Bs r fun j hj => h j (List.Mem.tail _ hj)]
theorem Own.pkB (O : Own R H L) (Bs : List (List Cell)) (hB : L = Bs.flatten) (is : List Nat) (hd : is.Nodup) (e : (pickG Bs is).flatten = L') : Own R H L' := by
  subst hB
  subst e
  rw [pick_flat]
  exact O.selB _ (hd.filter _) (pick_ok Bs _ fun i hi => by
    obtain ⟨_, h⟩ := List.mem_filter.mp hi
    exact of_decide_eq_true h)
theorem Own.split (O : Own R H (Bs ++ Cs).flatten) : Own R H (Bs.flatten ++ Cs.flatten) := by
  rw [List.flatten_append] at O
  exact O
/-- blocks to the front, apart -/
theorem Own.cutB (O : Own R H Bs.flatten) (is : List Nat) (hd : is.Nodup) (e : is.map (fun i => Bs[i]?) = (Bs' ++ Cs).map some) : Own R H (Bs'.flatten ++ Cs.flatten) := (O.selB is hd e).split
theorem Own.asc (O : Own R H ((A ++ B) ++ C)) : Own R H (A ++ (B ++ C)) := by
  rw [List.append_assoc] at O
  exact O
/-- H without the cells -/
def hsub (H : Hp) (L : List Cell) : Hp := fun a => if a ∈ L.map (·.1) then none else H a
theorem hsub_nil : hsub H [] = H := rfl
theorem hsub_in {c : Cell} (h : c ∈ L) : hsub H L c.1 = none := by
  unfold hsub
  exact if_pos (List.mem_map_of_mem (f := (·.1)) h)
theorem hsub_ex : Ex (hsub H L) H := fun a u e => by
  unfold hsub at e
  split at e
  · cases e
  · exact e
theorem Own.subR (O : Own R H L) : Ex R (hsub H L) := fun a u e => by
  unfold hsub
  rw [if_neg (fun m => by
    obtain ⟨c, hc, e1⟩ := List.mem_map.mp m
    have := O.fr c hc
    rw [e1, e] at this
    cases this)]
  exact O.ex _ _ e
theorem Own.startX (O : Own R H L) : Own (hsub H L) H L := ⟨hsub_ex, O.at_, fun c h => hsub_in h, O.nd⟩
theorem Own.shrink (O : Own R H L) (e : Ex R' R) : Own R' H L := ⟨e.trans O.ex, O.at_, fun c h => e.back (O.fr c h), O.nd⟩
theorem Own.left (O : Own R H (A ++ B)) : Own R H A := O.sub (List.sublist_append_left A B)
theorem Own.right (O : Own R H (A ++ B)) : Own R H B := O.sub (List.sublist_append_right A B)
/-- what a def that changes things hands back: in what R0 knows or what is new; the cells L are its own to give back -/
def RetX (R0 Hb : Hp) (D : Hp → V → List Cell → Prop) (Q : VK) : Prop := ∀ v H' R' L', Ex Hb R' → Own R' H' L' → D (ovr R0 Hb R') v L' → Q v H'
abbrev DT := Hp → V → List Cell → Prop
def MonoD (D : DT) : Prop := ∀ F F' v L, Ex F F' → D F v L → D F' v L
/-- back from the call: the other cells are still there -/
theorem Own.back (O : Own R H (B ++ C)) (e : Ex (hsub H B) R') (O' : Own R' H' L') : ∃ R'', Own R'' H' (L' ++ C) ∧ Ex R R'' ∧ ∀ F, Ex F R → Ex (ovr F (hsub H B) R') R'' := by
  have nd := O.nd
  rw [List.map_append] at nd
  obtain ⟨ndB, ndC, dis⟩ := List.nodup_append.mp nd
  have hC : ∀ c ∈ C, R' c.1 = some c.2 := fun c hc => e _ _ (by
    unfold hsub
    rw [if_neg (fun m => dis _ m _ (List.mem_map_of_mem (f := (·.1)) hc) rfl)]
    exact O.at_ c (List.mem_append.mpr (.inr hc)))
  have hR : ∀ b u, R b = some u → R' b = some u := fun b u h => e _ _ (O.left.subR b u h)
  refine ⟨hsub R' C, ⟨hsub_ex.trans O'.ex, fun c hc => ?_, fun c hc => ?_, ?_⟩, fun b u h => ?_, fun F hF b u h => ?_⟩
  · rcases List.mem_append.mp hc with hc | hc
    · exact O'.at_ c hc
    · exact O'.ex _ _ (hC c hc)
  · rcases List.mem_append.mp hc with hc | hc
    · exact hsub_ex.back (O'.fr c hc)
    · exact hsub_in hc
  · rw [List.map_append]
    refine List.nodup_append.mpr ⟨O'.nd, ndC, fun x hx y hy exy => ?_⟩
    subst exy
    obtain ⟨c, hc, e1⟩ := List.mem_map.mp hx
    obtain ⟨d, hd, e2⟩ := List.mem_map.mp hy
    have h1 := O'.fr c hc
    have h2 := hC d hd
    rw [e2, ← e1, h1] at h2
    cases h2
  · unfold hsub
    rw [if_neg (fun m => by
      obtain ⟨c, hc, e1⟩ := List.mem_map.mp m
      have := O.fr c (List.mem_append.mpr (.inr hc))
      rw [e1, h] at this
      cases this)]
    exact hR b u h
  · obtain ⟨hq, h1⟩ := ovr_some h
    unfold hsub
    rw [if_neg (fun m => ?_)]
    · exact h1
    · obtain ⟨c, hc, e1⟩ := List.mem_map.mp m
      rcases hq with hq | hq
      · cases hf : F b with
        | none => exact hq hf
        | some w =>
          have := O.fr c (List.mem_append.mpr (.inr hc))
          rw [e1, hF _ _ hf] at this
          cases this
      · have : hsub H B c.1 = some c.2 := by
          unfold hsub
          rw [if_neg (fun m => dis _ m _ (List.mem_map_of_mem (f := (·.1)) hc) rfl)]
          exact O.at_ c (List.mem_append.mpr (.inr hc))
        rw [e1, hq] at this
        cases this
theorem Own.retX (O : Own R H (B ++ C)) (m : MonoD D) (k : ∀ v H' R' L', Own R' H' (L' ++ C) → Ex R R' → D R' v L' → Q v H') : RetX R (hsub H B) D Q := fun v H' R' L' e O' d => by
  obtain ⟨R'', O'', e1, e2⟩ := O.back e O'
  exact k v H' R'' L' O'' e1 (m _ _ _ _ (e2 R (Ex.refl R)) d)
theorem Own.retXO (O : Own R H (B ++ C)) (m : MonoD D) (e0 : Ex H0 R) (k : ∀ v H' R' L', Own R' H' (L' ++ C) → Ex R R' → D (ovr R0 H0 R') v L' → Q v H') : RetX (ovr R0 H0 R) (hsub H B) D Q := fun v H' R' L' e O' d => by
  obtain ⟨R'', O'', e1, e2⟩ := O.back e O'
  refine k v H' R'' L' O'' e1 (m _ _ _ _ (fun b u h => ?_) d)
  have h1 := e2 (ovr R0 H0 R) ovr_ex _ _ h
  obtain ⟨hq, _⟩ := ovr_some h
  refine ovr_mk ?_ h1
  rcases hq with hq | hq
  · cases hz : ovr R0 H0 R b with
    | none => exact absurd hz hq
    | some w => exact (ovr_some hz).1
  · refine .inr ?_
    cases hz : H0 b with
    | none => rfl
    | some w =>
      have h3 := O.left.subR _ _ (e0 _ _ hz)
      rw [hq] at h3
      cases h3
theorem Own.inC {B C : List Cell} {c : Cell} (O : Own R H (B ++ C)) (h : c ∈ C) : hsub H B c.1 = some c.2 := by
  have nd := O.nd
  rw [List.map_append] at nd
  unfold hsub
  rw [if_neg (fun m => (List.nodup_append.mp nd).2.2 _ m _ (List.mem_map_of_mem (f := (·.1)) h) rfl)]
  exact O.at_ c (List.mem_append_right _ h)
/-! what is handed back -/
abbrev Ob (α : Type) := Hp → Addr → List Cell → α → Prop
def MonoO {α : Type} (B : Ob α) : Prop := ∀ F F' a L x, Ex F F' → B F a L x → B F' a L x
def dV (w : V) : DT := fun _ v L => L = [] ∧ v = w
def dLs (xs : List V) : DT := fun _ v L => ∃ p, v = .ref p ∧ L = [(p, .lst xs)]
def dTp (xs : List V) : DT := fun _ v L => ∃ p, v = .ref p ∧ L = [(p, .tup xs)]
def dP {α : Type} (P : Rp α) (x : α) : DT := fun F v L => L = [] ∧ P F v x
def dOb {α : Type} (B : Ob α) (x : α) : DT := fun F v L => ∃ a, v = .ref a ∧ B F a L x
def dX {α : Type} (B : Ob α) (a : Addr) (x : α) (D : DT) : DT := fun F v L => ∃ L1 L2, L = L1 ++ L2 ∧ B F a L1 x ∧ D F v L2
def dI {α : Type} (B : Ob α) (a : Addr) (x : α) : DT := fun F v L => v = .non ∧ B F a L x
theorem mdI {α : Type} {B : Ob α} {a : Addr} {x : α} (m : MonoO B) : MonoD (dI B a x) := fun _ _ _ _ e h => ⟨h.1, m _ _ _ _ _ e h.2⟩
def dK (L : List Cell) (D : DT) : DT := fun F v L' => ∃ L2, L' = L ++ L2 ∧ D F v L2
theorem mdK {L : List Cell} {D : DT} (n : MonoD D) : MonoD (dK L D) := fun _ _ _ _ e ⟨L2, h1, h3⟩ => ⟨L2, h1, n _ _ _ _ e h3⟩
theorem Own.whole {R0 Hs Hb H0 H : Hp} {L X : List Cell} (O0 : Own R0 Hs L) (hb : Hb = hsub Hs L) (eB : Ex Hb H0) (O : Own H0 H (L ++ X)) : Ex Hs H := fun a u h => by
  by_cases c : a ∈ L.map (·.1)
  · obtain ⟨d, hd, e⟩ := List.mem_map.mp c
    have h1 := O0.at_ d hd
    have h2 := O.at_ d (List.mem_append_left _ hd)
    subst e
    rw [h1] at h
    rw [h2, ← h]
  · refine O.ex _ _ (eB _ _ ?_)
    rw [hb]
    unfold hsub
    rw [if_neg c]
    exact h
theorem mdV {w : V} : MonoD (dV w) := fun _ _ _ _ _ h => h
theorem mdLs {xs : List V} : MonoD (dLs xs) := fun _ _ _ _ _ h => h
theorem mdTp {xs : List V} : MonoD (dTp xs) := fun _ _ _ _ _ h => h
theorem mdP {α : Type} {P : Rp α} {x : α} (m : Mono P) : MonoD (dP P x) := fun _ _ _ _ e h => ⟨h.1, m _ _ _ _ e h.2⟩
theorem mdOb {α : Type} {B : Ob α} {x : α} (m : MonoO B) : MonoD (dOb B x) := fun _ _ _ _ e ⟨a, h1, h2⟩ => ⟨a, h1, m _ _ _ _ _ e h2⟩
theorem mdX {α : Type} {B : Ob α} {a : Addr} {x : α} {D : DT} (m : MonoO B) (n : MonoD D) : MonoD (dX B a x D) := fun _ _ _ _ e ⟨L1, L2, h1, h2, h3⟩ => ⟨L1, L2, h1, m _ _ _ _ _ e h2, n _ _ _ _ e h3⟩
/-! a list of such -/
inductive All3 {α β γ : Type} (P : α → β → γ → Prop) : List α → List β → List γ → Prop
  | nil : All3 P [] [] []
  | cons {a : α} {b : β} {c : γ} {as : List α} {bs : List β} {cs : List γ} : P a b c → All3 P as bs cs → All3 P (a :: as) (b :: bs) (c :: cs)
theorem All3.mp {α β γ : Type} {P P' : α → β → γ → Prop} {as : List α} {bs : List β} {cs : List γ} (f : ∀ a b c, P a b c → P' a b c) (h : All3 P as bs cs) : All3 P' as bs cs := by
  induction h with
  | nil => exact .nil
  | cons h _ ih => exact .cons (f _ _ _ h) ih
theorem All3.len {α β γ : Type} {P : α → β → γ → Prop} {as : List α} {bs : List β} {cs : List γ} (h : All3 P as bs cs) : as.length = cs.length := by
  induction h with
  | nil => rfl
  | cons _ _ ih => simp [ih]
/-- the j-th of them, apart -/
theorem All3.at {α γ : Type} {P : α → List Cell → γ → Prop} {as : List α} {bs : List (List Cell)} {cs : List γ} (h : All3 P as bs cs) : ∀ {j : Nat} {c : γ}, cs[j]? = some c → ∃ a b bs1 bs2, as[j]? = some a ∧ P a b c ∧ bs = bs1 ++ b :: bs2 ∧ ∀ (P' : α → List Cell → γ → Prop) (b' : List Cell) (c' : γ), (∀ a b c, P a b c → P' a b c) → P' a b' c' → All3 P' as (bs1 ++ b' :: bs2) (cs.set j c') := by
  induction h with
  | nil => intro j c e; simp at e
  | @cons a b c as bs cs h t ih =>
    intro j d e
    cases j with
    | zero =>
      cases Option.some.inj e
      exact ⟨a, b, [], bs, rfl, h, rfl, fun P' b' c' m k => .cons k (t.mp m)⟩
    | succ j =>
      obtain ⟨a1, b1, bs1, bs2, h1, h2, h3, h4⟩ := ih (by simpa using e)
      exact ⟨a1, b1, b :: bs1, bs2, by simpa using h1, h2, by rw [h3]; rfl, fun P' b' c' m k => .cons (m _ _ _ h) (h4 P' b' c' m k)⟩
def oLs {α : Type} (B : Ob α) : Ob (List α) := fun F a L xs => ∃ as Ls, L.Perm ((a, HO.lst (as.map V.ref)) :: Ls.flatten) ∧ All3 (B F) as Ls xs
theorem moLs {α : Type} {B : Ob α} (m : MonoO B) : MonoO (oLs B) := fun _ _ _ _ _ e ⟨as, Ls, h1, h2⟩ => ⟨as, Ls, h1, h2.mp fun _ _ _ h => m _ _ _ _ _ e h⟩
theorem Own.lsAt {α : Type} {B : Ob α} {F : Hp} {a : Addr} {A L C : List Cell} {xs : List α} {i : Int} {x : α} (m : MonoO B) (O : Own R H (A ++ (L ++ C))) (h : oLs B F a L xs) (e : atI xs i = some x) :
    ∃ (vs : List V) (b : Addr) (L1 L2 : List Cell), H a = some (.lst vs) ∧ atI vs i = some (.ref b) ∧ vs.length = xs.length ∧ B F b L1 x ∧ (L1 ++ L2).Perm L ∧ Own R H (A ++ (L1 ++ (L2 ++ C))) ∧ (∀ F' L1' x', Ex F F' → B F' b L1' x' → ∀ ys, setG xs i x' = some ys → oLs B F' a (L1' ++ L2) ys) ∧ ∀ F' L1', Ex F F' → B F' b L1' x → oLs B F' a (L1' ++ L2) xs := by
  obtain ⟨as, Ls, hp, h3⟩ := h
  unfold atI at e
  cases ej : ixN xs.length i with
  | none => rw [ej] at e; cases e
  | some j =>
    rw [ej] at e
    obtain ⟨b, L1, bs1, bs2, h4, h5, h6, h7⟩ := h3.at e
    subst h6
    have hp2 : L.Perm (L1 ++ ((a, HO.lst (as.map V.ref)) :: (bs1.flatten ++ bs2.flatten))) := by
      refine hp.trans ?_
      rw [List.flatten_append, List.flatten_cons]
      refine List.Perm.trans ?_ (List.perm_middle.symm)
      refine List.Perm.cons _ ?_
      rw [← List.append_assoc, ← List.append_assoc]
      exact List.Perm.append_right _ List.perm_append_comm
    have cl : ∀ F' L1' x', Ex F F' → B F' b L1' x' → oLs B F' a (L1' ++ ((a, HO.lst (as.map V.ref)) :: (bs1.flatten ++ bs2.flatten))) (xs.set j x') := fun F' L1' x' ex hb => by
      refine ⟨as, bs1 ++ L1' :: bs2, ?_, h7 _ L1' x' (fun _ _ _ h => m _ _ _ _ _ ex h) hb⟩
      rw [List.flatten_append, List.flatten_cons]
      refine List.perm_middle.trans ?_
      refine List.Perm.cons _ ?_
      rw [← List.append_assoc, ← List.append_assoc]
      exact List.Perm.append_right _ List.perm_append_comm
    refine ⟨as.map V.ref, b, L1, (a, HO.lst (as.map V.ref)) :: (bs1.flatten ++ bs2.flatten), O.mem (List.mem_append_right _ (List.mem_append_left _ (hp.mem_iff.mpr (List.Mem.head _)))), ?_, by rw [List.length_map, h3.len], h5, hp2.symm, O.perm ?_, fun F' L1' x' ex hb ys hy => ?_, fun F' L1' ex hb => ?_⟩
    · unfold atI
      rw [List.length_map, h3.len, ej]
      show (as.map V.ref)[j]? = _
      rw [List.getElem?_map, h4]
      rfl
    · refine List.Perm.append_left _ ?_
      rw [← List.append_assoc]
      exact List.Perm.append_right _ hp2
    · unfold setG at hy
      rw [ej] at hy
      cases hy
      exact cl F' L1' x' ex hb
    · have := cl F' L1' x ex hb
      have e2 : xs.set j x = xs := by
        obtain ⟨h8, h9⟩ := List.getElem?_eq_some_iff.mp (show xs[j]? = some x from e)
        rw [← h9]
        exact List.set_getElem_self h8
      rw [e2] at this
      exact this
end
/-! tests with two sides, over any state -/
section
variable {J : Hp → Prop} {Q : VK} {σ : St} {H : Hp} {v x y : V}
theorem x_andJ {c d e : Bool} {tt uu : TT} {QB : Bool → Hp → Prop} (J : Hp → Prop) (h1 : ∀ Q1 : Bool → Hp → Prop, (∀ H', J H' → Q1 c H') → tt σ H Q1) (h2 : c = true → e = d ∧ ∀ H', J H' → ∀ Q2 : Bool → Hp → Prop, (∀ H'', J H'' → Q2 e H'') → uu σ H' Q2)
    (h3 : c = false → false = d) (k : ∀ H', J H' → QB d H') : tAnd tt uu σ H QB := by
  refine h1 _ fun H' O' => ?_
  cases c with
  | true =>
    obtain ⟨e1, g2⟩ := h2 rfl
    subst e1
    exact g2 H' O' QB k
  | false =>
    rw [← h3 rfl] at k
    exact k H' O'
theorem x_orJ {c d e : Bool} {tt uu : TT} {QB : Bool → Hp → Prop} (J : Hp → Prop) (h1 : ∀ Q1 : Bool → Hp → Prop, (∀ H', J H' → Q1 c H') → tt σ H Q1) (h2 : c = false → e = d ∧ ∀ H', J H' → ∀ Q2 : Bool → Hp → Prop, (∀ H'', J H'' → Q2 e H'') → uu σ H' Q2)
    (h3 : c = true → true = d) (k : ∀ H', J H' → QB d H') : tOr tt uu σ H QB := by
  refine h1 _ fun H' O' => ?_
  cases c with
  | false =>
    obtain ⟨e1, g2⟩ := h2 rfl
    subst e1
    exact g2 H' O' QB k
  | true =>
    rw [← h3 rfl] at k
    exact k H' O'
theorem x_andVJ {c d e : Bool} {tt uu : TE} (J : Hp → Prop) (h1 : ∀ Q1 : VK, (∀ H', J H' → Q1 (.bl c) H') → tt σ H Q1) (h2 : c = true → e = d ∧ ∀ H', J H' → ∀ Q2 : VK, (∀ H'', J H'' → Q2 (.bl e) H'') → uu σ H' Q2)
    (h3 : c = false → false = d) (k : ∀ H', J H' → Q (.bl d) H') : tAndV tt uu σ H Q := by
  refine h1 _ fun H' O' => ⟨_, rfl, ?_⟩
  cases c with
  | true =>
    obtain ⟨e1, g2⟩ := h2 rfl
    subst e1
    exact g2 H' O' Q k
  | false =>
    rw [← h3 rfl] at k
    exact k H' O'
theorem x_orVJ {c d e : Bool} {tt uu : TE} (J : Hp → Prop) (h1 : ∀ Q1 : VK, (∀ H', J H' → Q1 (.bl c) H') → tt σ H Q1) (h2 : c = false → e = d ∧ ∀ H', J H' → ∀ Q2 : VK, (∀ H'', J H'' → Q2 (.bl e) H'') → uu σ H' Q2)
    (h3 : c = true → true = d) (k : ∀ H', J H' → Q (.bl d) H') : tOrV tt uu σ H Q := by
  refine h1 _ fun H' O' => ⟨_, rfl, ?_⟩
  cases c with
  | false =>
    obtain ⟨e1, g2⟩ := h2 rfl
    subst e1
    exact g2 H' O' Q k
  | true =>
    rw [← h3 rfl] at k
    exact k H' O'
theorem x_ifJ {c : Bool} {tt : TT} {ta tb : TE} (J : Hp → Prop) (h1 : ∀ Q1 : Bool → Hp → Prop, (∀ H', J H' → Q1 c H') → tt σ H Q1) (h2 : c = true → x = v ∧ ∀ H', J H' → ∀ Q2 : VK, (∀ H'', J H'' → Q2 x H'') → ta σ H' Q2)
    (h3 : c = false → y = v ∧ ∀ H', J H' → ∀ Q2 : VK, (∀ H'', J H'' → Q2 y H'') → tb σ H' Q2) (k : ∀ H', J H' → Q v H') : tIf tt ta tb σ H Q := by
  refine h1 _ fun H' O' => ?_
  cases c with
  | true =>
    obtain ⟨e1, g2⟩ := h2 rfl
    subst e1
    exact g2 H' O' Q k
  | false =>
    obtain ⟨e1, g3⟩ := h3 rfl
    subst e1
    exact g3 H' O' Q k
end
theorem Own.unls {R H : Hp} {A L1 L2 L C : List Cell} (O : Own R H (A ++ (L1 ++ (L2 ++ C)))) (h : (L1 ++ L2).Perm L) : Own R H (A ++ (L ++ C)) := by
  refine O.perm (List.Perm.append_left _ ?_)
  rw [← List.append_assoc]
  exact List.Perm.append_right _ h
/-! fields -/
section
variable {K : PySem.W.Frag} {σ : St} {H R : Hp} {L : List Cell} {Q : VK} {a dx C : Addr} {fs : List (Str × V)} {v : V} {f : Str} {te tv : TE}
theorem o_fld (h : te σ H fun x H1 => ∃ a C dx fs v, x = .ref a ∧ H1 a = some (.ins C dx fs) ∧ Cls K C ∧ NoAttr K C f ∧ fs.lookup f = some v ∧ Q v H1) : tFld K te f σ H Q := h
def rSFld (K : PySem.W.Frag) (f : Str) (y x : V) (H : Hp) (QH : Hp → Prop) : Prop := ∃ a C dx fs, x = .ref a ∧ H a = some (.ins C dx fs) ∧ Cls K C ∧ NoAttr K C f ∧ fs.length < 1000 ∧ QH (upd H a (.ins C dx (putF f y fs)))
theorem o_sfld {n b k : St → Hp → Prop} {w : VK} (h : tv σ H fun y H1 => te σ H1 fun x H2 => rSFld K f y x H2 (n σ)) : sFld K te tv f (Ends.mk n w b k) σ H := h
theorem o_meth {m : Str} {sp : Sp} {dvs : List V} {E : XK} {t : TA} (h : te σ H fun x H1 => ∃ a dx fs, x = .ref a ∧ H1 a = some (.ins C dx fs) ∧ fs.lookup m = none ∧ t σ H1 fun vs H2 => sp (x :: (vs ++ dvs)) H2 Q E) : tMeth C m sp dvs E te t σ H Q := h
theorem o_make {sp : Sp} {dvs : List V} {E : XK} {t : TA} (h : t σ H fun vs H1 => ∀ x dx, H1 x = none → H1 dx = none → dx ≠ x → sp (.ref x :: (vs ++ dvs)) (upd (upd H1 dx (.own x)) x (.ins C dx [])) (fun v H2 => v = .non ∧ Q (.ref x) H2) E) : tMake C sp dvs E t σ H Q := h
theorem Own.mk2 (O : Own R H L) {x : Addr} (h1 : H x = none) (h2 : H dx = none) (h3 : dx ≠ x) : Own R (upd (upd H dx (.own x)) x (.ins C dx fs)) ((x, .ins C dx fs) :: (dx, .own x) :: L) :=
  Own.new (O.new h2) (by rw [upd_ne (Ne.symm h3)]; exact h1)
theorem k_make {sp : Sp} {vs : List V} {E : XK} {Q2 : Addr → Hp → Prop} (O : Own R H L) (k : ∀ x dx H', Own R H' ((x, .ins C dx []) :: (dx, .own x) :: L) → sp (.ref x :: vs) H' (fun v H2 => v = .non ∧ Q2 x H2) E) : ∀ x dx, H x = none → H dx = none → dx ≠ x → sp (.ref x :: vs) (upd (upd H dx (.own x)) x (.ins C dx [])) (fun v H2 => v = .non ∧ Q2 x H2) E := fun x dx h1 h2 h3 => k x dx _ (O.mk2 h1 h2 h3)
theorem putF_nil : putF f v [] = [(f, v)] := rfl
theorem putF_hit {x : V} {r : List (Str × V)} : putF f v ((f, x) :: r) = (f, v) :: r := by simp [putF]
theorem putF_skip {g : Str} {x : V} {r r' : List (Str × V)} (h : (g == f) = false) (e : putF f v r = r') : putF f v ((g, x) :: r) = (g, x) :: r' := by
  have : g ≠ f := by simpa using h
  simp [putF, this, e]
theorem lk_hit {r : List (Str × V)} : List.lookup f ((f, v) :: r) = some v := by simp [List.lookup]
theorem lk_skip {g : Str} {x : V} {r : List (Str × V)} {o : Option V} (h : (f == g) = false) (e : List.lookup f r = o) : List.lookup f ((g, x) :: r) = o := by simp [List.lookup, h, e]
theorem lk_nil : List.lookup f ([] : List (Str × V)) = none := rfl
theorem k_sfld {v' : V} {fs' : List (Str × V)} {QH : Hp → Prop} {g : HO → List Cell} (hl : H a = some (.ins C dx fs)) (c : Cls K C) (n : NoAttr K C f) (hz : fs.length < 1000) (ev : v = v') (e : putF f v' fs = fs') (hp : ∀ o', Own R (upd H a o') (g o')) (k : ∀ H', Own R H' (g (.ins C dx fs')) → QH H') :
    rSFld K f v (.ref a) H QH := by
  subst ev
  refine ⟨a, C, dx, fs, rfl, hl, c, n, hz, ?_⟩
  rw [e]
  exact k _ (hp _)
theorem Own.cv {L' : List Cell} (O : Own R H L) (e : L = L') : Own R H L' := e ▸ O
theorem Own.putB {A B : List Cell} {o o' : HO} (O : Own R H L) (e : L = A ++ (a, o) :: B) : Own R (upd H a o') (A ++ (a, o') :: B) := by
  subst e
  exact Own.put O
theorem cls_at {K : PySem.W.Frag} {C : Addr} (h1 : PySem.W.plainGet K C Str.empty = true) (h2 : PySem.W.hasDictIn K C = true) (h3 : PySem.W.plainOver K C = true) (h4 : PySem.W.findIn K (.ref C) "__setattr__" = some (some (.builtin "object.__setattr__"))) : Cls K C := ⟨h1, h2, h3, h4⟩
end
end Bt

set_option Elab.async false
set_option linter.all false
set_option maxRecDepth 100000
set_option maxHeartbeats 4000000
/-! Data of any form: lists and tuples of such, None, one of two kinds. -/
namespace Bt
open PySem L2
section
variable {α β γ δ : Type} {P : Rp α} {P' : Rp β} {P3 : Rp γ} {P4 : Rp δ} {F H R : Hp} {L : List Cell} {v w : V} {a p : Addr} {K : PySem.W.Frag} {Q : VK} {i : Int}
def rN : Rp Unit := fun _ v _ => v = .non
def rU (P : Rp α) (P' : Rp β) : Rp (α ⊕ β) := fun F v x => match x with
  | .inl a => P F v a
  | .inr b => P' F v b
theorem mN : Mono rN := fun _ _ _ _ _ h => h
theorem mU (m : Mono P) (n : Mono P') : Mono (rU P P') := fun F F' v x e h => by
  cases x with
  | inl a => exact m _ _ _ _ e h
  | inr b => exact n _ _ _ _ e h
theorem rO_some {x : Option α} {y : α} (h : rO P F v x) (e : x = some y) : P F v y := by subst e; exact h
theorem rO_mk {y : α} (h : P F v y) : rO P F v (some y) := h
def prL : α ⊕ β → Option α
  | .inl a => some a
  | .inr _ => none
def prR : α ⊕ β → Option β
  | .inl _ => none
  | .inr b => some b
theorem rU_l {x : α ⊕ β} {y : α} (h : rU P P' F v x) (e : prL x = some y) : P F v y := by
  cases x with
  | inl a => cases e; exact h
  | inr b => cases e
theorem rU_r {x : α ⊕ β} {y : β} (h : rU P P' F v x) (e : prR x = some y) : P' F v y := by
  cases x with
  | inl a => cases e
  | inr b => cases e; exact h
theorem rL_ref {x : List α} (h : rL P F v x) : ∃ p, v = .ref p := by obtain ⟨p, _, e, _⟩ := h; exact ⟨p, e⟩
theorem rT2_ref {x : α × β} (h : rT2 P P' F v x) : ∃ p, v = .ref p := by obtain ⟨p, _, _, e, _⟩ := h; exact ⟨p, e⟩
theorem rT3_ref {x : α × β × γ} (h : rT3 P P' P3 F v x) : ∃ p, v = .ref p := by obtain ⟨p, _, _, _, e, _⟩ := h; exact ⟨p, e⟩
theorem rT4_ref {x : α × β × γ × δ} (h : rT4 P P' P3 P4 F v x) : ∃ p, v = .ref p := by obtain ⟨p, _, _, _, _, e, _⟩ := h; exact ⟨p, e⟩
theorem rL_at {x : List α} (h : rL P F (.ref p) x) : ∃ vs, F p = some (.lst vs) ∧ All2 (P F) vs x := by
  obtain ⟨q, vs, e, h1, h2⟩ := h
  cases e
  exact ⟨vs, h1, h2⟩
theorem rT2_at {x : α × β} (h : rT2 P P' F (.ref p) x) : ∃ a b, F p = some (.tup [a, b]) ∧ P F a x.1 ∧ P' F b x.2 := by
  obtain ⟨q, a, b, e, h1, h2⟩ := h
  cases e
  exact ⟨a, b, h1, h2⟩
theorem rT3_at {x : α × β × γ} (h : rT3 P P' P3 F (.ref p) x) : ∃ a b c, F p = some (.tup [a, b, c]) ∧ P F a x.1 ∧ P' F b x.2.1 ∧ P3 F c x.2.2 := by
  obtain ⟨q, a, b, c, e, h1, h2⟩ := h
  cases e
  exact ⟨a, b, c, h1, h2⟩
theorem rT4_at {x : α × β × γ × δ} (h : rT4 P P' P3 P4 F (.ref p) x) : ∃ a b c d, F p = some (.tup [a, b, c, d]) ∧ P F a x.1 ∧ P' F b x.2.1 ∧ P3 F c x.2.2.1 ∧ P4 F d x.2.2.2 := by
  obtain ⟨q, a, b, c, d, e, h1, h2⟩ := h
  cases e
  exact ⟨a, b, c, d, h1, h2⟩
theorem fIr {F : Hp} {p : Addr} {xs : List Int} (h : rL rI F (.ref p) xs) : F p = some (.lst (xs.map V.int)) := by
  obtain ⟨q, e, h⟩ := fI h
  cases e
  exact h
theorem fBr {F : Hp} {p : Addr} {xs : List Bool} (h : rL rB F (.ref p) xs) : F p = some (.lst (xs.map V.bl)) := by
  obtain ⟨q, e, h⟩ := fB h
  cases e
  exact h
theorem fSr {F : Hp} {p : Addr} {xs : List Str} (h : rL rS F (.ref p) xs) : F p = some (.lst (xs.map V.str)) := by
  obtain ⟨q, e, h⟩ := fS h
  cases e
  exact h
/-! never None -/
def NN (P : Rp α) : Prop := ∀ F v x, P F v x → v ≠ .non
theorem nnI : NN rI := fun _ _ _ h => by rw [show _ = _ from h]; simp
theorem nnB : NN rB := fun _ _ _ h => by rw [show _ = _ from h]; simp
theorem nnS : NN rS := fun _ _ _ h => by rw [show _ = _ from h]; simp
theorem nnL : NN (rL P) := fun _ _ _ h => by obtain ⟨p, rfl⟩ := rL_ref h; simp
theorem nnT2 : NN (rT2 P P') := fun _ _ _ h => by obtain ⟨p, rfl⟩ := rT2_ref h; simp
theorem nnT3 : NN (rT3 P P' P3) := fun _ _ _ h => by obtain ⟨p, rfl⟩ := rT3_ref h; simp
theorem nnT4 : NN (rT4 P P' P3 P4) := fun _ _ _ h => by obtain ⟨p, rfl⟩ := rT4_ref h; simp
theorem nnU (m : NN P) (n : NN P') : NN (rU P P') := fun _ _ x h => by
  cases x with
  | inl a => exact m _ _ _ h
  | inr b => exact n _ _ _ h
theorem dec_non {x : Option α} (n : NN P) (h : rO P F v x) : decide (v = V.non) = x.isNone := by
  cases x with
  | none => rw [show v = _ from h]; rfl
  | some y => rw [decide_eq_false (n _ _ _ h)]; rfl
def rIsN : R2 := fun x y H Q => y = .non ∧ Q (.bl (decide (x = .non))) H
def rNotN : R2 := fun x y H Q => y = .non ∧ Q (.bl (!decide (x = .non))) H
theorem op_isNq {X : Cx} : OpR X (compareOp .Is) rIsN := op_isN
theorem op_notNq {X : Cx} : OpR X (compareOp .IsNot) rNotN := op_notN
theorem k_isN {x : Option α} (n : NN P) (h : rO P F v x) (q : Q (.bl x.isNone) H) : rIsN v .non H Q := ⟨rfl, by rw [dec_non n h]; exact q⟩
theorem k_notN {x : Option α} (n : NN P) (h : rO P F v x) (q : Q (.bl (!x.isNone)) H) : rNotN v .non H Q := ⟨rfl, by rw [dec_non n h]; exact q⟩
end
theorem k_isT {H : Hp} {Q : VK} (q : Q (.bl true) H) : rIsN .non .non H Q := ⟨rfl, by rw [decide_eq_true rfl]; exact q⟩
theorem k_isTn {H : Hp} {Q : VK} (q : Q (.bl (!true)) H) : rNotN .non .non H Q := ⟨rfl, by rw [decide_eq_true rfl]; exact q⟩
theorem k_isF {v : V} {H : Hp} {Q : VK} (q : Q (.bl false) H) (h : v ≠ .non := by simp) : rIsN v .non H Q := ⟨rfl, by rw [decide_eq_false h]; exact q⟩
theorem k_isFn {v : V} {H : Hp} {Q : VK} (q : Q (.bl (!false)) H) (h : v ≠ .non := by simp) : rNotN v .non H Q := ⟨rfl, by rw [decide_eq_false h]; exact q⟩
theorem room65 {k : Nat} {A : Around} (r : Room k A) : A.units + 65 < cLine := by have := r.un; omega
/-! lists of such, one's own or not -/
section
variable {α : Type} {P : V → α → Prop} {F H R : Hp} {L : List Cell} {v w : V} {a b p : Addr} {K : PySem.W.Frag} {Q : VK} {i : Int} {vs ws : List V} {xs ys zs : List α} {y : α} {σ : St}
theorem n_lenA (hs : SqL K H a vs) (ha : All2 P vs xs) (k : Q (.int (xs.length : Int)) H) : rLenQ K [.ref a] H Q := by
  unfold rLenQ
  exact ⟨a, vs, rfl, .inl hs, by rw [ha.len]; exact k⟩
theorem k_ixA (hs : SqL K H a vs) (ha : All2 P vs xs) (h : atI xs i = some y) (k : ∀ v, P v y → Q v H) : rIxL K (.ref a) (.int i) H Q := by
  obtain ⟨v, e1, hv⟩ := ha.at h
  exact ⟨a, vs, i, v, rfl, rfl, hs, e1, k v hv⟩
theorem k_appA {g : HO → List Cell} (hl : H a = some (.lst vs)) (ha : All2 P vs xs) (hp : ∀ o', Own R (upd H a o') (g o')) (h : appG xs y = some ys) (hv : P v y) (k : ∀ H', Own R H' (g (.lst (vs ++ [v]))) → All2 P (vs ++ [v]) ys → Q .non H') : rAppend (.ref a) [v] H Q := by
  obtain ⟨c, rfl⟩ := grdE h
  exact ⟨a, _, _, rfl, rfl, hl, by rw [ha.len]; exact c, k _ (hp _) (ha.snoc hv)⟩
theorem k_setA {g : HO → List Cell} {QH : Hp → Prop} (hl : H a = some (.lst vs)) (ha : All2 P vs xs) (hp : ∀ o', Own R (upd H a o') (g o')) (h : setG xs i y = some ys) (hv : P v y) (k : ∀ H' ws, Own R H' (g (.lst ws)) → All2 P ws ys → QH H') : rSetL (.ref a) (.int i) v H QH := by
  unfold setG at h
  cases e : ixN xs.length i with
  | none => rw [e] at h; cases h
  | some j =>
    rw [e] at h
    cases h
    exact ⟨a, _, i, j, rfl, rfl, hl, by rw [ha.len]; exact e, k _ _ (hp _) (ha.set hv j)⟩
theorem All2.cut (ha : All2 P vs xs) (lo hi : Option Int) : All2 P (cutV vs lo hi) (cutL xs lo hi) := by
  unfold cutV cutL
  rw [ha.len]
  exact (ha.drop _).take _
theorem k_cutA {lo hi : Option Int} (O : Own R H L) (hs : SqL K H a vs) (ha : All2 P vs xs) (k : ∀ p H' ws, Own R H' ((p, .lst ws) :: L) → All2 P ws (cutL xs lo hi) → Q (.ref p) H') : rSlL K (.ref a) lo hi H Q :=
  ⟨a, vs, rfl, hs, fun p hp => k p _ _ (O.new hp) (ha.cut lo hi)⟩
theorem k_catA (O : Own R H L) (h1 : H a = some (.lst vs)) (ha : All2 P vs xs) (h2 : H b = some (.lst ws)) (hb : All2 P ws ys) (h : catG xs ys = some zs) (k : ∀ p H' us, Own R H' ((p, .lst us) :: L) → All2 P us zs → Q (.ref p) H') : rCat (.ref a) (.ref b) H Q := by
  obtain ⟨c, rfl⟩ := grdE h
  exact ⟨a, b, _, _, rfl, rfl, h1, h2, by rw [ha.len, hb.len]; exact c, fun p hp => k p _ _ (O.new hp) (ha.app hb)⟩
theorem n_listA (O : Own R H L) (h : SqL K H a vs) (k : ∀ p H', Own R H' ((p, .lst vs) :: L) → Q (.ref p) H') : rListQ K [.ref a] H Q := n_list O h k
theorem k_forA {g : TG} {tb : TS} {D : Ends} (ha : All2 P vs xs) (J : List α → St → Hp → Prop) (h0 : J xs σ H) (hl : ∀ r σ H, J r σ H → SqL K H a vs)
    (hs : ∀ x v r σ H, P v x → J (x :: r) σ H → g v σ H fun σ2 H2 => tb { D with nx := J r, ct := J r, bk := D.nx } σ2 H2) (hd : ∀ σ H, J [] σ H → D.nx σ H) :
    ∃ W : Nat → Nat → St → Hp → Prop, (∃ m, W 0 m σ H) ∧ ∀ i m σ H, W i m σ H →
      ((Itl K a).stop i H ∧ D.nx σ H) ∨ ((Itl K a).go i H ∧ ∃ N : St → Hp → Prop, (∀ σ' H', N σ' H' → ∃ m', m' < m ∧ W (i + 1) m' σ' H') ∧ ∀ x H', (Itl K a).yld i H x H' → g x σ H' fun σ2 H2 => tb { D with nx := N, ct := N, bk := D.nx } σ2 H2) := by
  refine for_list (xs := vs) (fun i σ H => J (xs.drop i) σ H) h0 (fun i σ H _ => hl _ σ H) (fun i v σ H hi hJ => ?_) fun σ H hJ => ?_
  · have hlt : i < xs.length := by
      rw [← ha.len]
      exact (List.getElem?_eq_some_iff.mp hi).1
    obtain ⟨v', e1, e2⟩ := ha.get (List.getElem?_eq_getElem hlt)
    rw [hi] at e1
    cases e1
    rw [List.drop_eq_getElem_cons hlt] at hJ
    exact hs _ v _ σ H e2 hJ
  · rw [ha.len, List.drop_length] at hJ
    exact hd σ H hJ
theorem q_forA {j : Nat} {ts : TS} {n b k : St → Hp → Prop} {w : VK} (ha : All2 P vs xs) (J : List α → St → Hp → Prop) (h0 : J xs σ H) (hl : ∀ r σ H, J r σ H → SqL K H a vs)
    (hs : ∀ x v r σ H, P v x → J (x :: r) σ H → ts (Ends.mk (J r) w n (J r)) (σ.set j (some v)) H) (hd : ∀ σ H, J [] σ H → n σ H) :
    ∃ W : Nat → Nat → St → Hp → Prop, (∃ m, W 0 m σ H) ∧ ∀ i m σ H, W i m σ H →
      ((Itl K a).stop i H ∧ n σ H) ∨ ((Itl K a).go i H ∧ ∃ N : St → Hp → Prop, (∀ σ' H', N σ' H' → ∃ m', m' < m ∧ W (i + 1) m' σ' H') ∧ ∀ x H', (Itl K a).yld i H x H' → gName j x σ H' fun σ2 H2 => ts (Ends.mk N w n N) σ2 H2) :=
  k_forA (D := Ends.mk n w (fun _ _ => False) fun _ _ => False) (g := gName j) (tb := ts) ha J h0 hl hs hd
/-- for a, b in xs, its items pairs -/
theorem q_forA2 {α β : Type} {P : Rp α} {P' : Rp β} {F : Hp} {xs : List (α × β)} {i1 i2 : Nat} {ts : TS} {n b k : St → Hp → Prop} {w : VK} {KK : PySem.W.Frag} (ha : All2 (rT2 P P' F) vs xs) (J : List (α × β) → St → Hp → Prop) (h0 : J xs σ H) (hl : ∀ r σ H, J r σ H → SqL K H a vs) (hx : ∀ r σ H, J r σ H → Ex F H)
    (hs : ∀ x y u v r σ H, P F u x → P' F v y → J ((x, y) :: r) σ H → ts (Ends.mk (J r) w n (J r)) ((σ.set i1 (some u)).set i2 (some v)) H) (hd : ∀ σ H, J [] σ H → n σ H) :
    ∃ W : Nat → Nat → St → Hp → Prop, (∃ m, W 0 m σ H) ∧ ∀ i m σ H, W i m σ H →
      ((Itl K a).stop i H ∧ n σ H) ∨ ((Itl K a).go i H ∧ ∃ N : St → Hp → Prop, (∀ σ' H', N σ' H' → ∃ m', m' < m ∧ W (i + 1) m' σ' H') ∧ ∀ x H', (Itl K a).yld i H x H' → gTup KK 2 (gCons (gName i1) (gCons (gName i2) gNil)) x σ H' fun σ2 H2 => ts (Ends.mk N w n N) σ2 H2) :=
  k_forA (D := Ends.mk n w (fun _ _ => False) fun _ _ => False) (g := gTup KK 2 (gCons (gName i1) (gCons (gName i2) gNil))) (tb := ts) ha J h0 hl (fun x v r σ H hv hJ => by
    obtain ⟨q, u1, u2, rfl, h1, h2, h3⟩ := hv
    exact ⟨q, _, rfl, SqT.of (hx _ _ _ hJ _ _ h1), rfl, u1, _, rfl, u2, _, rfl, rfl, hs x.1 x.2 u1 u2 r σ H h2 h3 hJ⟩) hd
theorem q_forEA {i1 i2 : Nat} {ts : TS} {n b k : St → Hp → Prop} {w : VK} {KK : PySem.W.Frag} (ha : All2 P vs xs) (J : List (Int × α) → St → Hp → Prop) (h0 : J (enumI 0 xs) σ H) (hl : ∀ r σ H, J r σ H → SqL K H a vs) (hx : ∀ r σ H H', J r σ H → Ex H H' → J r σ H')
    (hs : ∀ j x v r σ H, P v x → J ((j, x) :: r) σ H → ts (Ends.mk (J r) w n (J r)) ((σ.set i1 (some (.int j))).set i2 (some v)) H) (hd : ∀ σ H, J [] σ H → n σ H) :
    ∃ W : Nat → Nat → St → Hp → Prop, (∃ m, W 0 m σ H) ∧ ∀ i m σ H, W i m σ H →
      ((Ite K a).stop i H ∧ n σ H) ∨ ((Ite K a).go i H ∧ ∃ N : St → Hp → Prop, (∀ σ' H', N σ' H' → ∃ m', m' < m ∧ W (i + 1) m' σ' H') ∧ ∀ x H', (Ite K a).yld i H x H' → gTup KK 2 (gCons (gName i1) (gCons (gName i2) gNil)) x σ H' fun σ2 H2 => ts (Ends.mk N w n N) σ2 H2) := by
  refine ⟨fun i m σ H => m = xs.length - i ∧ i ≤ xs.length ∧ J ((enumI 0 xs).drop i) σ H, ⟨xs.length, by simp, Nat.zero_le _, h0⟩, ?_⟩
  rintro i m σ H ⟨rfl, hi, hJ⟩
  have hS := hl _ σ H hJ
  by_cases hlt : i < xs.length
  · have e : xs[i]? = some xs[i] := List.getElem?_eq_getElem hlt
    obtain ⟨v', e1, hv⟩ := ha.get e
    have e2 := enumI_drop xs 0 i xs[i] e
    rw [e2] at hJ
    refine .inr ⟨⟨_, _, hS, e1⟩, J ((enumI 0 xs).drop (i + 1)), fun σ' H' hJ' => ⟨_, by omega, rfl, hlt, hJ'⟩, fun y H' hy => ?_⟩
    obtain ⟨T, x, rfl, hT, rfl, hq⟩ := hy
    have hxx := hq _ hS
    rw [e1] at hxx
    cases hxx
    refine ⟨T, _, rfl, SqT.of upd_same, rfl, _, _, rfl, _, _, rfl, rfl, ?_⟩
    have hJ2 := hx _ _ _ (upd H T (.tup [.int ((i : Nat) : Int), v'])) hJ (Ex.new hT)
    have e3 : ((0 + i : Nat) : Int) = (i : Int) := by omega
    rw [e3] at hJ2
    exact hs _ _ _ _ _ _ hv hJ2
  · have e : (enumI 0 xs).drop i = [] := List.drop_eq_nil_of_le (by rw [enumI_len]; omega)
    rw [e] at hJ
    exact .inl ⟨⟨_, hS, by rw [ha.len]; omega⟩, hd σ H hJ⟩
/-! comprehensions over such -/
theorem k_lcA {g : TG} {tt : TT} {te : TE} {us : List Nat} {D : Addr} {Qd : Hp → Prop} (ha : All2 P vs xs) (J : List α → Hp → Prop) (h0 : J xs (upd H D (.lst []))) (hl : ∀ r H, J r H → SqL K H a vs)
    (hs : ∀ x v r H, P v x → J (x :: r) H → g v (wipe σ us) H fun σ2 H2 => wipe σ2 us = wipe σ us ∧ tt σ2 H2 fun b H3 => if b = true then te σ2 H3 fun y H4 => ∃ acc, H4 D = some (.lst acc) ∧ acc.length < sizeLine ∧ J r (upd H4 D (.lst (acc ++ [y]))) else J r H3) (hd : ∀ H, J [] H → Qd H) :
    ∃ W : Nat → Nat → Hp → Prop, (∃ m, W 0 m (upd H D (.lst []))) ∧ ∀ i m H, W i m H →
      ((Itl K a).stop i H ∧ Qd H) ∨ ((Itl K a).go i H ∧ ∃ Nx : Hp → Prop, (∀ H', Nx H' → ∃ m', m' < m ∧ W (i + 1) m' H') ∧ ∀ x H', (Itl K a).yld i H x H' → g x (wipe σ us) H' fun σ2 H2 => wipe σ2 us = wipe σ us ∧ tt σ2 H2 fun b H3 =>
        if b = true then te σ2 H3 fun y H4 => ∃ acc, H4 D = some (.lst acc) ∧ acc.length < sizeLine ∧ Nx (upd H4 D (.lst (acc ++ [y]))) else Nx H3) := by
  refine lc_list (xs := vs) (fun i H => J (xs.drop i) H) h0 (fun i H _ => hl _ H) (fun i v H hi hJ => ?_) fun H hJ => ?_
  · have hlt : i < xs.length := by
      rw [← ha.len]
      exact (List.getElem?_eq_some_iff.mp hi).1
    obtain ⟨v', e1, e2⟩ := ha.get (List.getElem?_eq_getElem hlt)
    rw [hi] at e1
    cases e1
    rw [List.drop_eq_getElem_cons hlt] at hJ
    exact hs _ v _ H e2 hJ
  · rw [ha.len, List.drop_length] at hJ
    exact hd H hJ
end
section
variable {α β : Type} [DecidableEq α] [DecidableEq β]
def optD (d : α → PyData) : Option α → PyData
  | none => .none
  | some x => d x
def deO {P : Rp α} (e : De P) (hn : ∀ a, PyData.eqv .none (e.d a) = false ∧ PyData.eqv (e.d a) .none = false) : De (rO P) where
  d := optD e.d
  dp := fun K F v x h => by
    cases x with
    | none => rw [show v = V.non from h]; exact .non
    | some y => exact e.dp K F v y h
  ok := fun x => by
    cases x with
    | none => rfl
    | some y => exact e.ok y
  n := e.n
  dep := fun x => by
    cases x with
    | none => exact Nat.zero_le _
    | some y => exact e.dep y
  eq := fun x y => by
    cases x with
    | none =>
      cases y with
      | none => simp [optD, PyData.eqv]
      | some b => simp only [optD]; rw [(hn b).1]; simp
    | some a =>
      cases y with
      | none => simp only [optD]; rw [(hn a).2]; simp
      | some b => simp only [optD]; rw [e.eq a b]; simp
def sumD (d : α → PyData) (f : β → PyData) : α ⊕ β → PyData
  | .inl x => d x
  | .inr x => f x
def deU {P : Rp α} {Q : Rp β} (e : De P) (f : De Q) (hn : ∀ a b, PyData.eqv (e.d a) (f.d b) = false ∧ PyData.eqv (f.d b) (e.d a) = false) : De (rU P Q) where
  d := sumD e.d f.d
  dp := fun K F v x h => by
    cases x with
    | inl y => exact e.dp K F v y h
    | inr y => exact f.dp K F v y h
  ok := fun x => by
    cases x with
    | inl y => exact e.ok y
    | inr y => exact f.ok y
  n := max e.n f.n
  dep := fun x => by
    cases x with
    | inl y => have := e.dep y; simp only [sumD]; omega
    | inr y => have := f.dep y; simp only [sumD]; omega
  eq := fun x y => by
    cases x with
    | inl a =>
      cases y with
      | inl b => simp only [sumD]; rw [e.eq a b]; simp
      | inr b => simp only [sumD]; rw [(hn a b).1]; simp
    | inr a =>
      cases y with
      | inl b => simp only [sumD]; rw [(hn b a).2]; simp
      | inr b => simp only [sumD]; rw [f.eq a b]; simp
end
section
variable {α : Type} [DecidableEq α] {P : Rp α} {K : PySem.W.Frag} {F F' H : Hp} {v : V} {x : α} {a : Addr} {vs : List V} {xs : List α} {Q : VK}
theorem any_mem (e : De P) (x : α) : ∀ xs : List α, ((xs.map e.d).any fun z => PyData.eqv z (e.d x)) = decide (x ∈ xs)
  | [] => rfl
  | y :: r => by
    rw [List.map_cons, List.any_cons, any_mem e x r, e.eq y x]
    by_cases h : y = x
    · subst h; simp
    · have h2 : ¬ x = y := fun q => h q.symm
      simp [h, h2]
theorem k_inN (e : De P) (m : Mono P) (h : e.n ≤ 60) (h1 : P F v x) (e1 : Ex F H) (hs : SqL K H a vs) (ha : All2 (P F') vs xs) (e2 : Ex F' H) (k : Q (.bl (decide (x ∈ xs))) H) : rInD K v (.ref a) H Q :=
  ⟨_, xs.map e.d, e.dp K H _ _ (m _ _ _ _ e1 h1), .lst hs (de_all e (mA m e2 ha)), sh_de e (by omega) x, sh_de (deL e) (by show e.n + 1 ≤ 64; omega) xs, by rw [any_mem]; exact k⟩
theorem k_niN (e : De P) (m : Mono P) (h : e.n ≤ 60) (h1 : P F v x) (e1 : Ex F H) (hs : SqL K H a vs) (ha : All2 (P F') vs xs) (e2 : Ex F' H) (k : Q (.bl (!decide (x ∈ xs))) H) : rNotInD K v (.ref a) H Q :=
  ⟨_, xs.map e.d, e.dp K H _ _ (m _ _ _ _ e1 h1), .lst hs (de_all e (mA m e2 ha)), sh_de e (by omega) x, sh_de (deL e) (by show e.n + 1 ≤ 64; omega) xs, by rw [any_mem]; exact k⟩
end
/-! the same where there are texts: whether they may be laid is asked -/
structure Dq {α : Type} [DecidableEq α] (P : Rp α) where
  d : α → PyData
  dp : ∀ (K : PySem.W.Frag) F v a, P F v a → Dp K F v (d a)
  n : Nat
  dep : ∀ a, PyData.depth (d a) ≤ n
  eq : ∀ a b, PyData.eqv (d a) (d b) = decide (a = b)
def okD {α : Type} (d : α → PyData) (x : α) : Option Unit := grd (PyData.canLay0 (d x) = true) ()
theorem okDE {α : Type} {d : α → PyData} {x : α} {u : Unit} (h : okD d x = some u) : PyData.canLay0 (d x) = true := (grdE h).1
section
variable {α β γ δ : Type} [DecidableEq α] [DecidableEq β] [DecidableEq γ] [DecidableEq δ]
def De.q {P : Rp α} (e : De P) : Dq P := ⟨e.d, e.dp, e.n, e.dep, e.eq⟩
def dqS : Dq rS where
  d := PyData.str
  dp := fun K F v a h => by rw [show v = V.str a from h]; exact .str a
  n := 0
  dep := fun _ => Nat.le_refl _
  eq := fun a b => by
    simp only [PyData.eqv]
    by_cases h : a = b
    · subst h; simp
    · rw [decide_eq_false h]; simpa using h
theorem dq_all {P : Rp α} (e : Dq P) {K : PySem.W.Frag} {F : Hp} : ∀ {vs : List V} {xs : List α}, All2 (P F) vs xs → DpAll K F vs (xs.map e.d)
  | _, _, .nil => .nil
  | _, _, .cons h t => .cons (e.dp K F _ _ h) (dq_all e t)
theorem dqdep_all {P : Rp α} (e : Dq P) : ∀ xs : List α, PyData.depthAll (xs.map e.d) ≤ e.n
  | [] => by simp [PyData.depthAll]
  | x :: r => by
    have h1 := e.dep x
    have h2 := dqdep_all e r
    simp only [List.map_cons, PyData.depthAll]
    omega
theorem dqeq_all {P : Rp α} (e : Dq P) : ∀ xs ys : List α, PyData.eqvAll (xs.map e.d) (ys.map e.d) = decide (xs = ys)
  | [], [] => by simp [PyData.eqvAll]
  | [], y :: s => by simp [PyData.eqvAll]
  | x :: r, [] => by simp [PyData.eqvAll]
  | x :: r, y :: s => by simp only [List.map_cons, PyData.eqvAll, e.eq x y, dqeq_all e r s, List.cons.injEq, Bool.decide_and]
def dqL {P : Rp α} (e : Dq P) : Dq (rL P) where
  d := fun xs => .list (xs.map e.d)
  dp := fun K F v xs ⟨p, vs, h1, h2, h3⟩ => by
    subst h1
    exact .lst (SqL.of h2) (dq_all e h3)
  n := e.n + 1
  dep := fun xs => by
    have := dqdep_all e xs
    simp only [PyData.depth]
    omega
  eq := fun xs ys => by simp only [PyData.eqv]; exact dqeq_all e xs ys
def dqT2 {P : Rp α} {Q : Rp β} (e : Dq P) (f : Dq Q) : Dq (rT2 P Q) where
  d := fun x => .tuple [e.d x.1, f.d x.2]
  dp := fun K F v x ⟨p, a, b, h1, h2, h3, h4⟩ => by
    subst h1
    exact .tup (SqT.of h2) (.cons (e.dp K F _ _ h3) (.cons (f.dp K F _ _ h4) .nil))
  n := max e.n f.n + 1
  dep := fun x => by
    have h1 := e.dep x.1
    have h2 := f.dep x.2
    simp only [PyData.depth, PyData.depthAll]
    omega
  eq := fun x y => by
    obtain ⟨x1, x2⟩ := x
    obtain ⟨y1, y2⟩ := y
    simp only [PyData.eqv, PyData.eqvAll, e.eq, f.eq, Prod.mk.injEq, Bool.decide_and, Bool.and_true]
def dqT3 {P : Rp α} {Q : Rp β} {R : Rp γ} (e : Dq P) (f : Dq Q) (g : Dq R) : Dq (rT3 P Q R) where
  d := fun x => .tuple [e.d x.1, f.d x.2.1, g.d x.2.2]
  dp := fun K F v x ⟨p, a, b, c, h1, h2, h3, h4, h5⟩ => by
    subst h1
    exact .tup (SqT.of h2) (.cons (e.dp K F _ _ h3) (.cons (f.dp K F _ _ h4) (.cons (g.dp K F _ _ h5) .nil)))
  n := max e.n (max f.n g.n) + 1
  dep := fun x => by
    have h1 := e.dep x.1
    have h2 := f.dep x.2.1
    have h3 := g.dep x.2.2
    simp only [PyData.depth, PyData.depthAll]
    omega
  eq := fun x y => by
    obtain ⟨x1, x2, x3⟩ := x
    obtain ⟨y1, y2, y3⟩ := y
    simp only [PyData.eqv, PyData.eqvAll, e.eq, f.eq, g.eq, Prod.mk.injEq, Bool.decide_and, Bool.and_true, Bool.and_assoc]
def dqO {P : Rp α} (e : Dq P) (hn : ∀ a, PyData.eqv .none (e.d a) = false ∧ PyData.eqv (e.d a) .none = false) : Dq (rO P) where
  d := optD e.d
  dp := fun K F v x h => by
    cases x with
    | none => rw [show v = V.non from h]; exact .non
    | some y => exact e.dp K F v y h
  n := e.n
  dep := fun x => by
    cases x with
    | none => exact Nat.zero_le _
    | some y => exact e.dep y
  eq := fun x y => by
    cases x with
    | none =>
      cases y with
      | none => simp [optD, PyData.eqv]
      | some b => simp only [optD]; rw [(hn b).1]; simp
    | some a =>
      cases y with
      | none => simp only [optD]; rw [(hn a).2]; simp
      | some b => simp only [optD]; rw [e.eq a b]; simp
def dqU {P : Rp α} {Q : Rp β} (e : Dq P) (f : Dq Q) (hn : ∀ a b, PyData.eqv (e.d a) (f.d b) = false ∧ PyData.eqv (f.d b) (e.d a) = false) : Dq (rU P Q) where
  d := sumD e.d f.d
  dp := fun K F v x h => by
    cases x with
    | inl y => exact e.dp K F v y h
    | inr y => exact f.dp K F v y h
  n := max e.n f.n
  dep := fun x => by
    cases x with
    | inl y => have := e.dep y; simp only [sumD]; omega
    | inr y => have := f.dep y; simp only [sumD]; omega
  eq := fun x y => by
    cases x with
    | inl a =>
      cases y with
      | inl b => simp only [sumD]; rw [e.eq a b]; simp
      | inr b => simp only [sumD]; rw [(hn a b).1]; simp
    | inr a =>
      cases y with
      | inl b => simp only [sumD]; rw [(hn b a).2]; simp
      | inr b => simp only [sumD]; rw [f.eq a b]; simp
end
section
variable {α : Type} [DecidableEq α] {P : Rp α} {K : PySem.W.Frag} {F F' H : Hp} {v w : V} {x y : α} {a : Addr} {vs : List V} {xs : List α} {Q : VK}
theorem sh_dq (e : Dq P) (h : e.n ≤ 64) {x : α} (hx : PyData.canLay0 (e.d x) = true) : SeqAt.shaped (e.d x) = true := by
  have h1 := e.dep x
  simp only [SeqAt.shaped, hx, Bool.true_and]
  exact decide_eq_true (by omega)
theorem k_eqQ (e : Dq P) (m : Mono P) (h : e.n ≤ 64) (hx : PyData.canLay0 (e.d x) = true) (hy : PyData.canLay0 (e.d y) = true) (h1 : P F v x) (e1 : Ex F H) (h2 : P F' w y) (e2 : Ex F' H) (k : Q (.bl (decide (x = y))) H) : rEqD K v w H Q :=
  ⟨_, _, e.dp K H _ _ (m _ _ _ _ e1 h1), e.dp K H _ _ (m _ _ _ _ e2 h2), sh_dq e h hx, sh_dq e h hy, by rw [e.eq]; exact k⟩
theorem k_neQ (e : Dq P) (m : Mono P) (h : e.n ≤ 64) (hx : PyData.canLay0 (e.d x) = true) (hy : PyData.canLay0 (e.d y) = true) (h1 : P F v x) (e1 : Ex F H) (h2 : P F' w y) (e2 : Ex F' H) (k : Q (.bl (!decide (x = y))) H) : rNeD K v w H Q :=
  ⟨_, _, e.dp K H _ _ (m _ _ _ _ e1 h1), e.dp K H _ _ (m _ _ _ _ e2 h2), sh_dq e h hx, sh_dq e h hy, by rw [e.eq]; exact k⟩
end
/-! what was told, changed by its asker -/
theorem exE {R : Hp} : Ex (fun _ => none) R := fun _ _ h => nomatch h
theorem ovr_fr {R0 Hb Hc R : Hp} (e : Ex Hb Hc) : Ex (ovr (fun _ => none) Hc R) (ovr R0 Hb R) := fun a o h => by
  obtain ⟨q, h1⟩ := ovr_some h
  refine ovr_mk (.inr ?_) h1
  rcases q with q | q
  · exact absurd rfl q
  · exact e.back q
theorem Own.poke {Rs R Hc H : Hp} {L : List Cell} {q : Addr} {o o' : HO} (O : Own R H L) (e : Ex Rs R) (hc : Ex Rs Hc) (hq : ovr (fun _ => none) Hc R q = some o) : Own Rs (upd H q o') L := by
  obtain ⟨c, h1⟩ := ovr_some hq
  have hcq : Hc q = none := by
    rcases c with c | c
    · exact absurd rfl c
    · exact c
  have hs : Rs q = none := hc.back hcq
  refine ⟨fun a u h => ?_, fun c hc' => ?_, fun c hc' => e.back (O.fr c hc'), O.nd⟩
  · rw [upd_ne (ne_of_none h hs)]
    exact O.ex _ _ (e _ _ h)
  · have : c.1 ≠ q := fun z => by
      have := O.fr c hc'
      rw [z, h1] at this
      cases this
    rw [upd_ne this]
    exact O.at_ c hc'
theorem Own.drop1 {R H : Hp} {c : Cell} {L : List Cell} (O : Own R H (c :: L)) : Own R H L := ⟨O.ex, fun d h => O.at_ d (List.Mem.tail _ h), fun d h => O.fr d (List.Mem.tail _ h), (List.nodup_cons.mp O.nd).2⟩
/-- the same, a second told cell kept in hand -/
theorem Own.pokeX {Rs R Hc H : Hp} {L : List Cell} {q a : Addr} {o o' : HO} {vs : List V} (O : Own R H L) (e : Ex Rs R) (hc : Ex Rs Hc) (hq : ovr (fun _ => none) Hc R q = some o) (ha : ovr (fun _ => none) Hc R a = some (.lst vs)) (hne : q ≠ a) : Own Rs (upd H q o') ((a, .lst vs) :: L) := by
  have O2 := O.poke (o' := o') e hc hq
  obtain ⟨c, h1⟩ := ovr_some ha
  have hca : Hc a = none := by
    rcases c with c | c
    · exact absurd rfl c
    · exact c
  have hz : Rs a = none := hc.back hca
  refine ⟨O2.ex, fun d h => ?_, fun d h => ?_, List.nodup_cons.mpr ⟨fun h => ?_, O2.nd⟩⟩
  · rcases List.mem_cons.mp h with rfl | h
    · show upd H q o' a = some (.lst vs)
      rw [upd_ne (fun z => hne z.symm)]
      exact O.ex _ _ h1
    · exact O2.at_ d h
  · rcases List.mem_cons.mp h with rfl | h
    · exact hz
    · exact O2.fr d h
  · obtain ⟨d, hd, e1⟩ := List.mem_map.mp h
    have := O.fr d hd
    rw [show d.1 = a from e1, h1] at this
    cases this
theorem rL_atP {α : Type} {P : Rp α} {F : Hp} {a q : Addr} {xs : List (Int × α)} {ys : List Int} {i : Int} {y : Int × α} (h : rL (rT2 rI P) F (.ref a) xs) (hq : F q = some (.lst (ys.map V.int))) (hi : atI xs i = some y) : ∃ vs, F a = some (.lst vs) ∧ All2 ((rT2 rI P) F) vs xs ∧ q ≠ a := by
  obtain ⟨p, vs, e1, h2, h3⟩ := h
  cases e1
  refine ⟨vs, h2, h3, fun z => ?_⟩
  subst z
  rw [hq] at h2
  have e := HO.lst.inj (Option.some.inj h2)
  cases xs with
  | nil =>
    unfold atI at hi
    cases hx : ixN ([] : List (Int × α)).length i with
    | none => rw [hx] at hi; cases hi
    | some j => rw [hx] at hi; cases hi
  | cons x r =>
    cases vs with
    | nil => cases h3
    | cons v vs =>
      cases h3 with
      | cons hv _ =>
        obtain ⟨p, _, _, rfl, _⟩ := hv
        cases ys with
        | nil => cases e
        | cons z ys => cases e
theorem Own.retX0 {R H Hc : Hp} {B C : List Cell} {D : DT} {Q : VK} (O : Own R H (B ++ C)) (m : MonoD D) (hc : Hc = hsub H B) (k : ∀ v H' R' L', Own R' H' (L' ++ C) → Ex R R' → D (ovr (fun _ => none) Hc R') v L' → Q v H') : RetX (fun _ => none) (hsub H B) D Q := fun v H' R' L' e O' d => by
  obtain ⟨R'', O'', e1, e2⟩ := O.back e O'
  subst hc
  refine k v H' R'' L' O'' e1 (m _ _ _ _ (fun a u h => ?_) d)
  obtain ⟨q, _⟩ := ovr_some h
  exact ovr_mk q (e2 _ exE _ _ h)
/-! isinstance of what is of one of several kinds -/
section
variable {α β γ δ : Type} {P : Rp α} {P' : Rp β} {P3 : Rp γ} {P4 : Rp δ} {K : PySem.W.Frag} {H : Hp} {v : V} {Q : VK} {u : Value}
def TyP (P : Rp α) (K : PySem.W.Frag) (u : Value) (f : α → Bool) : Prop := ∀ H v x, P H v x → ∃ t, TyX K H v t ∧ PySem.W.kitOne K t u = some (f x)
def sumB (f : α → Bool) (g : β → Bool) : α ⊕ β → Bool
  | .inl a => f a
  | .inr b => g b
theorem tyI {b : String} {r : Bool} (h : kitB "int" b = some r) : TyP rI K (.type b) (fun _ => r) := fun H v x hx => ⟨_, .base (by rw [show v = _ from hx]; exact .int _), kit_ty h⟩
theorem tyB {b : String} {r : Bool} (h : kitB "bool" b = some r) : TyP rB K (.type b) (fun _ => r) := fun H v x hx => ⟨_, .base (by rw [show v = _ from hx]; exact .bl _), kit_ty h⟩
theorem tyS {b : String} {r : Bool} (h : kitB "str" b = some r) : TyP rS K (.type b) (fun _ => r) := fun H v x hx => ⟨_, .base (by rw [show v = _ from hx]; exact .str _), kit_ty h⟩
theorem tyL {b : String} {r : Bool} (h : kitB "list" b = some r) : TyP (rL P) K (.type b) (fun _ => r) := fun H v x hx => by
  obtain ⟨p, vs, rfl, h1, _⟩ := hx
  exact ⟨_, .base (.lst h1), kit_ty h⟩
theorem tyT2 {b : String} {r : Bool} (h : kitB "tuple" b = some r) : TyP (rT2 P P') K (.type b) (fun _ => r) := fun H v x hx => by
  obtain ⟨p, _, _, rfl, h1, _⟩ := hx
  exact ⟨_, .base (.tup h1), kit_ty h⟩
theorem tyT3 {b : String} {r : Bool} (h : kitB "tuple" b = some r) : TyP (rT3 P P' P3) K (.type b) (fun _ => r) := fun H v x hx => by
  obtain ⟨p, _, _, _, rfl, h1, _⟩ := hx
  exact ⟨_, .base (.tup h1), kit_ty h⟩
theorem tyU {f : α → Bool} {g : β → Bool} (h1 : TyP P K u f) (h2 : TyP P' K u g) : TyP (rU P P') K u (sumB f g) := fun H v x hx => by
  cases x with
  | inl a => exact h1 H v a hx
  | inr b => exact h2 H v b hx
theorem k_isU {b : String} {f : α → Bool} (h : TyP P K u f) {x : α} (hx : P H v x) (q : Q (.bl (f x)) H) (hu : u = .type b := by rfl) : rIsi K [v, .ty b] H Q := by
  obtain ⟨t, h1, h2⟩ := h H v x hx
  subst hu
  exact ⟨v, _, t, _, _, rfl, .ty _, h1, h2, q⟩
end
/-! the number of a refusal in hand -/
def atE (k : Ek) (e : Er) : Option Int := match k, e with
  | .NoWire, .NoWire i => some i
  | .NoRow, .NoRow i => some i
  | _, _ => none
theorem o_xf {a : Addr} {cls : Value} {d : Option Addr} {C : Addr} {f : Str} {te : TE} {σ : St} {H : Hp} {Q : VK} (h : te σ H fun x H1 => x = .ref a ∧ cls = .ref C ∧ ∃ (dd : Addr) (fs : List (Str × V)) (v : V), d = some dd ∧ H1 dd = some (.xd fs) ∧ fs.lookup f = some v ∧ Q v H1) : tXf a cls d C f te σ H Q := h
theorem k_xfNoWire {es : Eds} {e : Er} {n : Int} {a : Addr} {cls : Value} {d : Option Addr} {H : Hp} {Q : VK} (h : atE .NoWire e = some n) (hx : XFl e d H) (hc : cls = .ref (es.at e.k)) (q : Q (.int n) H) :
    V.ref a = .ref a ∧ cls = .ref es.NoWire ∧ ∃ (dd : Addr) (fs : List (Str × V)) (v : V), d = some dd ∧ H dd = some (.xd fs) ∧ fs.lookup ("at" : Str) = some v ∧ Q v H := by
  cases e with
  | NoWire i =>
    cases h
    obtain ⟨x, h1, h2⟩ := hx
    exact ⟨rfl, hc, x, _, _, h1, h2, lk_hit, q⟩
  | _ => cases h
theorem k_xfNoRow {es : Eds} {e : Er} {n : Int} {a : Addr} {cls : Value} {d : Option Addr} {H : Hp} {Q : VK} (h : atE .NoRow e = some n) (hx : XFl e d H) (hc : cls = .ref (es.at e.k)) (q : Q (.int n) H) :
    V.ref a = .ref a ∧ cls = .ref es.NoRow ∧ ∃ (dd : Addr) (fs : List (Str × V)) (v : V), d = some dd ∧ H dd = some (.xd fs) ∧ fs.lookup ("word" : Str) = some v ∧ Q v H := by
  cases e with
  | NoRow i =>
    cases h
    obtain ⟨x, h1, h2⟩ := hx
    exact ⟨rfl, hc, x, _, _, h1, h2, lk_hit, q⟩
  | _ => cases h
theorem o_yes {A B : Hp → Prop} {σ : St} {H : Hp} (h : A H) : tYes σ H (fun b H3 => if b = true then A H3 else B H3) := by
  show if true = true then A H else B H
  rw [if_pos rfl]
  exact h
/-! a if c else b, any value -/
theorem x_ifP {c : Bool} {tt : TT} {ta tb : TE} {σ : St} {H : Hp} {Q : VK} (J0 : Hp → Prop) (J : V → Hp → Prop) (h1 : ∀ Q1 : Bool → Hp → Prop, (∀ H', J0 H' → Q1 c H') → tt σ H Q1) (h2 : c = true → ∀ H', J0 H' → ∀ Q2 : VK, (∀ v H'', J v H'' → Q2 v H'') → ta σ H' Q2)
    (h3 : c = false → ∀ H', J0 H' → ∀ Q2 : VK, (∀ v H'', J v H'' → Q2 v H'') → tb σ H' Q2) (k : ∀ v H', J v H' → Q v H') : tIf tt ta tb σ H Q := by
  refine h1 _ fun H' O' => ?_
  cases c with
  | true => exact h2 rfl H' O' Q k
  | false => exact h3 rfl H' O' Q k
end Bt

namespace Bt
open PySem L2
/-! a list of objects whose items stay these -/
section
variable {α : Type} {B : Ob α} {F R H : Hp} {vs : List V} {a b : Addr} {A L L1 C : List Cell} {xs ys : List α} {x : α} {i : Int} {w : V} {K : PySem.W.Frag} {Q : VK}
def oLv {α : Type} (vs : List V) (B : Ob α) : Ob (List α) := fun F a L xs => ∃ as Ls, vs = as.map V.ref ∧ L.Perm ((a, HO.lst vs) :: Ls.flatten) ∧ All3 (B F) as Ls xs
theorem moLv (m : MonoO B) : MonoO (oLv vs B) := fun _ _ _ _ _ e ⟨as, Ls, h0, h1, h2⟩ => ⟨as, Ls, h0, h1, h2.mp fun _ _ _ h => m _ _ _ _ _ e h⟩
theorem oLs.fix (h : oLs B F a L xs) : ∃ vs, oLv vs B F a L xs := by
  obtain ⟨as, Ls, h1, h2⟩ := h
  exact ⟨_, as, Ls, rfl, h1, h2⟩
theorem oLv.un (h : oLv vs B F a L xs) : oLs B F a L xs := by
  obtain ⟨as, Ls, rfl, h1, h2⟩ := h
  exact ⟨as, Ls, h1, h2⟩
theorem oLv.len (h : oLv vs B F a L xs) : vs.length = xs.length := by
  obtain ⟨as, Ls, rfl, h1, h2⟩ := h
  rw [List.length_map, h2.len]
theorem oLv.at (O : Own R H C) (h : oLv vs B F a L xs) (hs : ∀ c ∈ L, c ∈ C) : H a = some (.lst vs) := by
  obtain ⟨as, Ls, _, h1, _⟩ := h
  exact O.mem (hs _ (h1.mem_iff.mpr (List.Mem.head _)))
theorem oLv.isref (h : oLv vs B F a L xs) (hw : atI vs i = some w) : ∃ b, w = .ref b := by
  obtain ⟨as, Ls, rfl, _, _⟩ := h
  unfold atI at hw
  cases e : ixN (as.map V.ref).length i with
  | none => rw [e] at hw; cases hw
  | some j =>
    rw [e] at hw
    have hw : (as.map V.ref)[j]? = some w := hw
    rw [List.getElem?_map] at hw
    cases e2 : as[j]? with
    | none => rw [e2] at hw; cases hw
    | some b => rw [e2] at hw; exact ⟨b, (Option.some.inj hw).symm⟩
theorem All2.of_get {α β : Type} {P : α → β → Prop} : ∀ {as : List α} {bs : List β}, as.length = bs.length → (∀ (i : Nat) (a : α) (b : β), as[i]? = some a → bs[i]? = some b → P a b) → All2 P as bs
  | [], [], _, _ => .nil
  | a :: as, b :: bs, h, k => .cons (k 0 a b rfl rfl) (All2.of_get (by simpa using h) fun i x y hx hy => k (i + 1) x y (by simpa using hx) (by simpa using hy))
theorem ixs_of (vs : List V) {n : Nat} (h : vs.length = n) : All2 (fun v (i : Int) => atI vs i = some v) vs (rangeI 0 (n : Int)) := by
  subst h
  refine All2.of_get (by simp [rangeI]) fun j v i hv hi => ?_
  have hj : j < vs.length := (List.getElem?_eq_some_iff.mp hv).1
  have : (rangeI 0 (vs.length : Int))[j]? = some (j : Int) := by
    unfold rangeI
    rw [List.getElem?_map, show ((vs.length : Int) - 0).toNat = vs.length by omega, List.getElem?_range hj]
    simp
  rw [this] at hi
  cases hi
  unfold atI ixN
  rw [if_pos (by omega), if_pos (by omega)]
  simpa using hv
theorem Own.lsAtV (m : MonoO B) (O : Own R H (A ++ (L ++ C))) (h : oLv vs B F a L xs) (e : atI xs i = some x) (hw : atI vs i = some (.ref b)) :
    ∃ (L1 L2 : List Cell), B F b L1 x ∧ (L1 ++ L2).Perm L ∧ Own R H (A ++ (L1 ++ (L2 ++ C))) ∧ (∀ F' L1' x', Ex F F' → B F' b L1' x' → ∀ ys, setG xs i x' = some ys → oLv vs B F' a (L1' ++ L2) ys) ∧ ∀ F' L1', Ex F F' → B F' b L1' x → oLv vs B F' a (L1' ++ L2) xs := by
  obtain ⟨as, Ls, rfl, hp, h3⟩ := h
  unfold atI at e
  cases ej : ixN xs.length i with
  | none => rw [ej] at e; cases e
  | some j =>
    rw [ej] at e
    obtain ⟨b', L1, bs1, bs2, h4, h5, h6, h7⟩ := h3.at e
    subst h6
    have hbb : b' = b := by
      unfold atI at hw
      rw [List.length_map, h3.len, ej] at hw
      have hw : (as.map V.ref)[j]? = some (.ref b) := hw
      rw [List.getElem?_map, h4] at hw
      exact V.ref.inj (Option.some.inj hw)
    subst hbb
    have hp2 : L.Perm (L1 ++ ((a, HO.lst (as.map V.ref)) :: (bs1.flatten ++ bs2.flatten))) := by
      refine hp.trans ?_
      rw [List.flatten_append, List.flatten_cons]
      refine List.Perm.trans ?_ (List.perm_middle.symm)
      refine List.Perm.cons _ ?_
      rw [← List.append_assoc, ← List.append_assoc]
      exact List.Perm.append_right _ List.perm_append_comm
    have cl : ∀ F' L1' x', Ex F F' → B F' b' L1' x' → oLv (as.map V.ref) B F' a (L1' ++ ((a, HO.lst (as.map V.ref)) :: (bs1.flatten ++ bs2.flatten))) (xs.set j x') := fun F' L1' x' ex hb => by
      refine ⟨as, bs1 ++ L1' :: bs2, rfl, ?_, h7 _ L1' x' (fun _ _ _ h => m _ _ _ _ _ ex h) hb⟩
      rw [List.flatten_append, List.flatten_cons]
      refine List.perm_middle.trans ?_
      refine List.Perm.cons _ ?_
      rw [← List.append_assoc, ← List.append_assoc]
      exact List.Perm.append_right _ List.perm_append_comm
    refine ⟨L1, (a, HO.lst (as.map V.ref)) :: (bs1.flatten ++ bs2.flatten), h5, hp2.symm, O.perm ?_, fun F' L1' x' ex hb ys hy => ?_, fun F' L1' ex hb => ?_⟩
    · refine List.Perm.append_left _ ?_
      rw [← List.append_assoc]
      exact List.Perm.append_right _ hp2
    · unfold setG at hy
      rw [ej] at hy
      cases hy
      exact cl F' L1' x' ex hb
    · have := cl F' L1' x ex hb
      have e2 : xs.set j x = xs := by
        obtain ⟨h8, h9⟩ := List.getElem?_eq_some_iff.mp (show xs[j]? = some x from e)
        rw [← h9]
        exact List.set_getElem_self h8
      rw [e2] at this
      exact this
def inL {α : Type} [DecidableEq α] (x : α) (xs : List α) : Bool := decide (x ∈ xs)
section
variable {α : Type} [DecidableEq α] {P : Rp α} {F F' H : Hp} {K : PySem.W.Frag} {v : V} {x : α} {xs : List α} {vs : List V} {a : Addr} {Q : VK}
theorem k_inJ (e : De P) (m : Mono P) (h : e.n ≤ 60) (h1 : P F v x) (e1 : Ex F H) (hs : SqL K H a vs) (ha : All2 (P F') vs xs) (e2 : Ex F' H) (k : Q (.bl (inL x xs)) H) : rInD K v (.ref a) H Q := k_inN e m h h1 e1 hs ha e2 k
theorem k_niJ (e : De P) (m : Mono P) (h : e.n ≤ 60) (h1 : P F v x) (e1 : Ex F H) (hs : SqL K H a vs) (ha : All2 (P F') vs xs) (e2 : Ex F' H) (k : Q (.bl (!inL x xs)) H) : rNotInD K v (.ref a) H Q := k_niN e m h h1 e1 hs ha e2 k
end
theorem pe_fld2 {X : Cx} {K : PySem.W.Frag} {e : PySem.Expr} {f : Str} {pos : PySem.Pos} {ta : TE} (hK : X.K = K) (he : PE X e ta) (hb : attributeBase e f X.env (eval e X.env) = eval e X.env) : PE X (.Attribute e f pos) (tFld K ta f) := by
  subst hK
  exact pe_fld he hb
theorem pe_bm2 {X : Cx} {K : PySem.W.Frag} {o e : PySem.Expr} {es : List PySem.Expr} {to : TE} {t : TA} {name : Str} {apos cpos : PySem.Pos} {T id : String} {r : V → List V → Hp → VK → Prop} (hK : X.K = K) (pa : PlainAttrs T) (slot : Slot T name id) (hty : typeOf (.builtin id) = pure (.type "method_descriptor")) (hm : MtR X id r) (ho : PE X o to) (ha : PA X (e :: es) t)
    (hbase : attributeBase o name X.env (eval o X.env) = eval o X.env := by rfl)
    (hfew : ((backTo cpos (starEach (e :: es) X.env)).all (fun x => !x.1) && (backToKw cpos (keywordEach [] X.env)).all (fun x => x.1.isSome)
      && decide ((e :: es).length + ([] : List PySem.Keyword).length + (if ([] : List PySem.Keyword).isEmpty then 0 else 1) < 30)) = true := by rfl)
    (hline : (apos.endLine == cpos.line) = true := by rfl) (hs : starEach (e :: es) X.env = (false, eval e X.env) :: starEach es X.env := by rfl) (hplain : (backTo cpos (starEach es X.env)).any (·.1) = false := by rfl) :
    PE X (.Call (.Attribute o name apos) (e :: es) [] cpos) (tBM K T r to t) := by
  subst hK
  exact pe_bm pa slot hty hm ho ha hbase hfew hline hs hplain
theorem k_clrA {g : HO → List Cell} (hl : H a = some (.lst vs)) (hp : ∀ o', Own R (upd H a o') (g o')) (k : ∀ H', Own R H' (g (.lst [])) → Q .non H') : rClear (.ref a) [] H Q :=
  ⟨a, _, rfl, rfl, hl, k _ (hp _)⟩
abbrev tLs (t : TA) : TE := fun σ H Q => t σ H fun xs H1 => rNewL xs H1 Q
theorem pe_lst2 {X : Cx} {es : List PySem.Expr} {t : TA} {pos : PySem.Pos} (h : PE X (.List es pos) (tLst t)) : PE X (.List es pos) (tLs t) := pe_lstQ h
abbrev tTs (t : TA) : TE := fun σ H Q => t σ H fun xs H1 => rNewT xs H1 Q
theorem pe_tup2 {X : Cx} {es : List PySem.Expr} {k : Nat} {t : TA} {pos : PySem.Pos} (h : PE X (.Tuple es k pos) (tTup t)) : PE X (.Tuple es k pos) (tTs t) := pe_tupQ h
/-! len and append -/
theorem oLs.sq (O : Own R H C) (h : oLs B F a L xs) (hs : ∀ c ∈ L, c ∈ C) : ∃ vs, SqL K H a vs ∧ vs.length = xs.length := by
  obtain ⟨vs, hv⟩ := h.fix
  exact ⟨vs, SqL.of (hv.at O hs), hv.len⟩
theorem n_lenO (h : ∃ vs, SqL K H a vs ∧ vs.length = xs.length) (k : Q (.int (xs.length : Int)) H) : rLenQ K [.ref a] H Q := by
  obtain ⟨vs, hs, hl⟩ := h
  unfold rLenQ
  exact ⟨a, vs, rfl, .inl hs, by rw [hl]; exact k⟩
theorem All3.snoc {α β γ : Type} {P : α → β → γ → Prop} {as : List α} {bs : List β} {cs : List γ} {a : α} {b : β} {c : γ} (h : All3 P as bs cs) (k : P a b c) : All3 P (as ++ [a]) (bs ++ [b]) (cs ++ [c]) := by
  induction h with
  | nil => exact .cons k .nil
  | cons h _ ih => exact .cons h ih
theorem k_appO (O : Own R H (L ++ (L1 ++ C))) (h : oLs B F a L xs) (hb : B F b L1 x) (e : appG xs x = some ys) (k : ∀ H' L', Own R H' (L' ++ C) → oLs B F a L' ys → Q .non H') : rAppend (.ref a) [.ref b] H Q := by
  obtain ⟨c, rfl⟩ := grdE e
  obtain ⟨as, Ls, hp, h3⟩ := h
  have O1 : Own R H ((a, HO.lst (as.map V.ref)) :: (Ls.flatten ++ (L1 ++ C))) := O.perm (List.Perm.append_right _ hp)
  refine ⟨a, _, _, rfl, rfl, O1.mem (List.Mem.head _), by rw [List.length_map, h3.len]; exact c, k _ ((a, HO.lst (as.map V.ref ++ [.ref b])) :: (Ls.flatten ++ L1)) ?_ ?_⟩
  · have O2 := O1.put0 (o' := HO.lst (as.map V.ref ++ [.ref b]))
    refine O2.perm ?_
    rw [List.cons_append, List.append_assoc]
  · refine ⟨as ++ [b], Ls ++ [L1], ?_, h3.snoc hb⟩
    rw [List.map_append, List.flatten_append, List.flatten_singleton]
    exact List.Perm.refl _
end
end Bt

set_option Elab.async false
set_option linter.all false
set_option maxRecDepth 100000
set_option maxHeartbeats 4000000
/-! What is refused, kept beyond its suite. -/
namespace Bt
open PySem L2 PyProof.Rows
/-- an exception that stays: its class and its dict are known -/
def ExH (a : Addr) (cls : Value) (d : Option Addr) : HO := .ext fun h => ∃ (oe : Obj) (vs : Array Value), h.get? a = some oe ∧ L2N.Zn cls d oe ∧ oe.data = .fields vs
section
variable {X : Cx} {pins : List (Addr × Obj)} {σ : L2.St} {H : Hp} {s : Shared} {a : Addr} {oe : Obj} {cls : Value} {d : Option Addr}
theorem inv_layX (I : Inv X pins σ H s) (he : s.heap.get? a = some oe) (hz : L2N.Zn cls d oe) (hd : ∃ vs, oe.data = .fields vs) (na : H a = none) (n0 : X.s_0.heap.get? a = none) (np : ∀ p ∈ X.pn ++ pins, p.1 ≠ a) (nL : a ≠ X.env.locals) : Inv X pins σ (upd H a (ExH a cls d)) s := by
  obtain ⟨vs, hv⟩ := hd
  have nb : ∀ b o, X.s_0.heap.get? b = some o → b ≠ a := fun b o e z => by
    rw [z, n0] at e
    cases e
  have nh : ∀ b o, H b = some o → b ≠ a := fun b o e z => by
    rw [z, na] at e
    cases e
  refine ⟨I.ok, I.os, I.bare, ⟨I.base.keep, I.base.slot, fun b o e n hx => ?_, I.base.there, fun b xs e => ?_, fun b o u e => ?_, fun b ps e => ?_⟩, I.loc, I.cell, ?_, fun x c e => ?_, fun p hp => ?_, fun b o e => ?_, I.len⟩
  · rw [upd_ne (nb b o e)]
    exact I.base.free b o e n hx
  · have q := I.base.tups b xs e
    rw [upd_ne (nh _ _ q)]
    exact q
  · have q := I.base.frzs b o u e
    rw [upd_ne (nh _ _ q)]
    exact q
  · obtain ⟨more, q⟩ := I.base.tbls b ps e
    refine ⟨more, ?_⟩
    rw [upd_ne (nh _ _ q)]
    exact q
  · rw [upd_ne (Ne.symm nL)]
    exact I.free
  · have : c ≠ a := fun z => by
      obtain ⟨v, o, ho, hdd⟩ := I.cell x c e
      rw [z, he] at ho
      cases ho
      rw [hv] at hdd
      cases hdd
    rw [upd_ne this]
    exact I.freeC x c e
  · obtain ⟨p1, p2, p3⟩ := I.pin p hp
    refine ⟨p1, ?_, p3⟩
    rw [upd_ne (np p hp)]
    exact p2
  · by_cases z : b = a
    · subst z
      rw [upd_same] at e
      cases e
      refine ⟨⟨oe, vs, he, hz, hv⟩, ⟨oe, he⟩, fun h1 h2 ⟨o', vs', e1, e2, e3⟩ hk => ⟨o', vs', hk _ e1, e2, e3⟩⟩
    · rw [upd_ne z] at e
      refine (I.hok b o e).stay (fun _ _ _ h => h) (fun c h => ?_) fun c xs h => ?_
      · rw [upd_ne (nh _ _ h)]
        exact h
      · rw [upd_ne (nh _ _ h)]
        exact h
end
/-! ### try with clauses of all three sorts: without a name, with one, with one whose exception stays -/
/-- an exception in hand, the clauses ahead of it -/
structure Grip (X : Cx) (pins : List (Addr × Obj)) (σ : L2.St) (H : Hp) (a : Addr) (cls : Value) (d : Option Addr) (B : Heap) (t s : Shared) : Prop where
  src : Inv X pins σ H t
  nb : ∀ b o, t.heap.get? b = some o → b ∉ frs X.stack → B.get? b = some o
  up : t.heap.UpToSlots s.heap
  os : s.os = t.os
  ag : AllBare s.gens
  fl : HandSPX.FlyingZ B X.stack a (L2N.Zn cls d) s.heap
  na : H a = none
section
variable {X : Cx} {pins : List (Addr × Obj)} {σ : L2.St} {H : Hp} {a : Addr} {cls : Value} {d : Option Addr} {B : Heap} {t s : Shared}
theorem Grip.on (g : Grip X pins σ H a cls d B t s) {h : Heap} (f : HandSPX.FlyingZ B X.stack a (L2N.Zn cls d) h) (u : s.heap.UpToSlots h) : Grip X pins σ H a cls d B t { s with heap := h } :=
  ⟨g.src, g.nb, g.up.trans u, g.os, g.ag, f, g.na⟩
theorem Grip.inv (g : Grip X pins σ H a cls d B t s) : Inv X pins σ H s := g.src.landed g.nb g.fl.1 g.up g.os g.ag
theorem Grip.off (g : Grip X pins σ H a cls d B t s) : a ∉ frs X.stack := fun m => by
  obtain ⟨oe, vs, e1, _, e2⟩ := g.fl.there
  obtain ⟨_, o, e3, nf⟩ := g.fl.2.2.1.mem m
  rw [e1] at e3
  exact nf vs (by cases e3; exact e2)
theorem Grip.new (g : Grip X pins σ H a cls d B t s) : t.heap.get? a = none := by
  have z := g.fl.2.1
  cases q : t.heap.get? a with
  | none => rfl
  | some o =>
    rw [g.nb a o q g.off] at z
    cases z
theorem Grip.new0 (g : Grip X pins σ H a cls d B t s) (hex : X.ex = []) : X.s_0.heap.get? a = none := by
  cases q : X.s_0.heap.get? a with
  | none => rfl
  | some o =>
    have hx : a ∉ X.ex := by
      rw [hex]
      exact List.not_mem_nil
    obtain ⟨o2, q2⟩ := g.src.base.there a o q hx
    rw [g.new] at q2
    cases q2
theorem Grip.nopin (g : Grip X pins σ H a cls d B t s) : ∀ p ∈ X.pn ++ pins, p.1 ≠ a := fun p m z => by
  have q := (g.src.pin p m).1
  rw [z, g.new] at q
  cases q
theorem Grip.nL (g : Grip X pins σ H a cls d B t s) (hs : X.stack = X.env :: X.outer) (hf : X.env.frame = some X.env.locals) : a ≠ X.env.locals := fun z =>
  g.off (by rw [hs]; exact List.mem_filterMap.mpr ⟨_, List.Mem.head _, by rw [hf, z]⟩)
theorem Grip.nF (g : Grip X pins σ H a cls d B t s) (hs : X.stack = X.env :: X.outer) : a ∉ X.fs := fun m => by
  obtain ⟨e, m1, m2⟩ := List.mem_filterMap.mp m
  exact g.off (by rw [hs]; exact List.mem_filterMap.mpr ⟨e, List.Mem.tail _ m1, m2⟩)
/-- the suite's own state -/
theorem Grip.within (g : Grip X pins σ H a cls d B t s) (hs : X.stack = X.env :: X.outer) (hf : X.env.frame = some X.env.locals) : ∃ oe, L2N.Zn cls d oe ∧ (∃ vs, oe.data = .fields vs) ∧ s.heap.get? a = some oe ∧ Inv (X.suite a ((a, oe) :: (X.pn ++ pins))) [] σ H s := by
  obtain ⟨oe, vs, e1, e2, e3⟩ := g.fl.there
  exact ⟨oe, e2, ⟨vs, e3⟩, e1, g.inv.suite e1 e3 g.na (g.nL hs hf) (g.nF hs)⟩
/-- no clause takes it -/
theorem Grip.out (g : Grip X pins σ H a cls d B t s) (hf : X.env.frame = some X.env.locals) {W : WX} (tk : L2N.Takes X W) (w : W cls d σ H) {Q : Flow → Shared → Prop} : wpAny (model X.prog X.w) X.A (handleBy (.ref a) X.env []) Q X.xe s := by
  obtain ⟨_, _, _, oe, vs, T, oT, ts, e1, _, e3, e4, _⟩ := id g.fl
  refine wpAny_handleBy_nil ?_
  unfold PySem.passOn
  refine wpAny_bind (wpAny_field e1 e3 e4 ?_)
  rw [if_neg (by simp)]
  have last : wpAny (model X.prog X.w) X.A (setFlight (.ref a) X.env.frame) (fun _ s2 => wpAny (model X.prog X.w) X.A (throw (.ref a) : Sem Flow) Q X.xe s2) X.xe s := by
    rw [hf]
    exact HandSPX.setFlight_upZ g.fl fun h1 k1 k2 => wpAny_throw (tk _ _ ⟨a, B, t, pins, σ, H, cls, d, rfl, g.src, g.nb, g.up.trans k2, .inr (.inr k1), g.na, g.os, g.ag, w⟩)
  first
    | exact wpAny_bind (wpAny_pure (wpAny_bind last))
    | exact wpAny_bind last
/-- is it of a clause's class? -/
theorem Grip.ask (g : Grip X pins σ H a cls d B t s) (hs : X.stack = X.env :: X.outer) (hf : X.env.frame = some X.env.locals) {x : Str} {c : Value} {np pos : Pos} {b : Bool} (hc : Names X x c) (hb : PySem.W.exmOne X.K cls c = some b) {R : Except Value Flow → Shared → Prop} (q : R (.ok (if b then .brk else .next)) s) :
    codeAny (model X.prog X.w) (X.A.mark (some (.ref a))) (.handlers (.ref a) [.ExceptHandler (some (.Name x np)) none [] pos] X.env) R s := by
  obtain ⟨oe, z, _, e1, S⟩ := g.within hs hf
  have what : PySem.W.Looks (model X.prog X.w) s.heap (typeOf (.ref a)) cls := fun A Q E s' k q' => wpAny_typeOf_ref (k _ _ e1) (by rw [z.1]; exact q')
  have hit := PySem.W.exm_one (M := model X.prog X.w) g.inv.kIn what hb
  refine codeAny_handlers_test ?_
  obtain ⟨h1, h2, h3⟩ := hc
  rcases h3 with h3 | ⟨h3, h4, h5⟩
  · exact ld_glob (X := X.suite a ((a, oe) :: (X.pn ++ pins))) S h1 h3 (hit.here q) h2
  · exact ld_blt (X := X.suite a ((a, oe) :: (X.pn ++ pins))) S h1 h3 h4 (hit.here q) h5 h2
end
/-- what stands behind a clause's suite; m: its name's slot, and whether the exception stays -/
abbrev behindC (D : Ends) : Option (Nat × Bool) → Addr → Value → Option Addr → Ends
  | none, _, _, _ => D
  | some (i, false), _, _, _ => { nx := fun σ H => D.nx (σ.set i none) H, rt := D.rt, bk := fun σ H => D.bk (σ.set i none) H, ct := fun σ H => D.ct (σ.set i none) H }
  | some (i, true), a, cls, d => { nx := fun σ H => H a = none → D.nx (σ.set i none) (upd H a (ExH a cls d)), rt := D.rt, bk := fun σ H => D.bk (σ.set i none) H, ct := fun σ H => D.ct (σ.set i none) H }
abbrev slotC (σ : L2.St) : Option (Nat × Bool) → Addr → L2.St
  | none, _ => σ
  | some (i, _), a => σ.set i (some (.ref a))
abbrev Clauses := List (Value × Option (Nat × Bool) × (Addr → Value → Option Addr → TS))
def wCl (K : PySem.W.Frag) (Wout : WX) (D : Ends) : Clauses → WX
  | [] => Wout
  | (c, m, ts) :: r => fun cls d σ H => ∃ b, PySem.W.exmOne K cls c = some b ∧ (b = true → ∀ a, H a = none → ts a cls d (behindC D m a cls d) (slotC σ m a) H) ∧ (b = false → wCl K Wout D r cls d σ H)
abbrev SuiteOk (X : Cx) (ss : List Stmt) (ts : Addr → Value → Option Addr → TS) : Prop :=
  ∀ (a : Addr) (oe : Obj) (cls : Value) (d : Option Addr) (pn : List (Addr × Obj)), L2N.Zn cls d oe → (∃ vs, oe.data = .fields vs) → PSs (X.suite a ((a, oe) :: pn)) ss (ts a cls d)
inductive ClOk (X : Cx) : List ExceptHandler → Clauses → Prop
  | nil : ClOk X [] []
  | bare {x : Str} {c : Value} {ts : Addr → Value → Option Addr → TS} {b₀ : Stmt} {ss : List Stmt} {np pos : Pos} {hs : List ExceptHandler} {l : Clauses} (hc : Names X x c) (su : SuiteOk X (b₀ :: ss) ts) (r : ClOk X hs l) : ClOk X (.ExceptHandler (some (.Name x np)) none (b₀ :: ss) pos :: hs) ((c, none, ts) :: l)
  | named {x n : Str} {c : Value} {i : Nat} (k : Bool) {ts : Addr → Value → Option Addr → TS} {b₀ : Stmt} {ss : List Stmt} {np pos : Pos} {hs : List ExceptHandler} {l : Clauses} (hc : Names X x c) (hi : X.N[i]? = some n) (hl : X.env.kindOf n = some .local) (su : SuiteOk X (b₀ :: ss) ts) (r : ClOk X hs l) :
      ClOk X (.ExceptHandler (some (.Name x np)) (some n) (b₀ :: ss) pos :: hs) ((c, some (i, k), ts) :: l)
section
variable {X : Cx} {pins : List (Addr × Obj)} {σ : L2.St} {H : Hp} {a : Addr} {cls : Value} {d : Option Addr} {B : Heap} {t s : Shared} {D : Ends} {W : WX}
theorem clauses_run (hs : X.stack = X.env :: X.outer) (hf : X.env.frame = some X.env.locals) (hN : X.N.Nodup) (hex : X.ex = []) (tk : L2N.Takes X W) {hds : List ExceptHandler} {l : Clauses} (h : ClOk X hds l) :
    ∀ s, Grip X pins σ H a cls d B t s → wCl X.K W D l cls d σ H → wpAny (model X.prog X.w) X.A (handleBy (.ref a) X.env hds) (SP X pins D) X.xe s := by
  induction h with
  | nil => exact fun s g w => g.out hf tk w
  | bare hc su r ih =>
    rintro s g ⟨b, h1, h2, h3⟩
    refine wpAny_handleBy_cons (g.ask hs hf hc h1 ?_) (by intro z; cases z)
    cases b with
    | false => exact ih s g (h3 rfl)
    | true =>
      refine codeAny_handlers_suite (HandSPX.lands_againZ g.fl fun h4 f4 u4 => ?_)
      have g := g.on f4 u4
      obtain ⟨oe, z1, z2, _, S⟩ := g.within hs hf
      refine wpAny_mono ((su a oe cls d (X.pn ++ pins) z1 z2).run [] _ _ H _ S (h2 rfl a g.na)) (fun f s6 e => ?_) (fun _ _ z => False.elim z)
      cases f with
      | ret u => exact (fun ⟨v, σ6, H6, S6, r6, q6⟩ => ⟨v, σ6, H6, S6.unsuite g.src.ok, r6, q6⟩) e
      | _ => exact (fun ⟨σ6, H6, S6, q6⟩ => ⟨σ6, H6, S6.unsuite g.src.ok, q6⟩) e
  | named k hc hi hl su r ih =>
    rintro s g ⟨b, h1, h2, h3⟩
    refine wpAny_handleBy_cons (g.ask hs hf hc h1 ?_) (by intro z; cases z)
    cases b with
    | false => exact ih s g (h3 rfl)
    | true =>
      refine codeAny_handlers_suite_as (HandSPX.lands_againZ g.fl fun h4 f4 u4 => ?_)
      have g := g.on f4 u4
      obtain ⟨oe, z1, z2, _, S⟩ := g.within hs hf
      refine store_ok (X := X.suite a ((a, oe) :: (X.pn ++ pins))) (v := .ref a) S hN hi (.inl hl) rfl (fun s5 S5 => ?_) (.inr hl)
      have q0 := h2 rfl a g.na
      have ok := g.src.ok
      cases k with
      | false =>
        refine wpAny_mono ((su a oe cls d (X.pn ++ pins) z1 z2).run [] s5 _ H _ S5 q0) (fun f s6 e => ?_) (fun _ _ z => False.elim z)
        cases f with
        | ret u => exact (fun ⟨v, σ6, H6, S6, r6, q6⟩ => gone_ok (S6.unsuite ok) hN hi hl fun s7 J => ⟨v, _, H6, J, r6, q6⟩) e
        | _ => exact (fun ⟨σ6, H6, S6, q6⟩ => gone_ok (S6.unsuite ok) hN hi hl fun s7 J => ⟨_, H6, J, q6⟩) e
      | true =>
        refine wpAny_mono ((su a oe cls d (X.pn ++ pins) z1 z2).run [] s5 _ H _ S5 q0) (fun f s6 e => ?_) (fun _ _ z => False.elim z)
        cases f with
        | next =>
          obtain ⟨σ6, H6, S6, q6⟩ := e
          obtain ⟨p1, p2, _⟩ := S6.pin (a, oe) (List.mem_append_left _ (List.Mem.head _))
          exact gone_ok (inv_layX (S6.unsuite ok) p1 z1 z2 p2 (g.new0 hex) g.nopin (g.nL hs hf)) hN hi hl fun s7 J => ⟨_, _, J, q6 p2⟩
        | ret u => exact (fun ⟨v, σ6, H6, S6, r6, q6⟩ => gone_ok (S6.unsuite ok) hN hi hl fun s7 J => ⟨v, _, H6, J, r6, q6⟩) e
        | brk => exact (fun ⟨σ6, H6, S6, q6⟩ => gone_ok (S6.unsuite ok) hN hi hl fun s7 J => ⟨_, H6, J, q6⟩) e
        | cont => exact (fun ⟨σ6, H6, S6, q6⟩ => gone_ok (S6.unsuite ok) hN hi hl fun s7 J => ⟨_, H6, J, q6⟩) e
/-- try: .. except ..: .. -/
theorem ps_tryC {body : List Stmt} {h₀ : ExceptHandler} {hds : List ExceptHandler} {l : Clauses} {pos : Pos} {tb : WX → TS} (hs : X.stack = X.env :: X.outer) (hf : X.env.frame = some X.env.locals) (hN : X.N.Nodup) (hex : X.ex = []) (tk : L2N.Takes X W)
    (hb : ∀ (W : WX) (pn : List (Addr × Obj)) (xe : Value → Shared → Prop), L2N.Takes (X.tr pn xe) W → PassesOwn (model X.prog X.w) X.A X.env xe → PSs (X.tr pn xe) body (tb W))
    (hh : ClOk X (h₀ :: hds) l) : PS X (.Try body (h₀ :: hds) [] [] pos) (fun D σ H => tb (wCl X.K W D l) D σ H) := by
  refine ⟨fun pins s σ H D I h => wpAny_Try_except (wpAny_mono ((hb (wCl X.K W D l) (X.pn ++ pins) _ (fun u s2 x => ?_) PassesOwn.looking).run [] s σ H D (I.toTry _) h) (fun f s2 e => ?_) fun _ _ z => z)⟩
  · obtain ⟨a, B, t, pins', σ', H', cls, d, rfl, J, nb, up, sky, na, os, ag, w⟩ := x
    have fr : X.A.frames = some (X.env :: X.outer) := by rw [I.ok.frames, hs]
    have sky2 : Sky B (X.env :: X.outer) a (L2N.Zn cls d) X.env.locals s2.heap := by rw [← hs]; exact sky
    exact L2N.Sky.land L2N.Zn.steady fr hf sky2 fun h3 f3 u3 => clauses_run hs hf hN hex tk hh _ ⟨J.ofTry I.ok, nb, up.trans u3, os, ag, by rw [hs]; exact f3, na⟩ w
  · cases f with
    | ret u => exact (fun ⟨v, σ1, H1, J, r, q⟩ => ⟨v, σ1, H1, J.ofTry I.ok, r, q⟩) e
    | next => exact (fun ⟨σ1, H1, J, q⟩ => wpAny_execs_nil ⟨σ1, H1, J.ofTry I.ok, q⟩) e
    | _ => exact (fun ⟨σ1, H1, J, q⟩ => ⟨σ1, H1, J.ofTry I.ok, q⟩) e
end
/-! the exception as data -/
def rX (es : Eds) (ks : List Ek) : Rp Er := fun F v e => ∃ a : Addr, v = .ref a ∧ F a = some (ExH a (.ref (es.at e.k)) none) ∧ e.plain = true ∧ e.k ∈ ks
theorem mX (es : Eds) (ks : List Ek) : Mono (rX es ks) := fun F F' v e x h => by
  obtain ⟨a, h1, h2, h3⟩ := h
  exact ⟨a, h1, x _ _ h2, h3⟩
theorem nnX {es : Eds} {ks : List Ek} : NN (rX es ks) := fun F v e h => by
  obtain ⟨a, rfl, _⟩ := h
  simp
theorem rX_ref {es : Eds} {ks : List Ek} {F : Hp} {v : V} {e : Er} (h : rX es ks F v e) : ∃ p, v = .ref p := by
  obtain ⟨a, h1, _⟩ := h
  exact ⟨a, h1⟩
theorem rX_k {es : Eds} {ks : List Ek} {F : Hp} {v : V} {e : Er} (h : rX es ks F v e) : e.k ∈ ks := by
  obtain ⟨_, _, _, _, h1⟩ := h
  exact h1
theorem Own.layE {es : Eds} {ks : List Ek} {R H : Hp} {L : List Cell} {a : Addr} {e : Er} (O : Own R H L) (hn : H a = none) (hp : e.plain = true) (hk : e.k ∈ ks) : ∃ R', Own R' (upd H a (ExH a (.ref (es.at e.k)) none)) L ∧ Ex R R' ∧ ∀ R0 Hb, Ex Hb R → rX es ks (ovr R0 Hb R') (.ref a) e := by
  refine ⟨upd R a (ExH a (.ref (es.at e.k)) none), (O.new hn).freeze, Ex.new (O.ex.back hn), fun R0 Hb eB => ⟨a, rfl, ovr_mk (.inr (eB.back (O.ex.back hn))) upd_same, hp, hk⟩⟩
theorem rX_up {es : Eds} {ks : List Ek} {R0 Hb R : Hp} {v : V} {e : Er} (h : rX es ks (ovr R0 Hb R) v e) : rX es ks R v e := mX es ks _ _ _ _ ovr_ex h
/-! isinstance of it -/
def rIsH (K : PySem.W.Frag) (es : Eds) (ks : List Ek) : List V → Hp → VK → Prop := fun xs H Q => ∃ (x c : V) (e : Er) (cv : Value) (b : Bool), xs = [x, c] ∧ ClsV c cv ∧ rX es ks H x e ∧ PySem.W.kitOne K (.ref (es.at e.k)) cv = some b ∧ Q (.bl b) H
theorem inst_h {X : Cx} {pins : List (Addr × Obj)} {σ : L2.St} {H : Hp} {s : Shared} {a D : Addr} (I : Inv X pins σ H s) (h : H a = some (ExH a (.ref D) none)) : ∃ oe od, PySem.W.InstAt s.heap a oe D od := by
  obtain ⟨⟨oe, vs, he, hz, hd⟩, _⟩ := (show ObjOk X.prog X.w H s.heap a (ExH a (.ref D) none) from I.hok a _ h)
  obtain ⟨oc, od, oda, osl⟩ := oe
  obtain ⟨h1, h2, _⟩ := hz
  dsimp only at h1 h2 hd
  subst h1 h2 hd
  exact ⟨_, none, he, rfl, rfl, trivial⟩
theorem call_isH {X : Cx} {es : Eds} {ks : List Ek} (T : EcF X.K es ks) : CallR X (.builtin "isinstance") (rIsH X.K es ks) := by
  intro pins s σ H xs us Q I r h
  obtain ⟨x, c, ex, cv, b, rfl, hcv, ⟨a, rfl, hd, _, hk⟩, e, q⟩ := h
  obtain ⟨u1, u2, rfl, r1, r2⟩ := vals2 r
  cases (show u1 = Value.ref a from r1)
  have ec := hcv.eq r2
  subst ec
  have C := T.ec _ hk
  obtain ⟨oe, od, J⟩ := inst_h I hd
  exact PySem.W.kia_one (PySem.W.kitx_exc (exc_cls C) C.hg C.hk C.hs C.ha C.hn C.ht C.hm) I.kIn J e (fun z => nomatch z) fun tk => ⟨.bl b, H, I.kept (t' := tk) fun _ _ z => z, rfl, q⟩
def rIsHt (K : PySem.W.Frag) (es : Eds) (ks : List Ek) : List V → Hp → VK → Prop := fun xs H Q => ∃ (x : V) (tp : Addr) (ex : Er) (cs : List V) (us : List Value) (b : Bool), xs = [x, .ref tp] ∧ rX es ks H x ex ∧ H tp = some (.tup cs) ∧ Paired ClsV cs us ∧ PySem.W.kitAny K (.ref (es.at ex.k)) us = some b ∧ Q (.bl b) H
theorem call_isHt {X : Cx} {es : Eds} {ks : List Ek} (T : EcF X.K es ks) : CallR X (.builtin "isinstance") (rIsHt X.K es ks) := by
  intro pins s σ H xs us Q I r h
  obtain ⟨x, tp, ex, cs, ws, b, rfl, ⟨a, rfl, hd, _, hk⟩, hT, k, e, q⟩ := h
  obtain ⟨u1, u2, rfl, r1, r2⟩ := vals2 r
  cases (show u1 = Value.ref a from r1)
  cases (show u2 = Value.ref tp from r2)
  obtain ⟨_, its, rv, o, h1, h2, n, h3⟩ := (show ObjOk X.prog X.w H s.heap tp (.tup cs) from I.hok tp _ hT)
  have e3 := ClsV.all k rv
  subst e3
  obtain ⟨oc, od, dt, sl⟩ := o
  simp only at h2 h3
  subst h2 h3
  have C := T.ec _ hk
  obtain ⟨oe, od, J⟩ := inst_h I hd
  exact PySem.W.kia_tup (PySem.W.kitx_exc (exc_cls C) C.hg C.hk C.hs C.ha C.hn C.ht C.hm) I.kIn J h1 e (fun z => nomatch z) fun tk => ⟨.bl b, H, I.kept (t' := tk) fun _ _ z => z, rfl, q⟩
theorem exE2 {es : Eds} {ks : List Ek} {cls : Value} {dd : Option Addr} {H H' : Hp} {t : Er → TS} {D : Ends} {σ : L2.St} {e : Er} (hX : XFl e dd H') (hk : e.k ∈ ks) (hc : cls = .ref (es.at e.k)) (q : t e D σ H) : ∃ e : Er, e.k ∈ ks ∧ cls = .ref (es.at e.k) ∧ t e D σ H := ⟨e, hk, hc, q⟩
end Bt

set_option linter.all false
set_option maxRecDepth 100000
set_option maxHeartbeats 1000000
/-! What was told, its inner lists changed by its asker: a loop over them all. -/
namespace Bt
open PySem L2
def NoL {α : Type} (P : Rp α) : Prop := ∀ F v x, P F v x → ∀ p ws, v = .ref p → F p = some (.lst ws) → False
theorem noI : NoL rI := fun F v x h p ws e _ => by
  rw [show v = V.int x from h] at e
  cases e
theorem noB : NoL rB := fun F v x h p ws e _ => by
  rw [show v = V.bl x from h] at e
  cases e
theorem noS : NoL rS := fun F v x h p ws e _ => by
  rw [show v = V.str x from h] at e
  cases e
theorem noT2 {α β : Type} {P : Rp α} {P' : Rp β} : NoL (rT2 P P') := fun F v x h p ws e k => by
  obtain ⟨q, _, _, rfl, h1, _⟩ := h
  cases e
  rw [h1] at k
  cases k
theorem noT3 {α β γ : Type} {P : Rp α} {P' : Rp β} {P3 : Rp γ} : NoL (rT3 P P' P3) := fun F v x h p ws e k => by
  obtain ⟨q, _, _, _, rfl, h1, _⟩ := h
  cases e
  rw [h1] at k
  cases k
def pokeG {α : Type} (xs : List (List α)) : Option Unit := grd (∀ r ∈ xs, r.length + xs.length ≤ 16777216) ()
def PkR (Rs : Hp) (a : Addr) (vs : List V) (B : Nat) (R : Hp) : Prop :=
  Ex Rs R ∧ R a = some (.lst vs) ∧ ∀ v ∈ vs, ∃ p ws, v = .ref p ∧ p ≠ a ∧ Rs p = none ∧ R p = some (.lst ws) ∧ ws.length ≤ B
def PkJ (Rs : Hp) (L : List Cell) (a : Addr) (vs : List V) (n : Nat) (H : Hp) : Prop := ∃ B R, B + n ≤ 16777216 ∧ Own R H L ∧ PkR Rs a vs B R
theorem All2.memL {α β : Type} {P : α → β → Prop} {as : List α} {bs : List β} (h : All2 P as bs) : ∀ a ∈ as, ∃ b ∈ bs, P a b := by
  induction h with
  | nil => exact fun _ h => nomatch h
  | cons k _ ih =>
    intro a ha
    rcases List.mem_cons.mp ha with rfl | ha
    · exact ⟨_, List.Mem.head _, k⟩
    · obtain ⟨b, hb, hp⟩ := ih a ha
      exact ⟨b, List.Mem.tail _ hb, hp⟩
theorem pk_start1 {α : Type} {P : Rp α} {Rs X R H : Hp} {L : List Cell} {a : Addr} {vs : List V} {xs : List (List α)} {u : Unit} (O : Own R H L) (e : Ex Rs R) (hX : ∀ p ws, X p = some (.lst ws) → Rs p = none) (eX : Ex X R) (h1 : X a = some (.lst vs)) (h2 : All2 (rL P X) vs xs) (nl : NoL P) (hb : pokeG xs = some u) : PkJ Rs L a vs xs.length H := by
  obtain ⟨hb, _⟩ := grdE hb
  have hle : ∀ v ∈ vs, ∃ p ws, v = .ref p ∧ p ≠ a ∧ Rs p = none ∧ R p = some (.lst ws) ∧ ws.length + xs.length ≤ 16777216 := fun v hv => by
    obtain ⟨r, hr, p, ws, rfl, k1, k2⟩ := h2.memL v hv
    refine ⟨p, ws, rfl, fun z => ?_, hX _ _ k1, eX _ _ k1, by rw [k2.len]; exact hb r hr⟩
    subst z
    rw [h1] at k1
    cases k1
    obtain ⟨y, _, hy⟩ := k2.memL _ hv
    exact nl _ _ _ hy _ _ rfl h1
  by_cases hx : xs.length ≤ 16777216
  · refine ⟨16777216 - xs.length, R, by omega, O, e, eX _ _ h1, fun v hv => ?_⟩
    obtain ⟨p, ws, a1, a2, a3, a4, a5⟩ := hle v hv
    exact ⟨p, ws, a1, a2, a3, a4, by omega⟩
  · exfalso
    cases xs with
    | nil => simp at hx
    | cons r q =>
      have := hb r (List.Mem.head _)
      omega
theorem pk_start {α : Type} {P : Rp α} {Rs Hc R H : Hp} {L : List Cell} {a : Addr} {vs : List V} {xs : List (List α)} {u : Unit} (O : Own R H L) (e : Ex Rs R) (hc : Ex Rs Hc) (h1 : ovr (fun _ => none) Hc R a = some (.lst vs)) (h2 : All2 (rL P (ovr (fun _ => none) Hc R)) vs xs) (nl : NoL P) (hb : pokeG xs = some u) : PkJ Rs L a vs xs.length H :=
  pk_start1 O e (fun p ws h => by
    obtain ⟨c, _⟩ := ovr_some h
    rcases c with c | c
    · exact absurd rfl c
    · exact hc.back c) ovr_ex h1 h2 nl hb
theorem pk_as {Rs Fr Hc R : Hp} (eF : Ex Fr R) (hF : ∀ p o, Fr p = some o → Rs p = none ∨ ∃ t, o = .tup t) (hc : Ex Rs Hc) : ∀ p ws, ovr Fr Hc R p = some (.lst ws) → Rs p = none := fun p ws h => by
  obtain ⟨c, k⟩ := ovr_some h
  rcases c with c | c
  · cases e : Fr p with
    | none => exact absurd e c
    | some o =>
      rcases hF p o e with q | ⟨t, rfl⟩
      · exact q
      · rw [eF _ _ e] at k
        cases k
  · exact hc.back c
/-! the frame that a call needs to know: some cells, and all tuples -/
def lonR (as : List Addr) (F : Hp) : Hp := fun x => if x ∈ as then F x else match F x with
  | some (.tup t) => some (.tup t)
  | _ => none
theorem lonR_ex {as : List Addr} {F : Hp} : Ex (lonR as F) F := fun x o h => by
  unfold lonR at h
  split at h
  · exact h
  · split at h
    · rename_i t e
      rw [e, ← h]
    · cases h
theorem lonR_tup {as : List Addr} {F : Hp} {x : Addr} {t : List V} (h : F x = some (.tup t)) : lonR as F x = some (.tup t) := by
  unfold lonR
  split
  · exact h
  · rw [h]
theorem lonR_or {as : List Addr} {F Hs : Hp} (h : ∀ p, p ∈ as → Hs p = none) : ∀ p o, lonR as F p = some o → Hs p = none ∨ ∃ t, o = .tup t := fun p o e => by
  unfold lonR at e
  split at e
  · exact .inl (h p (by assumption))
  · split at e
    · exact .inr ⟨_, (Option.some.inj e).symm⟩
    · cases e
def TpO {α : Type} (P : Rp α) : Prop := ∀ as F v x, P F v x → P (lonR as F) v x
theorem tpI : TpO rI := fun _ _ _ _ h => h
theorem tpB : TpO rB := fun _ _ _ _ h => h
theorem tpS : TpO rS := fun _ _ _ _ h => h
theorem tpT2 {α β : Type} {P : Rp α} {P' : Rp β} (m : TpO P) (n : TpO P') : TpO (rT2 P P') := fun as F v x h => by
  obtain ⟨p, a, b, rfl, h1, h2, h3⟩ := h
  exact ⟨p, a, b, rfl, lonR_tup h1, m _ _ _ _ h2, n _ _ _ _ h3⟩
theorem tpT3 {α β γ : Type} {P : Rp α} {P' : Rp β} {P3 : Rp γ} (m : TpO P) (n : TpO P') (o : TpO P3) : TpO (rT3 P P' P3) := fun as F v x h => by
  obtain ⟨p, a, b, c, rfl, h1, h2, h3, h4⟩ := h
  exact ⟨p, a, b, c, rfl, lonR_tup h1, m _ _ _ _ h2, n _ _ _ _ h3, o _ _ _ _ h4⟩
theorem lonL {α : Type} {P : Rp α} {as : List Addr} {F : Hp} {a : Addr} {xs : List α} (h : rL P F (.ref a) xs) (hm : a ∈ as) (tp : TpO P) : rL P (lonR as F) (.ref a) xs := by
  obtain ⟨p, vs, e, h1, h2⟩ := h
  cases e
  refine ⟨_, vs, rfl, ?_, h2.mp fun v x h => tp _ _ _ _ h⟩
  unfold lonR
  rw [if_pos hm]
  exact h1
theorem ovr_lo {as : List Addr} {R0 Hb Hc H0 R Fr : Hp} (hF : Fr = lonR as (ovr R0 Hb H0)) (e : Ex Hb Hc) : Ex (ovr Fr Hc R) (ovr R0 Hb R) := fun a o h => by
  obtain ⟨q, h1⟩ := ovr_some h
  refine ovr_mk ?_ h1
  rcases q with q | q
  · cases z : Fr a with
    | none => exact absurd z q
    | some u =>
      rw [hF] at z
      exact (ovr_some (lonR_ex _ _ z)).1
  · exact .inr (e.back q)
theorem Own.retX1 {A R H Hc : Hp} {B C : List Cell} {D : DT} {Q : VK} (O : Own R H (B ++ C)) (m : MonoD D) (hc : Hc = hsub H B) (hA : Ex A R) (k : ∀ v H' R' L', Own R' H' (L' ++ C) → Ex R R' → D (ovr A Hc R') v L' → Q v H') : RetX A (hsub H B) D Q := fun v H' R' L' e O' d => by
  obtain ⟨R'', O'', e1, e2⟩ := O.back e O'
  subst hc
  refine k v H' R'' L' O'' e1 (m _ _ _ _ (fun a u h => ?_) d)
  obtain ⟨q, _⟩ := ovr_some h
  exact ovr_mk q (e2 _ hA _ _ h)
theorem k_pokeP {Rs R H : Hp} {L E : List Cell} {a q : Addr} {v : V} {vs : List V} {B n : Nat} {Q : VK} (O : Own R H (E ++ L)) (hP : PkR Rs a vs B R) (hm : V.ref q ∈ vs) (hB : B + (n + 1) ≤ 16777216) (k : ∀ H', PkJ Rs L a vs n H' → Q .non H') : rAppend (.ref q) [v] H Q := by
  obtain ⟨e, h1, h2⟩ := hP
  obtain ⟨p, ws, a1, a2, a3, b1, a4⟩ := h2 _ hm
  cases a1
  refine ⟨q, ws, v, rfl, rfl, O.ex _ _ b1, by show _ < 16777216; omega, k _ ⟨B + 1, upd R q (.lst (ws ++ [v])), by omega, ?_, ?_, ?_, ?_⟩⟩
  · have O := O.right
    have hne : ∀ c ∈ L, c.1 ≠ q := fun c hc z => by
      have := O.fr c hc
      rw [z, b1] at this
      cases this
    refine ⟨fun x u h => ?_, fun c hc => ?_, fun c hc => ?_, O.nd⟩
    · by_cases z : x = q
      · subst z
        rw [upd_same] at h ⊢
        exact h
      · rw [upd_ne z] at h ⊢
        exact O.ex _ _ h
    · rw [upd_ne (hne c hc)]
      exact O.at_ c hc
    · rw [upd_ne (hne c hc)]
      exact O.fr c hc
  · intro x u h
    rw [upd_ne (ne_of_none h a3)]
    exact e _ _ h
  · rw [upd_ne (Ne.symm a2)]
    exact h1
  · intro w hw
    obtain ⟨p, us, c1, c2, c3, c4, c5⟩ := h2 w hw
    by_cases z : p = q
    · subst z
      rw [b1] at c4
      cases c4
      exact ⟨p, _, c1, c2, c3, upd_same, by simp; omega⟩
    · exact ⟨p, us, c1, c2, c3, by rw [upd_ne z]; exact c4, by omega⟩
theorem q_forP {α : Type} {K : PySem.W.Frag} {Rs H : Hp} {L : List Cell} {a : Addr} {vs : List V} {xs : List α} {j : Nat} {ts : TS} {n : St → Hp → Prop} {w : VK} {σ : St} (σ1 : Option V → St) (hl : vs.length = xs.length) (hP : PkJ Rs L a vs xs.length H) (h0 : ∃ u, σ = σ1 u) (hj : ∀ u v, (σ1 u).set j (some v) = σ1 (some v))
    (hs : ∀ q m B R H, Own R H L → PkR Rs a vs B R → V.ref q ∈ vs → B + (m + 1) ≤ 16777216 → (∃ ws, H q = some (.lst ws)) → ts (Ends.mk (fun σ H => (∃ u, σ = σ1 u) ∧ PkJ Rs L a vs m H) w n (fun σ H => (∃ u, σ = σ1 u) ∧ PkJ Rs L a vs m H)) (σ1 (some (.ref q))) H)
    (hd : ∀ u H, Own Rs H L → n (σ1 u) H) :
    ∃ W : Nat → Nat → St → Hp → Prop, (∃ m, W 0 m σ H) ∧ ∀ i m σ H, W i m σ H →
      ((Itl K a).stop i H ∧ n σ H) ∨ ((Itl K a).go i H ∧ ∃ N : St → Hp → Prop, (∀ σ' H', N σ' H' → ∃ m', m' < m ∧ W (i + 1) m' σ' H') ∧ ∀ x H', (Itl K a).yld i H x H' → gName j x σ H' fun σ2 H2 => ts (Ends.mk N w n N) σ2 H2) := by
  refine q_forA (P := fun v (_ : α) => v ∈ vs) (b := fun _ _ => False) (k := fun _ _ => False) (xs := xs) (All2.of_get hl fun i x y e _ => List.mem_of_getElem? e) (fun r σ H => (∃ u, σ = σ1 u) ∧ PkJ Rs L a vs r.length H) ⟨h0, hP⟩ (fun r σ H h => ?_) (fun x v r σ H hv h => ?_) (fun σ H h => ?_)
  · obtain ⟨_, B, R, _, O, _, h1, _⟩ := h
    exact SqL.of (O.ex _ _ h1)
  · obtain ⟨⟨u, rfl⟩, B, R, h1, O, h2⟩ := h
    obtain ⟨p, ws, rfl, _, _, h3, _⟩ := h2.2.2 v hv
    rw [hj]
    exact hs p r.length B R H O h2 hv h1 ⟨ws, O.ex _ _ h3⟩
  · obtain ⟨⟨u, rfl⟩, B, R, h1, O, h2⟩ := h
    exact hd u H (O.shrink h2.1)
theorem pk_none {Rs Hc R : Hp} {a : Addr} {o : HO} (hc : Ex Rs Hc) (h1 : ovr (fun _ => none) Hc R a = some o) : Rs a = none := by
  obtain ⟨c, _⟩ := ovr_some h1
  rcases c with c | c
  · exact absurd rfl c
  · exact hc.back c
def pokeO {α : Type} (xs : List α) : Option Unit := grd (xs.length < 16777216) ()
theorem k_pokeO {α : Type} {P : Rp α} {F Rs R H : Hp} {L E : List Cell} {a : Addr} {v : V} {vs : List V} {xs : List α} {B : Nat} {u : Unit} {Q : VK} (O : Own R H (E ++ L)) (hP : PkR Rs a vs B R) (hz : Rs a = none) (h2 : All2 (P F) vs xs) (hb : pokeO xs = some u) (k : ∀ H', Own Rs H' L → Q .non H') : rAppend (.ref a) [v] H Q := by
  obtain ⟨hb, _⟩ := grdE hb
  obtain ⟨e, h1, _⟩ := hP
  refine ⟨a, vs, v, rfl, rfl, O.ex _ _ h1, by show _ < 16777216; rw [h2.len]; exact hb, k _ ?_⟩
  have O := O.right
  have hne : ∀ c ∈ L, c.1 ≠ a := fun c hc z => by
    have := O.fr c hc
    rw [z, h1] at this
    cases this
  refine ⟨fun x u h => ?_, fun c hc => ?_, fun c hc => ?_, O.nd⟩
  · by_cases z : x = a
    · subst z
      rw [hz] at h
      cases h
    · rw [upd_ne z]
      exact O.ex _ _ (e _ _ h)
  · rw [upd_ne (hne c hc)]
    exact O.at_ c hc
  · cases q : Rs c.1 with
    | none => rfl
    | some o =>
      have := e _ _ q
      rw [O.fr c hc] at this
      cases this
theorem q_forP2 {α : Type} {K : PySem.W.Frag} {Rs H : Hp} {L : List Cell} {a : Addr} {vs : List V} {xs : List α} {j : Nat} {ts : TS} {n : St → Hp → Prop} {w : VK} {σ : St} (σ1 : Option V → St) (hl : vs.length = xs.length) (hP : PkJ Rs L a vs xs.length H) (h0 : ∃ u, σ = σ1 u) (hj : ∀ u v, (σ1 u).set j (some v) = σ1 (some v))
    (hs : ∀ q m B R H, Own R H L → PkR Rs a vs B R → V.ref q ∈ vs → B + (m + 1) ≤ 16777216 → (∃ ws, H q = some (.lst ws)) → ts (Ends.mk (fun σ H => (∃ u, σ = σ1 u) ∧ PkJ Rs L a vs m H) w n (fun σ H => (∃ u, σ = σ1 u) ∧ PkJ Rs L a vs m H)) (σ1 (some (.ref q))) H)
    (hd : ∀ u H B R, Own R H L → PkR Rs a vs B R → n (σ1 u) H) :
    ∃ W : Nat → Nat → St → Hp → Prop, (∃ m, W 0 m σ H) ∧ ∀ i m σ H, W i m σ H →
      ((Itl K a).stop i H ∧ n σ H) ∨ ((Itl K a).go i H ∧ ∃ N : St → Hp → Prop, (∀ σ' H', N σ' H' → ∃ m', m' < m ∧ W (i + 1) m' σ' H') ∧ ∀ x H', (Itl K a).yld i H x H' → gName j x σ H' fun σ2 H2 => ts (Ends.mk N w n N) σ2 H2) := by
  refine q_forA (P := fun v (_ : α) => v ∈ vs) (b := fun _ _ => False) (k := fun _ _ => False) (xs := xs) (All2.of_get hl fun i x y e _ => List.mem_of_getElem? e) (fun r σ H => (∃ u, σ = σ1 u) ∧ PkJ Rs L a vs r.length H) ⟨h0, hP⟩ (fun r σ H h => ?_) (fun x v r σ H hv h => ?_) (fun σ H h => ?_)
  · obtain ⟨_, B, R, _, O, _, h1, _⟩ := h
    exact SqL.of (O.ex _ _ h1)
  · obtain ⟨⟨u, rfl⟩, B, R, h1, O, h2⟩ := h
    obtain ⟨p, ws, rfl, _, _, h3, _⟩ := h2.2.2 v hv
    rw [hj]
    exact hs p r.length B R H O h2 hv h1 ⟨ws, O.ex _ _ h3⟩
  · obtain ⟨⟨u, rfl⟩, B, R, h1, O, h2⟩ := h
    exact hd u H B R O h2
end Bt

set_option linter.all false
set_option maxRecDepth 100000
set_option maxHeartbeats 1000000
/-! Texts. -/
namespace Bt
open PySem L2
def sg (c : Nat) : Str := ⟨#[c]⟩
/-- the signs of a text -/
def sgs (z : Str) : List Str := z.cps.toList.map sg
def ixS (z : Str) (i : Int) : Option Str := bnd (grd (z.length ≤ 16777216) (sgs z)) fun l => atI l i
def slS (z : Str) (lo hi : Option Int) : Option Str := grd (z.length ≤ 16777216) (cutS z lo hi)
def addS (x y : Str) : Option Str := grd (x.length + y.length ≤ 16777216) (x ++ y)
def lenS (z : Str) : Option Int := grd (z.length ≤ 16777216) (z.length : Int)
def joinS (a : Str) (ys : List Str) : Option Str := grd ((ys.map (·.length)).sum + ys.length * a.length ≤ 16777216) (Txt.join a ys)
section
variable {K : PySem.W.Frag} {σ : St} {H R : Hp} {L : List Cell} {Q : VK} {i : Int} {x y z : Str} {lo hi : Option Int} {p : Addr} {ys : List Str} {n : Int}
theorem atI_map {α β : Type} {f : α → β} {xs : List α} {i : Int} {v : β} (h : atI (xs.map f) i = some v) : ∃ u, atI xs i = some u ∧ v = f u := by
  unfold atI at h ⊢
  rw [List.length_map] at h
  cases e : ixN xs.length i with
  | none => rw [e] at h; cases h
  | some j =>
    rw [e] at h
    have h : (xs.map f)[j]? = some v := h
    rw [List.getElem?_map] at h
    cases e2 : xs[j]? with
    | none => rw [e2] at h; cases h
    | some u =>
      rw [e2] at h
      exact ⟨u, e2, (Option.some.inj h).symm⟩
theorem k_ixS (h : ixS z i = some y) (k : Q (.str y) H) : rIxS (.str z) (.int i) H Q := by
  obtain ⟨l, h1, h2⟩ := bndE h
  obtain ⟨c, rfl⟩ := grdE h1
  obtain ⟨u, e1, rfl⟩ := atI_map h2
  exact ⟨z, i, u, rfl, rfl, c, e1, k⟩
theorem k_slS (h : slS z lo hi = some y) (k : Q (.str y) H) : rSlS (.str z) lo hi H Q := by
  obtain ⟨c, rfl⟩ := grdE h
  exact ⟨z, rfl, c, k⟩
def rAddZ : R2 := fun x y H Q => ∃ i j, x = .str i ∧ y = .str j ∧ i.length + j.length ≤ sizeLine ∧ Q (.str (i ++ j)) H
theorem op_addZ {X : Cx} : OpR X (binaryOp .Add) rAddZ := op_add_str
theorem k_addS (h : addS x y = some z) (k : Q (.str z) H) : rAddZ (.str x) (.str y) H Q := by
  obtain ⟨c, rfl⟩ := grdE h
  exact ⟨x, y, rfl, rfl, c, k⟩
def rLenZ : List V → Hp → VK → Prop := fun xs H Q => ∃ z : Str, xs = [.str z] ∧ z.length ≤ sizeLine ∧ Q (.int (z.length : Int)) H
theorem call_lenZ {X : Cx} : CallR X (.builtin "len") rLenZ := call_len_str
theorem n_lenZ (h : lenS z = some n) (k : Q (.int n) H) : rLenZ [.str z] H Q := by
  obtain ⟨c, rfl⟩ := grdE h
  exact ⟨z, rfl, c, k⟩
theorem o_m1 {to te : TE} {r : V → List V → Hp → VK → Prop} (h : to σ H fun x H1 => (∃ a, x = .str a) ∧ te σ H1 fun y H2 => r x [y] H2 Q) : tM1 r to te σ H Q := h
def rJoin (K : PySem.W.Frag) : V → List V → Hp → VK → Prop := fun x xs H Q => ∃ a p, ∃ ys : List Str, x = .str a ∧ xs = [.ref p] ∧ (SqL K H p (ys.map V.str) ∨ SqT K H p (ys.map V.str)) ∧ (ys.map (·.length)).sum + ys.length * a.length ≤ 16777216 ∧ Q (.str (Txt.join a ys)) H
theorem mt_joinZ {X : Cx} : MtR X "str.join" (rJoin X.K) := mt_join
theorem k_join (hs : SqL K H p (ys.map V.str)) (h : joinS x ys = some z) (k : Q (.str z) H) : rJoin K (.str x) [.ref p] H Q := by
  obtain ⟨c, rfl⟩ := grdE h
  exact ⟨x, p, ys, rfl, rfl, .inl hs, c, k⟩
theorem o_is {te : TE} {Rr : It → Hp → Prop} (h : te σ H fun v H1 => ∃ x, v = .str x ∧ Rr (Its x) H1) : iStr te σ H Rr := h
theorem q_forS {j : Nat} {z : Str} {ts : TS} {n b k : St → Hp → Prop} {w : VK} (J : List Str → St → Hp → Prop) (h0 : J (sgs z) σ H)
    (hs : ∀ x r σ H, J (x :: r) σ H → ts (Ends.mk (J r) w n (J r)) (σ.set j (some (.str x))) H) (hd : ∀ σ H, J [] σ H → n σ H) :
    ∃ W : Nat → Nat → St → Hp → Prop, (∃ m, W 0 m σ H) ∧ ∀ i m σ H, W i m σ H →
      ((Its z).stop i H ∧ n σ H) ∨ ((Its z).go i H ∧ ∃ N : St → Hp → Prop, (∀ σ' H', N σ' H' → ∃ m', m' < m ∧ W (i + 1) m' σ' H') ∧ ∀ x H', (Its z).yld i H x H' → gName j x σ H' fun σ2 H2 => ts (Ends.mk N w n N) σ2 H2) := by
  have hz : (sgs z).length = z.cps.size := by unfold sgs; simp
  refine ⟨fun i m σ H => m = z.cps.size - i ∧ i ≤ z.cps.size ∧ J ((sgs z).drop i) σ H, ⟨z.cps.size, by simp, Nat.zero_le _, h0⟩, ?_⟩
  rintro i m σ H ⟨rfl, hi, hJ⟩
  by_cases hlt : i < z.cps.size
  · have e : z.cps[i]? = some z.cps[i] := Array.getElem?_eq_getElem hlt
    have e2 : (sgs z).drop i = sg z.cps[i] :: (sgs z).drop (i + 1) := by
      rw [List.drop_eq_getElem_cons (by omega)]
      congr 1
      unfold sgs
      simp
    rw [e2] at hJ
    refine .inr ⟨hlt, J ((sgs z).drop (i + 1)), fun σ' H' hJ' => ⟨_, by omega, rfl, hlt, hJ'⟩, fun v H' hv => ?_⟩
    obtain ⟨rfl, c, hc, rfl⟩ := hv
    rw [e] at hc
    cases hc
    exact hs _ _ σ H' hJ
  · have : i = z.cps.size := by omega
    subst this
    rw [List.drop_of_length_le (by omega)] at hJ
    exact .inl ⟨Nat.le_refl _, hd σ H hJ⟩
def inS (x y : Str) : Bool := !(Builtin.Str.occurrences y x 0 y.length 1).isEmpty
def rInZ : R2 := fun x y H Q => ∃ i j, x = .str i ∧ y = .str j ∧ Q (.bl (inS i j)) H
theorem op_inZ {X : Cx} : OpR X (compareOp .In) rInZ := op_in_str
def rNiZ : R2 := fun x y H Q => ∃ i j, x = .str i ∧ y = .str j ∧ Q (.bl (!inS i j)) H
theorem op_niZ {X : Cx} : OpR X (compareOp .NotIn) rNiZ := op_notin_str
def strI (i : Int) : Option Str := grd (i.natAbs.log2 < 1920) (Str.ofString (toString i))
def rStrZ : List V → Hp → VK → Prop := fun xs H Q => ∃ i : Int, xs = [.int i] ∧ i.natAbs.log2 < 1920 ∧ Q (.str (Str.ofString (toString i))) H
theorem call_strZ {X : Cx} : CallR X (.type "str") rStrZ := call_str_int
theorem n_strZ (h : strI i = some z) (k : Q (.str z) H) : rStrZ [.int i] H Q := by
  obtain ⟨c, rfl⟩ := grdE h
  exact ⟨i, rfl, c, k⟩
def intS (z : Str) : Option Int := bnd (grd (z.length ≤ 640) ()) fun _ => intText? z
def rIntZ : List V → Hp → VK → Prop := fun xs H Q => ∃ (a : Str) (n : Int), xs = [.str a] ∧ PySem.intText? a = some n ∧ a.length ≤ 640 ∧ Q (.int n) H
theorem call_intZ {X : Cx} : CallR X (.type "int") rIntZ := call_int_str
theorem n_intZ (h : intS z = some n) (k : Q (.int n) H) : rIntZ [.str z] H Q := by
  obtain ⟨u, h1, h2⟩ := bndE h
  obtain ⟨c, _⟩ := grdE h1
  exact ⟨z, n, rfl, h2, c, k⟩
def zfS (z : Str) (i : Int) : Option Str := grd (PySem.PadOk i = true) (Txt.zfill z i)
def rZf : V → List V → Hp → VK → Prop := fun x xs H Q => ∃ (a : Str) (i : Int), x = .str a ∧ xs = [.int i] ∧ PySem.PadOk i = true ∧ Q (.str (Txt.zfill a i)) H
theorem mt_zfZ {X : Cx} : MtR X "str.zfill" rZf := mt_zfill
theorem k_zf (h : zfS x i = some z) (k : Q (.str z) H) : rZf (.str x) [.int i] H Q := by
  obtain ⟨c, rfl⟩ := grdE h
  exact ⟨x, i, rfl, rfl, c, k⟩
/-! range with a step -/
def rng3 (i j c : Int) : Option (List Int) := grd (0 < c ∧ c < 1000000 ∧ -(2 ^ 60) ≤ i ∧ i < 2 ^ 60 ∧ -(2 ^ 60) ≤ j ∧ j < 2 ^ 60) ((List.range (Builtin.Range.rangeSize i j c).toNat).map fun (k : Nat) => i + (k : Int) * c)
theorem rng3E {i j c : Int} {xs : List Int} (h : rng3 i j c = some xs) : RgC i j c (Builtin.Range.rangeSize i j c).toNat ∧ ((List.range (Builtin.Range.rangeSize i j c).toNat).map fun (k : Nat) => i + (k : Int) * c) = xs := by
  obtain ⟨⟨c0, c1, i0, i1, j0, j1⟩, rfl⟩ := grdE h
  have hs : 0 ≤ Builtin.Range.rangeSize i j c ∧ Builtin.Range.rangeSize i j c ≤ 2 ^ 62 := by
    unfold Builtin.Range.rangeSize
    rw [if_pos c0]
    split
    · rename_i hlt
      have h1 := Int.ediv_nonneg (show 0 ≤ j - i - 1 by omega) (show 0 ≤ c by omega)
      have h2 := Int.ediv_le_self c (show 0 ≤ j - i - 1 by omega)
      omega
    · omega
  refine ⟨⟨by omega, by omega, ?_, by omega⟩, rfl⟩
  unfold Builtin.Range.small
  generalize Builtin.Range.rangeSize i j c = z at hs
  simp only [Builtin.Range.rangeFitsLong, Bool.and_eq_true, Bool.or_eq_true, decide_eq_true_eq, beq_iff_eq, if_pos (show c > 0 from c0)]
  omega
theorem o_ir3 {tr : TA} {Rr : It → Hp → Prop} (h : tr σ H fun vs H1 => ∃ (i j c : Int) (n : Nat), vs = [.int i, .int j, .int c] ∧ RgC i j c n ∧ Rr (Itc i c n) H1) : iRng3 tr σ H Rr := h
theorem q_forC {j : Nat} {lo c : Int} {n : Nat} {ts : TS} {nx : St → Hp → Prop} {w : VK} (J : List Int → St → Hp → Prop) (h0 : J ((List.range n).map fun (i : Nat) => lo + (i : Int) * c) σ H)
    (hs : ∀ x r σ H, J (x :: r) σ H → ts (Ends.mk (J r) w nx (J r)) (σ.set j (some (.int x))) H) (hd : ∀ σ H, J [] σ H → nx σ H) :
    ∃ W : Nat → Nat → St → Hp → Prop, (∃ m, W 0 m σ H) ∧ ∀ i m σ H, W i m σ H →
      ((Itc lo c n).stop i H ∧ nx σ H) ∨ ((Itc lo c n).go i H ∧ ∃ N : St → Hp → Prop, (∀ σ' H', N σ' H' → ∃ m', m' < m ∧ W (i + 1) m' σ' H') ∧ ∀ x H', (Itc lo c n).yld i H x H' → gName j x σ H' fun σ2 H2 => ts (Ends.mk N w nx N) σ2 H2) := by
  have hz : ((List.range n).map fun (i : Nat) => lo + (i : Int) * c).length = n := by simp
  generalize hL : ((List.range n).map fun (i : Nat) => lo + (i : Int) * c) = L at h0 hz
  refine ⟨fun i m σ H => m = n - i ∧ i ≤ n ∧ J (L.drop i) σ H, ⟨n, by simp, Nat.zero_le _, h0⟩, ?_⟩
  rintro i m σ H ⟨rfl, hi, hJ⟩
  by_cases hlt : i < n
  · have e2 : L.drop i = (lo + (i : Int) * c) :: L.drop (i + 1) := by
      rw [List.drop_eq_getElem_cons (by omega)]
      congr 1
      subst hL
      simp
    rw [e2] at hJ
    refine .inr ⟨hlt, J (L.drop (i + 1)), fun σ' H' hJ' => ⟨_, by omega, rfl, hlt, hJ'⟩, fun v H' hv => ?_⟩
    obtain ⟨rfl, rfl⟩ := hv
    exact hs _ _ σ H' hJ
  · have : i = n := by omega
    subst this
    rw [List.drop_of_length_le (by omega)] at hJ
    exact .inl ⟨Nat.le_refl _, hd σ H hJ⟩
theorem k_inZ (q : Q (.bl (inS x y)) H) : rInZ (.str x) (.str y) H Q := ⟨x, y, rfl, rfl, q⟩
theorem k_niZ (q : Q (.bl (!inS x y)) H) : rNiZ (.str x) (.str y) H Q := ⟨x, y, rfl, rfl, q⟩
theorem gv_str {K : PySem.W.Frag} {h : Heap} {mg : Str → Option Value} {x s : Str} {t : Tok} (X : K.In h) (G : h.Ns mainGlobals mg) (a : PySem.W.nsIn K mainGlobals x = some (some (.str s t))) : Gv mg x (.str s) := ⟨_, PySem.W.mg_of X G a, _, rfl⟩
/-! text.index(sign), found -/
def idxS (x y : Str) : Option Int := match Builtin.Str.occurrences x y 0 x.length 1 with
  | i :: _ => some ((i : Nat) : Int)
  | [] => none
def rIndexZ : V → List V → Hp → VK → Prop := fun x xs H Q => ∃ a b i rest, x = .str a ∧ xs = [.str b] ∧ Builtin.Str.occurrences a b 0 a.length 1 = i :: rest ∧ Q (.int (i : Nat)) H
theorem mt_indexZ {X : Cx} : MtR X "str.index" rIndexZ := mt_sindex
theorem k_indexZ (h : idxS x y = some n) (k : Q (.int n) H) : rIndexZ (.str x) [.str y] H Q := by
  unfold idxS at h
  split at h
  · rename_i i r e
    cases h
    exact ⟨x, y, i, r, rfl, rfl, e, k⟩
  · cases h
/-! text * number -/
def repZ (x : Str) (n : Int) : Str := if n < 1 then Str.empty else if (n == 1 || x.length == 0) = true then x else ⟨(List.replicate n.toNat x.cps).foldl (· ++ ·) #[]⟩
def mulZ (x : Str) (n : Int) : Option Str := grd (0 ≤ n ∧ n ≤ 1000000 ∧ x.length * n.toNat ≤ 16777216 ∧ (repZ x n).length ≤ 16777216) (repZ x n)
def rMulZ : R2 := fun x y H Q => ∃ a n, x = .str a ∧ y = .int n ∧ 0 ≤ n ∧ n ≤ 1000000 ∧ a.length * n.toNat ≤ 16777216 ∧ (repZ a n).length ≤ 16777216 ∧ Q (.str (repZ a n)) H
theorem op_mulZ {X : Cx} : OpR X (binaryOp .Mult) rMulZ := by
  intro pins s σ H x y v u Q I rx ry h
  obtain ⟨a, n, rfl, rfl, h0, h1, h2, h3, q⟩ := h
  obtain ⟨t, rfl⟩ := rx
  obtain ⟨t', rfl⟩ := ry
  refine PySem.P.mul_str ?_ ?_ ?_ ?_
  · rw [decide_eq_false (by omega), decide_eq_false (by omega)]
    rfl
  · intro g1 g2 g3
    have e : (2 ^ 63 - 1 : Int) / n * n ≤ 2 ^ 63 - 1 := Int.ediv_mul_le _ (by omega)
    have e2 : ((a.length * n.toNat : Nat) : Int) = (a.length : Int) * n := by
      rw [Int.natCast_mul, Int.toNat_of_nonneg h0]
    have e3 : ((2 ^ 63 - 1 : Int) / n + 1) * n ≤ (a.length : Int) * n := Int.mul_le_mul_of_nonneg_right (by omega) h0
    have e4 : (2 ^ 63 - 1 : Int) < ((2 ^ 63 - 1 : Int) / n + 1) * n := by
      have := Int.lt_ediv_add_one_mul_self (2 ^ 63 - 1) (show 0 < n by omega)
      exact this
    omega
  · intro _ _
    unfold Builtin.Str.tooLong
    rw [sizeLine_eq]
    exact decide_eq_false (by omega)
  · unfold repZ at h3 q
    by_cases g1 : n < 1
    · rw [if_pos g1] at h3 q ⊢
      exact ⟨by decide, ⟨.str Str.empty, H, I.tok _, ⟨_, rfl⟩, q⟩⟩
    · rw [if_neg g1] at h3 q ⊢
      by_cases g2 : (n == 1 || a.length == 0) = true
      · rw [if_pos g2] at h3 q ⊢
        exact ⟨.str a, H, I, ⟨_, rfl⟩, q⟩
      · rw [if_neg g2] at h3 q ⊢
        exact ⟨h3, ⟨.str _, H, I.tok _, ⟨_, rfl⟩, q⟩⟩
theorem k_mulZ (h : mulZ x n = some z) (k : Q (.str z) H) : rMulZ (.str x) (.int n) H Q := by
  obtain ⟨⟨c1, c2, c3, c4⟩, rfl⟩ := grdE h
  exact ⟨x, n, rfl, rfl, c1, c2, c3, c4, k⟩
end
/-! xs.pop(i) -/
section
variable {α : Type} {f : α → V} {R H : Hp} {L : List Cell} {a : Addr} {xs ys : List α} {y : α} {i : Int} {Q : VK} {P : V → α → Prop} {vs : List V}
def popA (xs : List α) (i : Int) : Option (α × List α) := bnd (grd (xs.length ≤ 1000000000) ()) fun _ => bnd (ixN xs.length i) fun k => bnd xs[k]? fun y => some (y, xs.eraseIdx k)
def rPopI : V → List V → Hp → VK → Prop := fun x vs H Q => ∃ l xs i k y, x = .ref l ∧ vs = [.int i] ∧ H l = some (.lst xs) ∧ -(2 ^ 63) ≤ i ∧ i < 2 ^ 63 ∧ seqIndex? i xs.length = some k ∧ xs[k]? = some y ∧ Q y (upd H l (.lst (xs.eraseIdx k)))
theorem mt_popI {X : Cx} : MtM X "list.pop" rPopI := mt_popAt
theorem erase_map (f : α → V) : ∀ (xs : List α) (k : Nat), (xs.map f).eraseIdx k = (xs.eraseIdx k).map f
  | [], _ => rfl
  | _ :: _, 0 => rfl
  | x :: r, k + 1 => by
    show f x :: (r.map f).eraseIdx k = f x :: (r.eraseIdx k).map f
    rw [erase_map f r k]
theorem k_popI {g : HO → List Cell} (hl : H a = some (.lst (xs.map f))) (hp : ∀ o', Own R (upd H a o') (g o')) (h : popA xs i = some (y, ys)) (k : ∀ H', Own R H' (g (.lst (ys.map f))) → Q (f y) H') : rPopI (.ref a) [.int i] H Q := by
  obtain ⟨_, h1, h2⟩ := bndE h
  obtain ⟨c, _⟩ := grdE h1
  obtain ⟨j, h3, h4⟩ := bndE h2
  obtain ⟨z, h5, h6⟩ := bndE h4
  cases h6
  obtain ⟨s1, s2, s3, s4⟩ := ixN_seq h3
  refine ⟨a, _, i, j, f y, rfl, rfl, hl, by omega, by omega, by rw [List.length_map]; exact s1, by rw [List.getElem?_map, h5]; rfl, ?_⟩
  rw [erase_map]
  exact k _ (hp _)
end
end Bt

set_option linter.all false
set_option maxRecDepth 100000
set_option maxHeartbeats 1000000
/-! Lists that are handed to be changed, and lists of one's own lists. -/
namespace Bt
open PySem L2
section
variable {α : Type} {f : α → V} {F R R0 Hb H : Hp} {a : Addr} {L C : List Cell} {xs : List α}
/-- a list of plain things -/
def oRow (f : α → V) : Ob (List α) := fun _ a L xs => L = [(a, HO.lst (xs.map f))]
theorem moRow : MonoO (oRow f) := fun _ _ _ _ _ _ h => h
theorem oRow_mk : oRow f F a [(a, HO.lst (xs.map f))] xs := rfl
/-- a list of data that is to stay -/
def oRowD (P : Rp α) : Ob (List α) := fun F a L xs => ∃ vs, L = [(a, HO.lst vs)] ∧ All2 (P F) vs xs
theorem moRowD {P : Rp α} (m : Mono P) : MonoO (oRowD P) := fun _ _ _ _ _ e ⟨vs, h1, h2⟩ => ⟨vs, h1, mA m e h2⟩
theorem Own.frzAll : ∀ (L : List Cell) {R : Hp}, Own R H (L ++ C) → Ex Hb R → ∃ R', Own R' H C ∧ Ex R R' ∧ ∀ c ∈ L, ovr R0 Hb R' c.1 = some c.2
  | [], R, O, _ => ⟨R, O, Ex.refl _, fun _ h => nomatch h⟩
  | (p, o) :: r, R, O, e => by
    obtain ⟨R1, O1, e1, h1⟩ := Own.frzO (R0 := R0) O e
    obtain ⟨R2, O2, e2, h2⟩ := Own.frzAll r O1 (e.trans e1)
    refine ⟨R2, O2, e1.trans e2, fun c hc => ?_⟩
    rcases List.mem_cons.mp hc with rfl | hc
    · exact ovr_mono e2 _ _ h1
    · exact h2 c hc
theorem all_map {P : Rp α} (hP : ∀ F x, P F (f x) x) (G : Hp) : ∀ ys : List α, All2 (P G) (ys.map f) ys
  | [] => .nil
  | y :: r => .cons (hP G y) (all_map hP G r)
theorem rows_all {P : Rp α} (hP : ∀ F x, P F (f x) x) {G : Hp} {as : List Addr} {Ls : List (List Cell)} {xss : List (List α)} (h : All3 (oRow f F) as Ls xss) (hg : ∀ c ∈ Ls.flatten, G c.1 = some c.2) : All2 (rL P G) (as.map V.ref) xss := by
  induction h with
  | nil => exact .nil
  | @cons b L1 ys as Ls xss h t ih =>
    refine .cons ⟨b, ys.map f, rfl, ?_, ?_⟩ (ih fun c hc => hg c (by rw [List.flatten_cons]; exact List.mem_append_right _ hc))
    · have := hg (b, .lst (ys.map f)) (by rw [List.flatten_cons, show L1 = _ from h]; exact List.Mem.head _)
      exact this
    · exact all_map hP G ys
/-- laid in the frame -/
theorem Own.frzRows {P : Rp α} {xss : List (List α)} (hP : ∀ F x, P F (f x) x) (O : Own R H (L ++ C)) (h : oLs (oRow f) F a L xss) (e : Ex Hb R) : ∃ R', Own R' H C ∧ Ex R R' ∧ rL (rL P) (ovr R0 Hb R') (.ref a) xss := by
  obtain ⟨as, Ls, hp, h3⟩ := h
  obtain ⟨R', O', e1, h1⟩ := Own.frzAll (R0 := R0) L O e
  have hm : ∀ c ∈ (a, HO.lst (as.map V.ref)) :: Ls.flatten, ovr R0 Hb R' c.1 = some c.2 := fun c hc => h1 c (hp.mem_iff.mpr hc)
  exact ⟨R', O', e1, a, as.map V.ref, rfl, hm _ (List.Mem.head _), rows_all hP h3 fun c hc => hm c (List.Mem.tail _ hc)⟩
end
/-! fields that may be None -/
section
variable {α : Type} {f : α → V} {P : Rp α} {F : Hp} {v : V} {m : Option α}
def ov (f : α → V) : Option α → V
  | none => .non
  | some x => f x
theorem ov_r (hP : ∀ F x, P F (f x) x) : rO P F (ov f m) m := by
  cases m with
  | none => rfl
  | some x => exact hP F x
theorem rO_ov (hP : ∀ F v x, P F v x → v = f x) (h : rO P F v m) : v = ov f m := by
  cases m with
  | none => exact h
  | some x => exact hP F v x h
end
/-! a tuple's slice -/
section
variable {K : PySem.W.Frag} {R H : Hp} {L : List Cell} {a : Addr} {xs : List V} {lo hi : Option Int} {Q : VK}
theorem k_cutT (O : Own R H L) (h : H a = some (.tup xs)) (c : ¬ (HT.sIx xs.length 0 lo = 0 ∧ HT.sIx xs.length xs.length hi = xs.length)) (k : ∀ p H', Own R H' ((p, .tup (cutV xs lo hi)) :: L) → Q (.ref p) H') : rSlT K (.ref a) lo hi H Q :=
  ⟨a, xs, rfl, SqT.of h, c, fun p hp => k p _ (O.new hp)⟩
end
/-! o.m(e, ..) in a try's suite -/
section
variable {X : Cx} {CX : CXT} {k : Nat} {f C : Addr} {fd : FuncData} {ps : List Str} {sp : Sp} {E : L2.St → XK} {m : Str} {pos apos : Pos} {e o : Expr} {es : List Expr} {ta : TE} {t : TA}
def tMethE (C : Addr) (m : Str) (sp : Sp) (E : L2.St → XK) (ta : TE) (t : TA) : TE := fun σ H Q => ta σ H fun x H1 => ∃ a dx fs, x = .ref a ∧ H1 a = some (.ins C dx fs) ∧ fs.lookup m = none ∧ t σ H1 fun vs H2 => sp (x :: vs) H2 Q (E σ)
theorem o_methE {σ : L2.St} {H : Hp} {Q : VK} (h : ta σ H fun x H1 => ∃ a dx fs, x = .ref a ∧ H1 a = some (.ins C dx fs) ∧ fs.lookup m = none ∧ t σ H1 fun vs H2 => sp (x :: vs) H2 Q (E σ)) : tMethE C m sp E ta t σ H Q := h
def tMakeE (C : Addr) (sp : Sp) (dvs : List V) (E : L2.St → XK) (t : TA) : TE := fun σ H Q => t σ H fun vs H1 => ∀ x dx, H1 x = none → H1 dx = none → dx ≠ x → sp (.ref x :: (vs ++ dvs)) (upd (upd H1 dx (.own x)) x (.ins C dx [])) (fun v H2 => v = .non ∧ Q (.ref x) H2) (E σ)
theorem o_makeE {dvs : List V} {σ : L2.St} {H : Hp} {Q : VK} (h : t σ H fun vs H1 => ∀ x dx, H1 x = none → H1 dx = none → dx ≠ x → sp (.ref x :: (vs ++ dvs)) (upd (upd H1 dx (.own x)) x (.ins C dx [])) (fun v H2 => v = .non ∧ Q (.ref x) H2) (E σ)) : tMakeE C sp dvs E t σ H Q := h
theorem pe_makeE {x : Str} {p : Pos} {dvs : List V} {ds : List Value} (M : Mk X.K C f) (F : FnOk X.prog X.w X.K X.mg X.base CX k f fd ps sp) (hr : Room (k + 1) X.A) (hg : Gl X x) (hm : X.mg x = some (.ref C)) (hb : Binds X.K fd ps ds) (hd : Vals dvs ds) (hx : ∀ σ, PassesAt CX X σ (E σ))
    (ha : PA X (e :: es) t) (hdb : (x == ("__debug__" : Str)) = false := by decide) (he : starEach (e :: es) X.env = (false, eval e X.env) :: starEach es X.env := by rfl) (hpl : (backTo pos (starEach es X.env)).any (·.1) = false := by rfl) :
    PE X (.Call (.Name x p) (e :: es) [] pos) (tMakeE C sp dvs E t) := by
  refine ⟨fun pins s σ H Q I h => ?_⟩
  refine wpAny_Call_Name_kw (ld_glob I hg hm ?_ hdb)
  refine PySem.W.callWith_K (h₀ := X.base) I.ok.mod.kin M.kp (thn (ha.run pos pins s σ H _ I h) fun us s1 ⟨vs, H1, I1, r, q⟩ => ⟨I1.kIn, ?_⟩) he hpl
  have hq := q (s1.heap.objs.size + 1) s1.heap.objs.size (I1.hok.fresh (Nat.le_succ _)) (I1.hok.fresh (Nat.le_refl _)) (Nat.ne_of_lt (Nat.lt_succ_self _))
  have I2 := Inv.made (C := C) I1
  have r2 : Vals (V.ref (s1.heap.objs.size + 1) :: (vs ++ dvs)) (Value.ref (s1.heap.objs.size + 1) :: (us ++ ds)) := .cons rfl (r.append hd)
  have hl : (Value.ref (s1.heap.objs.size + 1) :: us ++ ds).length = ps.length := by
    have e := r2.length
    rw [F.len _ _ _ _ hq] at e
    exact e.symm
  refine wpAny_call (make_map (f := f) I1.kIn M.makes M.init (beq_iff_eq.mp M.fn) (codeAny_mono (F.run _ X.stack _ _ ⟨Value.ref (s1.heap.objs.size + 1) :: us, []⟩ (Value.ref (s1.heap.objs.size + 1) :: (us ++ ds)) _ _ (E σ) (hr.make C us [])
    (I2.env0.make C us []) (hb _ (Value.ref (s1.heap.objs.size + 1) :: us) I2.kIn hl) r2 hq) fun r s' hq' => ?_))
  cases r with
  | error e => exact hx σ pins _ _ e s' I2 hq'
  | ok fl =>
    cases fl with
    | ret u =>
      obtain ⟨v, H', I3, rv, ev, q3⟩ := I2.after hq'
      subst ev
      exact ⟨rv, ⟨V.ref (s1.heap.objs.size + 1), H', I3, rfl, q3⟩⟩
    | next => exact False.elim hq'
    | brk => exact False.elim hq'
    | cont => exact False.elim hq'
theorem pe_methE {pl : Sem Bool} (he : PE X o ta) (c : Cls X.K C) (hm : Meth X.K C m f) (F : FnOk X.prog X.w X.K X.mg X.base CX k f fd ps sp) (hr : Room k X.A) (hb : Binds X.K fd ps []) (hx : ∀ σ, PassesAt CX X σ (E σ)) (ha : PA X (e :: es) t)
    (hst : starEach (e :: es) X.env = (false, eval e X.env) :: starEach es X.env := by rfl) (hpl : (backTo pos (starEach es X.env)).any (·.1) = false := by rfl)
    (ht : eval (.Call (.Attribute o m apos) (e :: es) [] pos) X.env = (do
      let ov ← eval o X.env
      standAt apos.atName
      let (f, first) ← holding [ov] (getMethod ov m pl)
      callWith pos f first (backTo pos (starEach (e :: es) X.env)) (backToKw pos (keywordEach [] X.env))) := by rfl) :
    PE X (.Call (.Attribute o m apos) (e :: es) [] pos) (tMethE C m sp E ta t) := by
  refine ⟨fun pins s σ H Q I h => ?_⟩
  refine PySem.W.methodCall_KW (pl := pl) (thn (he.run pins s σ H _ I h) fun u s1 ⟨x, H1, I1, rx, a, dx, fs, ex, ea, l, q⟩ => ?_) ht
  subst ex
  obtain rfl : u = Value.ref a := rx
  refine getmeth_ok I1 ea c hm l ?_
  refine PySem.W.callWith_K (first := [.ref a]) (h₀ := X.base) I.ok.mod.kin hm.kp (thn (ha.run pos pins s1 σ H1 _ I1 q) fun us s2 ⟨vs, H2, I2, r, q2⟩ => ⟨I2.kIn, ?_⟩) hst hpl
  exact run_fnS (us := .ref a :: us) (vs := .ref a :: vs) F hr hb (hx σ) I2 (.cons rfl r) q2
end
/-! a, b = x, y -/
theorem o_par {i j : Nat} {ta : TA} {n b k : L2.St → Hp → Prop} {w : VK} {σ : L2.St} {H : Hp} (h : ta σ H fun vs H1 => ∃ x y, vs = [x, y] ∧ n ((σ.set i (some x)).set j (some y)) H1) : tPar i j ta (Ends.mk n w b k) σ H := h
/-! a list of data that is to stay, repeated -/
section
variable {α : Type} {P : V → α → Prop} {vs : List V} {xs zs : List α} {k : Int} {R H : Hp} {L : List Cell} {a : Addr} {Q : VK}
theorem All2.rep (h : All2 P vs xs) : ∀ n : Nat, All2 P (List.replicate n vs).flatten (List.replicate n xs).flatten
  | 0 => .nil
  | n + 1 => by
    rw [List.replicate_succ, List.replicate_succ, List.flatten_cons, List.flatten_cons]
    exact h.app (All2.rep h n)
theorem k_repA (O : Own R H L) (h1 : H a = some (.lst vs)) (ha : All2 P vs xs) (h : repG xs k = some zs) (q : ∀ p H' ws, Own R H' ((p, .lst ws) :: L) → All2 P ws zs → Q (.ref p) H') : rRep (.ref a) (.int k) H Q := by
  obtain ⟨⟨c1, c2, c3⟩, rfl⟩ := grdE h
  exact ⟨a, k, vs, rfl, rfl, h1, c1, c2, by rw [ha.len]; exact c3, fun p hp => q p _ _ (O.new hp) (ha.rep _)⟩
end
/-! a list of data, each seen as one of several kinds -/
theorem All2.mapR {α β : Type} {P : V → α → Prop} {P' : V → β → Prop} {g : α → β} (h : ∀ v x, P v x → P' v (g x)) {vs : List V} {xs : List α} (k : All2 P vs xs) : All2 P' vs (xs.map g) := by
  induction k with
  | nil => exact .nil
  | cons a _ ih => exact .cons (h _ _ a) ih
theorem rL_map {α β : Type} {P : Rp α} {P' : Rp β} {F : Hp} {g : α → β} (h : ∀ F v x, P F v x → P' F v (g x)) {v : V} {xs : List α} (k : rL P F v xs) : rL P' F v (xs.map g) := by
  obtain ⟨p, vs, e, h1, h2⟩ := k
  exact ⟨p, vs, e, h1, h2.mapR (h F)⟩
/-! a and b, where b changes what is read no more -/
theorem x_andVJ2 {c d e : Bool} {tt uu : TE} {σ : L2.St} {H : Hp} {Q : VK} (J J2 : Hp → Prop) (hJ : ∀ H', J H' → J2 H') (h1 : ∀ Q1 : VK, (∀ H', J H' → Q1 (.bl c) H') → tt σ H Q1) (h2 : c = true → e = d ∧ ∀ H', J H' → ∀ Q2 : VK, (∀ H'', J2 H'' → Q2 (.bl e) H'') → uu σ H' Q2)
    (h3 : c = false → false = d) (k : ∀ H', J2 H' → Q (.bl d) H') : tAndV tt uu σ H Q := by
  refine h1 _ fun H' O' => ⟨_, rfl, ?_⟩
  cases c with
  | true =>
    obtain ⟨e1, g2⟩ := h2 rfl
    subst e1
    exact g2 H' O' Q k
  | false =>
    rw [← h3 rfl] at k
    exact k H' (hJ H' O')
end Bt

set_option linter.all false
set_option maxRecDepth 100000
set_option maxHeartbeats 1000000
/-! sorted, len(set(..)), the order of (int, list). -/
namespace Bt
open PySem L2
/-! len(set(xs)) -/
def setL (xs : List Int) : List Int := xs.foldl PyProof.Rows.step_dedup []
theorem firstMet_all : ∀ (xs : List Int), PyProof.Rows.firstMet (fun j => xs.getD j 0) xs.length = setL xs := fun xs => by
  unfold PyProof.Rows.firstMet setL
  congr 1
  refine List.ext_getElem? fun i => ?_
  rw [List.getElem?_map]
  by_cases h : i < xs.length
  · rw [List.getElem?_range h, List.getElem?_eq_getElem h]
    simp [List.getD_eq_getElem?_getD, h]
  · rw [List.getElem?_eq_none (by simpa using h), List.getElem?_eq_none (by simpa using h)]
    rfl
def lenSet (xs : List Int) : Option Int := grd (xs.length ≤ 4000) ((setL xs).length : Int)
open PySem.Spec PyProof.Rows RZ in
def rLset (K : PySem.W.Frag) (x : V) (H1 : Hp) (Q : VK) : Prop := ∃ (l : Addr) (ns : List Int), x = .ref l ∧ SqL K H1 l (ns.map V.int) ∧ ns.length ≤ 4000 ∧ Q (.int ((setL ns).length : Nat)) H1
def tLenSetN (K : PySem.W.Frag) (ta : TE) : TE := fun σ H Q => ta σ H fun x H1 => rLset K x H1 Q
open PySem.Spec PyProof.Rows RZ in
theorem pe_lenSetN {X : Cx} {a : Expr} {ta : TE} {p p2 q pos : Pos} (hg : Gl X "len") (hm : X.mg "len" = none) (hg2 : Gl X "set") (hm2 : X.mg "set" = none) (ha : PE X a ta) (hc : X.calm = true := by rfl)
    (na : starEach [a] X.env = (false, eval a X.env) :: starEach [] X.env := by rfl) : PE X (.Call (.Name "len" p) [.Call (.Name "set" p2) [a] [] q] [] pos) (tLenSetN X.K ta) := by
  refine ⟨fun pins s σ H Q I h => ?_⟩
  refine PyProof.Rows.Call_ (ld_blt I hg hm boot_len ?_)
  refine PyProof.Rows.callWith_builtin1 (PyProof.Rows.args_cons ?_ rfl) rfl rfl
  refine PyProof.Rows.Call_ (ld_blt I hg2 hm2 boot_set ?_)
  refine PyProof.Rows.callWith_type1 (PyProof.Rows.args_cons (thn (ha.run pins s σ H _ I h) fun v s1 ⟨x, H1, I1, r1, q1⟩ => PyProof.Rows.args_nil ?_) na) na rfl
  obtain ⟨l, ns, rfl, hq, hl, q1⟩ := q1
  cases r1
  obtain ⟨its, r, pl, hz⟩ := I1.list hq
  have hlen : its.toArray.size = ns.length := by rw [List.size_toArray, ← r.length, List.length_map]
  refine call_set_list (I1.ok.hd hc) pl.isList (by simpa using intsAre_vals r) (by rw [hlen]; unfold scanBound; omega) fun h' tk hS hk => ?_
  refine PyProof.Rows.args_nil ?_
  rw [hlen, firstMet_all] at hS
  have hsz : (setL ns).length ≤ ns.length := by rw [← firstMet_all]; exact PyProof.Rows.firstMet_length_le _ _
  obtain ⟨o, es, ep, t, ho, hex, hd, _, _, _, hf, hn⟩ := hS
  have I2 : Inv X pins σ H1 { s1 with heap := h', toks := tk } := I1.kept fun b o e => hk b o (Heap.lt_size e) e
  exact call_len_set ho hex hd hf (by rw [hn] <;> omega) ⟨.int (setL ns).length, H1, I2.tok _, ⟨_, by rw [hn]⟩, q1⟩
section
variable {K : PySem.W.Frag} {H R : Hp} {L : List Cell} {Q : VK} {a : Addr} {xs : List Int} {n : Int} {ta : TE} {σ : L2.St}
theorem o_lset (h : ta σ H fun x H1 => rLset K x H1 Q) : tLenSetN K ta σ H Q := h
theorem k_lset (hs : SqL K H a (xs.map V.int)) (h : lenSet xs = some n) (q : Q (.int n) H) : rLset K (.ref a) H Q := by
  obtain ⟨c, rfl⟩ := grdE h
  exact ⟨a, xs, rfl, hs, c, q⟩
end
/-! sorted(xs) -/
def insI (x : Int) : List Int → List Int
  | [] => [x]
  | y :: r => if x ≤ y then x :: y :: r else y :: insI x r
def srtI : List Int → List Int
  | [] => []
  | x :: r => insI x (srtI r)
theorem insI_perm (x : Int) : ∀ r : List Int, (insI x r).Perm (x :: r)
  | [] => List.Perm.refl _
  | y :: r => by
    unfold insI
    split
    · exact List.Perm.refl _
    · exact ((insI_perm x r).cons y).trans (List.Perm.swap x y r)
theorem srtI_perm : ∀ r : List Int, (srtI r).Perm r
  | [] => List.Perm.refl _
  | x :: r => (insI_perm x _).trans ((srtI_perm r).cons x)
theorem insI_srt (x : Int) : ∀ {r : List Int}, r.Pairwise (· ≤ ·) → (insI x r).Pairwise (· ≤ ·)
  | [], _ => by simp [insI]
  | y :: r, h => by
    obtain ⟨h1, h2⟩ := List.pairwise_cons.mp h
    unfold insI
    split
    · rename_i c
      refine List.pairwise_cons.mpr ⟨fun z hz => ?_, h⟩
      rcases List.mem_cons.mp hz with rfl | hz
      · exact c
      · exact Int.le_trans c (h1 z hz)
    · rename_i c
      refine List.pairwise_cons.mpr ⟨fun z hz => ?_, insI_srt x h2⟩
      rcases List.mem_cons.mp ((insI_perm x r).mem_iff.mp hz) with rfl | hz
      · omega
      · exact h1 z hz
theorem srtI_srt : ∀ r : List Int, (srtI r).Pairwise (· ≤ ·)
  | [] => List.Pairwise.nil
  | x :: r => insI_srt x (srtI_srt r)
theorem srt_uniq : ∀ {xs ys : List Int}, xs.Perm ys → xs.Pairwise (· ≤ ·) → ys.Pairwise (· ≤ ·) → xs = ys
  | [], ys, p, _, _ => (List.nil_perm.mp p).symm
  | x :: xs, [], p, _, _ => absurd (List.perm_nil.mp p) (by simp)
  | x :: xs, y :: ys, p, hx, hy => by
    obtain ⟨hx1, hx2⟩ := List.pairwise_cons.mp hx
    obtain ⟨hy1, hy2⟩ := List.pairwise_cons.mp hy
    have e : x = y := by
      have m1 : x ∈ y :: ys := p.mem_iff.mp (List.Mem.head _)
      have m2 : y ∈ x :: xs := p.mem_iff.mpr (List.Mem.head _)
      rcases List.mem_cons.mp m1 with e | m1
      · exact e
      · rcases List.mem_cons.mp m2 with e | m2
        · exact e.symm
        · have := hx1 y m2
          have := hy1 x m1
          omega
    subst e
    rw [srt_uniq (List.Perm.cons_inv p) hx2 hy2]
section
variable {K : PySem.W.Frag} {H R : Hp} {L : List Cell} {Q : VK} {a : Addr} {xs : List Int}
theorem k_sorted (O : Own R H L) (hs : SqL K H a (xs.map V.int)) (k : ∀ p H', Own R H' ((p, .lst ((srtI xs).map V.int)) :: L) → Q (.ref p) H') : rSortedI K [.ref a] H Q :=
  ⟨a, xs, rfl, hs, fun ns' p h1 h2 hp => by
    have e : ns' = srtI xs := srt_uniq (h1.trans (srtI_perm xs).symm) h2 (srtI_srt xs)
    subst e
    exact k p _ (O.new hp)⟩
end
/-! (int, list of ints) >= such -/
def ltIs : List Int → List Int → Bool
  | [], [] => false
  | [], _ :: _ => true
  | _ :: _, [] => false
  | x :: xs, y :: ys => if x = y then ltIs xs ys else decide (x < y)
def ltIL (x y : Int × List Int) : Bool := if x.1 = y.1 then ltIs x.2 y.2 else decide (x.1 < y.1)
open PySem.W PySem.SeqAt in
theorem alike_ints : ∀ xs ys : List Int, alikeAll (xs.map PyData.int) (ys.map PyData.int) = true
  | [], _ => by simp [alikeAll]
  | _ :: _, [] => by simp [alikeAll]
  | x :: xs, y :: ys => by simp only [List.map_cons, alikeAll, alike, alike_ints xs ys, Bool.and_self]
open PySem.W PySem.SeqAt in
theorem lt_ints : ∀ xs ys : List Int, dataLt (.list (xs.map PyData.int)) (.list (ys.map PyData.int)) = ltIs xs ys
  | [], [] => by rw [dataLt_list]; rfl
  | [], y :: ys => by rw [dataLt_list]; rfl
  | x :: xs, [] => by rw [dataLt_list]; rfl
  | x :: xs, y :: ys => by
    have ih := lt_ints xs ys
    rw [dataLt_list] at ih ⊢
    rw [List.map_cons, List.map_cons]
    by_cases h : x = y
    · rw [dataLt_all_yes (by simp [alike]) (by simp [PyData.eqv, h]), ih]
      show _ = if x = y then _ else _
      rw [if_pos h]
    · rw [dataLt_all_no (by simp [alike]) (by simpa [PyData.eqv] using h), dataLt_int]
      show _ = if x = y then _ else _
      rw [if_neg h]
open PySem.W PySem.SeqAt in
theorem lt_il (x y : Int × List Int) : dataLt ((deT2 deI (deL deI)).d x) ((deT2 deI (deL deI)).d y) = ltIL x y := by
  obtain ⟨i, xs⟩ := x
  obtain ⟨j, ys⟩ := y
  show dataLt (.tuple [.int i, .list (xs.map PyData.int)]) (.tuple [.int j, .list (ys.map PyData.int)]) = _
  rw [dataLt_tuple]
  show _ = if i = j then ltIs xs ys else decide (i < j)
  by_cases h : i = j
  · rw [dataLt_all_yes (by simp [alike]) (by simp [PyData.eqv, h]), if_pos h]
    by_cases h2 : xs = ys
    · subst h2
      rw [dataLt_all_yes (by simp only [alike]; exact alike_ints _ _) (by simp only [PyData.eqv]; rw [show PyData.eqvAll (xs.map PyData.int) (xs.map PyData.int) = decide (xs = xs) from eq_all deI xs xs]; simp)]
      have e : ltIs xs xs = false := by
        induction xs with
        | nil => rfl
        | cons a r ih => show (if a = a then ltIs r r else _) = false; rw [if_pos rfl]; exact ih
      rw [e]
      rfl
    · rw [dataLt_all_no (by simp only [alike]; exact alike_ints _ _) (by simp only [PyData.eqv]; rw [show PyData.eqvAll (xs.map PyData.int) (ys.map PyData.int) = decide (xs = ys) from eq_all deI xs ys]; simpa using h2), lt_ints]
  · rw [dataLt_all_no (by simp [alike]) (by simpa [PyData.eqv] using h), dataLt_int, if_neg h]
def rGeIL (K : PySem.W.Frag) : R2 := fun x y H Q => ∃ d e : Int × List Int, rT2 rI (rL rI) H x d ∧ rT2 rI (rL rI) H y e ∧ Q (.bl (!ltIL d e)) H
theorem k_geIL {K : PySem.W.Frag} {H : Hp} {Q : VK} {x y : V} {d e : Int × List Int} (h1 : rT2 rI (rL rI) H x d) (h2 : rT2 rI (rL rI) H y e) (q : Q (.bl (!ltIL d e)) H) : rGeIL K x y H Q := ⟨d, e, h1, h2, q⟩
open PySem.W PySem.SeqAt in
theorem op_geIL {X : Cx} (hu : X.A.units + 65 < cLine) : OpR X (compareOp .GtE) (rGeIL X.K) := by
  intro pins s σ H x y v u Q I rx ry h
  obtain ⟨d, e, h1, h2, q⟩ := h
  obtain ⟨as, r1⟩ := Dp.reads I _ x v ((deT2 deI (deL deI)).dp X.K H x d h1) rx
  obtain ⟨bs, r2⟩ := Dp.reads I _ y u ((deT2 deI (deL deI)).dp X.K H y e h2) ry
  have hd := (deT2 deI (deL deI)).dep d
  have hn : (deT2 deI (deL deI)).n = 2 := rfl
  rw [hn] at hd
  refine PySem.W.ge_data r1 r2 ?_ ?_ ?_ ⟨.bl _, H, I, rfl, ?_⟩
  · obtain ⟨i, xs⟩ := d
    obtain ⟨j, ys⟩ := e
    show alike (.tuple [.int i, .list (xs.map PyData.int)]) (.tuple [.int j, .list (ys.map PyData.int)]) = true
    simp only [alike, alikeAll, alike_ints, Bool.and_self]
  · obtain ⟨i, xs⟩ := d
    intro z
    cases z
  · omega
  · rw [lt_il]
    exact q
end Bt

set_option linter.all false
set_option maxRecDepth 100000
set_option maxHeartbeats 1000000
/-! Posts: a tuple that holds an object, the base's own __init__, constants that are tuples, five things in a tuple. -/
namespace Bt
open PySem L2
section
variable {α β : Type} {f : α → V} {o : Ob β}
/-- (a plain thing, an object) -/
def oTS (f : α → V) (o : Ob β) : Ob (α × β) := fun F a L x => ∃ b Lb, L = (a, HO.tup [f x.1, .ref b]) :: Lb ∧ o F b Lb x.2
theorem moTS (m : MonoO o) : MonoO (oTS f o) := fun _ _ _ _ _ e ⟨b, Lb, h1, h2⟩ => ⟨b, Lb, h1, m _ _ _ _ _ e h2⟩
end
/-- a method, as it is found in its class -/
structure MF (K : PySem.W.Frag) (C q : Addr) (nm qual : Str) (st : Stmt) : Prop where
  at_ : PySem.W.findIn K (.ref C) nm = some (some (.ref q))
  fi : PySem.W.isFn K (.ref q) = true
  lo : ∃ oc od kV doc pm an cdv ct osl, K.lookup q = some ⟨oc, od, .func (PySem.W.fnOf nm qual (defArgs st) (defBody st) (defScope st) .none kV doc pm an cdv ct), osl⟩ ∧ PySem.W.codeIn K cdv qual = true
  ik : PySem.W.keepIn K (.ref q) = true
theorem MF.fn {K : PySem.W.Frag} {C q : Addr} {nm qual : Str} {st : Stmt} (m : MF K C q nm qual st) : ∃ fd, Fun K nm qual st q fd := by
  obtain ⟨oc, od, kV, doc, pm, an, cdv, ct, osl, h1, h2⟩ := m.lo
  exact ⟨_, fun_mk h1 h2 m.ik⟩
/-- a class as the base of another one: its __init__ read off the class -/
structure ClB (K : PySem.W.Frag) (R f : Addr) : Prop where
  ga : PySem.W.specialIn K (.ref R) "__getattribute__" = some (some (.builtin "type.__getattribute__"))
  rd : PySem.W.readsIn K R (.type "type") = true
  at_ : PySem.W.findCls K (.ref R) (.type "type") "__init__" = some (.val (.ref f))
  kp : PySem.W.keepIn K (.ref f) = true
section
variable {X : Cx} {CX : CXT} {k : Nat} {f R : Addr} {fd : FuncData} {ps : List Str} {sp : Sp} {E : XK} {x : Str} {p1 p2 pos : Pos} {e : Expr} {es : List Expr} {ta : TA} {pl : Sem Bool}
theorem pe_base (hm : X.mg x = some (.ref R)) (B : ClB X.K R f) (F : FnOk X.prog X.w X.K X.mg X.base CX k f fd ps sp) (hr : Room k X.A) (hb : Binds X.K fd ps []) (hx : Passes CX X E) (ha : PA X (e :: es) ta) (hg : Gl X x := by rfl)
    (hc : eval (.Call (.Attribute (.Name x p1) "__init__" p2) (e :: es) [] pos) X.env = (do
      let ov ← eval (.Name x p1) X.env
      standAt p2.atName
      let (f, first) ← holding [ov] (getMethod ov "__init__" pl)
      callWith pos f first (backTo pos (starEach (e :: es) X.env)) (backToKw pos (keywordEach [] X.env))) := by rfl)
    (hdb : (x == ("__debug__" : Str)) = false := by decide)
    (he : starEach (e :: es) X.env = (false, eval e X.env) :: starEach es X.env := by rfl) (hpl : (backTo pos (starEach es X.env)).any (·.1) = false := by rfl) :
    PE X (.Call (.Attribute (.Name x p1) "__init__" p2) (e :: es) [] pos) (tCall sp [] E ta) := by
  refine ⟨fun pins s σ H Q I h => ?_⟩
  refine PySem.W.methodCall_KW (ld_glob I hg hm ?_ hdb) hc
  refine PySem.W.method_cls I.kIn B.ga (PySem.W.cls_value I.kIn B.rd B.at_ rfl ?_)
  refine PySem.W.callWith_K (h₀ := X.base) I.ok.mod.kin B.kp (thn (ha.run pos pins _ σ H _ (I.tok _) h) fun us s1 ⟨vs, H1, I1, r, q⟩ => ⟨I1.kIn, ?_⟩) he hpl
  exact run_fn (us := us) (vs := vs) F hr hb .nil hx I1 r q
end
/-! a constant of the module that is a tuple of whole numbers -/
theorem gv_tup {K : PySem.W.Frag} {h : Heap} {mg : Str → Option Value} {x : Str} {A : Addr} {od : Option Addr} {its : Array Value} {n : Nat} {sl : Array (Option Value)} {ns : List Int} (X : K.In h) (G : h.Ns mainGlobals mg)
    (a : PySem.W.nsIn K mainGlobals x = some (some (.ref A))) (l : K.lookup A = some ⟨.type "tuple", od, .seq its n, sl⟩) (s : its.size ≤ sizeLine) (v : Vals (ns.map V.int) its.toList) : ∃ a, Gv mg x (.ref a) ∧ ∀ H, SqT K H a (ns.map V.int) :=
  ⟨A, ⟨_, PySem.W.mg_of X G a, rfl⟩, fun _ => .inr ⟨_, its, n, l, rfl, rfl, s, v⟩⟩
/-! tests with two sides, the second of which changes an object -/
section
variable {σ : L2.St} {H : Hp} {Q : VK} {c d : Bool} {QB : Bool → Hp → Prop}
theorem x_andJ3 {tt uu : TT} (J J2 : Hp → Prop) (h1 : ∀ Q1 : Bool → Hp → Prop, (∀ H', J H' → Q1 c H') → tt σ H Q1) (h2 : c = true → ∀ H', J H' → ∀ Q2 : Bool → Hp → Prop, (∀ H'', J2 H'' → Q2 d H'') → uu σ H' Q2)
    (h3 : c = false → false = d ∧ ∀ H', J H' → J2 H') (k : ∀ H', J2 H' → QB d H') : tAnd tt uu σ H QB := by
  refine h1 _ fun H' O' => ?_
  cases c with
  | true => exact h2 rfl H' O' QB k
  | false =>
    obtain ⟨e, g⟩ := h3 rfl
    rw [← e] at k
    exact k H' (g H' O')
theorem x_orJ3 {tt uu : TT} (J J2 : Hp → Prop) (h1 : ∀ Q1 : Bool → Hp → Prop, (∀ H', J H' → Q1 c H') → tt σ H Q1) (h2 : c = false → ∀ H', J H' → ∀ Q2 : Bool → Hp → Prop, (∀ H'', J2 H'' → Q2 d H'') → uu σ H' Q2)
    (h3 : c = true → true = d ∧ ∀ H', J H' → J2 H') (k : ∀ H', J2 H' → QB d H') : tOr tt uu σ H QB := by
  refine h1 _ fun H' O' => ?_
  cases c with
  | false => exact h2 rfl H' O' QB k
  | true =>
    obtain ⟨e, g⟩ := h3 rfl
    rw [← e] at k
    exact k H' (g H' O')
theorem x_andVJ3 {tt uu : TE} (J J2 : Hp → Prop) (h1 : ∀ Q1 : VK, (∀ H', J H' → Q1 (.bl c) H') → tt σ H Q1) (h2 : c = true → ∀ H', J H' → ∀ Q2 : VK, (∀ H'', J2 H'' → Q2 (.bl d) H'') → uu σ H' Q2)
    (h3 : c = false → false = d ∧ ∀ H', J H' → J2 H') (k : ∀ H', J2 H' → Q (.bl d) H') : tAndV tt uu σ H Q := by
  refine h1 _ fun H' O' => ⟨_, rfl, ?_⟩
  cases c with
  | true => exact h2 rfl H' O' Q k
  | false =>
    obtain ⟨e, g⟩ := h3 rfl
    rw [← e] at k
    exact k H' (g H' O')
theorem x_orVJ3 {tt uu : TE} (J J2 : Hp → Prop) (h1 : ∀ Q1 : VK, (∀ H', J H' → Q1 (.bl c) H') → tt σ H Q1) (h2 : c = false → ∀ H', J H' → ∀ Q2 : VK, (∀ H'', J2 H'' → Q2 (.bl d) H'') → uu σ H' Q2)
    (h3 : c = true → true = d ∧ ∀ H', J H' → J2 H') (k : ∀ H', J2 H' → Q (.bl d) H') : tOrV tt uu σ H Q := by
  refine h1 _ fun H' O' => ⟨_, rfl, ?_⟩
  cases c with
  | false => exact h2 rfl H' O' Q k
  | true =>
    obtain ⟨e, g⟩ := h3 rfl
    rw [← e] at k
    exact k H' (g H' O')
end
/-- out of a loop by break: the loop is over -/
theorem brkJ {α S R : Type} {f : α → S → Option (Fl S R)} {go : S → Option (Fl S R)} {s : S} {out : Fl S R} (h : contF go (.bk s) = some out) : loopF f [] s = some out := h
/-! five things -/
def rT5 {α β γ δ ε : Type} (P : Rp α) (Q : Rp β) (R : Rp γ) (S : Rp δ) (T : Rp ε) : Rp (α × β × γ × δ × ε) := fun F v x => ∃ p a b c d e, v = .ref p ∧ F p = some (.tup [a, b, c, d, e]) ∧ P F a x.1 ∧ Q F b x.2.1 ∧ R F c x.2.2.1 ∧ S F d x.2.2.2.1 ∧ T F e x.2.2.2.2
section
variable {α β γ δ ε : Type} {P : Rp α} {Q : Rp β} {R : Rp γ} {S : Rp δ} {T : Rp ε}
theorem mT5 (m : Mono P) (n : Mono Q) (o : Mono R) (q : Mono S) (t : Mono T) : Mono (rT5 P Q R S T) := fun F F' v x e ⟨p, a, b, c, d, z, h1, h2, h3, h4, h5, h6, h7⟩ => ⟨p, a, b, c, d, z, h1, e _ _ h2, m _ _ _ _ e h3, n _ _ _ _ e h4, o _ _ _ _ e h5, q _ _ _ _ e h6, t _ _ _ _ e h7⟩
theorem rT5_at {F : Hp} {a : Addr} {x : α × β × γ × δ × ε} (h : rT5 P Q R S T F (.ref a) x) : ∃ u v w y z, F a = some (.tup [u, v, w, y, z]) ∧ P F u x.1 ∧ Q F v x.2.1 ∧ R F w x.2.2.1 ∧ S F y x.2.2.2.1 ∧ T F z x.2.2.2.2 := by
  obtain ⟨p, u, v, w, y, z, h1, h2⟩ := h
  cases h1
  exact ⟨u, v, w, y, z, h2⟩
theorem rT5_ref {F : Hp} {v : V} {x : α × β × γ × δ × ε} (h : rT5 P Q R S T F v x) : ∃ p, v = .ref p := by
  obtain ⟨p, _, _, _, _, _, h1, _⟩ := h
  exact ⟨p, h1⟩
theorem tyT5 {K : PySem.W.Frag} {b : String} {r : Bool} (h : kitB "tuple" b = some r) : TyP (rT5 P Q R S T) K (.type b) (fun _ => r) := fun H v x hx => by
  obtain ⟨p, _, _, _, _, _, rfl, h1, _⟩ := hx
  exact ⟨_, .base (.tup h1), kit_ty h⟩
end
/-! xs.pop(i) of a list of data -/
section
variable {α : Type} {P : V → α → Prop} {vs : List V} {xs ys : List α} {y : α} {i : Int} {R H : Hp} {a : Addr} {Q : VK}
theorem All2.del {α β : Type} {P : α → β → Prop} {as : List α} {bs : List β} (h : All2 P as bs) : ∀ n, All2 P (as.eraseIdx n) (bs.eraseIdx n) := by
  induction h with
  | nil => intro n; exact .nil
  | cons h t ih =>
    intro n
    cases n with
    | zero => exact t
    | succ n => exact .cons h (ih n)
theorem k_popIA {g : HO → List Cell} (hl : H a = some (.lst vs)) (ha : All2 P vs xs) (hp : ∀ o', Own R (upd H a o') (g o')) (h : popA xs i = some (y, ys)) (k : ∀ H' ws w, Own R H' (g (.lst ws)) → P w y → All2 P ws ys → Q w H') : rPopI (.ref a) [.int i] H Q := by
  obtain ⟨_, h1, h2⟩ := bndE h
  obtain ⟨c, _⟩ := grdE h1
  obtain ⟨j, h3, h4⟩ := bndE h2
  obtain ⟨z, h5, h6⟩ := bndE h4
  cases h6
  obtain ⟨s1, s2, s3, s4⟩ := ixN_seq h3
  obtain ⟨w, w1, w2⟩ := ha.get h5
  exact ⟨a, _, i, j, w, rfl, rfl, hl, by omega, by omega, by rw [ha.len]; exact s1, w1, k _ _ _ (hp _) w2 (ha.del j)⟩
end
end Bt

set_option Elab.async false
set_option linter.all false
set_option maxRecDepth 100000
set_option maxHeartbeats 4000000
/-! The head by one kernel run, its facts told by decisions (for tops that k_head does not get through). -/
namespace Bt
open PySem L2 PySem.Spec PyProof.Rows
/-- one fact of the part of the heap that the top leaves -/
structure FP where
  P : PySem.W.Frag → Prop
  d : ∀ K, Decidable (P K)
def mkF (P : PySem.W.Frag → Prop) [d : ∀ K, Decidable (P K)] : FP := ⟨P, d⟩
abbrev fG (x : Str) (K : PySem.W.Frag) : Prop := PySem.W.nsIn K PySem.mainGlobals x = some (some (.ref (He.ga K x)))
abbrev fZ (x : Str) (K : PySem.W.Frag) : Prop := PySem.W.nsIn K PySem.mainGlobals x = some none
abbrev fK (x : Str) (K : PySem.W.Frag) : Prop := PySem.W.keepIn K (.ref (He.ga K x)) = true
abbrev fM (C m : Str) (K : PySem.W.Frag) : Prop := PySem.W.findIn K (.ref (He.ga K C)) m = some (some (.ref (He.ma K (He.ga K C) m)))
abbrev fN (C m : Str) (K : PySem.W.Frag) : Prop := PySem.W.isFn K (.ref (He.ma K (He.ga K C) m)) = true
abbrev fP (C m : Str) (K : PySem.W.Frag) : Prop := PySem.W.keepIn K (.ref (He.ma K (He.ga K C) m)) = true
abbrev fO (C m : Str) (K : PySem.W.Frag) : Prop := PySem.W.findIn K (.ref (He.ga K C)) m = some none
def FP.ok (f : FP) (K : PySem.W.Frag) : Bool := @decide (f.P K) (f.d K)
def dF (p : Str × Option Str) (nm qual : Str) (st : Stmt) : He.FnD := ⟨p, nm, qual, defArgs st, defBody st, defScope st⟩
def obsH (fa : List FP) (fn : List He.FnD) (K : PySem.W.Frag) : He.Al := ((fa.all fun f => f.ok K) && fn.all fun d => (He.Fa.code d.at_ d.qual).ok K, fn.map fun d => He.fnObs K d.at_)
def SaysH (fa : List FP) (fn : List He.FnD) (K : PySem.W.Frag) : Prop := obsH fa fn K = He.valE fn
/-- what an object names, each thing once (a class: its names; the classes above it are the module's own names) -/
def refsH (o : Obj) : List Addr := match o.data with
  | .seq its _ => its.toList.flatMap He.refV
  | .dict es _ => es.toList.flatMap fun e => He.refV e.val
  | .func fd => He.refV fd.code ++ He.refV fd.defaults
  | .cls cd => [cd.ns]
  | .fields vs => vs.toList.flatMap He.refV
  | _ => []
def lvH (g : Addr → Option Obj) : Nat → List Addr → List Addr
  | 0, as => as
  | n + 1, as => as ++ lvH g n (as.flatMap fun a => match g a with
    | some o => refsH o
    | none => [])
def obsHG (n : Nat) (fa : List FP) (fn : List He.FnD) (g : Addr → Option Obj) : He.Al := obsH fa fn (He.frG g (PySem.cStatics :: lvH g n [mainGlobals]))
def hookH (n : Nat) (fa : List FP) (fn : List He.FnD) : PySem.W.Hook where
  α := He.Al
  obs := fun s => obsHG n fa fn s.heap.get?
  val := fun _ => He.valE fn
  says := fun _ h => ∃ K : PySem.W.Frag, K.In h ∧ SaysH fa fn K
  of := fun _ _ e => ⟨_, He.frG_in, e⟩
  keeps := fun _ _ _ ⟨K, hK, c⟩ k => ⟨K, PySem.W.Frag.In.keeps hK k, c⟩
theorem obsHG_eq {n : Nat} {fa : List FP} {fn : List He.FnD} {g : Addr → Option Obj} {s : Shared} (h : ∀ a, g a = s.heap.get? a) : obsHG n fa fn g = (hookH n fa fn).obs s := by
  have e : g = s.heap.get? := funext h
  rw [e] <;> rfl
section
variable {fa : List FP} {fn : List He.FnD} {K : PySem.W.Frag} {h : Heap} {mg : Str → Option Value}
theorem SaysH.fact (c : SaysH fa fn K) (i : Nat) {f : FP} (h : fa[i]? = some f) : f.P K := by
  have c1 := (He.ba (show ((fa.all fun f => f.ok K) && fn.all fun d => (He.Fa.code d.at_ d.qual).ok K) = true from congrArg (fun z : He.Al => z.1) c)).1
  exact @of_decide_eq_true _ (f.d K) (List.all_eq_true.mp c1 f (List.mem_of_getElem? h))
theorem SaysH.def_ (c : SaysH fa fn K) (i : Nat) {d : He.FnD} (h : fn[i]? = some d) :
    ∃ oc od osl kV doc pm an cdv ct, K.lookup (He.fAd K d.at_) = some ⟨oc, od, .func (PySem.W.fnOf d.name d.qual d.params d.body d.scope .none kV doc pm an cdv ct), osl⟩ ∧ PySem.W.codeIn K cdv d.qual = true := by
  have c2 := (He.ba (show ((fa.all fun f => f.ok K) && fn.all fun d => (He.Fa.code d.at_ d.qual).ok K) = true from congrArg (fun z : He.Al => z.1) c)).2
  have e : fn.map (fun d => He.fnObs K d.at_) = fn.map He.FnD.val := congrArg (fun z : He.Al => z.2) c
  have e2 : (fn.map fun d => He.fnObs K d.at_)[i]? = (fn.map He.FnD.val)[i]? := by rw [e]
  rw [List.getElem?_map, List.getElem?_map, h] at e2
  exact He.fn_ok (Option.some.inj e2) (List.all_eq_true.mp c2 d (List.mem_of_getElem? h))
theorem SaysH.mf (c : SaysH fa fn K) (i : Nat) {C nm qual : Str} {st : Stmt} (h : fn[i]? = some (dF (C, some nm) nm qual st)) (h1 : PySem.W.findIn K (.ref (He.ga K C)) nm = some (some (.ref (He.ma K (He.ga K C) nm))))
    (h2 : PySem.W.isFn K (.ref (He.ma K (He.ga K C) nm)) = true) (h3 : PySem.W.keepIn K (.ref (He.ma K (He.ga K C) nm)) = true) : MF K (He.ga K C) (He.ma K (He.ga K C) nm) nm qual st := by
  obtain ⟨oc, od, osl, kV, doc, pm, an, cdv, ct, e1, e2⟩ := c.def_ i h
  exact ⟨h1, h2, ⟨oc, od, kV, doc, pm, an, cdv, ct, osl, e1, e2⟩, h3⟩
theorem SaysH.fun_ (c : SaysH fa fn K) (X : K.In h) (G : h.Ns mainGlobals mg) (i : Nat) {x : Str} {st : Stmt} (hi : fn[i]? = some (dF (x, none) x x st)) (h1 : PySem.W.nsIn K mainGlobals x = some (some (.ref (He.ga K x))))
    (h3 : PySem.W.keepIn K (.ref (He.ga K x)) = true) : ∃ f fd, Fun K x x st f fd ∧ mg x = some (.ref f) := by
  obtain ⟨oc, od, osl, kV, doc, pm, an, cdv, ct, e1, e2⟩ := c.def_ i hi
  exact def_mk X G h1 e1 e2 h3
theorem gvh_int (X : K.In h) (G : h.Ns mainGlobals mg) {x : Str} {i : Int} (c : (He.Fa.int x i).ok K = true) : Gv mg x (.int i) := by
  obtain ⟨t, e⟩ := He.int_ok X G c
  exact ⟨_, e, _, rfl⟩
theorem gvh_str (X : K.In h) (G : h.Ns mainGlobals mg) {x z : Str} (c : (He.Fa.str x z).ok K = true) : Gv mg x (.str z) := by
  obtain ⟨t, e⟩ := He.str_ok X G c
  exact ⟨_, e, _, rfl⟩
theorem gvh_tup (X : K.In h) (G : h.Ns mainGlobals mg) {x : Str} {ns : List Int} (g : PySem.W.nsIn K mainGlobals x = some (some (.ref (He.ga K x)))) (c : He.tupB K x (ns.map He.Dv.int) = true) :
    ∃ a, Gv mg x (.ref a) ∧ ∀ H, SqT K H a (ns.map V.int) := by
  refine ⟨He.ga K x, ⟨_, PySem.W.mg_of X G g, rfl⟩, fun H => ?_⟩
  have := He.tupB_ok c H
  rw [List.map_map] at this
  exact this
end
def fcB (K : PySem.W.Frag) (C q : Addr) : Bool := match PySem.W.findCls K (.ref C) (.type "type") "__init__" with
  | some (.val (.ref a)) => decide (a = q)
  | _ => false
theorem fcB_ok {K : PySem.W.Frag} {C q : Addr} (h : fcB K C q = true) : PySem.W.findCls K (.ref C) (.type "type") "__init__" = some (.val (.ref q)) := by
  unfold fcB at h
  split at h
  · rename_i a e
    rw [e, of_decide_eq_true h]
  · cases h
end Bt
namespace Bt
open PySem PySem.W PySem.Calls PyProof.Rows HandSHeadRun
/-- the run's equation in three parts, so that the kernel keeps less at a time -/
def RunA (r : OpenRow) (M : Nat) (w : World) : Prop := ∀ os : OsState, (endF (stepQ (denQ tabQ) r.prog w) M r.prog w os).map (fun s => looksF r.prog (boot_heap w.params) s.abs) = some true
def RunB (r : OpenRow) (q : Program) (M : Nat) (loose : List PySem.Str) (w : World) : Prop := ∀ os : OsState, (endF (stepQ (denQ tabQ) r.prog w) M r.prog w os).map (fun s => seenQ q loose (importedModules r.prog.main.body) (fun s => xlAt q [] s && recOk r.toRowW.records s) s.abs) = some (openGood q loose)
def RunC (r : OpenRow) (α : Type) (ob : SharedT → α) (v : α) (M : Nat) (w : World) : Prop := ∀ os : OsState, (endF (stepQ (denQ tabQ) r.prog w) M r.prog w os).map ob = some v
theorem run3 {r : OpenRow} {q : Program} {H : Hook} {ob : SharedT → H.α} {M : Nat} {loose : List PySem.Str} {w : World} (a : RunA r M w) (b : RunB r q M loose w) (c : RunC r H.α ob (H.val w) M w) : RunEq r q H ob M loose w := fun os => by
  have a := a os
  have b := b os
  have c := c os
  obtain ⟨s, e, ha⟩ := Option.map_eq_some_iff.mp a
  rw [e] at b c ⊢
  have hb := Option.some.inj b
  have hc := Option.some.inj c
  show some (_, _, _) = some (_, _, _)
  rw [ha, hc]
  exact congrArg (fun z => some (true, z, H.val w)) hb
end Bt

set_option Elab.async false
set_option linter.all false
set_option maxRecDepth 100000
set_option maxHeartbeats 4000000
/-! More built-ins of lists. -/
namespace Bt
open PySem L2 PySem.Spec PyProof.Rows
def minG : List Int → Option Int
  | [] => none
  | n :: ns => some (ns.foldl min n)
def maxG : List Int → Option Int
  | [] => none
  | n :: ns => some (ns.foldl max n)
theorem foldl_min (ns : List Int) : ∀ n : Int, (ns.foldl min n = n ∨ ns.foldl min n ∈ ns) ∧ ns.foldl min n ≤ n ∧ ∀ y ∈ ns, ns.foldl min n ≤ y := by
  induction ns with
  | nil => intro n; exact ⟨.inl rfl, Int.le_refl _, fun _ h => nomatch h⟩
  | cons m r ih =>
    intro n
    obtain ⟨h1, h2, h3⟩ := ih (min n m)
    refine ⟨?_, ?_, fun y hy => ?_⟩
    · rcases h1 with h1 | h1
      · by_cases h : n ≤ m
        · left; show r.foldl min (min n m) = n; rw [h1]; omega
        · right; show r.foldl min (min n m) ∈ m :: r; rw [h1, show min n m = m by omega]; exact List.Mem.head _
      · exact .inr (List.Mem.tail _ h1)
    · show r.foldl min (min n m) ≤ n; omega
    · rcases List.mem_cons.mp hy with rfl | hy
      · show r.foldl min (min n y) ≤ y; omega
      · exact h3 y hy
theorem foldl_max (ns : List Int) : ∀ n : Int, (ns.foldl max n = n ∨ ns.foldl max n ∈ ns) ∧ n ≤ ns.foldl max n ∧ ∀ y ∈ ns, y ≤ ns.foldl max n := by
  induction ns with
  | nil => intro n; exact ⟨.inl rfl, Int.le_refl _, fun _ h => nomatch h⟩
  | cons m r ih =>
    intro n
    obtain ⟨h1, h2, h3⟩ := ih (max n m)
    refine ⟨?_, ?_, fun y hy => ?_⟩
    · rcases h1 with h1 | h1
      · by_cases h : m ≤ n
        · left; show r.foldl max (max n m) = n; rw [h1]; omega
        · right; show r.foldl max (max n m) ∈ m :: r; rw [h1, show max n m = m by omega]; exact List.Mem.head _
      · exact .inr (List.Mem.tail _ h1)
    · show n ≤ r.foldl max (max n m); omega
    · rcases List.mem_cons.mp hy with rfl | hy
      · show y ≤ r.foldl max (max n y); omega
      · exact h3 y hy
theorem minG_spec {xs : List Int} {m : Int} (h : minG xs = some m) : 0 < xs.length ∧ m ∈ xs ∧ ∀ y ∈ xs, m ≤ y := by
  cases xs with
  | nil => cases h
  | cons n r =>
    cases h
    obtain ⟨h1, h2, h3⟩ := foldl_min r n
    refine ⟨by simp, ?_, fun y hy => ?_⟩
    · rcases h1 with h1 | h1
      · rw [h1]; exact List.Mem.head _
      · exact List.Mem.tail _ h1
    · rcases List.mem_cons.mp hy with rfl | hy
      · exact h2
      · exact h3 y hy
theorem maxG_spec {xs : List Int} {m : Int} (h : maxG xs = some m) : 0 < xs.length ∧ m ∈ xs ∧ ∀ y ∈ xs, y ≤ m := by
  cases xs with
  | nil => cases h
  | cons n r =>
    cases h
    obtain ⟨h1, h2, h3⟩ := foldl_max r n
    refine ⟨by simp, ?_, fun y hy => ?_⟩
    · rcases h1 with h1 | h1
      · rw [h1]; exact List.Mem.head _
      · exact List.Mem.tail _ h1
    · rcases List.mem_cons.mp hy with rfl | hy
      · exact h2
      · exact h3 y hy
section
variable {K : PySem.W.Frag} {H R : Hp} {L : List Cell} {Q : VK} {a : Addr} {xs : List Int} {m : Int}
theorem k_min (hs : SqL K H a (xs.map V.int)) (h : minG xs = some m) (q : Q (.int m) H) : rMin K [.ref a] H Q := by
  obtain ⟨h1, h2, h3⟩ := minG_spec h
  refine ⟨a, xs, rfl, hs, h1, fun m' hm hy => ?_⟩
  have e1 := hy m h2
  have e2 := h3 m' hm
  have : m' = m := by omega
  rw [this]; exact q
theorem k_max (hs : SqL K H a (xs.map V.int)) (h : maxG xs = some m) (q : Q (.int m) H) : rMax K [.ref a] H Q := by
  obtain ⟨h1, h2, h3⟩ := maxG_spec h
  refine ⟨a, xs, rfl, hs, h1, fun m' hm hy => ?_⟩
  have e1 := hy m h2
  have e2 := h3 m' hm
  have : m' = m := by omega
  rw [this]; exact q
end
theorem inV_str (i : Str) : ∀ xs : List Str, inV (.str i) (xs.map V.str) = decide (i ∈ xs)
  | [] => rfl
  | y :: r => by
    have ih := inV_str i r
    have e : inV (.str i) ((y :: r).map V.str) = (eqV (.str y) (.str i) || inV (.str i) (r.map V.str)) := rfl
    rw [e, ih]
    have e2 : eqV (.str y) (.str i) = decide (i = y) := by
      by_cases h : i = y
      · subst h; simp [eqV]
      · have : ¬ y = i := fun q => h q.symm
        simp [eqV, h, this]
    rw [e2]
    simp
theorem flat_str : ∀ xs : List Str, (xs.map V.str).all flatV = true
  | [] => rfl
  | y :: r => by
    have ih := flat_str r
    show (flatV (.str y) && (r.map V.str).all flatV) = true
    rw [ih]
    rfl
section
variable {K : PySem.W.Frag} {H : Hp} {Q : VK} {a : Addr} {i : Str} {ns : List Str}
theorem k_inLS (hs : SqL K H a (ns.map V.str)) (k : Q (.bl (decide (i ∈ ns))) H) : rIn K false (.str i) (.ref a) H Q := ⟨a, _, rfl, .inl hs, rfl, flat_str _, by rw [inV_str]; exact k⟩
theorem k_niLS (hs : SqL K H a (ns.map V.str)) (k : Q (.bl (!decide (i ∈ ns))) H) : rIn K true (.str i) (.ref a) H Q := ⟨a, _, rfl, .inl hs, rfl, flat_str _, by rw [inV_str]; exact k⟩
theorem k_inTS (hs : SqT K H a (ns.map V.str)) (k : Q (.bl (decide (i ∈ ns))) H) : rIn K false (.str i) (.ref a) H Q := ⟨a, _, rfl, .inr hs, rfl, flat_str _, by rw [inV_str]; exact k⟩
theorem k_niTS (hs : SqT K H a (ns.map V.str)) (k : Q (.bl (!decide (i ∈ ns))) H) : rIn K true (.str i) (.ref a) H Q := ⟨a, _, rfl, .inr hs, rfl, flat_str _, by rw [inV_str]; exact k⟩
end
/-! l.count(x), l.index(x) of data -/
def rCountD (K : PySem.W.Frag) : V → List V → Hp → VK → Prop := fun x xs H Q => ∃ (a : Addr) (y : V) (d : PyData) (ds : List PyData), x = V.ref a ∧ xs = [y] ∧ Dp K H (V.ref a) (.list ds) ∧ Dp K H y d ∧
  SeqAt.shaped (.list ds) = true ∧ SeqAt.shaped d = true ∧ Q (.int ((ds.countP fun z => PyData.eqv z d : Nat) : Int)) H
theorem mt_countD {X : Cx} (hu : X.A.units + 65 < cLine) : MtR X "list.count" (rCountD X.K) := by
  intro pins s σ H x xs v us Q I rx rxs h
  obtain ⟨a, y, d, ds, rfl, rfl, hl, hy, sl, sd, q⟩ := h
  cases rx
  cases rxs with
  | cons ry rt =>
    rename_i uy ut
    cases rt
    obtain ⟨bs, r1⟩ := Dp.reads I d y uy hy ry
    have hxs : PyData.canLayAll0 ds = true := SeqAt.canLay_of_shaped sl
    have hroom : X.A.units + 1 + min (PyData.depthAll ds) d.depth < cLine := room_in_shaped sd hu
    cases hl with
    | lst hs ha =>
      obtain ⟨its, rv, ⟨⟨cls, dd, data, sls⟩, n, ho, hc, hdn, hdt⟩, hlen⟩ := I.list hs
      simp only at hc hdt
      subst hc hdt
      obtain ⟨as, h4⟩ := Dp.readsAll I ds _ its ha rv
      have hmap : its.map (SeqAt.readOf s.heap) = ds := SeqAt.readsAll_map ds its as hxs h4
      have e : its.toArray.toList.countP (fun u => PyData.eqv (SeqAt.readOf s.heap u) d) = ds.countP fun z => PyData.eqv z d := by
        rw [← hmap, List.countP_map]
        rfl
      rw [← e] at q
      exact call_meets PySem.F.slot_list_count ⟨_, ho, rfl⟩ PySem.F.entry_list_count (PySem.F.args_list_count_2 _ _) (SeqAt.list_countAt a its.toArray n dd sls uy (fun u => PyData.eqv (SeqAt.readOf s.heap u) d))
        ⟨ho, SeqAt.items_eqAt (vs := its.toArray) (show ReadsAll s.heap its.toArray.toList ds as from h4) r1 hxs (SeqAt.canLay_of_shaped sd) hroom, ⟨.int _, H, I.tok _, ⟨_, rfl⟩, q⟩⟩
section
variable {α : Type} [DecidableEq α] {P : Rp α} {K : PySem.W.Frag} {H : Hp} {v w : V} {xs : List α} {y : α} {Q : VK} {a : Addr}
def cntL (xs : List α) (y : α) : Int := ((xs.countP fun z => decide (z = y) : Nat) : Int)
theorem countP_de (e : Dq P) (y : α) : ∀ xs : List α, ((xs.map e.d).countP fun z => PyData.eqv z (e.d y)) = xs.countP fun z => decide (z = y)
  | [] => rfl
  | x :: r => by
    rw [List.map_cons, List.countP_cons, List.countP_cons, countP_de e y r, e.eq x y]
theorem k_countD (e : Dq P) (h : e.n ≤ 60) (hx : PyData.canLay0 ((dqL e).d xs) = true) (hy : PyData.canLay0 (e.d y) = true) (h1 : rL P H (.ref a) xs) (h2 : P H v y) (q : Q (.int (cntL xs y)) H) : rCountD K (.ref a) [v] H Q :=
  ⟨a, v, e.d y, xs.map e.d, rfl, rfl, (dqL e).dp K H _ _ h1, e.dp K H _ _ h2, sh_dq (dqL e) (by show e.n + 1 ≤ 64; omega) hx, sh_dq e (by omega) hy, by rw [countP_de]; exact q⟩
def idxL : List α → α → Option Int
  | [], _ => none
  | x :: r, y => if x = y then some 0 else match idxL r y with
    | some j => some (j + 1)
    | none => none
theorem idxL_spec : ∀ {xs : List α} {j : Int}, idxL xs y = some j → ∃ n : Nat, j = n ∧ xs[n]? = some y ∧ ∀ m z, m < n → xs[m]? = some z → z ≠ y
  | [], j, h => by cases h
  | x :: r, j, h => by
    unfold idxL at h
    by_cases c : x = y
    · rw [if_pos c] at h
      cases h
      exact ⟨0, rfl, by rw [c]; rfl, fun m z hm => by omega⟩
    · rw [if_neg c] at h
      cases e : idxL r y with
      | none => rw [e] at h; cases h
      | some i =>
        rw [e] at h
        cases h
        obtain ⟨n, rfl, h1, h2⟩ := idxL_spec e
        refine ⟨n + 1, by omega, by simpa using h1, fun m z hm hz => ?_⟩
        cases m with
        | zero => cases Option.some.inj hz; exact c
        | succ m => exact h2 m z (by omega) (by simpa using hz)
theorem k_indexD (e : Dq P) (h : e.n ≤ 60) (hx : PyData.canLay0 ((dqL e).d xs) = true) (hy : PyData.canLay0 (e.d y) = true) (h1 : rL P H (.ref a) xs) (h2 : P H v y) {j : Int} (hj : idxL xs y = some j) (q : Q (.int j) H) : rIndexD K (.ref a) [v] H Q := by
  obtain ⟨n, rfl, g1, g2⟩ := idxL_spec hj
  refine ⟨a, v, e.d y, xs.map e.d, n, e.d y, rfl, rfl, (dqL e).dp K H _ _ h1, e.dp K H _ _ h2, sh_dq (dqL e) (by show e.n + 1 ≤ 64; omega) hx, sh_dq e (by omega) hy, by rw [List.getElem?_map, g1]; rfl, by rw [e.eq]; simp, fun m z' hm hz => ?_, q⟩
  rw [List.getElem?_map] at hz
  cases e1 : xs[m]? with
  | none => rw [e1] at hz; cases hz
  | some z =>
    rw [e1] at hz
    cases hz
    rw [e.eq]
    exact decide_eq_false (g2 m z hm e1)
theorem okInts (xs : List Int) : PyData.canLay0 ((dqL (De.q deI)).d xs) = true := by
  show PyData.canLay0 (.list (xs.map PyData.int)) = true
  simp only [PyData.canLay0]
  induction xs with
  | nil => rfl
  | cons x r ih => simp only [List.map_cons, PyData.canLayAll0, PyData.canLay0, ih, Bool.and_self]
theorem okDe {P : Rp α} (e : De P) (y : α) : PyData.canLay0 ((De.q e).d y) = true := e.ok y
theorem okDeL {P : Rp α} (e : De P) (xs : List α) : PyData.canLay0 ((dqL (De.q e)).d xs) = true := by
  show PyData.canLay0 (.list (xs.map e.d)) = true
  simp only [PyData.canLay0]
  exact ok_all e xs
end
/-! xs.insert(i, y) -/
section
variable {α : Type} {f : α → V} {R H : Hp} {L : List Cell} {a : Addr} {xs ys : List α} {y : α} {i : Int} {Q : VK} {v : V} {P : V → α → Prop} {vs : List V}
def insG (xs : List α) (i : Int) (y : α) : Option (List α) := grd (xs.length < sizeLine ∧ 0 ≤ i ∧ i < 2 ^ 63) (xs.take i.toNat ++ [y] ++ xs.drop i.toNat)
def rInsert : V → List V → Hp → VK → Prop := fun x vs H Q => ∃ (l : Addr) (xs : List V) (i : Int) (y : V), x = .ref l ∧ vs = [.int i, y] ∧ H l = some (.lst xs) ∧ xs.length < sizeLine ∧ 0 ≤ i ∧ i < 2 ^ 63 ∧
    Q .non (upd H l (.lst (xs.take i.toNat ++ [y] ++ xs.drop i.toNat)))
theorem k_ins {g : HO → List Cell} (hl : H a = some (.lst (xs.map f))) (hp : ∀ o', Own R (upd H a o') (g o')) (h : insG xs i y = some ys) (k : ∀ H', Own R H' (g (.lst (ys.map f))) → Q .non H') : rInsert (.ref a) [.int i, f y] H Q := by
  obtain ⟨⟨c1, c2, c3⟩, rfl⟩ := grdE h
  refine ⟨a, _, i, _, rfl, rfl, hl, by rw [List.length_map]; exact c1, c2, c3, ?_⟩
  rw [← List.map_take, ← List.map_drop, map_snoc, ← List.map_append]
  exact k _ (hp _)
theorem k_insA {g : HO → List Cell} (hl : H a = some (.lst vs)) (ha : All2 P vs xs) (hp : ∀ o', Own R (upd H a o') (g o')) (h : insG xs i y = some ys) (hv : P v y) (k : ∀ H' ws, Own R H' (g (.lst ws)) → All2 P ws ys → Q .non H') : rInsert (.ref a) [.int i, v] H Q := by
  obtain ⟨⟨c1, c2, c3⟩, rfl⟩ := grdE h
  exact ⟨a, _, i, _, rfl, rfl, hl, by rw [ha.len]; exact c1, c2, c3, k _ _ (hp _) (((ha.take _).snoc hv).app (ha.drop _))⟩
theorem k_insE {g : HO → List Cell} (hl : H a = some (.lst vs)) (hp : ∀ o', Own R (upd H a o') (g o')) (c1 : vs.length < sizeLine) (c2 : 0 ≤ i) (c3 : i < 2 ^ 63) (k : ∀ H', Own R H' (g (.lst (vs.take i.toNat ++ [v] ++ vs.drop i.toNat))) → Q .non H') : rInsert (.ref a) [.int i, v] H Q :=
  ⟨a, _, i, _, rfl, rfl, hl, c1, c2, c3, k _ (hp _)⟩
end
def rInt : List V → Hp → VK → Prop := fun xs H Q => (∃ i, xs = [.int i] ∧ Q (.int i) H) ∨ ∃ k, xs = [.bl k] ∧ Q (.int (if k then 1 else 0)) H
theorem call_intQ {X : Cx} : CallR X (.type "int") rInt := call_int1
theorem mt_insertQ {X : Cx} : MtR X "list.insert" rInsert := mt_insert
end Bt

set_option Elab.async false
set_option linter.all false
set_option maxRecDepth 100000
set_option maxHeartbeats 4000000
set_option synthInstance.maxHeartbeats 400000
set_option synthInstance.maxSize 4096
namespace Bt
open PySem L2
open HAppend (hAppend)
def top (i : Nat) : Stmt := PySem.Challenge.pw_bitrail_k40_posts_and_frames_refused.main.body.getD i (.Pass ⟨0, 0, 0, 0⟩)
abbrev s_Count_init : Stmt := (clsB (top 30)).getD 0 (.Pass ⟨0, 0, 0, 0⟩)
abbrev s_Keep_init : Stmt := (clsB (top 33)).getD 0 (.Pass ⟨0, 0, 0, 0⟩)
abbrev s_Free_init : Stmt := (clsB (top 34)).getD 0 (.Pass ⟨0, 0, 0, 0⟩)
abbrev s_is_name : Stmt := top 24
abbrev s_Post_init : Stmt := (clsB (top 38)).getD 0 (.Pass ⟨0, 0, 0, 0⟩)
abbrev s__law_draw : Stmt := top 40
abbrev s__law_is_other : Stmt := top 42
abbrev s__law_no_post : Stmt := top 43
abbrev s_Count_number : Stmt := (clsB (top 30)).getD 5 (.Pass ⟨0, 0, 0, 0⟩)
abbrev s_Post_faults : Stmt := (clsB (top 38)).getD 7 (.Pass ⟨0, 0, 0, 0⟩)
abbrev s_Free_called : Stmt := (clsB (top 34)).getD 1 (.Pass ⟨0, 0, 0, 0⟩)
abbrev s_Post_stance : Stmt := (clsB (top 38)).getD 4 (.Pass ⟨0, 0, 0, 0⟩)
abbrev s_Post_waits : Stmt := (clsB (top 38)).getD 5 (.Pass ⟨0, 0, 0, 0⟩)
abbrev s_Post_got : Stmt := (clsB (top 38)).getD 6 (.Pass ⟨0, 0, 0, 0⟩)
abbrev s_Count_is_quiet : Stmt := (clsB (top 30)).getD 6 (.Pass ⟨0, 0, 0, 0⟩)
abbrev s_Free_says : Stmt := (clsB (top 35)).getD 0 (.Pass ⟨0, 0, 0, 0⟩)
abbrev s_Post_says : Stmt := (clsB (top 38)).getD 2 (.Pass ⟨0, 0, 0, 0⟩)
abbrev s_Post_is_quiet : Stmt := (clsB (top 38)).getD 8 (.Pass ⟨0, 0, 0, 0⟩)
abbrev s_Count_is_off : Stmt := (clsB (top 30)).getD 7 (.Pass ⟨0, 0, 0, 0⟩)
abbrev s_Post_is_off : Stmt := (clsB (top 38)).getD 9 (.Pass ⟨0, 0, 0, 0⟩)
abbrev s__law_new : Stmt := top 46
abbrev s_bits_of : Stmt := top 14
abbrev s_divided : Stmt := top 17
abbrev s_number_of : Stmt := top 15
abbrev s_rest_of : Stmt := top 21
abbrev s_check_of : Stmt := top 22
abbrev s_frame_bits : Stmt := top 26
abbrev s_Post_hand : Stmt := (clsB (top 38)).getD 1 (.Pass ⟨0, 0, 0, 0⟩)
abbrev s__law_frames_alike : Stmt := top 45
abbrev s__law_far : Stmt := top 41
abbrev s__law_data : Stmt := top 47
abbrev s__law_no_frame : Stmt := top 44
abbrev s__law_spoiled : Stmt := top 48
abbrev s_law : Stmt := top 49
structure Ad where
  f_Count_init : Addr
  fd_Count_init : FuncData
  f_Keep_init : Addr
  fd_Keep_init : FuncData
  f_Free_init : Addr
  fd_Free_init : FuncData
  f_is_name : Addr
  fd_is_name : FuncData
  f_Post_init : Addr
  fd_Post_init : FuncData
  f__law_draw : Addr
  fd__law_draw : FuncData
  f__law_is_other : Addr
  fd__law_is_other : FuncData
  f__law_no_post : Addr
  fd__law_no_post : FuncData
  f_Count_number : Addr
  fd_Count_number : FuncData
  f_Post_faults : Addr
  fd_Post_faults : FuncData
  f_Free_called : Addr
  fd_Free_called : FuncData
  f_Post_stance : Addr
  fd_Post_stance : FuncData
  f_Post_waits : Addr
  fd_Post_waits : FuncData
  f_Post_got : Addr
  fd_Post_got : FuncData
  f_Count_is_quiet : Addr
  fd_Count_is_quiet : FuncData
  f_Free_says : Addr
  fd_Free_says : FuncData
  f_Post_says : Addr
  fd_Post_says : FuncData
  f_Post_is_quiet : Addr
  fd_Post_is_quiet : FuncData
  f_Count_is_off : Addr
  fd_Count_is_off : FuncData
  f_Post_is_off : Addr
  fd_Post_is_off : FuncData
  f__law_new : Addr
  fd__law_new : FuncData
  f_bits_of : Addr
  fd_bits_of : FuncData
  f_divided : Addr
  fd_divided : FuncData
  f_number_of : Addr
  fd_number_of : FuncData
  f_rest_of : Addr
  fd_rest_of : FuncData
  f_check_of : Addr
  fd_check_of : FuncData
  f_frame_bits : Addr
  fd_frame_bits : FuncData
  f_Post_hand : Addr
  fd_Post_hand : FuncData
  f__law_frames_alike : Addr
  fd__law_frames_alike : FuncData
  f__law_far : Addr
  fd__law_far : FuncData
  f__law_data : Addr
  fd__law_data : FuncData
  f__law_no_frame : Addr
  fd__law_no_frame : FuncData
  f__law_spoiled : Addr
  fd__law_spoiled : FuncData
  f_law : Addr
  fd_law : FuncData
  c_Count : Addr
  c_Keep : Addr
  c_Free : Addr
  c_Post : Addr
  k_VOTES : Addr
  es : Eds
structure S_Count where
  tally : Int
deriving DecidableEq
abbrev x_Count (ad : Ad) (dx : Addr) (q_tally : Int) : HO := .ins ad.c_Count dx [("tally", .int q_tally)]
def o_Count (ad : Ad) : Ob S_Count := fun F a L s => ∃ (dx : Addr), L = ((a, x_Count ad dx s.tally) :: (dx, .own a) :: [])
theorem mo_Count (ad : Ad) : MonoO (o_Count ad) := by
  rintro F F' a L s e ⟨x0, h⟩
  exact ⟨x0, h⟩
structure S_Keep where
  choice : Int × Int
  votes : Int
  queue : List (Int × (List Int))
  handed_up : List (Int × (List Int))
  count : S_Count
deriving DecidableEq
abbrev x_Keep (ad : Ad) (dx : Addr) (q_choice : Addr) (q_votes : Int) (q_queue : Addr) (q_handed_up : Addr) (q_count : Addr) : HO := .ins ad.c_Keep dx [("choice", .ref q_choice), ("votes", .int q_votes), ("queue", .ref q_queue), ("handed_up", .ref q_handed_up), ("count", .ref q_count)]
def o_Keep (ad : Ad) : Ob S_Keep := fun F a L s => ∃ (dx : Addr) (p_choice : Addr) (p_queue : Addr) (vs_queue : List V) (p_handed_up : Addr) (vs_handed_up : List V) (a_count : Addr) (L_count : List Cell), L = ((a, x_Keep ad dx p_choice s.votes p_queue p_handed_up a_count) :: (dx, .own a) :: ((p_choice, .tup [V.int s.choice.1, V.int s.choice.2]) :: ((p_queue, .lst vs_queue) :: ((p_handed_up, .lst vs_handed_up) :: (hAppend L_count []))))) ∧ All2 ((rT2 rI (rL rI)) F) vs_queue s.queue ∧ All2 ((rT2 rI (rL rI)) F) vs_handed_up s.handed_up ∧ (o_Count ad) F a_count L_count s.count
theorem mo_Keep (ad : Ad) : MonoO (o_Keep ad) := by
  rintro F F' a L s e ⟨x0, x1, x2, x3, x4, x5, x6, x7, h, h0, h1, h2⟩
  exact ⟨x0, x1, x2, x3, x4, x5, x6, x7, h, mA (mT2 mI (mL mI)) e h0, mA (mT2 mI (mL mI)) e h1, (mo_Count ad) _ _ _ _ _ e h2⟩
structure S_Free where
  many : Int
deriving DecidableEq
abbrev x_Free (ad : Ad) (dx : Addr) (q_keep : Addr) (q_many : Int) : HO := .ins ad.c_Free dx [("keep", .ref q_keep), ("many", .int q_many)]
def o_Free (ad : Ad) (kp : Addr) : Ob S_Free := fun F a L s => ∃ (dx : Addr), L = ((a, x_Free ad dx kp s.many) :: (dx, .own a) :: [])
theorem mo_Free (ad : Ad) (kp : Addr) : MonoO (o_Free ad kp) := by
  rintro F F' a L s e ⟨x0, h⟩
  exact ⟨x0, h⟩
structure S_Post where
  keep : S_Keep
  now : S_Free
deriving DecidableEq
abbrev x_Post (ad : Ad) (dx : Addr) (q_keep : Addr) (q_now : Addr) : HO := .ins ad.c_Post dx [("keep", .ref q_keep), ("now", .ref q_now)]
def o_Post (ad : Ad) : Ob S_Post := fun F a L s => ∃ (dx : Addr) (a_keep : Addr) (L_keep : List Cell) (a_now : Addr) (L_now : List Cell), L = ((a, x_Post ad dx a_keep a_now) :: (dx, .own a) :: (hAppend L_keep (hAppend L_now []))) ∧ (o_Keep ad) F a_keep L_keep s.keep ∧ (o_Free ad a_keep) F a_now L_now s.now
theorem mo_Post (ad : Ad) : MonoO (o_Post ad) := by
  rintro F F' a L s e ⟨x0, x1, x2, x3, x4, h, h0, h1⟩
  exact ⟨x0, x1, x2, x3, x4, h, (mo_Keep ad) _ _ _ _ _ e h0, (mo_Free ad _) _ _ _ _ _ e h1⟩
abbrev ks : List Ek := [.NoBits, .NoName, .NoKey, .NoFrame, .NoPost, .NoThing, .NoStrip, .NoRail, .NoWire, .NoRow]
structure Txt (K : PySem.W.Frag) (mg : Str → Option Value) (ad : Ad) : Prop where
  F_Count_init : Fun K "__init__" "Count.__init__" s_Count_init ad.f_Count_init ad.fd_Count_init
  b_Count_init : Binds K ad.fd_Count_init ["self"] []
  F_Keep_init : Fun K "__init__" "Keep.__init__" s_Keep_init ad.f_Keep_init ad.fd_Keep_init
  b_Keep_init : Binds K ad.fd_Keep_init ["self", "choice", "votes"] []
  F_Free_init : Fun K "__init__" "Stance.__init__" s_Free_init ad.f_Free_init ad.fd_Free_init
  b_Free_init : Binds K ad.fd_Free_init ["self", "keep", "many"] []
  F_is_name : Fun K "is_name" "is_name" s_is_name ad.f_is_name ad.fd_is_name
  g_is_name : mg "is_name" = some (.ref ad.f_is_name)
  b_is_name : Binds K ad.fd_is_name ["number"] []
  F_Post_init : Fun K "__init__" "Post.__init__" s_Post_init ad.f_Post_init ad.fd_Post_init
  b_Post_init : Binds K ad.fd_Post_init ["self", "choice", "votes"] []
  F__law_draw : Fun K "_law_draw" "_law_draw" s__law_draw ad.f__law_draw ad.fd__law_draw
  g__law_draw : mg "_law_draw" = some (.ref ad.f__law_draw)
  b__law_draw : Binds K ad.fd__law_draw ["script", "k", "many"] []
  F__law_is_other : Fun K "_law_is_other" "_law_is_other" s__law_is_other ad.f__law_is_other ad.fd__law_is_other
  g__law_is_other : mg "_law_is_other" = some (.ref ad.f__law_is_other)
  b__law_is_other : Binds K ad.fd__law_is_other ["e"] []
  F__law_no_post : Fun K "_law_no_post" "_law_no_post" s__law_no_post ad.f__law_no_post ad.fd__law_no_post
  g__law_no_post : mg "_law_no_post" = some (.ref ad.f__law_no_post)
  b__law_no_post : Binds K ad.fd__law_no_post ["choice", "votes"] []
  F_Count_number : Fun K "number" "Count.number" s_Count_number ad.f_Count_number ad.fd_Count_number
  b_Count_number : Binds K ad.fd_Count_number ["self"] []
  F_Post_faults : Fun K "faults" "Post.faults" s_Post_faults ad.f_Post_faults ad.fd_Post_faults
  b_Post_faults : Binds K ad.fd_Post_faults ["self"] []
  F_Free_called : Fun K "called" "Stance.called" s_Free_called ad.f_Free_called ad.fd_Free_called
  b_Free_called : Binds K ad.fd_Free_called ["self"] []
  F_Post_stance : Fun K "stance" "Post.stance" s_Post_stance ad.f_Post_stance ad.fd_Post_stance
  b_Post_stance : Binds K ad.fd_Post_stance ["self"] []
  F_Post_waits : Fun K "waits" "Post.waits" s_Post_waits ad.f_Post_waits ad.fd_Post_waits
  b_Post_waits : Binds K ad.fd_Post_waits ["self"] []
  F_Post_got : Fun K "got" "Post.got" s_Post_got ad.f_Post_got ad.fd_Post_got
  b_Post_got : Binds K ad.fd_Post_got ["self"] []
  F_Count_is_quiet : Fun K "is_quiet" "Count.is_quiet" s_Count_is_quiet ad.f_Count_is_quiet ad.fd_Count_is_quiet
  b_Count_is_quiet : Binds K ad.fd_Count_is_quiet ["self"] []
  F_Free_says : Fun K "says" "Free.says" s_Free_says ad.f_Free_says ad.fd_Free_says
  b_Free_says : Binds K ad.fd_Free_says ["self"] []
  F_Post_says : Fun K "says" "Post.says" s_Post_says ad.f_Post_says ad.fd_Post_says
  b_Post_says : Binds K ad.fd_Post_says ["self"] []
  F_Post_is_quiet : Fun K "is_quiet" "Post.is_quiet" s_Post_is_quiet ad.f_Post_is_quiet ad.fd_Post_is_quiet
  b_Post_is_quiet : Binds K ad.fd_Post_is_quiet ["self"] []
  F_Count_is_off : Fun K "is_off" "Count.is_off" s_Count_is_off ad.f_Count_is_off ad.fd_Count_is_off
  b_Count_is_off : Binds K ad.fd_Count_is_off ["self"] []
  F_Post_is_off : Fun K "is_off" "Post.is_off" s_Post_is_off ad.f_Post_is_off ad.fd_Post_is_off
  b_Post_is_off : Binds K ad.fd_Post_is_off ["self"] []
  F__law_new : Fun K "_law_new" "_law_new" s__law_new ad.f__law_new ad.fd__law_new
  g__law_new : mg "_law_new" = some (.ref ad.f__law_new)
  b__law_new : Binds K ad.fd__law_new ["post"] []
  F_bits_of : Fun K "bits_of" "bits_of" s_bits_of ad.f_bits_of ad.fd_bits_of
  g_bits_of : mg "bits_of" = some (.ref ad.f_bits_of)
  b_bits_of : Binds K ad.fd_bits_of ["number", "many"] []
  F_divided : Fun K "divided" "divided" s_divided ad.f_divided ad.fd_divided
  g_divided : mg "divided" = some (.ref ad.f_divided)
  b_divided : Binds K ad.fd_divided ["number", "key"] []
  F_number_of : Fun K "number_of" "number_of" s_number_of ad.f_number_of ad.fd_number_of
  g_number_of : mg "number_of" = some (.ref ad.f_number_of)
  b_number_of : Binds K ad.fd_number_of ["bits"] []
  F_rest_of : Fun K "rest_of" "rest_of" s_rest_of ad.f_rest_of ad.fd_rest_of
  g_rest_of : mg "rest_of" = some (.ref ad.f_rest_of)
  b_rest_of : Binds K ad.fd_rest_of ["bits"] []
  F_check_of : Fun K "check_of" "check_of" s_check_of ad.f_check_of ad.fd_check_of
  g_check_of : mg "check_of" = some (.ref ad.f_check_of)
  b_check_of : Binds K ad.fd_check_of ["bits"] []
  F_frame_bits : Fun K "frame_bits" "frame_bits" s_frame_bits ad.f_frame_bits ad.fd_frame_bits
  g_frame_bits : mg "frame_bits" = some (.ref ad.f_frame_bits)
  b_frame_bits : Binds K ad.fd_frame_bits ["name", "data"] []
  F_Post_hand : Fun K "hand" "Post.hand" s_Post_hand ad.f_Post_hand ad.fd_Post_hand
  b_Post_hand : Binds K ad.fd_Post_hand ["self", "name", "data"] []
  F__law_frames_alike : Fun K "_law_frames_alike" "_law_frames_alike" s__law_frames_alike ad.f__law_frames_alike ad.fd__law_frames_alike
  g__law_frames_alike : mg "_law_frames_alike" = some (.ref ad.f__law_frames_alike)
  b__law_frames_alike : Binds K ad.fd__law_frames_alike ["found", "due"] []
  F__law_far : Fun K "_law_far" "_law_far" s__law_far ad.f__law_far ad.fd__law_far
  g__law_far : mg "_law_far" = some (.ref ad.f__law_far)
  b__law_far : Binds K ad.fd__law_far ["script", "k"] []
  F__law_data : Fun K "_law_data" "_law_data" s__law_data ad.f__law_data ad.fd__law_data
  g__law_data : mg "_law_data" = some (.ref ad.f__law_data)
  b__law_data : Binds K ad.fd__law_data ["script", "base"] []
  F__law_no_frame : Fun K "_law_no_frame" "_law_no_frame" s__law_no_frame ad.f__law_no_frame ad.fd__law_no_frame
  g__law_no_frame : mg "_law_no_frame" = some (.ref ad.f__law_no_frame)
  b__law_no_frame : Binds K ad.fd__law_no_frame ["post", "name", "data"] []
  F__law_spoiled : Fun K "_law_spoiled" "_law_spoiled" s__law_spoiled ad.f__law_spoiled ad.fd__law_spoiled
  g__law_spoiled : mg "_law_spoiled" = some (.ref ad.f__law_spoiled)
  b__law_spoiled : Binds K ad.fd__law_spoiled ["script", "post", "base", "frame"] []
  F_law : Fun K "law" "law" s_law ad.f_law ad.fd_law
  g_law : mg "law" = some (.ref ad.f_law)
  b_law : Binds K ad.fd_law ["script"] []
  z_ValueError : mg "ValueError" = none
  z_bool : mg "bool" = none
  z_int : mg "int" = none
  z_isinstance : mg "isinstance" = none
  z_len : mg "len" = none
  z_list : mg "list" = none
  z_range : mg "range" = none
  z_tuple : mg "tuple" = none
  g_KEY : Gv mg "KEY" (.int 64647)
  g_OFF : Gv mg "OFF" (.int 18)
  g_PATIENCE : Gv mg "PATIENCE" (.int 8)
  g_QUIET : Gv mg "QUIET" (.int 12)
  g_VOTES : Gv mg "VOTES" (.ref ad.k_VOTES)
  q_VOTES : ∀ H, SqT K H ad.k_VOTES (([1, 3, 5] : List Int).map V.int)
  g_WIDE : Gv mg "WIDE" (.int 15)
  e_NoBits : ErrC K mg "NoBits" ad.es.NoBits
  e_NoFrame : ErrC K mg "NoFrame" ad.es.NoFrame
  e_NoKey : ErrC K mg "NoKey" ad.es.NoKey
  e_NoPost : ErrC K mg "NoPost" ad.es.NoPost
  n_NoBits : mg "NoBits" = some (.ref ad.es.NoBits)
  n_NoFrame : mg "NoFrame" = some (.ref ad.es.NoFrame)
  n_NoKey : mg "NoKey" = some (.ref ad.es.NoKey)
  n_NoName : mg "NoName" = some (.ref ad.es.NoName)
  n_NoPost : mg "NoPost" = some (.ref ad.es.NoPost)
  n_NoRail : mg "NoRail" = some (.ref ad.es.NoRail)
  n_NoRow : mg "NoRow" = some (.ref ad.es.NoRow)
  n_NoStrip : mg "NoStrip" = some (.ref ad.es.NoStrip)
  n_NoThing : mg "NoThing" = some (.ref ad.es.NoThing)
  n_NoWire : mg "NoWire" = some (.ref ad.es.NoWire)
  n_RailError : mg "RailError" = some (.ref ad.es.RailError)
  C_Count : Cls K ad.c_Count
  C_Keep : Cls K ad.c_Keep
  C_Free : Cls K ad.c_Free
  C_Post : Cls K ad.c_Post
  N_Count_tally : NoAttr K ad.c_Count "tally"
  N_Free_keep : NoAttr K ad.c_Free "keep"
  N_Free_many : NoAttr K ad.c_Free "many"
  N_Keep_choice : NoAttr K ad.c_Keep "choice"
  N_Keep_count : NoAttr K ad.c_Keep "count"
  N_Keep_handed_up : NoAttr K ad.c_Keep "handed_up"
  N_Keep_queue : NoAttr K ad.c_Keep "queue"
  N_Keep_votes : NoAttr K ad.c_Keep "votes"
  N_Post_keep : NoAttr K ad.c_Post "keep"
  N_Post_now : NoAttr K ad.c_Post "now"
  M_Count_is_off : Meth K ad.c_Count "is_off" ad.f_Count_is_off
  M_Count_is_quiet : Meth K ad.c_Count "is_quiet" ad.f_Count_is_quiet
  M_Count_number : Meth K ad.c_Count "number" ad.f_Count_number
  M_Free_called : Meth K ad.c_Free "called" ad.f_Free_called
  M_Free_says : Meth K ad.c_Free "says" ad.f_Free_says
  M_Post_faults : Meth K ad.c_Post "faults" ad.f_Post_faults
  M_Post_got : Meth K ad.c_Post "got" ad.f_Post_got
  M_Post_hand : Meth K ad.c_Post "hand" ad.f_Post_hand
  M_Post_is_off : Meth K ad.c_Post "is_off" ad.f_Post_is_off
  M_Post_is_quiet : Meth K ad.c_Post "is_quiet" ad.f_Post_is_quiet
  M_Post_says : Meth K ad.c_Post "says" ad.f_Post_says
  M_Post_stance : Meth K ad.c_Post "stance" ad.f_Post_stance
  M_Post_waits : Meth K ad.c_Post "waits" ad.f_Post_waits
  K_Count : Mk K ad.c_Count ad.f_Count_init
  k_Count : mg "Count" = some (.ref ad.c_Count)
  K_Free : Mk K ad.c_Free ad.f_Free_init
  k_Free : mg "Free" = some (.ref ad.c_Free)
  K_Keep : Mk K ad.c_Keep ad.f_Keep_init
  k_Keep : mg "Keep" = some (.ref ad.c_Keep)
  K_Post : Mk K ad.c_Post ad.f_Post_init
  k_Post : mg "Post" = some (.ref ad.c_Post)
  EC : EcF K ad.es ks
section
variable {P : Program} {w : World} {K : PySem.W.Frag} {mg : Str → Option Value} {base : Heap}
def m_Count_init : Option (S_Count) :=
  some (S_Count.mk (0 : Int))
def sp_Count_init (K : PySem.W.Frag) (ad : Ad) : Sp := fun vs H Q _ => ∃ (a_2 : Addr) (dx_3 : Addr) (R0 : Hp) (r : S_Count), vs = [.ref a_2] ∧ Own R0 H ((a_2, .ins ad.c_Count dx_3 []) :: (dx_3, .own a_2) :: []) ∧ m_Count_init  = some r ∧ RetX R0 (hsub H ((a_2, .ins ad.c_Count dx_3 []) :: (dx_3, .own a_2) :: [])) (dI (o_Count ad) a_2 r) Q
abbrev N_Count_init : List Str := ["self"]
theorem sc_Count_init : FnScope N_Count_init ["self"] (defScope s_Count_init) := ⟨rfl, rfl, rfl, by decide +kernel, rfl, by decide +kernel, by decide +kernel⟩
theorem ok_Count_init {ad : Ad} (T : Txt K mg ad) : FnOk P w K mg base CX0 1 ad.f_Count_init ad.fd_Count_init ["self"] (sp_Count_init K ad) := by
  refine T.F_Count_init.ok sc_Count_init (fun vs H Q E h => ?_) (fun cdv A outer s H vs Q E hr h => ?_)
  · obtain ⟨_, _, _, _, rfl, _⟩ := h
    rfl
  · obtain ⟨a_2, dx_3, R0, r, rfl, OO, hm, k⟩ := h
    unfold m_Count_init at hm
    obtain ⟨Hb, hHb⟩ : ∃ Hb : Hp, Hb = hsub H ((a_2, .ins ad.c_Count dx_3 []) :: (dx_3, .own a_2) :: []) := ⟨_, rfl⟩
    obtain ⟨H0, hH0⟩ : ∃ H0 : Hp, H0 = Hb := ⟨Hb, rfl⟩
    have O : Own H0 H ((a_2, .ins ad.c_Count dx_3 []) :: (dx_3, .own a_2) :: []) := by rw [hH0, hHb]; exact OO.startX
    have eR : Ex R0 Hb := by rw [hHb]; exact OO.subR
    rw [← hHb] at k
    have eB : Ex Hb H0 := by rw [hH0]; exact Ex.refl _
    have eS : Ex R0 (ovr R0 Hb H0) := by rw [hH0]; exact ovr_start eR
    clear hH0
    refine ⟨_, (pss_one (ps_fld (pv 0) pe_int rfl)), ?_⟩
    try simp only [n1, n2, n3, n4, n5, n6, n7] at O
    -- 80
    refine o_sfld ?_
    refine ⟨_, rfl, ?_⟩
    refine k_sfld (fs' := [("tally", .int (0 : Int))]) (O.mem (hd_)) T.C_Count T.N_Count_tally (by show (0 : Nat) < 1000; decide) rfl putF_nil (fun _ => O.put0) fun H O => ?_
    obtain rfl := Option.some.inj hm
    exact k _ _ H0 _ eB (by exact (Own.pk O [0, 1] (by decide) rfl)) ⟨rfl, ⟨dx_3, rfl⟩⟩
def m_Keep_init (choice_4 : Int × Int) (votes_6 : Int) : Option (S_Keep) :=
  bnd (m_Count_init ) fun count_22 =>
  some (S_Keep.mk (choice_4.1, choice_4.2) votes_6 ([] : List (Int × (List Int))) ([] : List (Int × (List Int))) count_22)
def sp_Keep_init (K : PySem.W.Frag) (ad : Ad) : Sp := fun vs H Q _ => ∃ (a_2 : Addr) (dx_3 : Addr) (choice_4 : Int × Int) (a_5 : Addr) (votes_6 : Int) (R0 : Hp) (r : S_Keep), vs = [.ref a_2, .ref a_5, .int votes_6] ∧ Own R0 H ((a_2, .ins ad.c_Keep dx_3 []) :: (dx_3, .own a_2) :: []) ∧ (rT2 rI rI) (hsub H ((a_2, .ins ad.c_Keep dx_3 []) :: (dx_3, .own a_2) :: [])) (.ref a_5) choice_4 ∧ m_Keep_init choice_4 votes_6 = some r ∧ RetX R0 (hsub H ((a_2, .ins ad.c_Keep dx_3 []) :: (dx_3, .own a_2) :: [])) (dI (o_Keep ad) a_2 r) Q
abbrev N_Keep_init : List Str := ["self", "choice", "votes"]
theorem sc_Keep_init : FnScope N_Keep_init ["self", "choice", "votes"] (defScope s_Keep_init) := ⟨rfl, rfl, rfl, by decide +kernel, rfl, by decide +kernel, by decide +kernel⟩
theorem ok_Keep_init {ad : Ad} (T : Txt K mg ad) : FnOk P w K mg base CX0 3 ad.f_Keep_init ad.fd_Keep_init ["self", "choice", "votes"] (sp_Keep_init K ad) := by
  have G_Count_init := ok_Count_init (P := P) (w := w) (base := base) T
  refine T.F_Keep_init.ok sc_Keep_init (fun vs H Q E h => ?_) (fun cdv A outer s H vs Q E hr h => ?_)
  · obtain ⟨_, _, _, _, _, _, _, rfl, _⟩ := h
    rfl
  · obtain ⟨a_2, dx_3, choice_4, a_5, votes_6, R0, r, rfl, OO, hn_a_5, hm, k⟩ := h
    unfold m_Keep_init at hm
    obtain ⟨Hb, hHb⟩ : ∃ Hb : Hp, Hb = hsub H ((a_2, .ins ad.c_Keep dx_3 []) :: (dx_3, .own a_2) :: []) := ⟨_, rfl⟩
    obtain ⟨H0, hH0⟩ : ∃ H0 : Hp, H0 = Hb := ⟨Hb, rfl⟩
    have O : Own H0 H ((a_2, .ins ad.c_Keep dx_3 []) :: (dx_3, .own a_2) :: []) := by rw [hH0, hHb]; exact OO.startX
    have eR : Ex R0 Hb := by rw [hHb]; exact OO.subR
    rw [← hHb] at k hn_a_5
    have eB : Ex Hb H0 := by rw [hH0]; exact Ex.refl _
    have eS : Ex R0 (ovr R0 Hb H0) := by rw [hH0]; exact ovr_start eR
    rw [← hH0] at hn_a_5
    clear hH0
    refine ⟨_, (pss_cons (ps_fld (pv 0) (pe_tupQ (pe_tup (pa_cons (pe_ix (r := rIxT K) ix_tup (pv 1) pe_int (fun _ _ => rfl)) (pa_cons (pe_ix (r := rIxT K) ix_tup (pv 1) pe_int (fun _ _ => rfl)) pa_nil)))) rfl) (pss_cons (ps_fld (pv 0) (pv 2) rfl) (pss_cons (ps_fld (pv 0) (pe_lstQ (pe_lst pa_nil)) rfl) (pss_cons (ps_fld (pv 0) (pe_lstQ (pe_lst pa_nil)) rfl) (pss_one (ps_fld (pv 0) (pe_make0 T.K_Count G_Count_init (hr.mono (by decide)) (by rfl) T.k_Count T.b_Count_init .nil pass0) rfl)))))), ?_⟩
    try simp only [n1, n2, n3, n4, n5, n6, n7] at O
    -- 108
    refine o_seq ?_
    refine o_sfld ?_
    refine ⟨_, rfl, ?_⟩
    refine o_c ?_
    obtain ⟨w_7, w_8, h9, h10, h11⟩ := rT2_at hn_a_5
    refine k_ixT (xs := [w_7, w_8]) (SqT.of (O.ex _ _ h9)) rfl ?_
    obtain rfl := h10
    refine ⟨_, rfl, ?_⟩
    refine o_c ?_
    obtain ⟨w_12, w_13, h14, h15, h16⟩ := rT2_at hn_a_5
    refine k_ixT (xs := [w_12, w_13]) (SqT.of (O.ex _ _ h14)) rfl ?_
    obtain rfl := h16
    refine x_nil ?_
    refine n_tup O (by show 2 ≤ sizeLine; decide) fun p_17 H O => ?_
    refine ⟨_, rfl, ?_⟩
    refine k_sfld (fs' := [("choice", .ref p_17)]) (O.mem (tl_ (hd_))) T.C_Keep T.N_Keep_choice (by show (0 : Nat) < 1000; decide) rfl putF_nil (fun _ => O.put1) fun H O => ?_
    -- 109
    refine o_seq ?_
    refine o_sfld ?_
    refine ⟨_, rfl, _, rfl, ?_⟩
    refine k_sfld (fs' := [("choice", .ref p_17), ("votes", .int votes_6)]) (O.mem (tl_ (hd_))) T.C_Keep T.N_Keep_votes (by show (1 : Nat) < 1000; decide) rfl (putF_skip (by decide) putF_nil) (fun _ => O.put1) fun H O => ?_
    -- 110
    refine o_seq ?_
    refine o_sfld ?_
    refine x_nil ?_
    refine n_lst (f := V.int) (xs := ([] : List Int)) O rfl (Nat.zero_le _) fun p_18 H O => ?_
    refine ⟨_, rfl, ?_⟩
    refine k_sfld (fs' := [("choice", .ref p_17), ("votes", .int votes_6), ("queue", .ref p_18)]) (O.mem (tl_ (tl_ (hd_)))) T.C_Keep T.N_Keep_queue (by show (2 : Nat) < 1000; decide) rfl (putF_skip (by decide) (putF_skip (by decide) putF_nil)) (fun _ => O.put2) fun H O => ?_
    have ha_p_18 : All2 ((rT2 rI (rL rI)) (ovr R0 Hb H0)) ([] : List V) ([] : List (Int × (List Int))) := .nil
    try simp only [n1, n2, n3, n4, n5, n6, n7] at O
    -- 111
    refine o_seq ?_
    refine o_sfld ?_
    refine x_nil ?_
    refine n_lst (f := V.int) (xs := ([] : List Int)) O rfl (Nat.zero_le _) fun p_19 H O => ?_
    refine ⟨_, rfl, ?_⟩
    refine k_sfld (fs' := [("choice", .ref p_17), ("votes", .int votes_6), ("queue", .ref p_18), ("handed_up", .ref p_19)]) (O.mem (tl_ (tl_ (tl_ (hd_))))) T.C_Keep T.N_Keep_handed_up (by show (3 : Nat) < 1000; decide) rfl (putF_skip (by decide) (putF_skip (by decide) (putF_skip (by decide) putF_nil))) (fun _ => O.put3) fun H O => ?_
    have ha_p_19 : All2 ((rT2 rI (rL rI)) (ovr R0 Hb H0)) ([] : List V) ([] : List (Int × (List Int))) := .nil
    try simp only [n1, n2, n3, n4, n5, n6, n7] at O
    -- 112
    refine o_sfld ?_
    refine o_make ?_
    refine x_nil ?_
    refine k_make O fun a_20 dx_21 H O => ?_
    obtain ⟨count_22, h23, hm⟩ := bndE hm
    have Oc : Own H0 H (hAppend ((a_20, .ins ad.c_Count dx_21 []) :: (dx_21, .own a_20) :: []) [(p_19, .lst ([] : List V)), (p_18, .lst ([] : List V)), (p_17, .tup [V.int choice_4.1, V.int choice_4.2]), (a_2, .ins ad.c_Keep dx_3 [("choice", .ref p_17), ("votes", .int votes_6), ("queue", .ref p_18), ("handed_up", .ref p_19)]), (dx_3, .own a_2)]) := (Own.pk O [0, 1, 2, 3, 4, 5, 6] (by decide) rfl)
    refine ⟨a_20, dx_21, ovr R0 Hb H0, count_22, rfl, (Own.shrink Oc.left ovr_ex), h23, ?_⟩
    refine Oc.retXO (mdI (mo_Count ad)) eB fun v_ H H0 L_25 O e_ d_ => ?_
    replace hn_a_5 := (mT2 mI mI) _ _ _ _ e_ hn_a_5
    replace ha_p_18 := mA (mT2 mI (mL mI)) (ovr_mono e_) ha_p_18
    replace ha_p_19 := mA (mT2 mI (mL mI)) (ovr_mono e_) ha_p_19
    replace eB := eB.trans e_
    obtain ⟨rfl, h24⟩ := d_
    refine ⟨rfl, ?_⟩
    obtain ⟨dx_26, rfl⟩ := h24
    try simp only [n1, n2, n3, n4, n5, n6, n7] at O
    refine ⟨_, rfl, ?_⟩
    refine k_sfld (fs' := [("choice", .ref p_17), ("votes", .int votes_6), ("queue", .ref p_18), ("handed_up", .ref p_19), ("count", .ref a_20)]) (O.mem (tl_ (tl_ (tl_ (tl_ (tl_ (hd_))))))) T.C_Keep T.N_Keep_count (by show (4 : Nat) < 1000; decide) rfl (putF_skip (by decide) (putF_skip (by decide) (putF_skip (by decide) (putF_skip (by decide) putF_nil)))) (fun _ => O.put5) fun H O => ?_
    obtain rfl := Option.some.inj hm
    exact k _ _ H0 _ eB (by exact (Own.pk O [5, 6, 4, 3, 2, 0, 1] (by decide) rfl)) ⟨rfl, ⟨dx_3, p_17, p_18, (([] : List V)), p_19, (([] : List V)), a_20, ((a_20, x_Count ad dx_26 count_22.tally) :: (dx_26, .own a_20) :: []), rfl, ha_p_18, ha_p_19, ⟨dx_26, rfl⟩⟩⟩
def m_Free_init (keep_4 : S_Keep) (many_7 : Int) : Option (S_Free) :=
  some (S_Free.mk many_7)
def sp_Free_init (K : PySem.W.Frag) (ad : Ad) : Sp := fun vs H Q _ => ∃ (a_2 : Addr) (dx_3 : Addr) (keep_4 : S_Keep) (a_5 : Addr) (L_6 : List Cell) (many_7 : Int) (R0 : Hp) (r : S_Free), vs = [.ref a_2, .ref a_5, .int many_7] ∧ Own R0 H ((a_2, .ins ad.c_Free dx_3 []) :: (dx_3, .own a_2) :: (hAppend L_6 [])) ∧ (o_Keep ad) R0 a_5 L_6 keep_4 ∧ m_Free_init keep_4 many_7 = some r ∧ RetX R0 (hsub H ((a_2, .ins ad.c_Free dx_3 []) :: (dx_3, .own a_2) :: (hAppend L_6 []))) (dK L_6 (dI (o_Free ad a_5) a_2 r)) Q
abbrev N_Free_init : List Str := ["self", "keep", "many"]
theorem sc_Free_init : FnScope N_Free_init ["self", "keep", "many"] (defScope s_Free_init) := ⟨rfl, rfl, rfl, by decide +kernel, rfl, by decide +kernel, by decide +kernel⟩
theorem ok_Free_init {ad : Ad} (T : Txt K mg ad) : FnOk P w K mg base CX0 1 ad.f_Free_init ad.fd_Free_init ["self", "keep", "many"] (sp_Free_init K ad) := by
  refine T.F_Free_init.ok sc_Free_init (fun vs H Q E h => ?_) (fun cdv A outer s H vs Q E hr h => ?_)
  · obtain ⟨_, _, _, _, _, _, _, _, rfl, _⟩ := h
    rfl
  · obtain ⟨a_2, dx_3, keep_4, a_5, L_6, many_7, R0, r, rfl, OO, hb_a_5, hm, k⟩ := h
    unfold m_Free_init at hm
    obtain ⟨Hb, hHb⟩ : ∃ Hb : Hp, Hb = hsub H ((a_2, .ins ad.c_Free dx_3 []) :: (dx_3, .own a_2) :: (hAppend L_6 [])) := ⟨_, rfl⟩
    obtain ⟨H0, hH0⟩ : ∃ H0 : Hp, H0 = Hb := ⟨Hb, rfl⟩
    have O : Own H0 H ((a_2, .ins ad.c_Free dx_3 []) :: (dx_3, .own a_2) :: (hAppend L_6 [])) := by rw [hH0, hHb]; exact OO.startX
    have eR : Ex R0 Hb := by rw [hHb]; exact OO.subR
    rw [← hHb] at k
    have eB : Ex Hb H0 := by rw [hH0]; exact Ex.refl _
    have eS : Ex R0 (ovr R0 Hb H0) := by rw [hH0]; exact ovr_start eR
    replace hb_a_5 := (mo_Keep ad) _ _ _ _ _ eS hb_a_5
    clear hH0
    refine ⟨_, (pss_cons (ps_fld (pv 0) (pv 1) rfl) (pss_one (ps_fld (pv 0) (pv 2) rfl))), ?_⟩
    obtain ⟨dx_8, p_9, p_10, vs_11, p_12, vs_13, a_14, L_15, rfl, ha_p_10, ha_p_12, h16⟩ := hb_a_5
    replace O := Own.cv (L' := ((a_2, .ins ad.c_Free dx_3 []) :: ((dx_3, .own a_2) :: ((a_5, x_Keep ad dx_8 p_9 keep_4.votes p_10 p_12 a_14) :: ((dx_8, .own a_5) :: ((p_9, .tup [V.int keep_4.choice.1, V.int keep_4.choice.2]) :: ((p_10, .lst vs_11) :: ((p_12, .lst vs_13) :: (hAppend L_15 []))))))))) O (by first | with_reducible rfl | simp only [n1, n2, n3, n4, n5, n6, n7])
    -- 116
    refine o_seq ?_
    refine o_sfld ?_
    refine ⟨_, rfl, _, rfl, ?_⟩
    refine k_sfld (fs' := [("keep", .ref a_5)]) (O.mem (hd_)) T.C_Free T.N_Free_keep (by show (0 : Nat) < 1000; decide) rfl putF_nil (fun _ => O.put0) fun H O => ?_
    -- 117
    refine o_sfld ?_
    refine ⟨_, rfl, _, rfl, ?_⟩
    refine k_sfld (fs' := [("keep", .ref a_5), ("many", .int many_7)]) (O.mem (hd_)) T.C_Free T.N_Free_many (by show (1 : Nat) < 1000; decide) rfl (putF_skip (by decide) putF_nil) (fun _ => O.put0) fun H O => ?_
    obtain rfl := Option.some.inj hm
    exact k _ _ H0 (hAppend ((a_5, x_Keep ad dx_8 p_9 keep_4.votes p_10 p_12 a_14) :: (dx_8, .own a_5) :: ((p_9, .tup [V.int keep_4.choice.1, V.int keep_4.choice.2]) :: ((p_10, .lst vs_11) :: ((p_12, .lst vs_13) :: (hAppend L_15 []))))) ((a_2, x_Free ad dx_3 a_5 many_7) :: (dx_3, .own a_2) :: [])) eB (by exact (Own.pkB O [[_], [_], [_], [_], [_], [_], [_], _] rfl [2, 3, 4, 5, 6, 7, 0, 1] (by decide) (by simp only [g1, g2, g3, g4, n2, n3, n4, n5, n6, n7]))) ⟨_, rfl, ⟨rfl, ⟨dx_3, rfl⟩⟩⟩
def m_is_name (number_1 : Int) : Option (Bool) :=
  some (decide ((0 : Int) ≤ number_1) && decide (number_1 ≤ (255 : Int)))
def sp_is_name (K : PySem.W.Frag) : Sp := fun vs H Q _ => ∃ (number_1 : Int) (r : Bool), vs = [.int number_1] ∧ m_is_name number_1 = some r ∧ RetV (.bl r) H Q
abbrev N_is_name : List Str := ["number"]
theorem sc_is_name : FnScope N_is_name ["number"] (defScope s_is_name) := ⟨rfl, rfl, rfl, by decide +kernel, rfl, by decide +kernel, by decide +kernel⟩
theorem ok_is_name {ad : Ad} (T : Txt K mg ad) : FnOk P w K mg base CX0 1 ad.f_is_name ad.fd_is_name ["number"] (sp_is_name K) := by
  refine T.F_is_name.ok sc_is_name (fun vs H Q E h => ?_) (fun cdv A outer s H vs Q E hr h => ?_)
  · obtain ⟨_, _, rfl, _⟩ := h
    rfl
  · obtain ⟨number_1, r, rfl, hm, k⟩ := h
    unfold m_is_name at hm
    obtain ⟨H0, hH0⟩ : ∃ H0 : Hp, H0 = H := ⟨H, rfl⟩
    have O : Own H0 H [] := by rw [hH0]; exact Own.start H
    rw [← hH0] at k
    clear hH0
    refine ⟨_, (pss_one (ps_ret (pe_chain op_le op_le pe_int (pv 0) pe_int))), ?_⟩
    -- 63
    refine o_ret ?_
    refine x_chain (x := .int (0 : Int)) (y := .int number_1) (z := .int (255 : Int)) (c := decide ((0 : Int) ≤ number_1)) (e := decide (number_1 ≤ (255 : Int))) (d := (decide ((0 : Int) ≤ number_1) && decide (number_1 ≤ (255 : Int)))) O (fun Q1 k1 => ?_) (fun H O Q1 k1 => ?_) (fun _ _ k1 => ⟨_, _, rfl, rfl, k1⟩) (fun h2 => ⟨by rw [h2]; rfl, fun H O Q1 k1 => ?_⟩) (fun _ _ k1 => ⟨_, _, rfl, rfl, k1⟩) (fun h2 => by rw [h2]; rfl) (fun H O => ?_)
    · refine o_c ?_
      exact k1 _ O
    · refine ⟨_, rfl, ?_⟩
      exact k1 _ O
    · refine o_c ?_
      exact k1 _ O
    obtain rfl := Option.some.inj hm
    exact RetV.go k O
def m_Post_init (choice_4 : Int × Int) (votes_6 : Int) : Option (Rs S_Post) :=
  bnd (ifB (!decide (votes_6 ∈ ([(1 : Int), (3 : Int), (5 : Int)] : List Int))) (some true) (bnd (m_is_name choice_4.1) fun is_nam_16 =>
  bnd (ifB (!is_nam_16) (some true) (bnd (m_is_name choice_4.2) fun is_nam_23 => some (!is_nam_23))) fun c_25 => some c_25)) fun c_27 =>
  ifB c_27 (
    some (.er .NoPost)) (
    bnd (m_Keep_init choice_4 votes_6) fun keep_32 =>
    bnd (m_Free_init keep_32 (0 : Int)) fun free_47 =>
    some (.ok (S_Post.mk keep_32 free_47)))
def sp_Post_init (K : PySem.W.Frag) (ad : Ad) (d : Eds) : Sp := fun vs H Q E => ∃ (a_2 : Addr) (dx_3 : Addr) (choice_4 : Int × Int) (a_5 : Addr) (votes_6 : Int) (R0 : Hp) (r : Rs S_Post), vs = [.ref a_2, .ref a_5, .int votes_6] ∧ Own R0 H ((a_2, .ins ad.c_Post dx_3 []) :: (dx_3, .own a_2) :: []) ∧ (rT2 rI rI) (hsub H ((a_2, .ins ad.c_Post dx_3 []) :: (dx_3, .own a_2) :: [])) (.ref a_5) choice_4 ∧ m_Post_init choice_4 votes_6 = some r ∧ RetR (fun r => RetX R0 (hsub H ((a_2, .ins ad.c_Post dx_3 []) :: (dx_3, .own a_2) :: [])) (dI (o_Post ad) a_2 r) Q) d r H E
abbrev N_Post_init : List Str := ["self", "choice", "votes"]
theorem sc_Post_init : FnScope N_Post_init ["self", "choice", "votes"] (defScope s_Post_init) := ⟨rfl, rfl, rfl, by decide +kernel, rfl, by decide +kernel, by decide +kernel⟩
theorem ok_Post_init {ad : Ad} (T : Txt K mg ad) : FnOk P w K mg base (L2N.CX P w) 5 ad.f_Post_init ad.fd_Post_init ["self", "choice", "votes"] (sp_Post_init K ad ad.es) := by
  have G_Free_init := ok_Free_init (P := P) (w := w) (base := base) T
  have G_Keep_init := ok_Keep_init (P := P) (w := w) (base := base) T
  have G_is_name := ok_is_name (P := P) (w := w) (base := base) T
  refine okN T.F_Post_init sc_Post_init (fun vs H Q E h => ?_) (fun cdv A outer s H vs Q E hr h => ?_)
  · obtain ⟨_, _, _, _, _, _, _, rfl, _⟩ := h
    rfl
  · obtain ⟨a_2, dx_3, choice_4, a_5, votes_6, R0, r, rfl, OO, hn_a_5, hm, k⟩ := h
    unfold m_Post_init at hm
    obtain ⟨Hb, hHb⟩ : ∃ Hb : Hp, Hb = hsub H ((a_2, .ins ad.c_Post dx_3 []) :: (dx_3, .own a_2) :: []) := ⟨_, rfl⟩
    obtain ⟨H0, hH0⟩ : ∃ H0 : Hp, H0 = Hb := ⟨Hb, rfl⟩
    have O : Own H0 H ((a_2, .ins ad.c_Post dx_3 []) :: (dx_3, .own a_2) :: []) := by rw [hH0, hHb]; exact OO.startX
    have eR : Ex R0 Hb := by rw [hHb]; exact OO.subR
    rw [← hHb] at k hn_a_5
    have eB : Ex Hb H0 := by rw [hH0]; exact Ex.refl _
    have eS : Ex R0 (ovr R0 Hb H0) := by rw [hH0]; exact ovr_start eR
    rw [← hH0] at hn_a_5
    clear hH0
    refine ⟨_, (pss_cons (ps_if (PW.pt (pw_or (pt_cmpR (r := rIn K true) op_notIn_seq (pv 2) (pe_gv rfl T.g_VOTES) (by rfl)) (pw_or (pt_not (pt_val (pe_call G_is_name (hr.mono (by decide)) (by rfl) T.g_is_name T.F_is_name.kp T.b_is_name .nil pass0 (pa_cons (pe_ix (r := rIxT K) ix_tup (pv 1) pe_int (fun _ _ => rfl)) pa_nil)))) (pw_or1 (pt_not (pt_val (pe_call G_is_name (hr.mono (by decide)) (by rfl) T.g_is_name T.F_is_name.kp T.b_is_name .nil pass0 (pa_cons (pe_ix (r := rIxT K) ix_tup (pv 1) pe_int (fun _ _ => rfl)) pa_nil)))))))) (pss_one (ps_errN T.e_NoPost (L2N.takes_of rfl rfl rfl rfl) rfl rfl)) pss_nil) (pss_cons (ps_fld (pv 0) (pe_make T.K_Keep G_Keep_init (hr.mono (by decide)) (by rfl) T.k_Keep T.b_Keep_init .nil pass0 (pa_cons (pv 1) (pa_cons (pv 2) pa_nil))) rfl) (pss_one (ps_fld (pv 0) (pe_make T.K_Free G_Free_init (hr.mono (by decide)) (by rfl) T.k_Free T.b_Free_init .nil pass0 (pa_cons (pe_fld (pv 0) rfl) (pa_cons pe_int pa_nil))) rfl)))), ?_⟩
    try simp only [n1, n2, n3, n4, n5, n6, n7] at O
    -- 158
    refine o_seq ?_
    refine o_ifs ?_
    obtain ⟨c_27, h28, hm⟩ := bndE hm
    refine x_orJ (c := (!decide (votes_6 ∈ ([(1 : Int), (3 : Int), (5 : Int)] : List Int)))) (e := c_27) (d := c_27) (fun H => ∃ (R_ : Hp), Ex H0 R_ ∧ Own R_ H [(a_2, .ins ad.c_Post dx_3 []), (dx_3, .own a_2)]) (fun Q1 k1 => ?_) (fun h7 => ⟨rfl, fun H hJ Q2 k2 => ?_⟩) (fun h7 => Option.some.inj (ifT h28 h7)) (fun H hJ => ?_)
    · have eJ8 : Ex H0 H0 := Ex.refl _
      refine ⟨_, rfl, ?_⟩
      refine o_c ?_
      refine k_niT (ns := [(1 : Int), (3 : Int), (5 : Int)]) (T.q_VOTES _) ?_
      refine ⟨_, rfl, ?_⟩
      exact k1 _ ⟨H0, eJ8, O⟩
    · replace hm := ifF h28 h7
      obtain ⟨is_nam_16, h17, hm⟩ := bndE hm
      obtain ⟨c_25, h26, hm⟩ := bndE hm
      obtain rfl := Option.some.inj hm
      obtain ⟨H0, eJ8, O⟩ := hJ
      replace hn_a_5 := (mT2 mI mI) _ _ _ _ eJ8 hn_a_5
      replace eB := eB.trans eJ8
      refine x_orJ (c := (!is_nam_16)) (e := c_25) (d := c_25) (fun H => ∃ (R_ : Hp), Ex H0 R_ ∧ Own R_ H [(a_2, .ins ad.c_Post dx_3 []), (dx_3, .own a_2)]) (fun Q1 k1 => ?_) (fun h9 => ⟨rfl, fun H hJ Q2 k2 => ?_⟩) (fun h9 => Option.some.inj (ifT h26 h9)) (fun H hJ => ?_)
      · have eJ10 : Ex H0 H0 := Ex.refl _
        refine ⟨_, rfl, ?_⟩
        refine o_c ?_
        obtain ⟨w_11, w_12, h13, h14, h15⟩ := rT2_at hn_a_5
        refine k_ixT (xs := [w_11, w_12]) (SqT.of (O.ex _ _ h13)) rfl ?_
        obtain rfl := h14
        refine x_nil ?_
        refine ⟨_, is_nam_16, rfl, h17, ?_⟩
        refine O.retV fun H O => ?_
        refine ⟨_, rfl, ?_⟩
        exact k1 _ ⟨H0, eJ10, O⟩
      · replace hm := ifF h26 h9
        obtain ⟨is_nam_23, h24, hm⟩ := bndE hm
        obtain rfl := Option.some.inj hm
        obtain ⟨H0, eJ10, O⟩ := hJ
        replace hn_a_5 := (mT2 mI mI) _ _ _ _ eJ10 hn_a_5
        replace eB := eB.trans eJ10
        replace eJ8 := eJ8.trans eJ10
        refine ⟨_, rfl, ?_⟩
        refine o_c ?_
        obtain ⟨w_18, w_19, h20, h21, h22⟩ := rT2_at hn_a_5
        refine k_ixT (xs := [w_18, w_19]) (SqT.of (O.ex _ _ h20)) rfl ?_
        obtain rfl := h22
        refine x_nil ?_
        refine ⟨_, is_nam_23, rfl, h24, ?_⟩
        refine O.retV fun H O => ?_
        refine ⟨_, rfl, ?_⟩
        exact k2 _ ⟨H0, eJ10, O⟩
      obtain ⟨H0, eJ10, O⟩ := hJ
      replace hn_a_5 := (mT2 mI mI) _ _ _ _ eJ10 hn_a_5
      replace eB := eB.trans eJ10
      replace eJ8 := eJ8.trans eJ10
      exact k2 _ ⟨H0, eJ8, O⟩
    obtain ⟨H0, eJ8, O⟩ := hJ
    replace hn_a_5 := (mT2 mI mI) _ _ _ _ eJ8 hn_a_5
    replace eB := eB.trans eJ8
    refine iteS (c := c_27) (fun h29 => ?_) (fun h29 => ?_)
    · replace hm := ifT hm h29
      -- 159
      obtain rfl := Option.some.inj hm
      exact k _ (Own.whole OO hHb eB (show Own _ _ (hAppend ((a_2, .ins ad.c_Post dx_3 []) :: (dx_3, .own a_2) :: []) []) from (Own.pk O [0, 1] (by decide) rfl)))
    · replace hm := ifF hm h29
      refine o_next ?_
      -- 160
      refine o_seq ?_
      refine o_sfld ?_
      refine ⟨_, rfl, _, rfl, ?_⟩
      refine x_nil ?_
      refine k_make O fun a_30 dx_31 H O => ?_
      obtain ⟨keep_32, h33, hm⟩ := bndE hm
      have Oc : Own H0 H (hAppend ((a_30, .ins ad.c_Keep dx_31 []) :: (dx_31, .own a_30) :: []) [(a_2, .ins ad.c_Post dx_3 []), (dx_3, .own a_2)]) := (Own.pk O [0, 1, 2, 3] (by decide) rfl)
      refine ⟨a_30, dx_31, choice_4, _, votes_6, ovr R0 Hb H0, keep_32, rfl, (Own.shrink Oc.left ovr_ex), ((mT2 mI mI) _ _ _ _ Oc.left.subR hn_a_5), h33, ?_⟩
      refine Oc.retXO (mdI (mo_Keep ad)) eB fun v_ H H0 L_35 O e_ d_ => ?_
      replace hn_a_5 := (mT2 mI mI) _ _ _ _ e_ hn_a_5
      replace eB := eB.trans e_
      obtain ⟨rfl, h34⟩ := d_
      refine ⟨rfl, ?_⟩
      obtain ⟨dx_36, p_37, p_38, vs_39, p_40, vs_41, a_42, L_43, rfl, ha_p_38, ha_p_40, h44⟩ := h34
      replace O := Own.cv (L' := ((a_30, x_Keep ad dx_36 p_37 keep_32.votes p_38 p_40 a_42) :: ((dx_36, .own a_30) :: ((p_37, .tup [V.int keep_32.choice.1, V.int keep_32.choice.2]) :: ((p_38, .lst vs_39) :: ((p_40, .lst vs_41) :: (hAppend L_43 ((a_2, .ins ad.c_Post dx_3 []) :: ((dx_3, .own a_2) :: []))))))))) O (by first | with_reducible rfl | simp only [n1, n2, n3, n4, n5, n6, n7])
      replace O := (Own.pkB (L' := ((a_30, x_Keep ad dx_36 p_37 keep_32.votes p_38 p_40 a_42) :: ((dx_36, .own a_30) :: ((p_37, .tup [V.int keep_32.choice.1, V.int keep_32.choice.2]) :: ((p_38, .lst vs_39) :: ((p_40, .lst vs_41) :: ((a_2, .ins ad.c_Post dx_3 []) :: ((dx_3, .own a_2) :: (hAppend L_43 []))))))))) O [[_], [_], [_], [_], [_], _, [_], [_]] rfl [0, 1, 2, 3, 4, 6, 7, 5] (by decide) rfl)
      refine ⟨_, rfl, ?_⟩
      refine k_sfld (fs' := [("keep", .ref a_30)]) (O.mem (tl_ (tl_ (tl_ (tl_ (tl_ (hd_))))))) T.C_Post T.N_Post_keep (by show (0 : Nat) < 1000; decide) rfl putF_nil (fun _ => O.put5) fun H O => ?_
      -- 161
      refine o_sfld ?_
      refine ⟨_, rfl, a_2, _, _, _, _, rfl, (O.mem (tl_ (tl_ (tl_ (tl_ (tl_ (hd_))))))), T.C_Post, T.N_Post_keep, lk_hit, ?_⟩
      refine o_cons ?_
      refine o_c ?_
      refine x_nil ?_
      refine k_make O fun a_45 dx_46 H O => ?_
      obtain ⟨free_47, h48, hm⟩ := bndE hm
      have Oc : Own H0 H (hAppend ((a_45, .ins ad.c_Free dx_46 []) :: (dx_46, .own a_45) :: (hAppend ((a_30, x_Keep ad dx_36 p_37 keep_32.votes p_38 p_40 a_42) :: (dx_36, .own a_30) :: ((p_37, .tup [V.int keep_32.choice.1, V.int keep_32.choice.2]) :: ((p_38, .lst vs_39) :: ((p_40, .lst vs_41) :: (hAppend L_43 []))))) [])) [(a_2, .ins ad.c_Post dx_3 [("keep", .ref a_30)]), (dx_3, .own a_2)]) := (Own.pkB O [[_], [_], [_], [_], [_], [_], [_], [_], [_], _] rfl [0, 1, 2, 3, 4, 5, 6, 9, 7, 8] (by decide) (by simp only [g1, g2, g3, g4, n2, n3, n4, n5, n6, n7]))
      refine ⟨a_45, dx_46, keep_32, a_30, _, (0 : Int), ovr R0 Hb H0, free_47, rfl, (Own.shrink Oc.left ovr_ex), ⟨dx_36, p_37, p_38, (vs_39), p_40, (vs_41), a_42, L_43, rfl, ha_p_38, ha_p_40, h44⟩, h48, ?_⟩
      refine Oc.retXO (mdK (mdI (mo_Free ad a_30))) eB fun v_ H H0 L_51 O e_ d_ => ?_
      replace hn_a_5 := (mT2 mI mI) _ _ _ _ e_ hn_a_5
      replace ha_p_38 := mA (mT2 mI (mL mI)) (ovr_mono e_) ha_p_38
      replace ha_p_40 := mA (mT2 mI (mL mI)) (ovr_mono e_) ha_p_40
      replace h44 := (mo_Count ad) _ _ _ _ _ (ovr_mono e_) h44
      replace eB := eB.trans e_
      obtain ⟨L_50, rfl, ⟨rfl, h49⟩⟩ := d_
      refine ⟨rfl, ?_⟩
      obtain ⟨dx_52, rfl⟩ := h49
      replace O := Own.cv (L' := ((a_30, x_Keep ad dx_36 p_37 keep_32.votes p_38 p_40 a_42) :: ((dx_36, .own a_30) :: ((p_37, .tup [V.int keep_32.choice.1, V.int keep_32.choice.2]) :: ((p_38, .lst vs_39) :: ((p_40, .lst vs_41) :: (hAppend L_43 ((a_45, x_Free ad dx_52 a_30 free_47.many) :: ((dx_52, .own a_45) :: ((a_2, .ins ad.c_Post dx_3 [("keep", .ref a_30)]) :: ((dx_3, .own a_2) :: []))))))))))) O (by first | with_reducible rfl | simp only [n1, n2, n3, n4, n5, n6, n7])
      replace O := (Own.pkB (L' := ((a_30, x_Keep ad dx_36 p_37 keep_32.votes p_38 p_40 a_42) :: ((dx_36, .own a_30) :: ((p_37, .tup [V.int keep_32.choice.1, V.int keep_32.choice.2]) :: ((p_38, .lst vs_39) :: ((p_40, .lst vs_41) :: ((a_45, x_Free ad dx_52 a_30 free_47.many) :: ((dx_52, .own a_45) :: ((a_2, .ins ad.c_Post dx_3 [("keep", .ref a_30)]) :: ((dx_3, .own a_2) :: (hAppend L_43 []))))))))))) O [[_], [_], [_], [_], [_], _, [_], [_], [_], [_]] rfl [0, 1, 2, 3, 4, 6, 7, 8, 9, 5] (by decide) rfl)
      refine ⟨_, rfl, ?_⟩
      refine k_sfld (fs' := [("keep", .ref a_30), ("now", .ref a_45)]) (O.mem (tl_ (tl_ (tl_ (tl_ (tl_ (tl_ (tl_ (hd_))))))))) T.C_Post T.N_Post_now (by show (1 : Nat) < 1000; decide) rfl (putF_skip (by decide) putF_nil) (fun _ => Own.put (A := [(a_30, x_Keep ad dx_36 p_37 keep_32.votes p_38 p_40 a_42), (dx_36, .own a_30), (p_37, .tup [V.int keep_32.choice.1, V.int keep_32.choice.2]), (p_38, .lst vs_39), (p_40, .lst vs_41), (a_45, x_Free ad dx_52 a_30 free_47.many), (dx_52, .own a_45)]) O) fun H O => ?_
      obtain rfl := Option.some.inj hm
      exact k _ _ H0 ((a_2, x_Post ad dx_3 a_30 a_45) :: (dx_3, .own a_2) :: (hAppend ((a_30, x_Keep ad dx_36 p_37 keep_32.votes p_38 p_40 a_42) :: (dx_36, .own a_30) :: ((p_37, .tup [V.int keep_32.choice.1, V.int keep_32.choice.2]) :: ((p_38, .lst vs_39) :: ((p_40, .lst vs_41) :: (hAppend L_43 []))))) (hAppend ((a_45, x_Free ad dx_52 a_30 free_47.many) :: (dx_52, .own a_45) :: []) []))) eB (by exact (Own.pkB O [[_], [_], [_], [_], [_], [_], [_], [_], [_], _] rfl [7, 8, 0, 1, 2, 3, 4, 9, 5, 6] (by decide) (by simp only [g1, g2, g3, g4, n2, n3, n4, n5, n6, n7]))) ⟨rfl, ⟨dx_3, a_30, ((a_30, x_Keep ad dx_36 p_37 keep_32.votes p_38 p_40 a_42) :: (dx_36, .own a_30) :: ((p_37, .tup [V.int keep_32.choice.1, V.int keep_32.choice.2]) :: ((p_38, .lst vs_39) :: ((p_40, .lst vs_41) :: (hAppend L_43 []))))), a_45, ((a_45, x_Free ad dx_52 a_30 free_47.many) :: (dx_52, .own a_45) :: []), rfl, ⟨dx_36, p_37, p_38, (vs_39), p_40, (vs_41), a_42, L_43, rfl, ha_p_38, ha_p_40, h44⟩, ⟨dx_52, rfl⟩⟩⟩
def m__law_draw (script_1 : List Int) (k_3 : Int) (many_4 : Int) : Option (Int) :=
  bnd (ifB (decide ((0 : Int) < (List.length script_1 : Int))) (bnd (modG k_3 (List.length script_1 : Int)) fun t_5 =>
  bnd (atI script_1 t_5) fun e_7 => some e_7) ( some (0 : Int))) fun z_10 =>
  bnd (mulG ((31 : Int) * k_3) k_3) fun t_12 =>
  ltv ((((z_10 % (1000003 : Int)) + t_12) + (1 : Int))) fun seed_14 =>
  bnd (modG ((((seed_14 * (48271 : Int)) % (999983 : Int)) * (7919 : Int)) % (524287 : Int)) many_4) fun t_16 =>
  some t_16
def sp__law_draw (K : PySem.W.Frag) : Sp := fun vs H Q _ => ∃ (script_1 : List Int) (a_2 : Addr) (k_3 : Int) (many_4 : Int) (r : Int), vs = [.ref a_2, .int k_3, .int many_4] ∧ SqL K H a_2 (List.map V.int script_1) ∧ m__law_draw script_1 k_3 many_4 = some r ∧ RetV (.int r) H Q
abbrev N__law_draw : List Str := ["script", "k", "many", "cell", "seed"]
theorem sc__law_draw : FnScope N__law_draw ["script", "k", "many"] (defScope s__law_draw) := ⟨rfl, rfl, rfl, by decide +kernel, rfl, by decide +kernel, by decide +kernel⟩
theorem ok__law_draw {ad : Ad} (T : Txt K mg ad) : FnOk P w K mg base CX0 1 ad.f__law_draw ad.fd__law_draw ["script", "k", "many"] (sp__law_draw K) := by
  refine T.F__law_draw.ok sc__law_draw (fun vs H Q E h => ?_) (fun cdv A outer s H vs Q E hr h => ?_)
  · obtain ⟨_, _, _, _, _, rfl, _⟩ := h
    rfl
  · obtain ⟨script_1, a_2, k_3, many_4, r, rfl, hp_a_2, hm, k⟩ := h
    unfold m__law_draw at hm
    obtain ⟨H0, hH0⟩ : ∃ H0 : Hp, H0 = H := ⟨H, rfl⟩
    have O : Own H0 H [] := by rw [hH0]; exact Own.start H
    rw [← hH0] at k hp_a_2
    clear hH0
    refine ⟨_, (pss_cons (ps_set (i := 3) sc__law_draw.nd rfl (Or.inl rfl) (pe_ifExp (pt_cmpR op_gt (pe_callB (r := rLenQ K) call_lenQ (by rfl) T.z_len PySem.boot_len (pa_cons (pv 0) pa_nil)) pe_int (nomark _)) (pe_ix (r := rIxL K) ix_list (pv 0) (pe_op op_mod (pv 1) (pe_callB (r := rLenQ K) call_lenQ (by rfl) T.z_len PySem.boot_len (pa_cons (pv 0) pa_nil))) (fun _ _ => rfl)) pe_int)) (pss_cons (ps_set (i := 4) sc__law_draw.nd rfl (Or.inl rfl) (pe_op op_add (pe_op op_add (pe_op op_mod (pv 3) pe_int) (pe_op op_mulW (pe_op op_mul pe_int (pv 1)) (pv 1))) pe_int)) (pss_one (ps_ret (pe_op op_mod (pe_op op_mod (pe_op op_mul (pe_op op_mod (pe_op op_mul (pv 4) pe_int) pe_int) pe_int) pe_int) (pv 2)))))), ?_⟩
    -- 192
    refine o_seq ?_
    refine o_asg ?_
    obtain ⟨z_10, h11, hm⟩ := bndE hm
    refine x_if (c := decide ((0 : Int) < (List.length script_1 : Int))) (x := .int z_10) (y := .int z_10) (v := .int z_10) O (fun Q1 k1 => ?_) (fun h9 => ⟨rfl, fun H O Q2 k2 => ?_⟩) (fun h9 => ⟨rfl, fun H O Q2 k2 => ?_⟩) (fun H O => ?_)
    · refine ⟨_, rfl, ?_⟩
      refine x_nil ?_
      refine n_len (O.ex.l hp_a_2) ?_
      refine ⟨_, _, rfl, rfl, _, rfl, ?_⟩
      exact k1 _ O
    · replace hm := ifT h11 h9
      obtain ⟨t_5, h6, hm⟩ := bndE hm
      obtain ⟨e_7, h8, hm⟩ := bndE hm
      obtain rfl := Option.some.inj hm
      refine ⟨_, rfl, _, rfl, _, rfl, ?_⟩
      refine x_nil ?_
      refine n_len (O.ex.l hp_a_2) ?_
      refine k_mod h6 ?_
      refine k_ixL (f := V.int) (O.ex.l hp_a_2) h8 ?_
      exact k2 _ O
    · replace hm := ifF h11 h9
      obtain rfl := Option.some.inj hm
      refine o_c ?_
      exact k2 _ O
    -- 193
    refine o_seq ?_
    refine o_asg ?_
    obtain ⟨t_12, h13, hm⟩ := bndE hm
    refine ⟨_, rfl, _, _, rfl, rfl, (by show (0 : Int) < 1000003; decide), _, rfl, _, _, rfl, rfl, .inl ⟨by decide, by decide⟩, _, rfl, ?_⟩
    refine k_mul h13 ?_
    refine ⟨_, _, rfl, rfl, _, _, rfl, rfl, ?_⟩
    obtain ⟨seed_14, h15, hm⟩ := ltvE hm
    refine a_set (congrArg V.int h15) ?_
    -- 194
    refine o_ret ?_
    obtain ⟨t_16, h17, hm⟩ := bndE hm
    refine ⟨_, rfl, _, _, rfl, rfl, .inr ⟨by decide, by decide⟩, _, _, rfl, rfl, (by show (0 : Int) < 999983; decide), _, _, rfl, rfl, .inr ⟨by decide, by decide⟩, _, _, rfl, rfl, (by show (0 : Int) < 524287; decide), _, rfl, ?_⟩
    refine k_mod h17 ?_
    obtain rfl := Option.some.inj hm
    exact RetV.go k O
def m__law_is_other (k : Ek) : Bool := inKs k [.NoBits, .NoKey, .NoName, .NoRail, .NoRow, .NoStrip, .NoThing, .NoWire]
abbrev N__law_is_other : List Str := ["e"]
theorem sc__law_is_other : FnScope N__law_is_other ["e"] (defScope s__law_is_other) := ⟨rfl, rfl, rfl, by decide +kernel, rfl, by decide +kernel, by decide +kernel⟩
theorem ok__law_is_other {ad : Ad} (T : Txt K mg ad) (ex : Er) (hk : ex.k ∈ ks) : FnE P w K mg base 1 ad.f__law_is_other ad.fd__law_is_other "e" (ad.es.at ex.k) ex (m__law_is_other ex.k) := by
  refine fnE_of T.F__law_is_other sc__law_is_other fun cdv A outer s H p Q hu hz hd hf hq => ?_
  refine ⟨_, (pss_one (ps_ret (pe_callB (r := rIsXt K (ad.es.at ex.k) p.1 ex p.2.dict) (call_isPt (hd_) (T.EC.ec _ hk) hz rfl hf) (by rfl) T.z_isinstance (by decide +kernel) (pa_cons (pv 0) (pa_cons (pe_tupQ (pe_tup (pa_cons (pe_gr rfl T.n_NoBits) (pa_cons (pe_gr rfl T.n_NoKey) (pa_cons (pe_gr rfl T.n_NoName) (pa_cons (pe_gr rfl T.n_NoRail) (pa_cons (pe_gr rfl T.n_NoRow) (pa_cons (pe_gr rfl T.n_NoStrip) (pa_cons (pe_gr rfl T.n_NoThing) (pa_cons (pe_gr rfl T.n_NoWire) pa_nil)))))))))) pa_nil))))), ?_⟩
  obtain ⟨H0, hH0⟩ : ∃ H0 : Hp, H0 = H := ⟨H, rfl⟩
  have O : Own H0 H [] := by rw [hH0]; exact Own.start H
  rw [← hH0] at hd hq
  clear hH0
  refine o_ret ?_
  refine o_cb ?_
  refine o_cons ?_
  refine ⟨_, rfl, ?_⟩
  refine o_cons ?_
  refine o_cons ?_
  refine o_c ?_
  refine o_cons ?_
  refine o_c ?_
  refine o_cons ?_
  refine o_c ?_
  refine o_cons ?_
  refine o_c ?_
  refine o_cons ?_
  refine o_c ?_
  refine o_cons ?_
  refine o_c ?_
  refine o_cons ?_
  refine o_c ?_
  refine o_cons ?_
  refine o_c ?_
  refine x_nil ?_
  refine n_tup O (by show 8 ≤ sizeLine; decide) fun p1 H O => ?_
  refine x_nil ?_
  refine ⟨_, _, ([.NoBits, .NoKey, .NoName, .NoRail, .NoRow, .NoStrip, .NoThing, .NoWire] : List Ek).map (fun c => .ref (ad.es.at c)), _, rfl, O.mem (hd_), (.cons (.own _) (.cons (.own _) (.cons (.own _) (.cons (.own _) (.cons (.own _) (.cons (.own _) (.cons (.own _) (.cons (.own _) .nil)))))))), hd.ext O.ex, kit_any T.EC hk [.NoBits, .NoKey, .NoName, .NoRail, .NoRow, .NoStrip, .NoThing, .NoWire] (by decide), ?_⟩
  exact RetV.go hq O
def m__law_no_post (choice_1 : Int × Int) (votes_3 : Int) : Option (Bool) :=
  bnd (m_Post_init choice_1 votes_3) fun x_8 =>
  tryR x_8 (fun post_6 =>
    some false) (fun e_ =>
    ifB (okE ks e_) (
      ltv (((decide (e_.k = .NoPost)) && true)) fun good_12 =>
      some (good_12 && ((!(decide (e_.k = .NoFrame))) && (!(m__law_is_other e_.k))))) none)
def sp__law_no_post (K : PySem.W.Frag) : Sp := fun vs H Q _ => ∃ (choice_1 : Int × Int) (a_2 : Addr) (votes_3 : Int) (r : Bool), vs = [.ref a_2, .int votes_3] ∧ (rT2 rI rI) H (.ref a_2) choice_1 ∧ m__law_no_post choice_1 votes_3 = some r ∧ RetV (.bl r) H Q
abbrev N__law_no_post : List Str := ["choice", "votes", "good", "e"]
theorem sc__law_no_post : FnScope N__law_no_post ["choice", "votes"] (defScope s__law_no_post) := ⟨rfl, rfl, rfl, by decide +kernel, rfl, by decide +kernel, by decide +kernel⟩
theorem ok__law_no_post {ad : Ad} (T : Txt K mg ad) : FnOk P w K mg base CX0 7 ad.f__law_no_post ad.fd__law_no_post ["choice", "votes"] (sp__law_no_post K) := by
  have G_Post_init := ok_Post_init (P := P) (w := w) (base := base) T
  have G__law_is_other := ok__law_is_other (P := P) (w := w) (base := base) T
  refine T.F__law_no_post.ok sc__law_no_post (fun vs H Q E h => ?_) (fun cdv A outer s H vs Q E hr h => ?_)
  · obtain ⟨_, _, _, _, rfl, _⟩ := h
    rfl
  · obtain ⟨choice_1, a_2, votes_3, r, rfl, hn_a_2, hm, k⟩ := h
    unfold m__law_no_post at hm
    obtain ⟨Hb, hHb⟩ : ∃ Hb : Hp, Hb = H := ⟨H, rfl⟩
    obtain ⟨H0, hH0⟩ : ∃ H0 : Hp, H0 = Hb := ⟨Hb, rfl⟩
    have O : Own H0 H [] := by rw [hH0, hHb]; exact Own.start H
    rw [← hHb] at k hn_a_2
    rw [← hH0] at hn_a_2
    have eB : Ex Hb H0 := by rw [hH0]; exact Ex.refl _
    clear hH0 hHb
    refine ⟨_, (pss_cons (ps_set (i := 2) sc__law_no_post.nd rfl (Or.inl rfl) pe_bl) (pss_cons (L2N.ps_try_as (i := 3) (tb := fun W => _) rfl rfl sc__law_no_post.nd rfl rfl ⟨rfl, by decide, .inl T.n_RailError⟩ takesN0 (fun W pn xe tk _ => (pss_one (ps_expr (pe_makeE T.K_Post G_Post_init (hr.mono (by decide)) (by rfl) T.k_Post T.b_Post_init .nil (fun σ => L2N.passAt tk σ) (pa_cons (pv 0) (pa_cons (pv 1) pa_nil)))))) (fun a oe cls d pn hz hf => pss_exc (es := ad.es) (ks := ks) fun ex hk hc => (pss_cons (ps_set (i := 2) sc__law_no_post.nd rfl (Or.inl rfl) (pe_and (pe_callB (r := rIsX K (ad.es.at ex.k) a ex d) (call_isP (p := (a, oe)) (hd_) (T.EC.ec _ hk) (hz.1.trans hc) hz.2.1 hf) (by rfl) T.z_isinstance (by decide +kernel) (pa_cons (pv 3) (pa_cons (pe_gr rfl T.n_NoPost) pa_nil))) (pe_one (pe_callB (r := rIsX K (ad.es.at ex.k) a ex d) (call_isP (p := (a, oe)) (hd_) (T.EC.ec _ hk) (hz.1.trans hc) hz.2.1 hf) (by rfl) T.z_isinstance (by decide +kernel) (pa_cons (pv 3) (pa_cons (pe_bltn (v := V.ty "ValueError") (u := .type "ValueError") (by rfl) T.z_ValueError (by decide +kernel) rfl) pa_nil)))))) (pss_one (ps_set (i := 2) sc__law_no_post.nd rfl (Or.inl rfl) (pe_and (pv 2) (pe_and (pe_not (pe_callB (r := rIsX K (ad.es.at ex.k) a ex d) (call_isP (p := (a, oe)) (hd_) (T.EC.ec _ hk) (hz.1.trans hc) hz.2.1 hf) (by rfl) T.z_isinstance (by decide +kernel) (pa_cons (pv 3) (pa_cons (pe_gr rfl T.n_NoFrame) pa_nil)))) (pe_one (pe_not (pe_callEs (ok__law_is_other (P := P) (w := w) (base := base) T ex hk) hz hf hc (hr.mono (by decide)) (by rfl) T.g__law_is_other T.F__law_is_other.kp T.b__law_is_other (pa_cons (pv 3) pa_nil))))))))))) (pss_one (ps_ret (pv 2))))), ?_⟩
    -- 201
    refine o_seq ?_
    refine o_asg ?_
    refine o_c ?_
    -- 202
    refine o_seq ?_
    refine o_drop ?_
    refine ⟨_, rfl, _, rfl, ?_⟩
    refine x_nil ?_
    refine k_make O fun a_4 dx_5 H O => ?_
    obtain ⟨x_8, h7, hm⟩ := bndE hm
    have Oc : Own H0 H (hAppend ((a_4, .ins ad.c_Post dx_5 []) :: (dx_5, .own a_4) :: []) []) := (Own.pk O [0, 1] (by decide) rfl)
    refine ⟨a_4, dx_5, choice_1, _, votes_3, H0, x_8, rfl, Oc.left, ((mT2 mI mI) _ _ _ _ Oc.left.subR hn_a_2), h7, ?_⟩
    refine RetR.split (fun e_ h9 => ?_) ?_
    · subst h9
      replace hm := tryEr hm
      obtain ⟨hq_, hm⟩ := ifN hm
      obtain ⟨hp_, hk_⟩ := okE_iff hq_
      refine RetE.byP hp_ fun H1 hE => ?_
      replace O := O.ext hE
      refine ⟨true, T.EC.xr _ hk_, fun _ a_ ha_ => ?_, fun q => nomatch q⟩
      refine ⟨e_, hk_, rfl, ?_⟩
      replace O := O.tl.tl
      -- 205
      refine o_seq ?_
      refine o_asg ?_
      refine x_andVJ (c := (decide (e_.k = .NoPost))) (e := true) (d := ((decide (e_.k = .NoPost)) && true)) (fun H => ∃ (R_ : Hp), Ex H0 R_ ∧ Own R_ H []) (fun Q1 k1 => ?_) (fun h10 => ⟨by rw [h10]; rfl, fun H hJ Q2 k2 => ?_⟩) (fun h10 => by rw [h10]; rfl) (fun H hJ => ?_)
      · have eJ11 : Ex H0 H0 := Ex.refl _
        refine ⟨_, rfl, ?_⟩
        refine o_cons ?_
        refine o_c ?_
        refine x_nil ?_
        refine ⟨_, _, _, rfl, .own _, (XFl.of hp_), T.EC.kt _ hk_ .NoPost (by decide), ?_⟩
        exact k1 _ ⟨H0, eJ11, O⟩
      · obtain ⟨H0, eJ11, O⟩ := hJ
        replace hn_a_2 := (mT2 mI mI) _ _ _ _ eJ11 hn_a_2
        replace eB := eB.trans eJ11
        refine ⟨_, rfl, ?_⟩
        refine o_cons ?_
        refine o_c ?_
        refine x_nil ?_
        refine ⟨_, _, _, rfl, .ty _, (XFl.of hp_), T.EC.kv _ hk_, ?_⟩
        exact k2 _ ⟨H0, eJ11, O⟩
      obtain ⟨H0, eJ11, O⟩ := hJ
      replace hn_a_2 := (mT2 mI mI) _ _ _ _ eJ11 hn_a_2
      replace eB := eB.trans eJ11
      obtain ⟨good_12, h13, hm⟩ := ltvE hm
      refine a_set (congrArg V.bl h13) ?_
      -- 206
      refine o_asg ?_
      refine x_andVJ (c := good_12) (e := ((!(decide (e_.k = .NoFrame))) && (!(m__law_is_other e_.k)))) (d := (good_12 && ((!(decide (e_.k = .NoFrame))) && (!(m__law_is_other e_.k))))) (fun H => ∃ (R_ : Hp), Ex H0 R_ ∧ Own R_ H []) (fun Q1 k1 => ?_) (fun h14 => ⟨by rw [h14]; rfl, fun H hJ Q2 k2 => ?_⟩) (fun h14 => by rw [h14]; rfl) (fun H hJ => ?_)
      · have eJ15 : Ex H0 H0 := Ex.refl _
        refine ⟨_, rfl, ?_⟩
        exact k1 _ ⟨H0, eJ15, O⟩
      · obtain ⟨H0, eJ15, O⟩ := hJ
        replace hn_a_2 := (mT2 mI mI) _ _ _ _ eJ15 hn_a_2
        replace eB := eB.trans eJ15
        refine x_andVJ (c := (!(decide (e_.k = .NoFrame)))) (e := (!(m__law_is_other e_.k))) (d := ((!(decide (e_.k = .NoFrame))) && (!(m__law_is_other e_.k)))) (fun H => ∃ (R_ : Hp), Ex H0 R_ ∧ Own R_ H []) (fun Q1 k1 => ?_) (fun h16 => ⟨by rw [h16]; rfl, fun H hJ Q2 k2 => ?_⟩) (fun h16 => by rw [h16]; rfl) (fun H hJ => ?_)
        · have eJ17 : Ex H0 H0 := Ex.refl _
          refine ⟨_, rfl, ?_⟩
          refine o_cons ?_
          refine o_c ?_
          refine x_nil ?_
          refine ⟨_, _, _, rfl, .own _, (XFl.of hp_), T.EC.kt _ hk_ .NoFrame (by decide), ?_⟩
          refine ⟨_, rfl, ?_⟩
          exact k1 _ ⟨H0, eJ17, O⟩
        · obtain ⟨H0, eJ17, O⟩ := hJ
          replace hn_a_2 := (mT2 mI mI) _ _ _ _ eJ17 hn_a_2
          replace eB := eB.trans eJ17
          replace eJ15 := eJ15.trans eJ17
          refine ⟨_, rfl, ?_⟩
          refine x_nil ?_
          refine ⟨rfl, (XFl.of hp_), ?_⟩
          refine O.retV fun H O => ?_
          refine ⟨_, rfl, ?_⟩
          exact k2 _ ⟨H0, eJ17, O⟩
        obtain ⟨H0, eJ17, O⟩ := hJ
        replace hn_a_2 := (mT2 mI mI) _ _ _ _ eJ17 hn_a_2
        replace eB := eB.trans eJ17
        replace eJ15 := eJ15.trans eJ17
        exact k2 _ ⟨H0, eJ15, O⟩
      obtain ⟨H0, eJ15, O⟩ := hJ
      replace hn_a_2 := (mT2 mI mI) _ _ _ _ eJ15 hn_a_2
      replace eB := eB.trans eJ15
      refine o_dn ?_
      -- 207
      refine o_ret ?_
      refine ⟨_, rfl, ?_⟩
      obtain rfl := Option.some.inj hm
      exact RetV.goR k O eB
    rintro post_6 h9
    subst h9
    replace hm := tryOk hm
    refine Oc.retX (mdI (mo_Post ad)) fun v_ H H0 L_19 O e_ d_ => ?_
    replace hn_a_2 := (mT2 mI mI) _ _ _ _ e_ hn_a_2
    replace eB := eB.trans e_
    obtain ⟨rfl, h18⟩ := d_
    refine ⟨rfl, ?_⟩
    obtain ⟨dx_20, a_21, L_22, a_24, L_25, rfl, h23, h26⟩ := h18
    replace O := Own.cv (L' := ((a_4, x_Post ad dx_20 a_21 a_24) :: ((dx_20, .own a_4) :: (hAppend L_22 (hAppend L_25 []))))) O (by first | with_reducible rfl | simp only [n1, n2, n3, n4, n5, n6, n7])
    -- 207
    refine o_ret ?_
    refine ⟨_, rfl, ?_⟩
    obtain rfl := Option.some.inj hm
    exact RetV.goR k O eB
def m_Count_number (self_1 : S_Count) : Option (Int) :=
  some self_1.tally
def sp_Count_number (K : PySem.W.Frag) (ad : Ad) : Sp := fun vs H Q _ => ∃ (self_1 : S_Count) (a_2 : Addr) (L_3 : List Cell) (R0 : Hp) (r : Int), vs = [.ref a_2] ∧ Own R0 H (hAppend L_3 []) ∧ (o_Count ad) R0 a_2 L_3 self_1 ∧ m_Count_number self_1 = some r ∧ RetX R0 (hsub H (hAppend L_3 [])) (dK L_3 (dV (.int r))) Q
abbrev N_Count_number : List Str := ["self"]
theorem sc_Count_number : FnScope N_Count_number ["self"] (defScope s_Count_number) := ⟨rfl, rfl, rfl, by decide +kernel, rfl, by decide +kernel, by decide +kernel⟩
theorem ok_Count_number {ad : Ad} (T : Txt K mg ad) : FnOk P w K mg base CX0 1 ad.f_Count_number ad.fd_Count_number ["self"] (sp_Count_number K ad) := by
  refine T.F_Count_number.ok sc_Count_number (fun vs H Q E h => ?_) (fun cdv A outer s H vs Q E hr h => ?_)
  · obtain ⟨_, _, _, _, _, rfl, _⟩ := h
    rfl
  · obtain ⟨self_1, a_2, L_3, R0, r, rfl, OO, hb_a_2, hm, k⟩ := h
    unfold m_Count_number at hm
    obtain ⟨Hb, hHb⟩ : ∃ Hb : Hp, Hb = hsub H (hAppend L_3 []) := ⟨_, rfl⟩
    obtain ⟨H0, hH0⟩ : ∃ H0 : Hp, H0 = Hb := ⟨Hb, rfl⟩
    have O : Own H0 H (hAppend L_3 []) := by rw [hH0, hHb]; exact OO.startX
    have eR : Ex R0 Hb := by rw [hHb]; exact OO.subR
    rw [← hHb] at k
    have eB : Ex Hb H0 := by rw [hH0]; exact Ex.refl _
    have eS : Ex R0 (ovr R0 Hb H0) := by rw [hH0]; exact ovr_start eR
    replace hb_a_2 := (mo_Count ad) _ _ _ _ _ eS hb_a_2
    clear hH0
    refine ⟨_, (pss_one (ps_ret (pe_fld (pv 0) rfl))), ?_⟩
    obtain ⟨dx_4, rfl⟩ := hb_a_2
    try simp only [n1, n2, n3, n4, n5, n6, n7] at O
    -- 96
    refine o_ret ?_
    refine ⟨_, rfl, a_2, _, _, _, _, rfl, (O.mem (hd_)), T.C_Count, T.N_Count_tally, lk_hit, ?_⟩
    obtain rfl := Option.some.inj hm
    exact k _ _ H0 _ eB (by exact (Own.pk O [0, 1] (by decide) rfl)) ⟨_, rfl, ⟨rfl, rfl⟩⟩
def m_Post_faults (self_1 : S_Post) : Option (Int) :=
  bnd (m_Count_number self_1.keep.count) fun number_21 =>
  some number_21
def sp_Post_faults (K : PySem.W.Frag) (ad : Ad) : Sp := fun vs H Q _ => ∃ (self_1 : S_Post) (a_2 : Addr) (L_3 : List Cell) (R0 : Hp) (r : Int), vs = [.ref a_2] ∧ Own R0 H (hAppend L_3 []) ∧ (o_Post ad) R0 a_2 L_3 self_1 ∧ m_Post_faults self_1 = some r ∧ RetX R0 (hsub H (hAppend L_3 [])) (dK L_3 (dV (.int r))) Q
abbrev N_Post_faults : List Str := ["self"]
theorem sc_Post_faults : FnScope N_Post_faults ["self"] (defScope s_Post_faults) := ⟨rfl, rfl, rfl, by decide +kernel, rfl, by decide +kernel, by decide +kernel⟩
theorem ok_Post_faults {ad : Ad} (T : Txt K mg ad) : FnOk P w K mg base CX0 2 ad.f_Post_faults ad.fd_Post_faults ["self"] (sp_Post_faults K ad) := by
  have G_Count_number := ok_Count_number (P := P) (w := w) (base := base) T
  refine T.F_Post_faults.ok sc_Post_faults (fun vs H Q E h => ?_) (fun cdv A outer s H vs Q E hr h => ?_)
  · obtain ⟨_, _, _, _, _, rfl, _⟩ := h
    rfl
  · obtain ⟨self_1, a_2, L_3, R0, r, rfl, OO, hb_a_2, hm, k⟩ := h
    unfold m_Post_faults at hm
    obtain ⟨Hb, hHb⟩ : ∃ Hb : Hp, Hb = hsub H (hAppend L_3 []) := ⟨_, rfl⟩
    obtain ⟨H0, hH0⟩ : ∃ H0 : Hp, H0 = Hb := ⟨Hb, rfl⟩
    have O : Own H0 H (hAppend L_3 []) := by rw [hH0, hHb]; exact OO.startX
    have eR : Ex R0 Hb := by rw [hHb]; exact OO.subR
    rw [← hHb] at k
    have eB : Ex Hb H0 := by rw [hH0]; exact Ex.refl _
    have eS : Ex R0 (ovr R0 Hb H0) := by rw [hH0]; exact ovr_start eR
    replace hb_a_2 := (mo_Post ad) _ _ _ _ _ eS hb_a_2
    clear hH0
    refine ⟨_, (pss_one (ps_ret (pe_meth0 (pe_fld (pe_fld (pv 0) rfl) rfl) T.C_Count T.M_Count_number G_Count_number (hr.mono (by decide)) T.b_Count_number .nil pass0))), ?_⟩
    obtain ⟨dx_4, a_5, L_6, a_8, L_9, rfl, h7, h10⟩ := hb_a_2
    replace O := Own.cv (L' := ((a_2, x_Post ad dx_4 a_5 a_8) :: ((dx_4, .own a_2) :: (hAppend L_6 (hAppend L_9 []))))) O (by first | with_reducible rfl | simp only [n1, n2, n3, n4, n5, n6, n7])
    -- 183
    refine o_ret ?_
    refine ⟨_, rfl, ?_⟩
    obtain ⟨dx_11, p_12, p_13, vs_14, p_15, vs_16, a_17, L_18, rfl, ha_p_13, ha_p_15, h19⟩ := h7
    replace O := Own.cv (L' := ((a_2, x_Post ad dx_4 a_5 a_8) :: ((dx_4, .own a_2) :: ((a_5, x_Keep ad dx_11 p_12 self_1.keep.votes p_13 p_15 a_17) :: ((dx_11, .own a_5) :: ((p_12, .tup [V.int self_1.keep.choice.1, V.int self_1.keep.choice.2]) :: ((p_13, .lst vs_14) :: ((p_15, .lst vs_16) :: (hAppend L_18 (hAppend L_9 [])))))))))) O (by first | with_reducible rfl | simp only [n1, n2, n3, n4, n5, n6, n7])
    refine ⟨a_2, _, _, _, _, rfl, (O.mem (hd_)), T.C_Post, T.N_Post_keep, lk_hit, ?_⟩
    obtain ⟨dx_20, rfl⟩ := h19
    replace O := Own.cv (L' := ((a_2, x_Post ad dx_4 a_5 a_8) :: ((dx_4, .own a_2) :: ((a_5, x_Keep ad dx_11 p_12 self_1.keep.votes p_13 p_15 a_17) :: ((dx_11, .own a_5) :: ((p_12, .tup [V.int self_1.keep.choice.1, V.int self_1.keep.choice.2]) :: ((p_13, .lst vs_14) :: ((p_15, .lst vs_16) :: ((a_17, x_Count ad dx_20 self_1.keep.count.tally) :: ((dx_20, .own a_17) :: (hAppend L_9 []))))))))))) O (by first | with_reducible rfl | simp only [n1, n2, n3, n4, n5, n6, n7])
    refine ⟨a_5, _, _, _, _, rfl, (O.mem (tl_ (tl_ (hd_)))), T.C_Keep, T.N_Keep_count, (lk_skip (by decide) (lk_skip (by decide) (lk_skip (by decide) (lk_skip (by decide) lk_hit)))), a_17, _, _, rfl, (O.mem (tl_ (tl_ (tl_ (tl_ (tl_ (tl_ (tl_ (hd_))))))))), (lk_skip (by decide) lk_nil), ?_⟩
    refine x_nil ?_
    obtain ⟨number_21, h22, hm⟩ := bndE hm
    have Oc : Own H0 H (hAppend (hAppend ((a_17, x_Count ad dx_20 self_1.keep.count.tally) :: (dx_20, .own a_17) :: []) []) ((a_2, x_Post ad dx_4 a_5 a_8) :: ((dx_4, .own a_2) :: ((a_5, x_Keep ad dx_11 p_12 self_1.keep.votes p_13 p_15 a_17) :: ((dx_11, .own a_5) :: ((p_12, .tup [V.int self_1.keep.choice.1, V.int self_1.keep.choice.2]) :: ((p_13, .lst vs_14) :: ((p_15, .lst vs_16) :: (hAppend L_9 []))))))))) := (Own.pkB O [[_], [_], [_], [_], [_], [_], [_], [_], [_], _] rfl [7, 8, 0, 1, 2, 3, 4, 5, 6, 9] (by decide) (by simp only [g1, g2, g3, g4, n2, n3, n4, n5, n6, n7]))
    refine ⟨self_1.keep.count, a_17, _, ovr R0 Hb H0, number_21, rfl, (Own.shrink Oc.left ovr_ex), ⟨dx_20, rfl⟩, h22, ?_⟩
    refine Oc.retXO (mdK mdV) eB fun w_23 H H0 L_24 O e_ d_ => ?_
    replace h10 := (mo_Free ad a_5) _ _ _ _ _ (ovr_mono e_) h10
    replace ha_p_13 := mA (mT2 mI (mL mI)) (ovr_mono e_) ha_p_13
    replace ha_p_15 := mA (mT2 mI (mL mI)) (ovr_mono e_) ha_p_15
    replace eB := eB.trans e_
    obtain ⟨L_25, rfl, ⟨rfl, rfl⟩⟩ := d_
    replace O := Own.cv (L' := ((a_17, x_Count ad dx_20 self_1.keep.count.tally) :: ((dx_20, .own a_17) :: ((a_2, x_Post ad dx_4 a_5 a_8) :: ((dx_4, .own a_2) :: ((a_5, x_Keep ad dx_11 p_12 self_1.keep.votes p_13 p_15 a_17) :: ((dx_11, .own a_5) :: ((p_12, .tup [V.int self_1.keep.choice.1, V.int self_1.keep.choice.2]) :: ((p_13, .lst vs_14) :: ((p_15, .lst vs_16) :: (hAppend L_9 []))))))))))) O (by first | with_reducible rfl | simp only [n1, n2, n3, n4, n5, n6, n7])
    obtain rfl := Option.some.inj hm
    exact k _ _ H0 (hAppend ((a_2, x_Post ad dx_4 a_5 a_8) :: (dx_4, .own a_2) :: (hAppend ((a_5, x_Keep ad dx_11 p_12 self_1.keep.votes p_13 p_15 a_17) :: (dx_11, .own a_5) :: ((p_12, .tup [V.int self_1.keep.choice.1, V.int self_1.keep.choice.2]) :: ((p_13, .lst vs_14) :: ((p_15, .lst vs_16) :: (hAppend ((a_17, x_Count ad dx_20 self_1.keep.count.tally) :: (dx_20, .own a_17) :: []) []))))) (hAppend L_9 []))) []) eB (by exact (Own.pkB O [[_], [_], [_], [_], [_], [_], [_], [_], [_], _] rfl [2, 3, 4, 5, 6, 7, 8, 0, 1, 9] (by decide) (by simp only [g1, g2, g3, g4, n2, n3, n4, n5, n6, n7]))) ⟨_, rfl, ⟨rfl, rfl⟩⟩
def m_Free_called (self_1 : S_Free) (keep_4 : S_Keep) : Option (Str) :=
  some ("free" : Str)
def sp_Free_called (K : PySem.W.Frag) (ad : Ad) : Sp := fun vs H Q _ => ∃ (self_1 : S_Free) (a_2 : Addr) (L_3 : List Cell) (keep_4 : S_Keep) (a_5 : Addr) (L_6 : List Cell) (R0 : Hp) (r : Str), vs = [.ref a_2] ∧ Own R0 H (hAppend L_3 (hAppend L_6 [])) ∧ (o_Free ad a_5) R0 a_2 L_3 self_1 ∧ (o_Keep ad) R0 a_5 L_6 keep_4 ∧ m_Free_called self_1 keep_4 = some r ∧ RetX R0 (hsub H (hAppend L_3 (hAppend L_6 []))) (dK L_3 (dK L_6 (dV (.str r)))) Q
abbrev N_Free_called : List Str := ["self"]
theorem sc_Free_called : FnScope N_Free_called ["self"] (defScope s_Free_called) := ⟨rfl, rfl, rfl, by decide +kernel, rfl, by decide +kernel, by decide +kernel⟩
theorem ok_Free_called {ad : Ad} (T : Txt K mg ad) : FnOk P w K mg base CX0 1 ad.f_Free_called ad.fd_Free_called ["self"] (sp_Free_called K ad) := by
  refine T.F_Free_called.ok sc_Free_called (fun vs H Q E h => ?_) (fun cdv A outer s H vs Q E hr h => ?_)
  · obtain ⟨_, _, _, _, _, _, _, _, rfl, _⟩ := h
    rfl
  · obtain ⟨self_1, a_2, L_3, keep_4, a_5, L_6, R0, r, rfl, OO, hb_a_2, hb_a_5, hm, k⟩ := h
    unfold m_Free_called at hm
    obtain ⟨Hb, hHb⟩ : ∃ Hb : Hp, Hb = hsub H (hAppend L_3 (hAppend L_6 [])) := ⟨_, rfl⟩
    obtain ⟨H0, hH0⟩ : ∃ H0 : Hp, H0 = Hb := ⟨Hb, rfl⟩
    have O : Own H0 H (hAppend L_3 (hAppend L_6 [])) := by rw [hH0, hHb]; exact OO.startX
    have eR : Ex R0 Hb := by rw [hHb]; exact OO.subR
    rw [← hHb] at k
    have eB : Ex Hb H0 := by rw [hH0]; exact Ex.refl _
    have eS : Ex R0 (ovr R0 Hb H0) := by rw [hH0]; exact ovr_start eR
    replace hb_a_2 := (mo_Free ad a_5) _ _ _ _ _ eS hb_a_2
    replace hb_a_5 := (mo_Keep ad) _ _ _ _ _ eS hb_a_5
    clear hH0
    refine ⟨_, (pss_one (ps_ret pe_str)), ?_⟩
    obtain ⟨dx_7, rfl⟩ := hb_a_2
    replace O := Own.cv (L' := ((a_2, x_Free ad dx_7 a_5 self_1.many) :: ((dx_7, .own a_2) :: (hAppend L_6 [])))) O (by first | with_reducible rfl | simp only [n1, n2, n3, n4, n5, n6, n7])
    -- 120
    refine o_ret ?_
    refine o_c ?_
    obtain rfl := Option.some.inj hm
    exact k _ _ H0 (hAppend ((a_2, x_Free ad dx_7 a_5 self_1.many) :: (dx_7, .own a_2) :: []) (hAppend L_6 [])) eB (by exact (Own.pkB O [[_], [_], _] rfl [0, 1, 2] (by decide) (by simp only [g1, g2, g3, g4, n2, n3, n4, n5, n6, n7]))) ⟨_, rfl, ⟨_, rfl, ⟨rfl, rfl⟩⟩⟩
def m_Post_stance (self_1 : S_Post) : Option (Str × Int) :=
  bnd (m_Free_called self_1.now self_1.keep) fun called_12 =>
  some (called_12, self_1.now.many)
def sp_Post_stance (K : PySem.W.Frag) (ad : Ad) : Sp := fun vs H Q _ => ∃ (self_1 : S_Post) (a_2 : Addr) (L_3 : List Cell) (R0 : Hp) (r : Str × Int), vs = [.ref a_2] ∧ Own R0 H (hAppend L_3 []) ∧ (o_Post ad) R0 a_2 L_3 self_1 ∧ m_Post_stance self_1 = some r ∧ RetX R0 (hsub H (hAppend L_3 [])) (dK L_3 (dTp [V.str r.1, V.int r.2])) Q
abbrev N_Post_stance : List Str := ["self"]
theorem sc_Post_stance : FnScope N_Post_stance ["self"] (defScope s_Post_stance) := ⟨rfl, rfl, rfl, by decide +kernel, rfl, by decide +kernel, by decide +kernel⟩
theorem ok_Post_stance {ad : Ad} (T : Txt K mg ad) : FnOk P w K mg base CX0 2 ad.f_Post_stance ad.fd_Post_stance ["self"] (sp_Post_stance K ad) := by
  have G_Free_called := ok_Free_called (P := P) (w := w) (base := base) T
  refine T.F_Post_stance.ok sc_Post_stance (fun vs H Q E h => ?_) (fun cdv A outer s H vs Q E hr h => ?_)
  · obtain ⟨_, _, _, _, _, rfl, _⟩ := h
    rfl
  · obtain ⟨self_1, a_2, L_3, R0, r, rfl, OO, hb_a_2, hm, k⟩ := h
    unfold m_Post_stance at hm
    obtain ⟨Hb, hHb⟩ : ∃ Hb : Hp, Hb = hsub H (hAppend L_3 []) := ⟨_, rfl⟩
    obtain ⟨H0, hH0⟩ : ∃ H0 : Hp, H0 = Hb := ⟨Hb, rfl⟩
    have O : Own H0 H (hAppend L_3 []) := by rw [hH0, hHb]; exact OO.startX
    have eR : Ex R0 Hb := by rw [hHb]; exact OO.subR
    rw [← hHb] at k
    have eB : Ex Hb H0 := by rw [hH0]; exact Ex.refl _
    have eS : Ex R0 (ovr R0 Hb H0) := by rw [hH0]; exact ovr_start eR
    replace hb_a_2 := (mo_Post ad) _ _ _ _ _ eS hb_a_2
    clear hH0
    refine ⟨_, (pss_one (ps_ret (pe_tupQ (pe_tup (pa_cons (pe_meth0 (pe_fld (pv 0) rfl) T.C_Free T.M_Free_called G_Free_called (hr.mono (by decide)) T.b_Free_called .nil pass0) (pa_cons (pe_fld (pe_fld (pv 0) rfl) rfl) pa_nil)))))), ?_⟩
    obtain ⟨dx_4, a_5, L_6, a_8, L_9, rfl, h7, h10⟩ := hb_a_2
    replace O := Own.cv (L' := ((a_2, x_Post ad dx_4 a_5 a_8) :: ((dx_4, .own a_2) :: (hAppend L_6 (hAppend L_9 []))))) O (by first | with_reducible rfl | simp only [n1, n2, n3, n4, n5, n6, n7])
    -- 174
    refine o_ret ?_
    refine ⟨_, rfl, ?_⟩
    obtain ⟨dx_11, rfl⟩ := h10
    replace O := Own.cv (L' := ((a_2, x_Post ad dx_4 a_5 a_8) :: ((dx_4, .own a_2) :: (hAppend L_6 ((a_8, x_Free ad dx_11 a_5 self_1.now.many) :: ((dx_11, .own a_8) :: [])))))) O (by first | with_reducible rfl | simp only [n1, n2, n3, n4, n5, n6, n7])
    replace O := (Own.pkB (L' := ((a_2, x_Post ad dx_4 a_5 a_8) :: ((dx_4, .own a_2) :: ((a_8, x_Free ad dx_11 a_5 self_1.now.many) :: ((dx_11, .own a_8) :: (hAppend L_6 [])))))) O [[_], [_], _, [_], [_]] rfl [0, 1, 3, 4, 2] (by decide) rfl)
    refine ⟨a_2, _, _, _, _, rfl, (O.mem (hd_)), T.C_Post, T.N_Post_now, (lk_skip (by decide) lk_hit), a_8, _, _, rfl, (O.mem (tl_ (tl_ (hd_)))), (lk_skip (by decide) (lk_skip (by decide) lk_nil)), ?_⟩
    refine x_nil ?_
    obtain ⟨called_12, h13, hm⟩ := bndE hm
    have Oc : Own H0 H (hAppend (hAppend ((a_8, x_Free ad dx_11 a_5 self_1.now.many) :: (dx_11, .own a_8) :: []) (hAppend L_6 [])) [(a_2, x_Post ad dx_4 a_5 a_8), (dx_4, .own a_2)]) := (Own.pkB O [[_], [_], [_], [_], _] rfl [2, 3, 4, 0, 1] (by decide) (by simp only [g1, g2, g3, g4, n2, n3, n4, n5, n6, n7]))
    refine ⟨self_1.now, a_8, _, self_1.keep, a_5, _, ovr R0 Hb H0, called_12, rfl, (Own.shrink Oc.left ovr_ex), ⟨dx_11, rfl⟩, h7, h13, ?_⟩
    refine Oc.retXO (mdK (mdK mdV)) eB fun w_14 H H0 L_15 O e_ d_ => ?_
    replace h7 := (mo_Keep ad) _ _ _ _ _ (ovr_mono e_) h7
    replace eB := eB.trans e_
    obtain ⟨_, rfl, ⟨L_16, rfl, ⟨rfl, rfl⟩⟩⟩ := d_
    replace O := Own.cv (L' := ((a_8, x_Free ad dx_11 a_5 self_1.now.many) :: ((dx_11, .own a_8) :: (hAppend L_6 ((a_2, x_Post ad dx_4 a_5 a_8) :: ((dx_4, .own a_2) :: [])))))) O (by first | with_reducible rfl | simp only [n1, n2, n3, n4, n5, n6, n7])
    replace O := (Own.pkB (L' := ((a_8, x_Free ad dx_11 a_5 self_1.now.many) :: ((dx_11, .own a_8) :: ((a_2, x_Post ad dx_4 a_5 a_8) :: ((dx_4, .own a_2) :: (hAppend L_6 [])))))) O [[_], [_], _, [_], [_]] rfl [0, 1, 3, 4, 2] (by decide) rfl)
    refine ⟨_, rfl, a_2, _, _, _, _, rfl, (O.mem (tl_ (tl_ (hd_)))), T.C_Post, T.N_Post_now, (lk_skip (by decide) lk_hit), a_8, _, _, _, _, rfl, (O.mem (hd_)), T.C_Free, T.N_Free_many, (lk_skip (by decide) lk_hit), ?_⟩
    refine x_nil ?_
    refine n_tup O (by show 2 ≤ sizeLine; decide) fun p_17 H O => ?_
    obtain rfl := Option.some.inj hm
    exact k _ _ H0 (hAppend ((a_2, x_Post ad dx_4 a_5 a_8) :: (dx_4, .own a_2) :: (hAppend L_6 (hAppend ((a_8, x_Free ad dx_11 a_5 self_1.now.many) :: (dx_11, .own a_8) :: []) []))) [(p_17, .tup [V.str called_12, V.int self_1.now.many])]) eB (by exact (Own.pkB O [[_], [_], [_], [_], [_], _] rfl [3, 4, 5, 1, 2, 0] (by decide) (by simp only [g1, g2, g3, g4, n2, n3, n4, n5, n6, n7]))) ⟨_, rfl, ⟨_, rfl, rfl⟩⟩
def m_Post_waits_C0  (one_20 : Int × (List Int)) : Option (Int × (List Int)) :=
  
  some (one_20.1, one_20.2)
def m_Post_waits (self_1 : S_Post) : Option (List (Int × (List Int))) :=
  bnd (compM (m_Post_waits_C0) self_1.keep.queue []) fun l_21 =>
  some l_21
def sp_Post_waits (K : PySem.W.Frag) (ad : Ad) : Sp := fun vs H Q _ => ∃ (self_1 : S_Post) (a_2 : Addr) (L_3 : List Cell) (R1 R0 : Hp) (r : List (Int × (List Int))), vs = [.ref a_2] ∧ Own R1 H (hAppend L_3 []) ∧ Ex R0 R1 ∧ (o_Post ad) R1 a_2 L_3 self_1 ∧ m_Post_waits self_1 = some r ∧ RetX R0 (hsub H (hAppend L_3 [])) (dK L_3 (dP (rL (rT2 rI (rL rI))) r)) Q
abbrev N_Post_waits : List Str := ["self", "one"]
theorem sc_Post_waits : FnScope N_Post_waits ["self"] (defScope s_Post_waits) := ⟨rfl, rfl, rfl, by decide +kernel, rfl, by decide +kernel, by decide +kernel⟩
theorem ok_Post_waits {ad : Ad} (T : Txt K mg ad) : FnOk P w K mg base CX0 1 ad.f_Post_waits ad.fd_Post_waits ["self"] (sp_Post_waits K ad) := by
  refine T.F_Post_waits.ok sc_Post_waits (fun vs H Q E h => ?_) (fun cdv A outer s H vs Q E hr h => ?_)
  · obtain ⟨_, _, _, _, _, _, rfl, _⟩ := h
    rfl
  · obtain ⟨self_1, a_2, L_3, R1, R0, r, rfl, OO, e01, hb_a_2, hm, k⟩ := h
    unfold m_Post_waits at hm
    obtain ⟨Hb, hHb⟩ : ∃ Hb : Hp, Hb = hsub H (hAppend L_3 []) := ⟨_, rfl⟩
    obtain ⟨H0, hH0⟩ : ∃ H0 : Hp, H0 = Hb := ⟨Hb, rfl⟩
    have O : Own H0 H (hAppend L_3 []) := by rw [hH0, hHb]; exact OO.startX
    have eR : Ex R0 Hb := by rw [hHb]; exact e01.trans OO.subR
    rw [← hHb] at k
    have eB : Ex Hb H0 := by rw [hH0]; exact Ex.refl _
    have eS : Ex R1 (ovr R1 Hb H0) := by rw [hH0]; exact ovr_start (by rw [hHb]; exact OO.subR)
    replace hb_a_2 := (mo_Post ad) _ _ _ _ _ eS hb_a_2
    clear hH0
    refine ⟨_, (pss_one (ps_ret (pe_lc (own := [("one", 1)]) (g := gName 1) (tt := tYes) rfl sc_Post_waits.nd (pi_list (pe_fld (pe_fld (pv 0) rfl) rfl)) (blkOk_by (own := [("one", 1)]) (N := N_Post_waits) (sc := defScope s_Post_waits) (by decide +kernel)) (fun _ _ _ _ _ => pg_name (i := 1) sc_Post_waits.nd rfl (Or.inl rfl)) (fun _ _ _ _ _ => pts_nil) (fun _ _ _ _ _ => (pe_tup2 (pe_tup (pa_cons (pe_ix (r := rIxT K) ix_tup (pv 1) pe_int (fun _ _ => rfl)) (pa_cons (pe_callTy (r := rListQ K) call_listQ (by rfl) T.z_list (by decide +kernel) (pa_cons (pe_ix (r := rIxT K) ix_tup (pv 1) pe_int (fun _ _ => rfl)) pa_nil)) pa_nil)))))))), ?_⟩
    obtain ⟨dx_4, a_5, L_6, a_8, L_9, rfl, h7, h10⟩ := hb_a_2
    replace O := Own.cv (L' := ((a_2, x_Post ad dx_4 a_5 a_8) :: ((dx_4, .own a_2) :: (hAppend L_6 (hAppend L_9 []))))) O (by first | with_reducible rfl | simp only [n1, n2, n3, n4, n5, n6, n7])
    -- 177
    refine o_ret ?_
    obtain ⟨dx_11, p_12, p_13, vs_14, p_15, vs_16, a_17, L_18, rfl, ha_p_13, ha_p_15, h19⟩ := h7
    replace O := Own.cv (L' := ((a_2, x_Post ad dx_4 a_5 a_8) :: ((dx_4, .own a_2) :: ((a_5, x_Keep ad dx_11 p_12 self_1.keep.votes p_13 p_15 a_17) :: ((dx_11, .own a_5) :: ((p_12, .tup [V.int self_1.keep.choice.1, V.int self_1.keep.choice.2]) :: ((p_13, .lst vs_14) :: ((p_15, .lst vs_16) :: (hAppend L_18 (hAppend L_9 [])))))))))) O (by first | with_reducible rfl | simp only [n1, n2, n3, n4, n5, n6, n7])
    refine ⟨_, rfl, a_2, _, _, _, _, rfl, (O.mem (hd_)), T.C_Post, T.N_Post_keep, lk_hit, a_5, _, _, _, _, rfl, (O.mem (tl_ (tl_ (hd_)))), T.C_Keep, T.N_Keep_queue, (lk_skip (by decide) (lk_skip (by decide) lk_hit)), ?_⟩
    obtain ⟨l_21, h22, hm⟩ := bndE hm
    refine ⟨_, rfl, ⟨_, (SqL.of (O.mem (tl_ (tl_ (tl_ (tl_ (tl_ (hd_))))))))⟩, fun p_23 hD => k_lcA ha_p_13 (fun r H => ∃ (R_ : Hp) (vs_24 : List V) (acc : List (Int × (List Int))), Ex H0 R_ ∧ Own R_ H ((p_23, .lst vs_24) :: ((a_2, x_Post ad dx_4 a_5 a_8) :: ((dx_4, .own a_2) :: ((a_5, x_Keep ad dx_11 p_12 self_1.keep.votes p_13 p_15 a_17) :: ((dx_11, .own a_5) :: ((p_12, .tup [V.int self_1.keep.choice.1, V.int self_1.keep.choice.2]) :: ((p_13, .lst vs_14) :: ((p_15, .lst vs_16) :: (hAppend L_18 (hAppend L_9 [])))))))))) ∧ All2 ((rT2 rI (rL rI)) (ovr R0 Hb R_)) vs_24 acc ∧ compM (m_Post_waits_C0) r acc = some l_21) ⟨H0, ([] : List V), [], Ex.refl _, O.new hD, .nil, h22⟩ (by rintro r H ⟨H0, vs_24, acc, eC23, O, ha_p_23, hC⟩; exact (SqL.of (O.mem (tl_ (tl_ (tl_ (tl_ (tl_ (tl_ (hd_)))))))))) ?_ ?_⟩
    · rintro one_20 w_26 r H h27 ⟨H0, vs_24, acc, eC23, O, ha_p_23, hC⟩
      replace h10 := (mo_Free ad a_5) _ _ _ _ _ (ovr_mono eC23) h10
      replace ha_p_13 := mA (mT2 mI (mL mI)) (ovr_mono eC23) ha_p_13
      replace ha_p_15 := mA (mT2 mI (mL mI)) (ovr_mono eC23) ha_p_15
      replace h19 := (mo_Count ad) _ _ _ _ _ (ovr_mono eC23) h19
      replace eB := eB.trans eC23
      obtain ⟨y, hm, hz, hC⟩ := compM_cons hC
      refine ⟨rfl, ?_⟩
      refine o_yes ?_
      unfold m_Post_waits_C0 at hm
      replace h27 := (mT2 mI (mL mI)) _ _ _ _ (ovr_mono eC23) h27
      obtain ⟨p_28, rfl⟩ := rT2_ref h27
      have hn_p_28 := h27
      refine ⟨_, rfl, ?_⟩
      refine o_c ?_
      obtain ⟨w_29, w_30, h31, h32, h33⟩ := rT2_at hn_p_28
      refine k_ixT (xs := [w_29, w_30]) (SqT.of ((ovr_ex.trans O.ex) _ _ h31)) rfl ?_
      obtain rfl := h32
      refine ⟨_, rfl, ?_⟩
      refine o_c ?_
      obtain ⟨w_34, w_35, h36, h37, h38⟩ := rT2_at hn_p_28
      refine k_ixT (xs := [w_34, w_35]) (SqT.of ((ovr_ex.trans O.ex) _ _ h36)) rfl ?_
      obtain ⟨p_39, rfl, hp_p_39⟩ := fI h38
      refine x_nil ?_
      refine n_list O (SqL.of (O.ex _ _ (ovr_ex _ _ hp_p_39))) fun p_40 H O => ?_
      refine x_nil ?_
      obtain ⟨H0, O, e_, hp_p_40⟩ := O.frzO (R0 := R0) eB
      replace h10 := (mo_Free ad a_5) _ _ _ _ _ (ovr_mono e_) h10
      replace ha_p_13 := mA (mT2 mI (mL mI)) (ovr_mono e_) ha_p_13
      replace ha_p_15 := mA (mT2 mI (mL mI)) (ovr_mono e_) ha_p_15
      replace h19 := (mo_Count ad) _ _ _ _ _ (ovr_mono e_) h19
      replace ha_p_23 := mA (mT2 mI (mL mI)) (ovr_mono e_) ha_p_23
      replace hn_p_28 := (mT2 mI (mL mI)) _ _ _ _ (ovr_mono e_) hn_p_28
      replace hp_p_39 := (ovr_mono e_) _ _ hp_p_39
      replace eB := eB.trans e_
      replace eC23 := eC23.trans e_
      refine n_tup O (by show 2 ≤ sizeLine; decide) fun p_41 H O => ?_
      obtain ⟨H0, O, e_, hp_p_41⟩ := O.frzO (R0 := R0) eB
      replace h10 := (mo_Free ad a_5) _ _ _ _ _ (ovr_mono e_) h10
      replace ha_p_13 := mA (mT2 mI (mL mI)) (ovr_mono e_) ha_p_13
      replace ha_p_15 := mA (mT2 mI (mL mI)) (ovr_mono e_) ha_p_15
      replace h19 := (mo_Count ad) _ _ _ _ _ (ovr_mono e_) h19
      replace ha_p_23 := mA (mT2 mI (mL mI)) (ovr_mono e_) ha_p_23
      replace hn_p_28 := (mT2 mI (mL mI)) _ _ _ _ (ovr_mono e_) hn_p_28
      replace hp_p_39 := (ovr_mono e_) _ _ hp_p_39
      replace hp_p_40 := (ovr_mono e_) _ _ hp_p_40
      replace eB := eB.trans e_
      replace eC23 := eC23.trans e_
      have hn_p_41 : (rT2 rI (rL rI)) (ovr R0 Hb H0) (.ref p_41) ((one_20.1, one_20.2) : Int × (List Int)) := ⟨_, _, _, rfl, hp_p_41, rfl, (gI hp_p_40)⟩
      obtain rfl := Option.some.inj hm
      exact ⟨_, O.mem (hd_), (by rw [ha_p_23.len]; exact hz), H0, _, _, eC23, O.put0, ha_p_23.snoc hn_p_41, hC⟩
    rintro H ⟨H0, vs_24, acc, eC23, O, ha_p_23, hC⟩
    replace h10 := (mo_Free ad a_5) _ _ _ _ _ (ovr_mono eC23) h10
    replace ha_p_13 := mA (mT2 mI (mL mI)) (ovr_mono eC23) ha_p_13
    replace ha_p_15 := mA (mT2 mI (mL mI)) (ovr_mono eC23) ha_p_15
    replace h19 := (mo_Count ad) _ _ _ _ _ (ovr_mono eC23) h19
    replace eB := eB.trans eC23
    obtain rfl := compM_nil hC
    obtain rfl := Option.some.inj hm
    obtain ⟨H0, O, e_, hp_p_23⟩ := O.frzO (R0 := R0) eB
    replace h10 := (mo_Free ad a_5) _ _ _ _ _ (ovr_mono e_) h10
    replace ha_p_13 := mA (mT2 mI (mL mI)) (ovr_mono e_) ha_p_13
    replace ha_p_15 := mA (mT2 mI (mL mI)) (ovr_mono e_) ha_p_15
    replace h19 := (mo_Count ad) _ _ _ _ _ (ovr_mono e_) h19
    replace ha_p_23 := mA (mT2 mI (mL mI)) (ovr_mono e_) ha_p_23
    replace eB := eB.trans e_
    have hn_p_23 : (rL (rT2 rI (rL rI))) (ovr R0 Hb H0) (.ref p_23) l_21 := ⟨_, _, rfl, hp_p_23, ha_p_23⟩
    exact k _ _ H0 (hAppend ((a_2, x_Post ad dx_4 a_5 a_8) :: (dx_4, .own a_2) :: (hAppend ((a_5, x_Keep ad dx_11 p_12 self_1.keep.votes p_13 p_15 a_17) :: (dx_11, .own a_5) :: ((p_12, .tup [V.int self_1.keep.choice.1, V.int self_1.keep.choice.2]) :: ((p_13, .lst vs_14) :: ((p_15, .lst vs_16) :: (hAppend L_18 []))))) (hAppend L_9 []))) []) eB (by exact (Own.pkB O [[_], [_], [_], [_], [_], [_], [_], _, _] rfl [0, 1, 2, 3, 4, 5, 6, 7, 8] (by decide) (by simp only [g1, g2, g3, g4, n2, n3, n4, n5, n6, n7]))) ⟨_, rfl, ⟨rfl, hn_p_23⟩⟩
def m_Post_got_C0  (one_20 : Int × (List Int)) : Option (Int × (List Int)) :=
  
  some (one_20.1, one_20.2)
def m_Post_got (self_1 : S_Post) : Option (List (Int × (List Int))) :=
  bnd (compM (m_Post_got_C0) self_1.keep.handed_up []) fun l_21 =>
  some l_21
def sp_Post_got (K : PySem.W.Frag) (ad : Ad) : Sp := fun vs H Q _ => ∃ (self_1 : S_Post) (a_2 : Addr) (L_3 : List Cell) (R1 R0 : Hp) (r : List (Int × (List Int))), vs = [.ref a_2] ∧ Own R1 H (hAppend L_3 []) ∧ Ex R0 R1 ∧ (o_Post ad) R1 a_2 L_3 self_1 ∧ m_Post_got self_1 = some r ∧ RetX R0 (hsub H (hAppend L_3 [])) (dK L_3 (dP (rL (rT2 rI (rL rI))) r)) Q
abbrev N_Post_got : List Str := ["self", "one"]
theorem sc_Post_got : FnScope N_Post_got ["self"] (defScope s_Post_got) := ⟨rfl, rfl, rfl, by decide +kernel, rfl, by decide +kernel, by decide +kernel⟩
theorem ok_Post_got {ad : Ad} (T : Txt K mg ad) : FnOk P w K mg base CX0 1 ad.f_Post_got ad.fd_Post_got ["self"] (sp_Post_got K ad) := by
  refine T.F_Post_got.ok sc_Post_got (fun vs H Q E h => ?_) (fun cdv A outer s H vs Q E hr h => ?_)
  · obtain ⟨_, _, _, _, _, _, rfl, _⟩ := h
    rfl
  · obtain ⟨self_1, a_2, L_3, R1, R0, r, rfl, OO, e01, hb_a_2, hm, k⟩ := h
    unfold m_Post_got at hm
    obtain ⟨Hb, hHb⟩ : ∃ Hb : Hp, Hb = hsub H (hAppend L_3 []) := ⟨_, rfl⟩
    obtain ⟨H0, hH0⟩ : ∃ H0 : Hp, H0 = Hb := ⟨Hb, rfl⟩
    have O : Own H0 H (hAppend L_3 []) := by rw [hH0, hHb]; exact OO.startX
    have eR : Ex R0 Hb := by rw [hHb]; exact e01.trans OO.subR
    rw [← hHb] at k
    have eB : Ex Hb H0 := by rw [hH0]; exact Ex.refl _
    have eS : Ex R1 (ovr R1 Hb H0) := by rw [hH0]; exact ovr_start (by rw [hHb]; exact OO.subR)
    replace hb_a_2 := (mo_Post ad) _ _ _ _ _ eS hb_a_2
    clear hH0
    refine ⟨_, (pss_one (ps_ret (pe_lc (own := [("one", 1)]) (g := gName 1) (tt := tYes) rfl sc_Post_got.nd (pi_list (pe_fld (pe_fld (pv 0) rfl) rfl)) (blkOk_by (own := [("one", 1)]) (N := N_Post_got) (sc := defScope s_Post_got) (by decide +kernel)) (fun _ _ _ _ _ => pg_name (i := 1) sc_Post_got.nd rfl (Or.inl rfl)) (fun _ _ _ _ _ => pts_nil) (fun _ _ _ _ _ => (pe_tup2 (pe_tup (pa_cons (pe_ix (r := rIxT K) ix_tup (pv 1) pe_int (fun _ _ => rfl)) (pa_cons (pe_callTy (r := rListQ K) call_listQ (by rfl) T.z_list (by decide +kernel) (pa_cons (pe_ix (r := rIxT K) ix_tup (pv 1) pe_int (fun _ _ => rfl)) pa_nil)) pa_nil)))))))), ?_⟩
    obtain ⟨dx_4, a_5, L_6, a_8, L_9, rfl, h7, h10⟩ := hb_a_2
    replace O := Own.cv (L' := ((a_2, x_Post ad dx_4 a_5 a_8) :: ((dx_4, .own a_2) :: (hAppend L_6 (hAppend L_9 []))))) O (by first | with_reducible rfl | simp only [n1, n2, n3, n4, n5, n6, n7])
    -- 180
    refine o_ret ?_
    obtain ⟨dx_11, p_12, p_13, vs_14, p_15, vs_16, a_17, L_18, rfl, ha_p_13, ha_p_15, h19⟩ := h7
    replace O := Own.cv (L' := ((a_2, x_Post ad dx_4 a_5 a_8) :: ((dx_4, .own a_2) :: ((a_5, x_Keep ad dx_11 p_12 self_1.keep.votes p_13 p_15 a_17) :: ((dx_11, .own a_5) :: ((p_12, .tup [V.int self_1.keep.choice.1, V.int self_1.keep.choice.2]) :: ((p_13, .lst vs_14) :: ((p_15, .lst vs_16) :: (hAppend L_18 (hAppend L_9 [])))))))))) O (by first | with_reducible rfl | simp only [n1, n2, n3, n4, n5, n6, n7])
    refine ⟨_, rfl, a_2, _, _, _, _, rfl, (O.mem (hd_)), T.C_Post, T.N_Post_keep, lk_hit, a_5, _, _, _, _, rfl, (O.mem (tl_ (tl_ (hd_)))), T.C_Keep, T.N_Keep_handed_up, (lk_skip (by decide) (lk_skip (by decide) (lk_skip (by decide) lk_hit))), ?_⟩
    obtain ⟨l_21, h22, hm⟩ := bndE hm
    refine ⟨_, rfl, ⟨_, (SqL.of (O.mem (tl_ (tl_ (tl_ (tl_ (tl_ (tl_ (hd_)))))))))⟩, fun p_23 hD => k_lcA ha_p_15 (fun r H => ∃ (R_ : Hp) (vs_24 : List V) (acc : List (Int × (List Int))), Ex H0 R_ ∧ Own R_ H ((p_23, .lst vs_24) :: ((a_2, x_Post ad dx_4 a_5 a_8) :: ((dx_4, .own a_2) :: ((a_5, x_Keep ad dx_11 p_12 self_1.keep.votes p_13 p_15 a_17) :: ((dx_11, .own a_5) :: ((p_12, .tup [V.int self_1.keep.choice.1, V.int self_1.keep.choice.2]) :: ((p_13, .lst vs_14) :: ((p_15, .lst vs_16) :: (hAppend L_18 (hAppend L_9 [])))))))))) ∧ All2 ((rT2 rI (rL rI)) (ovr R0 Hb R_)) vs_24 acc ∧ compM (m_Post_got_C0) r acc = some l_21) ⟨H0, ([] : List V), [], Ex.refl _, O.new hD, .nil, h22⟩ (by rintro r H ⟨H0, vs_24, acc, eC23, O, ha_p_23, hC⟩; exact (SqL.of (O.mem (tl_ (tl_ (tl_ (tl_ (tl_ (tl_ (tl_ (hd_))))))))))) ?_ ?_⟩
    · rintro one_20 w_26 r H h27 ⟨H0, vs_24, acc, eC23, O, ha_p_23, hC⟩
      replace h10 := (mo_Free ad a_5) _ _ _ _ _ (ovr_mono eC23) h10
      replace ha_p_13 := mA (mT2 mI (mL mI)) (ovr_mono eC23) ha_p_13
      replace ha_p_15 := mA (mT2 mI (mL mI)) (ovr_mono eC23) ha_p_15
      replace h19 := (mo_Count ad) _ _ _ _ _ (ovr_mono eC23) h19
      replace eB := eB.trans eC23
      obtain ⟨y, hm, hz, hC⟩ := compM_cons hC
      refine ⟨rfl, ?_⟩
      refine o_yes ?_
      unfold m_Post_got_C0 at hm
      replace h27 := (mT2 mI (mL mI)) _ _ _ _ (ovr_mono eC23) h27
      obtain ⟨p_28, rfl⟩ := rT2_ref h27
      have hn_p_28 := h27
      refine ⟨_, rfl, ?_⟩
      refine o_c ?_
      obtain ⟨w_29, w_30, h31, h32, h33⟩ := rT2_at hn_p_28
      refine k_ixT (xs := [w_29, w_30]) (SqT.of ((ovr_ex.trans O.ex) _ _ h31)) rfl ?_
      obtain rfl := h32
      refine ⟨_, rfl, ?_⟩
      refine o_c ?_
      obtain ⟨w_34, w_35, h36, h37, h38⟩ := rT2_at hn_p_28
      refine k_ixT (xs := [w_34, w_35]) (SqT.of ((ovr_ex.trans O.ex) _ _ h36)) rfl ?_
      obtain ⟨p_39, rfl, hp_p_39⟩ := fI h38
      refine x_nil ?_
      refine n_list O (SqL.of (O.ex _ _ (ovr_ex _ _ hp_p_39))) fun p_40 H O => ?_
      refine x_nil ?_
      obtain ⟨H0, O, e_, hp_p_40⟩ := O.frzO (R0 := R0) eB
      replace h10 := (mo_Free ad a_5) _ _ _ _ _ (ovr_mono e_) h10
      replace ha_p_13 := mA (mT2 mI (mL mI)) (ovr_mono e_) ha_p_13
      replace ha_p_15 := mA (mT2 mI (mL mI)) (ovr_mono e_) ha_p_15
      replace h19 := (mo_Count ad) _ _ _ _ _ (ovr_mono e_) h19
      replace ha_p_23 := mA (mT2 mI (mL mI)) (ovr_mono e_) ha_p_23
      replace hn_p_28 := (mT2 mI (mL mI)) _ _ _ _ (ovr_mono e_) hn_p_28
      replace hp_p_39 := (ovr_mono e_) _ _ hp_p_39
      replace eB := eB.trans e_
      replace eC23 := eC23.trans e_
      refine n_tup O (by show 2 ≤ sizeLine; decide) fun p_41 H O => ?_
      obtain ⟨H0, O, e_, hp_p_41⟩ := O.frzO (R0 := R0) eB
      replace h10 := (mo_Free ad a_5) _ _ _ _ _ (ovr_mono e_) h10
      replace ha_p_13 := mA (mT2 mI (mL mI)) (ovr_mono e_) ha_p_13
      replace ha_p_15 := mA (mT2 mI (mL mI)) (ovr_mono e_) ha_p_15
      replace h19 := (mo_Count ad) _ _ _ _ _ (ovr_mono e_) h19
      replace ha_p_23 := mA (mT2 mI (mL mI)) (ovr_mono e_) ha_p_23
      replace hn_p_28 := (mT2 mI (mL mI)) _ _ _ _ (ovr_mono e_) hn_p_28
      replace hp_p_39 := (ovr_mono e_) _ _ hp_p_39
      replace hp_p_40 := (ovr_mono e_) _ _ hp_p_40
      replace eB := eB.trans e_
      replace eC23 := eC23.trans e_
      have hn_p_41 : (rT2 rI (rL rI)) (ovr R0 Hb H0) (.ref p_41) ((one_20.1, one_20.2) : Int × (List Int)) := ⟨_, _, _, rfl, hp_p_41, rfl, (gI hp_p_40)⟩
      obtain rfl := Option.some.inj hm
      exact ⟨_, O.mem (hd_), (by rw [ha_p_23.len]; exact hz), H0, _, _, eC23, O.put0, ha_p_23.snoc hn_p_41, hC⟩
    rintro H ⟨H0, vs_24, acc, eC23, O, ha_p_23, hC⟩
    replace h10 := (mo_Free ad a_5) _ _ _ _ _ (ovr_mono eC23) h10
    replace ha_p_13 := mA (mT2 mI (mL mI)) (ovr_mono eC23) ha_p_13
    replace ha_p_15 := mA (mT2 mI (mL mI)) (ovr_mono eC23) ha_p_15
    replace h19 := (mo_Count ad) _ _ _ _ _ (ovr_mono eC23) h19
    replace eB := eB.trans eC23
    obtain rfl := compM_nil hC
    obtain rfl := Option.some.inj hm
    obtain ⟨H0, O, e_, hp_p_23⟩ := O.frzO (R0 := R0) eB
    replace h10 := (mo_Free ad a_5) _ _ _ _ _ (ovr_mono e_) h10
    replace ha_p_13 := mA (mT2 mI (mL mI)) (ovr_mono e_) ha_p_13
    replace ha_p_15 := mA (mT2 mI (mL mI)) (ovr_mono e_) ha_p_15
    replace h19 := (mo_Count ad) _ _ _ _ _ (ovr_mono e_) h19
    replace ha_p_23 := mA (mT2 mI (mL mI)) (ovr_mono e_) ha_p_23
    replace eB := eB.trans e_
    have hn_p_23 : (rL (rT2 rI (rL rI))) (ovr R0 Hb H0) (.ref p_23) l_21 := ⟨_, _, rfl, hp_p_23, ha_p_23⟩
    exact k _ _ H0 (hAppend ((a_2, x_Post ad dx_4 a_5 a_8) :: (dx_4, .own a_2) :: (hAppend ((a_5, x_Keep ad dx_11 p_12 self_1.keep.votes p_13 p_15 a_17) :: (dx_11, .own a_5) :: ((p_12, .tup [V.int self_1.keep.choice.1, V.int self_1.keep.choice.2]) :: ((p_13, .lst vs_14) :: ((p_15, .lst vs_16) :: (hAppend L_18 []))))) (hAppend L_9 []))) []) eB (by exact (Own.pkB O [[_], [_], [_], [_], [_], [_], [_], _, _] rfl [0, 1, 2, 3, 4, 5, 6, 7, 8] (by decide) (by simp only [g1, g2, g3, g4, n2, n3, n4, n5, n6, n7]))) ⟨_, rfl, ⟨rfl, hn_p_23⟩⟩
def m_Count_is_quiet (self_1 : S_Count) : Option (Bool) :=
  some (decide ((12 : Int) ≤ self_1.tally))
def sp_Count_is_quiet (K : PySem.W.Frag) (ad : Ad) : Sp := fun vs H Q _ => ∃ (self_1 : S_Count) (a_2 : Addr) (L_3 : List Cell) (R0 : Hp) (r : Bool), vs = [.ref a_2] ∧ Own R0 H (hAppend L_3 []) ∧ (o_Count ad) R0 a_2 L_3 self_1 ∧ m_Count_is_quiet self_1 = some r ∧ RetX R0 (hsub H (hAppend L_3 [])) (dK L_3 (dV (.bl r))) Q
abbrev N_Count_is_quiet : List Str := ["self"]
theorem sc_Count_is_quiet : FnScope N_Count_is_quiet ["self"] (defScope s_Count_is_quiet) := ⟨rfl, rfl, rfl, by decide +kernel, rfl, by decide +kernel, by decide +kernel⟩
theorem ok_Count_is_quiet {ad : Ad} (T : Txt K mg ad) : FnOk P w K mg base CX0 1 ad.f_Count_is_quiet ad.fd_Count_is_quiet ["self"] (sp_Count_is_quiet K ad) := by
  refine T.F_Count_is_quiet.ok sc_Count_is_quiet (fun vs H Q E h => ?_) (fun cdv A outer s H vs Q E hr h => ?_)
  · obtain ⟨_, _, _, _, _, rfl, _⟩ := h
    rfl
  · obtain ⟨self_1, a_2, L_3, R0, r, rfl, OO, hb_a_2, hm, k⟩ := h
    unfold m_Count_is_quiet at hm
    obtain ⟨Hb, hHb⟩ : ∃ Hb : Hp, Hb = hsub H (hAppend L_3 []) := ⟨_, rfl⟩
    obtain ⟨H0, hH0⟩ : ∃ H0 : Hp, H0 = Hb := ⟨Hb, rfl⟩
    have O : Own H0 H (hAppend L_3 []) := by rw [hH0, hHb]; exact OO.startX
    have eR : Ex R0 Hb := by rw [hHb]; exact OO.subR
    rw [← hHb] at k
    have eB : Ex Hb H0 := by rw [hH0]; exact Ex.refl _
    have eS : Ex R0 (ovr R0 Hb H0) := by rw [hH0]; exact ovr_start eR
    replace hb_a_2 := (mo_Count ad) _ _ _ _ _ eS hb_a_2
    clear hH0
    refine ⟨_, (pss_one (ps_ret (pe_cmpR op_ge (pe_fld (pv 0) rfl) (pe_gv rfl T.g_QUIET) (nomark _)))), ?_⟩
    obtain ⟨dx_4, rfl⟩ := hb_a_2
    try simp only [n1, n2, n3, n4, n5, n6, n7] at O
    -- 99
    refine o_ret ?_
    refine ⟨_, rfl, a_2, _, _, _, _, rfl, (O.mem (hd_)), T.C_Count, T.N_Count_tally, lk_hit, _, _, rfl, rfl, ?_⟩
    obtain rfl := Option.some.inj hm
    exact k _ _ H0 _ eB (by exact (Own.pk O [0, 1] (by decide) rfl)) ⟨_, rfl, ⟨rfl, rfl⟩⟩
def m_Free_says (self_1 : S_Free) (keep_4 : S_Keep) : Option (Int) :=
  ifB (decide ((List.length keep_4.queue : Int) = (0 : Int))) (
    some (1 : Int)) (
    bnd (m_Count_is_quiet keep_4.count) fun is_qui_21 =>
    ifB (is_qui_21 && decide (self_1.many < (8 : Int))) (
      some (1 : Int)) (
      some (0 : Int)))
def sp_Free_says (K : PySem.W.Frag) (ad : Ad) : Sp := fun vs H Q _ => ∃ (self_1 : S_Free) (a_2 : Addr) (L_3 : List Cell) (keep_4 : S_Keep) (a_5 : Addr) (L_6 : List Cell) (R0 : Hp) (r : Int), vs = [.ref a_2] ∧ Own R0 H (hAppend L_3 (hAppend L_6 [])) ∧ (o_Free ad a_5) R0 a_2 L_3 self_1 ∧ (o_Keep ad) R0 a_5 L_6 keep_4 ∧ m_Free_says self_1 keep_4 = some r ∧ RetX R0 (hsub H (hAppend L_3 (hAppend L_6 []))) (dK L_3 (dK L_6 (dV (.int r)))) Q
abbrev N_Free_says : List Str := ["self"]
theorem sc_Free_says : FnScope N_Free_says ["self"] (defScope s_Free_says) := ⟨rfl, rfl, rfl, by decide +kernel, rfl, by decide +kernel, by decide +kernel⟩
theorem ok_Free_says {ad : Ad} (T : Txt K mg ad) : FnOk P w K mg base CX0 2 ad.f_Free_says ad.fd_Free_says ["self"] (sp_Free_says K ad) := by
  have G_Count_is_quiet := ok_Count_is_quiet (P := P) (w := w) (base := base) T
  refine T.F_Free_says.ok sc_Free_says (fun vs H Q E h => ?_) (fun cdv A outer s H vs Q E hr h => ?_)
  · obtain ⟨_, _, _, _, _, _, _, _, rfl, _⟩ := h
    rfl
  · obtain ⟨self_1, a_2, L_3, keep_4, a_5, L_6, R0, r, rfl, OO, hb_a_2, hb_a_5, hm, k⟩ := h
    unfold m_Free_says at hm
    obtain ⟨Hb, hHb⟩ : ∃ Hb : Hp, Hb = hsub H (hAppend L_3 (hAppend L_6 [])) := ⟨_, rfl⟩
    obtain ⟨H0, hH0⟩ : ∃ H0 : Hp, H0 = Hb := ⟨Hb, rfl⟩
    have O : Own H0 H (hAppend L_3 (hAppend L_6 [])) := by rw [hH0, hHb]; exact OO.startX
    have eR : Ex R0 Hb := by rw [hHb]; exact OO.subR
    rw [← hHb] at k
    have eB : Ex Hb H0 := by rw [hH0]; exact Ex.refl _
    have eS : Ex R0 (ovr R0 Hb H0) := by rw [hH0]; exact ovr_start eR
    replace hb_a_2 := (mo_Free ad a_5) _ _ _ _ _ eS hb_a_2
    replace hb_a_5 := (mo_Keep ad) _ _ _ _ _ eS hb_a_5
    clear hH0
    refine ⟨_, (pss_cons (ps_if (pt_cmpR op_eq (pe_callB (r := rLenQ K) call_lenQ (by rfl) T.z_len PySem.boot_len (pa_cons (pe_fld (pe_fld (pv 0) rfl) rfl) pa_nil)) pe_int (nomark _)) (pss_one (ps_ret pe_int)) pss_nil) (pss_cons (ps_if (PW.pt (pw_and (pt_val (pe_meth0 (pe_fld (pe_fld (pv 0) rfl) rfl) T.C_Count T.M_Count_is_quiet G_Count_is_quiet (hr.mono (by decide)) T.b_Count_is_quiet .nil pass0)) (pw_and1 (pt_cmpR op_lt (pe_fld (pv 0) rfl) (pe_gv rfl T.g_PATIENCE) (nomark _))))) (pss_one (ps_ret pe_int)) pss_nil) (pss_one (ps_ret pe_int)))), ?_⟩
    obtain ⟨dx_7, rfl⟩ := hb_a_2
    replace O := Own.cv (L' := ((a_2, x_Free ad dx_7 a_5 self_1.many) :: ((dx_7, .own a_2) :: (hAppend L_6 [])))) O (by first | with_reducible rfl | simp only [n1, n2, n3, n4, n5, n6, n7])
    -- 142
    refine o_seq ?_
    refine o_ifs ?_
    refine ⟨_, rfl, ?_⟩
    obtain ⟨dx_8, p_9, p_10, vs_11, p_12, vs_13, a_14, L_15, rfl, ha_p_10, ha_p_12, h16⟩ := hb_a_5
    replace O := Own.cv (L' := ((a_2, x_Free ad dx_7 a_5 self_1.many) :: ((dx_7, .own a_2) :: ((a_5, x_Keep ad dx_8 p_9 keep_4.votes p_10 p_12 a_14) :: ((dx_8, .own a_5) :: ((p_9, .tup [V.int keep_4.choice.1, V.int keep_4.choice.2]) :: ((p_10, .lst vs_11) :: ((p_12, .lst vs_13) :: (hAppend L_15 []))))))))) O (by first | with_reducible rfl | simp only [n1, n2, n3, n4, n5, n6, n7])
    refine ⟨a_2, _, _, _, _, rfl, (O.mem (hd_)), T.C_Free, T.N_Free_keep, lk_hit, a_5, _, _, _, _, rfl, (O.mem (tl_ (tl_ (hd_)))), T.C_Keep, T.N_Keep_queue, (lk_skip (by decide) (lk_skip (by decide) lk_hit)), ?_⟩
    refine x_nil ?_
    refine n_lenA (SqL.of (O.mem (tl_ (tl_ (tl_ (tl_ (tl_ (hd_)))))))) ha_p_10 ?_
    refine o_c ?_
    refine k_eqI ?_
    refine ⟨_, rfl, ?_⟩
    refine iteS (c := (decide ((List.length keep_4.queue : Int) = (0 : Int)))) (fun h17 => ?_) (fun h17 => ?_)
    · replace hm := ifT hm h17
      -- 143
      refine o_ret ?_
      refine o_c ?_
      obtain rfl := Option.some.inj hm
      exact k _ _ H0 (hAppend ((a_2, x_Free ad dx_7 a_5 self_1.many) :: (dx_7, .own a_2) :: []) (hAppend ((a_5, x_Keep ad dx_8 p_9 keep_4.votes p_10 p_12 a_14) :: (dx_8, .own a_5) :: ((p_9, .tup [V.int keep_4.choice.1, V.int keep_4.choice.2]) :: ((p_10, .lst vs_11) :: ((p_12, .lst vs_13) :: (hAppend L_15 []))))) [])) eB (by exact (Own.pkB O [[_], [_], [_], [_], [_], [_], [_], _] rfl [0, 1, 2, 3, 4, 5, 6, 7] (by decide) (by simp only [g1, g2, g3, g4, n2, n3, n4, n5, n6, n7]))) ⟨_, rfl, ⟨_, rfl, ⟨rfl, rfl⟩⟩⟩
    · replace hm := ifF hm h17
      refine o_next ?_
      -- 144
      refine o_seq ?_
      refine o_ifs ?_
      obtain ⟨dx_18, rfl⟩ := h16
      try simp only [n1, n2, n3, n4, n5, n6, n7] at O
      obtain ⟨is_qui_21, h22, hm⟩ := bndE hm
      refine x_andJ (c := is_qui_21) (e := decide (self_1.many < (8 : Int))) (d := (is_qui_21 && decide (self_1.many < (8 : Int)))) (fun H => ∃ (R_ : Hp), Ex H0 R_ ∧ Own R_ H [(a_2, x_Free ad dx_7 a_5 self_1.many), (dx_7, .own a_2), (a_5, x_Keep ad dx_8 p_9 keep_4.votes p_10 p_12 a_14), (dx_8, .own a_5), (p_9, .tup [V.int keep_4.choice.1, V.int keep_4.choice.2]), (p_10, .lst vs_11), (p_12, .lst vs_13), (a_14, x_Count ad dx_18 keep_4.count.tally), (dx_18, .own a_14)]) (fun Q1 k1 => ?_) (fun h19 => ⟨by rw [h19]; rfl, fun H hJ Q2 k2 => ?_⟩) (fun h19 => by rw [h19]; rfl) (fun H hJ => ?_)
      · have eJ20 : Ex H0 H0 := Ex.refl _
        refine ⟨_, rfl, a_2, _, _, _, _, rfl, (O.mem (hd_)), T.C_Free, T.N_Free_keep, lk_hit, a_5, _, _, _, _, rfl, (O.mem (tl_ (tl_ (hd_)))), T.C_Keep, T.N_Keep_count, (lk_skip (by decide) (lk_skip (by decide) (lk_skip (by decide) (lk_skip (by decide) lk_hit)))), a_14, _, _, rfl, (O.mem (tl_ (tl_ (tl_ (tl_ (tl_ (tl_ (tl_ (hd_))))))))), (lk_skip (by decide) lk_nil), ?_⟩
        refine x_nil ?_
        have Oc : Own H0 H (hAppend (hAppend ((a_14, x_Count ad dx_18 keep_4.count.tally) :: (dx_18, .own a_14) :: []) []) [(a_2, x_Free ad dx_7 a_5 self_1.many), (dx_7, .own a_2), (a_5, x_Keep ad dx_8 p_9 keep_4.votes p_10 p_12 a_14), (dx_8, .own a_5), (p_9, .tup [V.int keep_4.choice.1, V.int keep_4.choice.2]), (p_10, .lst vs_11), (p_12, .lst vs_13)]) := (Own.pk O [7, 8, 0, 1, 2, 3, 4, 5, 6] (by decide) rfl)
        refine ⟨keep_4.count, a_14, _, ovr R0 Hb H0, is_qui_21, rfl, (Own.shrink Oc.left ovr_ex), ⟨dx_18, rfl⟩, h22, ?_⟩
        refine Oc.retXO (mdK mdV) eB fun w_23 H H0 L_24 O e_ d_ => ?_
        replace ha_p_10 := mA (mT2 mI (mL mI)) (ovr_mono e_) ha_p_10
        replace ha_p_12 := mA (mT2 mI (mL mI)) (ovr_mono e_) ha_p_12
        replace eB := eB.trans e_
        replace eJ20 := eJ20.trans e_
        obtain ⟨L_25, rfl, ⟨rfl, rfl⟩⟩ := d_
        try simp only [n1, n2, n3, n4, n5, n6, n7] at O
        refine ⟨_, rfl, ?_⟩
        exact k1 _ ⟨H0, eJ20, (Own.pk (L' := [(a_2, x_Free ad dx_7 a_5 self_1.many), (dx_7, .own a_2), (a_5, x_Keep ad dx_8 p_9 keep_4.votes p_10 p_12 a_14), (dx_8, .own a_5), (p_9, .tup [V.int keep_4.choice.1, V.int keep_4.choice.2]), (p_10, .lst vs_11), (p_12, .lst vs_13), (a_14, x_Count ad dx_18 keep_4.count.tally), (dx_18, .own a_14)]) O [2, 3, 4, 5, 6, 7, 8, 0, 1] (by decide) rfl)⟩
      · obtain ⟨H0, eJ20, O⟩ := hJ
        replace ha_p_10 := mA (mT2 mI (mL mI)) (ovr_mono eJ20) ha_p_10
        replace ha_p_12 := mA (mT2 mI (mL mI)) (ovr_mono eJ20) ha_p_12
        replace eB := eB.trans eJ20
        refine ⟨_, rfl, a_2, _, _, _, _, rfl, (O.mem (hd_)), T.C_Free, T.N_Free_many, (lk_skip (by decide) lk_hit), _, _, rfl, rfl, _, rfl, ?_⟩
        exact k2 _ ⟨H0, eJ20, O⟩
      obtain ⟨H0, eJ20, O⟩ := hJ
      replace ha_p_10 := mA (mT2 mI (mL mI)) (ovr_mono eJ20) ha_p_10
      replace ha_p_12 := mA (mT2 mI (mL mI)) (ovr_mono eJ20) ha_p_12
      replace eB := eB.trans eJ20
      refine iteS (c := (is_qui_21 && decide (self_1.many < (8 : Int)))) (fun h26 => ?_) (fun h26 => ?_)
      · replace hm := ifT hm h26
        -- 145
        refine o_ret ?_
        refine o_c ?_
        obtain rfl := Option.some.inj hm
        exact k _ _ H0 _ eB (by exact (Own.pk O [0, 1, 2, 3, 4, 5, 6, 7, 8] (by decide) rfl)) ⟨_, rfl, ⟨_, rfl, ⟨rfl, rfl⟩⟩⟩
      · replace hm := ifF hm h26
        refine o_next ?_
        -- 146
        refine o_ret ?_
        refine o_c ?_
        obtain rfl := Option.some.inj hm
        exact k _ _ H0 _ eB (by exact (Own.pk O [0, 1, 2, 3, 4, 5, 6, 7, 8] (by decide) rfl)) ⟨_, rfl, ⟨_, rfl, ⟨rfl, rfl⟩⟩⟩
def m_Post_says (self_1 : S_Post) : Option (Int) :=
  bnd (m_Free_says self_1.now self_1.keep) fun says_12 =>
  some says_12
def sp_Post_says (K : PySem.W.Frag) (ad : Ad) : Sp := fun vs H Q _ => ∃ (self_1 : S_Post) (a_2 : Addr) (L_3 : List Cell) (R0 : Hp) (r : Int), vs = [.ref a_2] ∧ Own R0 H (hAppend L_3 []) ∧ (o_Post ad) R0 a_2 L_3 self_1 ∧ m_Post_says self_1 = some r ∧ RetX R0 (hsub H (hAppend L_3 [])) (dK L_3 (dV (.int r))) Q
abbrev N_Post_says : List Str := ["self"]
theorem sc_Post_says : FnScope N_Post_says ["self"] (defScope s_Post_says) := ⟨rfl, rfl, rfl, by decide +kernel, rfl, by decide +kernel, by decide +kernel⟩
theorem ok_Post_says {ad : Ad} (T : Txt K mg ad) : FnOk P w K mg base CX0 3 ad.f_Post_says ad.fd_Post_says ["self"] (sp_Post_says K ad) := by
  have G_Free_says := ok_Free_says (P := P) (w := w) (base := base) T
  refine T.F_Post_says.ok sc_Post_says (fun vs H Q E h => ?_) (fun cdv A outer s H vs Q E hr h => ?_)
  · obtain ⟨_, _, _, _, _, rfl, _⟩ := h
    rfl
  · obtain ⟨self_1, a_2, L_3, R0, r, rfl, OO, hb_a_2, hm, k⟩ := h
    unfold m_Post_says at hm
    obtain ⟨Hb, hHb⟩ : ∃ Hb : Hp, Hb = hsub H (hAppend L_3 []) := ⟨_, rfl⟩
    obtain ⟨H0, hH0⟩ : ∃ H0 : Hp, H0 = Hb := ⟨Hb, rfl⟩
    have O : Own H0 H (hAppend L_3 []) := by rw [hH0, hHb]; exact OO.startX
    have eR : Ex R0 Hb := by rw [hHb]; exact OO.subR
    rw [← hHb] at k
    have eB : Ex Hb H0 := by rw [hH0]; exact Ex.refl _
    have eS : Ex R0 (ovr R0 Hb H0) := by rw [hH0]; exact ovr_start eR
    replace hb_a_2 := (mo_Post ad) _ _ _ _ _ eS hb_a_2
    clear hH0
    refine ⟨_, (pss_one (ps_ret (pe_meth0 (pe_fld (pv 0) rfl) T.C_Free T.M_Free_says G_Free_says (hr.mono (by decide)) T.b_Free_says .nil pass0))), ?_⟩
    obtain ⟨dx_4, a_5, L_6, a_8, L_9, rfl, h7, h10⟩ := hb_a_2
    replace O := Own.cv (L' := ((a_2, x_Post ad dx_4 a_5 a_8) :: ((dx_4, .own a_2) :: (hAppend L_6 (hAppend L_9 []))))) O (by first | with_reducible rfl | simp only [n1, n2, n3, n4, n5, n6, n7])
    -- 168
    refine o_ret ?_
    refine ⟨_, rfl, ?_⟩
    obtain ⟨dx_11, rfl⟩ := h10
    replace O := Own.cv (L' := ((a_2, x_Post ad dx_4 a_5 a_8) :: ((dx_4, .own a_2) :: (hAppend L_6 ((a_8, x_Free ad dx_11 a_5 self_1.now.many) :: ((dx_11, .own a_8) :: [])))))) O (by first | with_reducible rfl | simp only [n1, n2, n3, n4, n5, n6, n7])
    replace O := (Own.pkB (L' := ((a_2, x_Post ad dx_4 a_5 a_8) :: ((dx_4, .own a_2) :: ((a_8, x_Free ad dx_11 a_5 self_1.now.many) :: ((dx_11, .own a_8) :: (hAppend L_6 [])))))) O [[_], [_], _, [_], [_]] rfl [0, 1, 3, 4, 2] (by decide) rfl)
    refine ⟨a_2, _, _, _, _, rfl, (O.mem (hd_)), T.C_Post, T.N_Post_now, (lk_skip (by decide) lk_hit), a_8, _, _, rfl, (O.mem (tl_ (tl_ (hd_)))), (lk_skip (by decide) (lk_skip (by decide) lk_nil)), ?_⟩
    refine x_nil ?_
    obtain ⟨says_12, h13, hm⟩ := bndE hm
    have Oc : Own H0 H (hAppend (hAppend ((a_8, x_Free ad dx_11 a_5 self_1.now.many) :: (dx_11, .own a_8) :: []) (hAppend L_6 [])) [(a_2, x_Post ad dx_4 a_5 a_8), (dx_4, .own a_2)]) := (Own.pkB O [[_], [_], [_], [_], _] rfl [2, 3, 4, 0, 1] (by decide) (by simp only [g1, g2, g3, g4, n2, n3, n4, n5, n6, n7]))
    refine ⟨self_1.now, a_8, _, self_1.keep, a_5, _, ovr R0 Hb H0, says_12, rfl, (Own.shrink Oc.left ovr_ex), ⟨dx_11, rfl⟩, h7, h13, ?_⟩
    refine Oc.retXO (mdK (mdK mdV)) eB fun w_14 H H0 L_15 O e_ d_ => ?_
    replace h7 := (mo_Keep ad) _ _ _ _ _ (ovr_mono e_) h7
    replace eB := eB.trans e_
    obtain ⟨_, rfl, ⟨L_16, rfl, ⟨rfl, rfl⟩⟩⟩ := d_
    replace O := Own.cv (L' := ((a_8, x_Free ad dx_11 a_5 self_1.now.many) :: ((dx_11, .own a_8) :: (hAppend L_6 ((a_2, x_Post ad dx_4 a_5 a_8) :: ((dx_4, .own a_2) :: [])))))) O (by first | with_reducible rfl | simp only [n1, n2, n3, n4, n5, n6, n7])
    replace O := (Own.pkB (L' := ((a_8, x_Free ad dx_11 a_5 self_1.now.many) :: ((dx_11, .own a_8) :: ((a_2, x_Post ad dx_4 a_5 a_8) :: ((dx_4, .own a_2) :: (hAppend L_6 [])))))) O [[_], [_], _, [_], [_]] rfl [0, 1, 3, 4, 2] (by decide) rfl)
    obtain rfl := Option.some.inj hm
    exact k _ _ H0 (hAppend ((a_2, x_Post ad dx_4 a_5 a_8) :: (dx_4, .own a_2) :: (hAppend L_6 (hAppend ((a_8, x_Free ad dx_11 a_5 self_1.now.many) :: (dx_11, .own a_8) :: []) []))) []) eB (by exact (Own.pkB O [[_], [_], [_], [_], _] rfl [2, 3, 4, 0, 1] (by decide) (by simp only [g1, g2, g3, g4, n2, n3, n4, n5, n6, n7]))) ⟨_, rfl, ⟨rfl, rfl⟩⟩
def m_Post_is_quiet (self_1 : S_Post) : Option (Bool) :=
  bnd (m_Count_is_quiet self_1.keep.count) fun is_qui_21 =>
  some is_qui_21
def sp_Post_is_quiet (K : PySem.W.Frag) (ad : Ad) : Sp := fun vs H Q _ => ∃ (self_1 : S_Post) (a_2 : Addr) (L_3 : List Cell) (R0 : Hp) (r : Bool), vs = [.ref a_2] ∧ Own R0 H (hAppend L_3 []) ∧ (o_Post ad) R0 a_2 L_3 self_1 ∧ m_Post_is_quiet self_1 = some r ∧ RetX R0 (hsub H (hAppend L_3 [])) (dK L_3 (dV (.bl r))) Q
abbrev N_Post_is_quiet : List Str := ["self"]
theorem sc_Post_is_quiet : FnScope N_Post_is_quiet ["self"] (defScope s_Post_is_quiet) := ⟨rfl, rfl, rfl, by decide +kernel, rfl, by decide +kernel, by decide +kernel⟩
theorem ok_Post_is_quiet {ad : Ad} (T : Txt K mg ad) : FnOk P w K mg base CX0 2 ad.f_Post_is_quiet ad.fd_Post_is_quiet ["self"] (sp_Post_is_quiet K ad) := by
  have G_Count_is_quiet := ok_Count_is_quiet (P := P) (w := w) (base := base) T
  refine T.F_Post_is_quiet.ok sc_Post_is_quiet (fun vs H Q E h => ?_) (fun cdv A outer s H vs Q E hr h => ?_)
  · obtain ⟨_, _, _, _, _, rfl, _⟩ := h
    rfl
  · obtain ⟨self_1, a_2, L_3, R0, r, rfl, OO, hb_a_2, hm, k⟩ := h
    unfold m_Post_is_quiet at hm
    obtain ⟨Hb, hHb⟩ : ∃ Hb : Hp, Hb = hsub H (hAppend L_3 []) := ⟨_, rfl⟩
    obtain ⟨H0, hH0⟩ : ∃ H0 : Hp, H0 = Hb := ⟨Hb, rfl⟩
    have O : Own H0 H (hAppend L_3 []) := by rw [hH0, hHb]; exact OO.startX
    have eR : Ex R0 Hb := by rw [hHb]; exact OO.subR
    rw [← hHb] at k
    have eB : Ex Hb H0 := by rw [hH0]; exact Ex.refl _
    have eS : Ex R0 (ovr R0 Hb H0) := by rw [hH0]; exact ovr_start eR
    replace hb_a_2 := (mo_Post ad) _ _ _ _ _ eS hb_a_2
    clear hH0
    refine ⟨_, (pss_one (ps_ret (pe_meth0 (pe_fld (pe_fld (pv 0) rfl) rfl) T.C_Count T.M_Count_is_quiet G_Count_is_quiet (hr.mono (by decide)) T.b_Count_is_quiet .nil pass0))), ?_⟩
    obtain ⟨dx_4, a_5, L_6, a_8, L_9, rfl, h7, h10⟩ := hb_a_2
    replace O := Own.cv (L' := ((a_2, x_Post ad dx_4 a_5 a_8) :: ((dx_4, .own a_2) :: (hAppend L_6 (hAppend L_9 []))))) O (by first | with_reducible rfl | simp only [n1, n2, n3, n4, n5, n6, n7])
    -- 186
    refine o_ret ?_
    refine ⟨_, rfl, ?_⟩
    obtain ⟨dx_11, p_12, p_13, vs_14, p_15, vs_16, a_17, L_18, rfl, ha_p_13, ha_p_15, h19⟩ := h7
    replace O := Own.cv (L' := ((a_2, x_Post ad dx_4 a_5 a_8) :: ((dx_4, .own a_2) :: ((a_5, x_Keep ad dx_11 p_12 self_1.keep.votes p_13 p_15 a_17) :: ((dx_11, .own a_5) :: ((p_12, .tup [V.int self_1.keep.choice.1, V.int self_1.keep.choice.2]) :: ((p_13, .lst vs_14) :: ((p_15, .lst vs_16) :: (hAppend L_18 (hAppend L_9 [])))))))))) O (by first | with_reducible rfl | simp only [n1, n2, n3, n4, n5, n6, n7])
    refine ⟨a_2, _, _, _, _, rfl, (O.mem (hd_)), T.C_Post, T.N_Post_keep, lk_hit, ?_⟩
    obtain ⟨dx_20, rfl⟩ := h19
    replace O := Own.cv (L' := ((a_2, x_Post ad dx_4 a_5 a_8) :: ((dx_4, .own a_2) :: ((a_5, x_Keep ad dx_11 p_12 self_1.keep.votes p_13 p_15 a_17) :: ((dx_11, .own a_5) :: ((p_12, .tup [V.int self_1.keep.choice.1, V.int self_1.keep.choice.2]) :: ((p_13, .lst vs_14) :: ((p_15, .lst vs_16) :: ((a_17, x_Count ad dx_20 self_1.keep.count.tally) :: ((dx_20, .own a_17) :: (hAppend L_9 []))))))))))) O (by first | with_reducible rfl | simp only [n1, n2, n3, n4, n5, n6, n7])
    refine ⟨a_5, _, _, _, _, rfl, (O.mem (tl_ (tl_ (hd_)))), T.C_Keep, T.N_Keep_count, (lk_skip (by decide) (lk_skip (by decide) (lk_skip (by decide) (lk_skip (by decide) lk_hit)))), a_17, _, _, rfl, (O.mem (tl_ (tl_ (tl_ (tl_ (tl_ (tl_ (tl_ (hd_))))))))), (lk_skip (by decide) lk_nil), ?_⟩
    refine x_nil ?_
    obtain ⟨is_qui_21, h22, hm⟩ := bndE hm
    have Oc : Own H0 H (hAppend (hAppend ((a_17, x_Count ad dx_20 self_1.keep.count.tally) :: (dx_20, .own a_17) :: []) []) ((a_2, x_Post ad dx_4 a_5 a_8) :: ((dx_4, .own a_2) :: ((a_5, x_Keep ad dx_11 p_12 self_1.keep.votes p_13 p_15 a_17) :: ((dx_11, .own a_5) :: ((p_12, .tup [V.int self_1.keep.choice.1, V.int self_1.keep.choice.2]) :: ((p_13, .lst vs_14) :: ((p_15, .lst vs_16) :: (hAppend L_9 []))))))))) := (Own.pkB O [[_], [_], [_], [_], [_], [_], [_], [_], [_], _] rfl [7, 8, 0, 1, 2, 3, 4, 5, 6, 9] (by decide) (by simp only [g1, g2, g3, g4, n2, n3, n4, n5, n6, n7]))
    refine ⟨self_1.keep.count, a_17, _, ovr R0 Hb H0, is_qui_21, rfl, (Own.shrink Oc.left ovr_ex), ⟨dx_20, rfl⟩, h22, ?_⟩
    refine Oc.retXO (mdK mdV) eB fun w_23 H H0 L_24 O e_ d_ => ?_
    replace h10 := (mo_Free ad a_5) _ _ _ _ _ (ovr_mono e_) h10
    replace ha_p_13 := mA (mT2 mI (mL mI)) (ovr_mono e_) ha_p_13
    replace ha_p_15 := mA (mT2 mI (mL mI)) (ovr_mono e_) ha_p_15
    replace eB := eB.trans e_
    obtain ⟨L_25, rfl, ⟨rfl, rfl⟩⟩ := d_
    replace O := Own.cv (L' := ((a_17, x_Count ad dx_20 self_1.keep.count.tally) :: ((dx_20, .own a_17) :: ((a_2, x_Post ad dx_4 a_5 a_8) :: ((dx_4, .own a_2) :: ((a_5, x_Keep ad dx_11 p_12 self_1.keep.votes p_13 p_15 a_17) :: ((dx_11, .own a_5) :: ((p_12, .tup [V.int self_1.keep.choice.1, V.int self_1.keep.choice.2]) :: ((p_13, .lst vs_14) :: ((p_15, .lst vs_16) :: (hAppend L_9 []))))))))))) O (by first | with_reducible rfl | simp only [n1, n2, n3, n4, n5, n6, n7])
    obtain rfl := Option.some.inj hm
    exact k _ _ H0 (hAppend ((a_2, x_Post ad dx_4 a_5 a_8) :: (dx_4, .own a_2) :: (hAppend ((a_5, x_Keep ad dx_11 p_12 self_1.keep.votes p_13 p_15 a_17) :: (dx_11, .own a_5) :: ((p_12, .tup [V.int self_1.keep.choice.1, V.int self_1.keep.choice.2]) :: ((p_13, .lst vs_14) :: ((p_15, .lst vs_16) :: (hAppend ((a_17, x_Count ad dx_20 self_1.keep.count.tally) :: (dx_20, .own a_17) :: []) []))))) (hAppend L_9 []))) []) eB (by exact (Own.pkB O [[_], [_], [_], [_], [_], [_], [_], [_], [_], _] rfl [2, 3, 4, 5, 6, 7, 8, 0, 1, 9] (by decide) (by simp only [g1, g2, g3, g4, n2, n3, n4, n5, n6, n7]))) ⟨_, rfl, ⟨rfl, rfl⟩⟩
def m_Count_is_off (self_1 : S_Count) : Option (Bool) :=
  some (decide ((18 : Int) ≤ self_1.tally))
def sp_Count_is_off (K : PySem.W.Frag) (ad : Ad) : Sp := fun vs H Q _ => ∃ (self_1 : S_Count) (a_2 : Addr) (L_3 : List Cell) (R0 : Hp) (r : Bool), vs = [.ref a_2] ∧ Own R0 H (hAppend L_3 []) ∧ (o_Count ad) R0 a_2 L_3 self_1 ∧ m_Count_is_off self_1 = some r ∧ RetX R0 (hsub H (hAppend L_3 [])) (dK L_3 (dV (.bl r))) Q
abbrev N_Count_is_off : List Str := ["self"]
theorem sc_Count_is_off : FnScope N_Count_is_off ["self"] (defScope s_Count_is_off) := ⟨rfl, rfl, rfl, by decide +kernel, rfl, by decide +kernel, by decide +kernel⟩
theorem ok_Count_is_off {ad : Ad} (T : Txt K mg ad) : FnOk P w K mg base CX0 1 ad.f_Count_is_off ad.fd_Count_is_off ["self"] (sp_Count_is_off K ad) := by
  refine T.F_Count_is_off.ok sc_Count_is_off (fun vs H Q E h => ?_) (fun cdv A outer s H vs Q E hr h => ?_)
  · obtain ⟨_, _, _, _, _, rfl, _⟩ := h
    rfl
  · obtain ⟨self_1, a_2, L_3, R0, r, rfl, OO, hb_a_2, hm, k⟩ := h
    unfold m_Count_is_off at hm
    obtain ⟨Hb, hHb⟩ : ∃ Hb : Hp, Hb = hsub H (hAppend L_3 []) := ⟨_, rfl⟩
    obtain ⟨H0, hH0⟩ : ∃ H0 : Hp, H0 = Hb := ⟨Hb, rfl⟩
    have O : Own H0 H (hAppend L_3 []) := by rw [hH0, hHb]; exact OO.startX
    have eR : Ex R0 Hb := by rw [hHb]; exact OO.subR
    rw [← hHb] at k
    have eB : Ex Hb H0 := by rw [hH0]; exact Ex.refl _
    have eS : Ex R0 (ovr R0 Hb H0) := by rw [hH0]; exact ovr_start eR
    replace hb_a_2 := (mo_Count ad) _ _ _ _ _ eS hb_a_2
    clear hH0
    refine ⟨_, (pss_one (ps_ret (pe_cmpR op_ge (pe_fld (pv 0) rfl) (pe_gv rfl T.g_OFF) (nomark _)))), ?_⟩
    obtain ⟨dx_4, rfl⟩ := hb_a_2
    try simp only [n1, n2, n3, n4, n5, n6, n7] at O
    -- 102
    refine o_ret ?_
    refine ⟨_, rfl, a_2, _, _, _, _, rfl, (O.mem (hd_)), T.C_Count, T.N_Count_tally, lk_hit, _, _, rfl, rfl, ?_⟩
    obtain rfl := Option.some.inj hm
    exact k _ _ H0 _ eB (by exact (Own.pk O [0, 1] (by decide) rfl)) ⟨_, rfl, ⟨rfl, rfl⟩⟩
def m_Post_is_off (self_1 : S_Post) : Option (Bool) :=
  bnd (m_Count_is_off self_1.keep.count) fun is_off_21 =>
  some is_off_21
def sp_Post_is_off (K : PySem.W.Frag) (ad : Ad) : Sp := fun vs H Q _ => ∃ (self_1 : S_Post) (a_2 : Addr) (L_3 : List Cell) (R0 : Hp) (r : Bool), vs = [.ref a_2] ∧ Own R0 H (hAppend L_3 []) ∧ (o_Post ad) R0 a_2 L_3 self_1 ∧ m_Post_is_off self_1 = some r ∧ RetX R0 (hsub H (hAppend L_3 [])) (dK L_3 (dV (.bl r))) Q
abbrev N_Post_is_off : List Str := ["self"]
theorem sc_Post_is_off : FnScope N_Post_is_off ["self"] (defScope s_Post_is_off) := ⟨rfl, rfl, rfl, by decide +kernel, rfl, by decide +kernel, by decide +kernel⟩
theorem ok_Post_is_off {ad : Ad} (T : Txt K mg ad) : FnOk P w K mg base CX0 2 ad.f_Post_is_off ad.fd_Post_is_off ["self"] (sp_Post_is_off K ad) := by
  have G_Count_is_off := ok_Count_is_off (P := P) (w := w) (base := base) T
  refine T.F_Post_is_off.ok sc_Post_is_off (fun vs H Q E h => ?_) (fun cdv A outer s H vs Q E hr h => ?_)
  · obtain ⟨_, _, _, _, _, rfl, _⟩ := h
    rfl
  · obtain ⟨self_1, a_2, L_3, R0, r, rfl, OO, hb_a_2, hm, k⟩ := h
    unfold m_Post_is_off at hm
    obtain ⟨Hb, hHb⟩ : ∃ Hb : Hp, Hb = hsub H (hAppend L_3 []) := ⟨_, rfl⟩
    obtain ⟨H0, hH0⟩ : ∃ H0 : Hp, H0 = Hb := ⟨Hb, rfl⟩
    have O : Own H0 H (hAppend L_3 []) := by rw [hH0, hHb]; exact OO.startX
    have eR : Ex R0 Hb := by rw [hHb]; exact OO.subR
    rw [← hHb] at k
    have eB : Ex Hb H0 := by rw [hH0]; exact Ex.refl _
    have eS : Ex R0 (ovr R0 Hb H0) := by rw [hH0]; exact ovr_start eR
    replace hb_a_2 := (mo_Post ad) _ _ _ _ _ eS hb_a_2
    clear hH0
    refine ⟨_, (pss_one (ps_ret (pe_meth0 (pe_fld (pe_fld (pv 0) rfl) rfl) T.C_Count T.M_Count_is_off G_Count_is_off (hr.mono (by decide)) T.b_Count_is_off .nil pass0))), ?_⟩
    obtain ⟨dx_4, a_5, L_6, a_8, L_9, rfl, h7, h10⟩ := hb_a_2
    replace O := Own.cv (L' := ((a_2, x_Post ad dx_4 a_5 a_8) :: ((dx_4, .own a_2) :: (hAppend L_6 (hAppend L_9 []))))) O (by first | with_reducible rfl | simp only [n1, n2, n3, n4, n5, n6, n7])
    -- 189
    refine o_ret ?_
    refine ⟨_, rfl, ?_⟩
    obtain ⟨dx_11, p_12, p_13, vs_14, p_15, vs_16, a_17, L_18, rfl, ha_p_13, ha_p_15, h19⟩ := h7
    replace O := Own.cv (L' := ((a_2, x_Post ad dx_4 a_5 a_8) :: ((dx_4, .own a_2) :: ((a_5, x_Keep ad dx_11 p_12 self_1.keep.votes p_13 p_15 a_17) :: ((dx_11, .own a_5) :: ((p_12, .tup [V.int self_1.keep.choice.1, V.int self_1.keep.choice.2]) :: ((p_13, .lst vs_14) :: ((p_15, .lst vs_16) :: (hAppend L_18 (hAppend L_9 [])))))))))) O (by first | with_reducible rfl | simp only [n1, n2, n3, n4, n5, n6, n7])
    refine ⟨a_2, _, _, _, _, rfl, (O.mem (hd_)), T.C_Post, T.N_Post_keep, lk_hit, ?_⟩
    obtain ⟨dx_20, rfl⟩ := h19
    replace O := Own.cv (L' := ((a_2, x_Post ad dx_4 a_5 a_8) :: ((dx_4, .own a_2) :: ((a_5, x_Keep ad dx_11 p_12 self_1.keep.votes p_13 p_15 a_17) :: ((dx_11, .own a_5) :: ((p_12, .tup [V.int self_1.keep.choice.1, V.int self_1.keep.choice.2]) :: ((p_13, .lst vs_14) :: ((p_15, .lst vs_16) :: ((a_17, x_Count ad dx_20 self_1.keep.count.tally) :: ((dx_20, .own a_17) :: (hAppend L_9 []))))))))))) O (by first | with_reducible rfl | simp only [n1, n2, n3, n4, n5, n6, n7])
    refine ⟨a_5, _, _, _, _, rfl, (O.mem (tl_ (tl_ (hd_)))), T.C_Keep, T.N_Keep_count, (lk_skip (by decide) (lk_skip (by decide) (lk_skip (by decide) (lk_skip (by decide) lk_hit)))), a_17, _, _, rfl, (O.mem (tl_ (tl_ (tl_ (tl_ (tl_ (tl_ (tl_ (hd_))))))))), (lk_skip (by decide) lk_nil), ?_⟩
    refine x_nil ?_
    obtain ⟨is_off_21, h22, hm⟩ := bndE hm
    have Oc : Own H0 H (hAppend (hAppend ((a_17, x_Count ad dx_20 self_1.keep.count.tally) :: (dx_20, .own a_17) :: []) []) ((a_2, x_Post ad dx_4 a_5 a_8) :: ((dx_4, .own a_2) :: ((a_5, x_Keep ad dx_11 p_12 self_1.keep.votes p_13 p_15 a_17) :: ((dx_11, .own a_5) :: ((p_12, .tup [V.int self_1.keep.choice.1, V.int self_1.keep.choice.2]) :: ((p_13, .lst vs_14) :: ((p_15, .lst vs_16) :: (hAppend L_9 []))))))))) := (Own.pkB O [[_], [_], [_], [_], [_], [_], [_], [_], [_], _] rfl [7, 8, 0, 1, 2, 3, 4, 5, 6, 9] (by decide) (by simp only [g1, g2, g3, g4, n2, n3, n4, n5, n6, n7]))
    refine ⟨self_1.keep.count, a_17, _, ovr R0 Hb H0, is_off_21, rfl, (Own.shrink Oc.left ovr_ex), ⟨dx_20, rfl⟩, h22, ?_⟩
    refine Oc.retXO (mdK mdV) eB fun w_23 H H0 L_24 O e_ d_ => ?_
    replace h10 := (mo_Free ad a_5) _ _ _ _ _ (ovr_mono e_) h10
    replace ha_p_13 := mA (mT2 mI (mL mI)) (ovr_mono e_) ha_p_13
    replace ha_p_15 := mA (mT2 mI (mL mI)) (ovr_mono e_) ha_p_15
    replace eB := eB.trans e_
    obtain ⟨L_25, rfl, ⟨rfl, rfl⟩⟩ := d_
    replace O := Own.cv (L' := ((a_17, x_Count ad dx_20 self_1.keep.count.tally) :: ((dx_20, .own a_17) :: ((a_2, x_Post ad dx_4 a_5 a_8) :: ((dx_4, .own a_2) :: ((a_5, x_Keep ad dx_11 p_12 self_1.keep.votes p_13 p_15 a_17) :: ((dx_11, .own a_5) :: ((p_12, .tup [V.int self_1.keep.choice.1, V.int self_1.keep.choice.2]) :: ((p_13, .lst vs_14) :: ((p_15, .lst vs_16) :: (hAppend L_9 []))))))))))) O (by first | with_reducible rfl | simp only [n1, n2, n3, n4, n5, n6, n7])
    obtain rfl := Option.some.inj hm
    exact k _ _ H0 (hAppend ((a_2, x_Post ad dx_4 a_5 a_8) :: (dx_4, .own a_2) :: (hAppend ((a_5, x_Keep ad dx_11 p_12 self_1.keep.votes p_13 p_15 a_17) :: (dx_11, .own a_5) :: ((p_12, .tup [V.int self_1.keep.choice.1, V.int self_1.keep.choice.2]) :: ((p_13, .lst vs_14) :: ((p_15, .lst vs_16) :: (hAppend ((a_17, x_Count ad dx_20 self_1.keep.count.tally) :: (dx_20, .own a_17) :: []) []))))) (hAppend L_9 []))) []) eB (by exact (Own.pkB O [[_], [_], [_], [_], [_], [_], [_], [_], [_], _] rfl [2, 3, 4, 5, 6, 7, 8, 0, 1, 9] (by decide) (by simp only [g1, g2, g3, g4, n2, n3, n4, n5, n6, n7]))) ⟨_, rfl, ⟨rfl, rfl⟩⟩
def m__law_new (post_1 : S_Post) : Option (Bool) :=
  bnd (m_Post_stance post_1) fun stance_13 =>
  bnd (okD (dqT2 dqS (De.q deI)).d stance_13) fun u_20 =>
  bnd (okD (dqT2 dqS (De.q deI)).d (("free" : Str), (0 : Int))) fun u_22 =>
  bnd (ifB (!decide ((stance_13 : Str × Int) = (("free" : Str), (0 : Int)))) (some true) (bnd (m_Post_waits post_1) fun waits_26 =>
  bnd (ifB (!decide ((waits_26 : List (Int × (List Int))) = ([] : List (Int × (List Int))))) (some true) (bnd (m_Post_got post_1) fun got_36 =>
  bnd (ifB (!decide ((got_36 : List (Int × (List Int))) = ([] : List (Int × (List Int))))) (some true) (bnd (m_Post_says post_1) fun says_44 => some (!decide (says_44 = (1 : Int))))) fun c_49 => some c_49)) fun c_51 => some c_51)) fun c_53 =>
  ifB c_53 (
    some false) (
    bnd (m_Post_faults post_1) fun faults_56 =>
    ifB ((!true) || (false || (!decide (faults_56 = (0 : Int))))) (
      some false) (
      bnd (m_Post_is_quiet post_1) fun is_qui_68 =>
      bnd (ifB (decide (is_qui_68 = false)) (bnd (m_Post_is_off post_1) fun is_off_73 => some (decide (is_off_73 = false))) (some false)) fun c_78 =>
      some c_78))
def sp__law_new (K : PySem.W.Frag) (ad : Ad) : Sp := fun vs H Q _ => ∃ (post_1 : S_Post) (a_2 : Addr) (L_3 : List Cell) (R0 : Hp) (r : Bool), vs = [.ref a_2] ∧ Own R0 H (hAppend L_3 []) ∧ (o_Post ad) R0 a_2 L_3 post_1 ∧ m__law_new post_1 = some r ∧ RetX R0 (hsub H (hAppend L_3 [])) (dK L_3 (dV (.bl r))) Q
abbrev N__law_new : List Str := ["post", "number"]
theorem sc__law_new : FnScope N__law_new ["post"] (defScope s__law_new) := ⟨rfl, rfl, rfl, by decide +kernel, rfl, by decide +kernel, by decide +kernel⟩
theorem ok__law_new {ad : Ad} (T : Txt K mg ad) : FnOk P w K mg base CX0 4 ad.f__law_new ad.fd__law_new ["post"] (sp__law_new K ad) := by
  have G_Post_faults := ok_Post_faults (P := P) (w := w) (base := base) T
  have G_Post_got := ok_Post_got (P := P) (w := w) (base := base) T
  have G_Post_is_off := ok_Post_is_off (P := P) (w := w) (base := base) T
  have G_Post_is_quiet := ok_Post_is_quiet (P := P) (w := w) (base := base) T
  have G_Post_says := ok_Post_says (P := P) (w := w) (base := base) T
  have G_Post_stance := ok_Post_stance (P := P) (w := w) (base := base) T
  have G_Post_waits := ok_Post_waits (P := P) (w := w) (base := base) T
  refine T.F__law_new.ok sc__law_new (fun vs H Q E h => ?_) (fun cdv A outer s H vs Q E hr h => ?_)
  · obtain ⟨_, _, _, _, _, rfl, _⟩ := h
    rfl
  · obtain ⟨post_1, a_2, L_3, R0, r, rfl, OO, hb_a_2, hm, k⟩ := h
    unfold m__law_new at hm
    obtain ⟨Hb, hHb⟩ : ∃ Hb : Hp, Hb = hsub H (hAppend L_3 []) := ⟨_, rfl⟩
    obtain ⟨H0, hH0⟩ : ∃ H0 : Hp, H0 = Hb := ⟨Hb, rfl⟩
    have O : Own H0 H (hAppend L_3 []) := by rw [hH0, hHb]; exact OO.startX
    have eR : Ex R0 Hb := by rw [hHb]; exact OO.subR
    rw [← hHb] at k
    have eB : Ex Hb H0 := by rw [hH0]; exact Ex.refl _
    have eS : Ex R0 (ovr R0 Hb H0) := by rw [hH0]; exact ovr_start eR
    replace hb_a_2 := (mo_Post ad) _ _ _ _ _ eS hb_a_2
    clear hH0
    refine ⟨_, (pss_cons (ps_if (PW.pt (pw_or (pt_cmpR (r := rNeD K) (op_neD hr.units) (pe_meth0 (pv 0) T.C_Post T.M_Post_stance G_Post_stance (hr.mono (by decide)) T.b_Post_stance .nil pass0) (pe_tupQ (pe_tup (pa_cons pe_str (pa_cons pe_int pa_nil)))) (nomark _)) (pw_or (pt_cmpR (r := rNeD K) (op_neD hr.units) (pe_meth0 (pv 0) T.C_Post T.M_Post_waits G_Post_waits (hr.mono (by decide)) T.b_Post_waits .nil pass0) (pe_lstQ (pe_lst pa_nil)) (nomark _)) (pw_or (pt_cmpR (r := rNeD K) (op_neD hr.units) (pe_meth0 (pv 0) T.C_Post T.M_Post_got G_Post_got (hr.mono (by decide)) T.b_Post_got .nil pass0) (pe_lstQ (pe_lst pa_nil)) (nomark _)) (pw_or1 (pt_cmpR op_ne (pe_meth0 (pv 0) T.C_Post T.M_Post_says G_Post_says (hr.mono (by decide)) T.b_Post_says .nil pass0) pe_int (nomark _))))))) (pss_one (ps_ret pe_bl)) pss_nil) (pss_cons (ps_set (i := 1) sc__law_new.nd rfl (Or.inl rfl) (pe_meth0 (pv 0) T.C_Post T.M_Post_faults G_Post_faults (hr.mono (by decide)) T.b_Post_faults .nil pass0)) (pss_cons (ps_if (PW.pt (pw_or (pt_not (pt_val (pe_callB (r := rIsi K) call_isi (by rfl) T.z_isinstance (by decide +kernel) (pa_cons (pv 1) (pa_cons (pe_bltn (v := V.ty "int") (u := .type "int") (by rfl) T.z_int (by decide +kernel) rfl) pa_nil))))) (pw_or (pt_val (pe_callB (r := rIsi K) call_isi (by rfl) T.z_isinstance (by decide +kernel) (pa_cons (pv 1) (pa_cons (pe_bltn (v := V.ty "bool") (u := .type "bool") (by rfl) T.z_bool (by decide +kernel) rfl) pa_nil)))) (pw_or1 (pt_cmpR op_ne (pv 1) pe_int (nomark _)))))) (pss_one (ps_ret pe_bl)) pss_nil) (pss_one (ps_ret (pe_and (pe_cmpR op_isBl (pe_meth0 (pv 0) T.C_Post T.M_Post_is_quiet G_Post_is_quiet (hr.mono (by decide)) T.b_Post_is_quiet .nil pass0) pe_bl (nomark _)) (pe_one (pe_cmpR op_isBl (pe_meth0 (pv 0) T.C_Post T.M_Post_is_off G_Post_is_off (hr.mono (by decide)) T.b_Post_is_off .nil pass0) pe_bl (nomark _))))))))), ?_⟩
    obtain ⟨dx_4, a_5, L_6, a_8, L_9, rfl, h7, h10⟩ := hb_a_2
    replace O := Own.cv (L' := ((a_2, x_Post ad dx_4 a_5 a_8) :: ((dx_4, .own a_2) :: (hAppend L_6 (hAppend L_9 []))))) O (by first | with_reducible rfl | simp only [n1, n2, n3, n4, n5, n6, n7])
    -- 230
    refine o_seq ?_
    refine o_ifs ?_
    obtain ⟨stance_13, h14, hm⟩ := bndE hm
    obtain ⟨u_20, h21, hm⟩ := bndE hm
    obtain ⟨u_22, h23, hm⟩ := bndE hm
    obtain ⟨c_53, h54, hm⟩ := bndE hm
    refine x_orJ (c := (!decide ((stance_13 : Str × Int) = (("free" : Str), (0 : Int))))) (e := c_53) (d := c_53) (fun H => ∃ (R_ : Hp), Ex H0 R_ ∧ Own R_ H ((a_2, x_Post ad dx_4 a_5 a_8) :: ((dx_4, .own a_2) :: (hAppend L_6 (hAppend L_9 []))))) (fun Q1 k1 => ?_) (fun h11 => ⟨rfl, fun H hJ Q2 k2 => ?_⟩) (fun h11 => Option.some.inj (ifT h54 h11)) (fun H hJ => ?_)
    · have eJ12 : Ex H0 H0 := Ex.refl _
      refine ⟨_, rfl, a_2, _, _, rfl, (O.mem (hd_)), (lk_skip (by decide) (lk_skip (by decide) lk_nil)), ?_⟩
      refine x_nil ?_
      have Oc : Own H0 H (hAppend (hAppend ((a_2, x_Post ad dx_4 a_5 a_8) :: (dx_4, .own a_2) :: (hAppend L_6 (hAppend L_9 []))) []) []) := (Own.pkB O [[_], [_], _, _] rfl [0, 1, 2, 3] (by decide) (by simp only [g1, g2, g3, g4, n2, n3, n4, n5, n6, n7]))
      refine ⟨post_1, a_2, _, ovr R0 Hb H0, stance_13, rfl, (Own.shrink Oc.left ovr_ex), ⟨dx_4, a_5, L_6, a_8, L_9, rfl, h7, h10⟩, h14, ?_⟩
      refine Oc.retXO (mdK mdTp) eB fun w_15 H H0 L_16 O e_ d_ => ?_
      replace h7 := (mo_Keep ad) _ _ _ _ _ (ovr_mono e_) h7
      replace h10 := (mo_Free ad a_5) _ _ _ _ _ (ovr_mono e_) h10
      replace eB := eB.trans e_
      replace eJ12 := eJ12.trans e_
      obtain ⟨L_18, rfl, ⟨p_17, rfl, rfl⟩⟩ := d_
      replace O := Own.cv (L' := ((a_2, x_Post ad dx_4 a_5 a_8) :: ((dx_4, .own a_2) :: (hAppend L_6 (hAppend L_9 ((p_17, .tup [V.str stance_13.1, V.int stance_13.2]) :: [])))))) O (by first | with_reducible rfl | simp only [n1, n2, n3, n4, n5, n6, n7])
      replace O := (Own.pkB (L' := ((a_2, x_Post ad dx_4 a_5 a_8) :: ((dx_4, .own a_2) :: ((p_17, .tup [V.str stance_13.1, V.int stance_13.2]) :: (hAppend L_6 (hAppend L_9 [])))))) O [[_], [_], _, _, [_]] rfl [0, 1, 4, 2, 3] (by decide) rfl)
      refine o_cons ?_
      refine o_c ?_
      refine o_cons ?_
      refine o_c ?_
      refine x_nil ?_
      refine n_tup O (by show 2 ≤ sizeLine; decide) fun p_19 H O => ?_
      refine k_neQ (x := stance_13) (y := (("free" : Str), (0 : Int))) (dqT2 dqS (De.q deI)) (mT2 mS mI) (by decide) (okDE h21) (okDE h23) ⟨_, _, _, rfl, (O.mem (tl_ (tl_ (tl_ (hd_))))), rfl, rfl⟩ (Ex.refl _) ⟨_, _, _, rfl, (O.mem (hd_)), rfl, rfl⟩ (Ex.refl _) ?_
      refine ⟨_, rfl, ?_⟩
      replace O := (Own.pkB (L' := ((a_2, x_Post ad dx_4 a_5 a_8) :: ((dx_4, .own a_2) :: (hAppend L_6 (hAppend L_9 []))))) O [[_], [_], [_], [_], _, _] rfl [1, 2, 4, 5] (by decide) rfl)
      exact k1 _ ⟨H0, eJ12, (Own.pkB (L' := ((a_2, x_Post ad dx_4 a_5 a_8) :: ((dx_4, .own a_2) :: (hAppend L_6 (hAppend L_9 []))))) O [[_], [_], _, _] rfl [0, 1, 2, 3] (by decide) rfl)⟩
    · replace hm := ifF h54 h11
      obtain ⟨waits_26, h27, hm⟩ := bndE hm
      obtain ⟨c_51, h52, hm⟩ := bndE hm
      obtain rfl := Option.some.inj hm
      obtain ⟨H0, eJ12, O⟩ := hJ
      replace h7 := (mo_Keep ad) _ _ _ _ _ (ovr_mono eJ12) h7
      replace h10 := (mo_Free ad a_5) _ _ _ _ _ (ovr_mono eJ12) h10
      replace eB := eB.trans eJ12
      refine x_orJ (c := (!decide ((waits_26 : List (Int × (List Int))) = ([] : List (Int × (List Int)))))) (e := c_51) (d := c_51) (fun H => ∃ (R_ : Hp), Ex H0 R_ ∧ Own R_ H ((a_2, x_Post ad dx_4 a_5 a_8) :: ((dx_4, .own a_2) :: (hAppend L_6 (hAppend L_9 []))))) (fun Q1 k1 => ?_) (fun h24 => ⟨rfl, fun H hJ Q2 k2 => ?_⟩) (fun h24 => Option.some.inj (ifT h52 h24)) (fun H hJ => ?_)
      · have eJ25 : Ex H0 H0 := Ex.refl _
        refine ⟨_, rfl, a_2, _, _, rfl, (O.mem (hd_)), (lk_skip (by decide) (lk_skip (by decide) lk_nil)), ?_⟩
        refine x_nil ?_
        have Oc : Own H0 H (hAppend (hAppend ((a_2, x_Post ad dx_4 a_5 a_8) :: (dx_4, .own a_2) :: (hAppend L_6 (hAppend L_9 []))) []) []) := (Own.pkB O [[_], [_], _, _] rfl [0, 1, 2, 3] (by decide) (by simp only [g1, g2, g3, g4, n2, n3, n4, n5, n6, n7]))
        refine ⟨post_1, a_2, _, ovr R0 Hb H0, ovr R0 Hb H0, waits_26, rfl, (Own.shrink Oc.left ovr_ex), (Ex.refl _), ⟨dx_4, a_5, L_6, a_8, L_9, rfl, h7, h10⟩, h27, ?_⟩
        refine Oc.retXO (mdK (mdP (mL (mT2 mI (mL mI))))) eB fun w_28 H H0 L_29 O e_ d_ => ?_
        replace h7 := (mo_Keep ad) _ _ _ _ _ (ovr_mono e_) h7
        replace h10 := (mo_Free ad a_5) _ _ _ _ _ (ovr_mono e_) h10
        replace eB := eB.trans e_
        replace eJ12 := eJ12.trans e_
        replace eJ25 := eJ25.trans e_
        obtain ⟨L_31, rfl, ⟨rfl, h30⟩⟩ := d_
        replace O := Own.cv (L' := ((a_2, x_Post ad dx_4 a_5 a_8) :: ((dx_4, .own a_2) :: (hAppend L_6 (hAppend L_9 []))))) O (by first | with_reducible rfl | simp only [n1, n2, n3, n4, n5, n6, n7])
        obtain ⟨p_32, rfl⟩ := rL_ref h30
        have hn_p_32 := h30
        refine x_nil ?_
        refine n_lst (f := V.int) (xs := ([] : List Int)) O rfl (Nat.zero_le _) fun p_33 H O => ?_
        refine k_neN (x := waits_26) (y := ([] : List (Int × (List Int)))) (deL (deT2 deI (deL deI))) (mL (mT2 mI (mL mI))) (by decide) ((mL (mT2 mI (mL mI))) _ _ _ _ (ovr_ex.trans O.ex) hn_p_32) (Ex.refl _) ⟨_, [], rfl, (O.mem (hd_)), .nil⟩ (Ex.refl _) ?_
        refine ⟨_, rfl, ?_⟩
        replace O := (Own.pkB (L' := ((a_2, x_Post ad dx_4 a_5 a_8) :: ((dx_4, .own a_2) :: (hAppend L_6 (hAppend L_9 []))))) O [[_], [_], [_], _, _] rfl [1, 2, 3, 4] (by decide) rfl)
        exact k1 _ ⟨H0, eJ25, (Own.pkB (L' := ((a_2, x_Post ad dx_4 a_5 a_8) :: ((dx_4, .own a_2) :: (hAppend L_6 (hAppend L_9 []))))) O [[_], [_], _, _] rfl [0, 1, 2, 3] (by decide) rfl)⟩
      · replace hm := ifF h52 h24
        obtain ⟨got_36, h37, hm⟩ := bndE hm
        obtain ⟨c_49, h50, hm⟩ := bndE hm
        obtain rfl := Option.some.inj hm
        obtain ⟨H0, eJ25, O⟩ := hJ
        replace h7 := (mo_Keep ad) _ _ _ _ _ (ovr_mono eJ25) h7
        replace h10 := (mo_Free ad a_5) _ _ _ _ _ (ovr_mono eJ25) h10
        replace eB := eB.trans eJ25
        replace eJ12 := eJ12.trans eJ25
        refine x_orJ (c := (!decide ((got_36 : List (Int × (List Int))) = ([] : List (Int × (List Int)))))) (e := c_49) (d := c_49) (fun H => ∃ (R_ : Hp), Ex H0 R_ ∧ Own R_ H ((a_2, x_Post ad dx_4 a_5 a_8) :: ((dx_4, .own a_2) :: (hAppend L_6 (hAppend L_9 []))))) (fun Q1 k1 => ?_) (fun h34 => ⟨rfl, fun H hJ Q2 k2 => ?_⟩) (fun h34 => Option.some.inj (ifT h50 h34)) (fun H hJ => ?_)
        · have eJ35 : Ex H0 H0 := Ex.refl _
          refine ⟨_, rfl, a_2, _, _, rfl, (O.mem (hd_)), (lk_skip (by decide) (lk_skip (by decide) lk_nil)), ?_⟩
          refine x_nil ?_
          have Oc : Own H0 H (hAppend (hAppend ((a_2, x_Post ad dx_4 a_5 a_8) :: (dx_4, .own a_2) :: (hAppend L_6 (hAppend L_9 []))) []) []) := (Own.pkB O [[_], [_], _, _] rfl [0, 1, 2, 3] (by decide) (by simp only [g1, g2, g3, g4, n2, n3, n4, n5, n6, n7]))
          refine ⟨post_1, a_2, _, ovr R0 Hb H0, ovr R0 Hb H0, got_36, rfl, (Own.shrink Oc.left ovr_ex), (Ex.refl _), ⟨dx_4, a_5, L_6, a_8, L_9, rfl, h7, h10⟩, h37, ?_⟩
          refine Oc.retXO (mdK (mdP (mL (mT2 mI (mL mI))))) eB fun w_38 H H0 L_39 O e_ d_ => ?_
          replace h7 := (mo_Keep ad) _ _ _ _ _ (ovr_mono e_) h7
          replace h10 := (mo_Free ad a_5) _ _ _ _ _ (ovr_mono e_) h10
          replace eB := eB.trans e_
          replace eJ12 := eJ12.trans e_
          replace eJ25 := eJ25.trans e_
          replace eJ35 := eJ35.trans e_
          obtain ⟨L_41, rfl, ⟨rfl, h40⟩⟩ := d_
          replace O := Own.cv (L' := ((a_2, x_Post ad dx_4 a_5 a_8) :: ((dx_4, .own a_2) :: (hAppend L_6 (hAppend L_9 []))))) O (by first | with_reducible rfl | simp only [n1, n2, n3, n4, n5, n6, n7])
          obtain ⟨p_42, rfl⟩ := rL_ref h40
          have hn_p_42 := h40
          refine x_nil ?_
          refine n_lst (f := V.int) (xs := ([] : List Int)) O rfl (Nat.zero_le _) fun p_43 H O => ?_
          refine k_neN (x := got_36) (y := ([] : List (Int × (List Int)))) (deL (deT2 deI (deL deI))) (mL (mT2 mI (mL mI))) (by decide) ((mL (mT2 mI (mL mI))) _ _ _ _ (ovr_ex.trans O.ex) hn_p_42) (Ex.refl _) ⟨_, [], rfl, (O.mem (hd_)), .nil⟩ (Ex.refl _) ?_
          refine ⟨_, rfl, ?_⟩
          replace O := (Own.pkB (L' := ((a_2, x_Post ad dx_4 a_5 a_8) :: ((dx_4, .own a_2) :: (hAppend L_6 (hAppend L_9 []))))) O [[_], [_], [_], _, _] rfl [1, 2, 3, 4] (by decide) rfl)
          exact k1 _ ⟨H0, eJ35, (Own.pkB (L' := ((a_2, x_Post ad dx_4 a_5 a_8) :: ((dx_4, .own a_2) :: (hAppend L_6 (hAppend L_9 []))))) O [[_], [_], _, _] rfl [0, 1, 2, 3] (by decide) rfl)⟩
        · replace hm := ifF h50 h34
          obtain ⟨says_44, h45, hm⟩ := bndE hm
          obtain rfl := Option.some.inj hm
          obtain ⟨H0, eJ35, O⟩ := hJ
          replace h7 := (mo_Keep ad) _ _ _ _ _ (ovr_mono eJ35) h7
          replace h10 := (mo_Free ad a_5) _ _ _ _ _ (ovr_mono eJ35) h10
          replace eB := eB.trans eJ35
          replace eJ12 := eJ12.trans eJ35
          replace eJ25 := eJ25.trans eJ35
          refine ⟨_, rfl, a_2, _, _, rfl, (O.mem (hd_)), (lk_skip (by decide) (lk_skip (by decide) lk_nil)), ?_⟩
          refine x_nil ?_
          have Oc : Own H0 H (hAppend (hAppend ((a_2, x_Post ad dx_4 a_5 a_8) :: (dx_4, .own a_2) :: (hAppend L_6 (hAppend L_9 []))) []) []) := (Own.pkB O [[_], [_], _, _] rfl [0, 1, 2, 3] (by decide) (by simp only [g1, g2, g3, g4, n2, n3, n4, n5, n6, n7]))
          refine ⟨post_1, a_2, _, ovr R0 Hb H0, says_44, rfl, (Own.shrink Oc.left ovr_ex), ⟨dx_4, a_5, L_6, a_8, L_9, rfl, h7, h10⟩, h45, ?_⟩
          refine Oc.retXO (mdK mdV) eB fun w_46 H H0 L_47 O e_ d_ => ?_
          replace h7 := (mo_Keep ad) _ _ _ _ _ (ovr_mono e_) h7
          replace h10 := (mo_Free ad a_5) _ _ _ _ _ (ovr_mono e_) h10
          replace eB := eB.trans e_
          replace eJ12 := eJ12.trans e_
          replace eJ25 := eJ25.trans e_
          replace eJ35 := eJ35.trans e_
          obtain ⟨L_48, rfl, ⟨rfl, rfl⟩⟩ := d_
          replace O := Own.cv (L' := ((a_2, x_Post ad dx_4 a_5 a_8) :: ((dx_4, .own a_2) :: (hAppend L_6 (hAppend L_9 []))))) O (by first | with_reducible rfl | simp only [n1, n2, n3, n4, n5, n6, n7])
          refine o_c ?_
          refine k_neI ?_
          refine ⟨_, rfl, ?_⟩
          exact k2 _ ⟨H0, eJ35, (Own.pkB (L' := ((a_2, x_Post ad dx_4 a_5 a_8) :: ((dx_4, .own a_2) :: (hAppend L_6 (hAppend L_9 []))))) O [[_], [_], _, _] rfl [0, 1, 2, 3] (by decide) rfl)⟩
        obtain ⟨H0, eJ35, O⟩ := hJ
        replace h7 := (mo_Keep ad) _ _ _ _ _ (ovr_mono eJ35) h7
        replace h10 := (mo_Free ad a_5) _ _ _ _ _ (ovr_mono eJ35) h10
        replace eB := eB.trans eJ35
        replace eJ12 := eJ12.trans eJ35
        replace eJ25 := eJ25.trans eJ35
        exact k2 _ ⟨H0, eJ25, (Own.pkB (L' := ((a_2, x_Post ad dx_4 a_5 a_8) :: ((dx_4, .own a_2) :: (hAppend L_6 (hAppend L_9 []))))) O [[_], [_], _, _] rfl [0, 1, 2, 3] (by decide) rfl)⟩
      obtain ⟨H0, eJ25, O⟩ := hJ
      replace h7 := (mo_Keep ad) _ _ _ _ _ (ovr_mono eJ25) h7
      replace h10 := (mo_Free ad a_5) _ _ _ _ _ (ovr_mono eJ25) h10
      replace eB := eB.trans eJ25
      replace eJ12 := eJ12.trans eJ25
      exact k2 _ ⟨H0, eJ12, (Own.pkB (L' := ((a_2, x_Post ad dx_4 a_5 a_8) :: ((dx_4, .own a_2) :: (hAppend L_6 (hAppend L_9 []))))) O [[_], [_], _, _] rfl [0, 1, 2, 3] (by decide) rfl)⟩
    obtain ⟨H0, eJ12, O⟩ := hJ
    replace h7 := (mo_Keep ad) _ _ _ _ _ (ovr_mono eJ12) h7
    replace h10 := (mo_Free ad a_5) _ _ _ _ _ (ovr_mono eJ12) h10
    replace eB := eB.trans eJ12
    refine iteS (c := c_53) (fun h55 => ?_) (fun h55 => ?_)
    · replace hm := ifT hm h55
      -- 231
      refine o_ret ?_
      refine o_c ?_
      obtain rfl := Option.some.inj hm
      exact k _ _ H0 (hAppend ((a_2, x_Post ad dx_4 a_5 a_8) :: (dx_4, .own a_2) :: (hAppend L_6 (hAppend L_9 []))) []) eB (by exact (Own.pkB O [[_], [_], _, _] rfl [0, 1, 2, 3] (by decide) (by simp only [g1, g2, g3, g4, n2, n3, n4, n5, n6, n7]))) ⟨_, rfl, ⟨rfl, rfl⟩⟩
    · replace hm := ifF hm h55
      refine o_next ?_
      -- 232
      refine o_seq ?_
      refine o_asg ?_
      refine ⟨_, rfl, a_2, _, _, rfl, (O.mem (hd_)), (lk_skip (by decide) (lk_skip (by decide) lk_nil)), ?_⟩
      refine x_nil ?_
      obtain ⟨faults_56, h57, hm⟩ := bndE hm
      have Oc : Own H0 H (hAppend (hAppend ((a_2, x_Post ad dx_4 a_5 a_8) :: (dx_4, .own a_2) :: (hAppend L_6 (hAppend L_9 []))) []) []) := (Own.pkB O [[_], [_], _, _] rfl [0, 1, 2, 3] (by decide) (by simp only [g1, g2, g3, g4, n2, n3, n4, n5, n6, n7]))
      refine ⟨post_1, a_2, _, ovr R0 Hb H0, faults_56, rfl, (Own.shrink Oc.left ovr_ex), ⟨dx_4, a_5, L_6, a_8, L_9, rfl, h7, h10⟩, h57, ?_⟩
      refine Oc.retXO (mdK mdV) eB fun w_58 H H0 L_59 O e_ d_ => ?_
      replace h7 := (mo_Keep ad) _ _ _ _ _ (ovr_mono e_) h7
      replace h10 := (mo_Free ad a_5) _ _ _ _ _ (ovr_mono e_) h10
      replace eB := eB.trans e_
      obtain ⟨L_60, rfl, ⟨rfl, rfl⟩⟩ := d_
      replace O := Own.cv (L' := ((a_2, x_Post ad dx_4 a_5 a_8) :: ((dx_4, .own a_2) :: (hAppend L_6 (hAppend L_9 []))))) O (by first | with_reducible rfl | simp only [n1, n2, n3, n4, n5, n6, n7])
      -- 233
      refine o_seq ?_
      refine o_ifs ?_
      refine x_orJ (c := (!true)) (e := (false || (!decide (faults_56 = (0 : Int))))) (d := ((!true) || (false || (!decide (faults_56 = (0 : Int)))))) (fun H => ∃ (R_ : Hp), Ex H0 R_ ∧ Own R_ H ((a_2, x_Post ad dx_4 a_5 a_8) :: ((dx_4, .own a_2) :: (hAppend L_6 (hAppend L_9 []))))) (fun Q1 k1 => ?_) (fun h61 => ⟨by rw [h61]; rfl, fun H hJ Q2 k2 => ?_⟩) (fun h61 => by rw [h61]; rfl) (fun H hJ => ?_)
      · have eJ62 : Ex H0 H0 := Ex.refl _
        refine ⟨_, rfl, _, _, _, _, true, rfl, .ty _, .base (.int _), kit_ty (by decide +kernel), _, rfl, ?_⟩
        exact k1 _ ⟨H0, eJ62, (Own.pkB (L' := ((a_2, x_Post ad dx_4 a_5 a_8) :: ((dx_4, .own a_2) :: (hAppend L_6 (hAppend L_9 []))))) O [[_], [_], _, _] rfl [0, 1, 2, 3] (by decide) rfl)⟩
      · obtain ⟨H0, eJ62, O⟩ := hJ
        replace h7 := (mo_Keep ad) _ _ _ _ _ (ovr_mono eJ62) h7
        replace h10 := (mo_Free ad a_5) _ _ _ _ _ (ovr_mono eJ62) h10
        replace eB := eB.trans eJ62
        refine x_orJ (c := false) (e := (!decide (faults_56 = (0 : Int)))) (d := (false || (!decide (faults_56 = (0 : Int))))) (fun H => ∃ (R_ : Hp), Ex H0 R_ ∧ Own R_ H ((a_2, x_Post ad dx_4 a_5 a_8) :: ((dx_4, .own a_2) :: (hAppend L_6 (hAppend L_9 []))))) (fun Q1 k1 => ?_) (fun h63 => ⟨by rw [h63]; rfl, fun H hJ Q2 k2 => ?_⟩) (fun h63 => by rw [h63]; rfl) (fun H hJ => ?_)
        · have eJ64 : Ex H0 H0 := Ex.refl _
          refine ⟨_, rfl, _, _, _, _, false, rfl, .ty _, .base (.int _), kit_ty (by decide +kernel), _, rfl, ?_⟩
          exact k1 _ ⟨H0, eJ64, (Own.pkB (L' := ((a_2, x_Post ad dx_4 a_5 a_8) :: ((dx_4, .own a_2) :: (hAppend L_6 (hAppend L_9 []))))) O [[_], [_], _, _] rfl [0, 1, 2, 3] (by decide) rfl)⟩
        · obtain ⟨H0, eJ64, O⟩ := hJ
          replace h7 := (mo_Keep ad) _ _ _ _ _ (ovr_mono eJ64) h7
          replace h10 := (mo_Free ad a_5) _ _ _ _ _ (ovr_mono eJ64) h10
          replace eB := eB.trans eJ64
          replace eJ62 := eJ62.trans eJ64
          refine ⟨_, rfl, ?_⟩
          refine o_c ?_
          refine k_neI ?_
          refine ⟨_, rfl, ?_⟩
          exact k2 _ ⟨H0, eJ64, (Own.pkB (L' := ((a_2, x_Post ad dx_4 a_5 a_8) :: ((dx_4, .own a_2) :: (hAppend L_6 (hAppend L_9 []))))) O [[_], [_], _, _] rfl [0, 1, 2, 3] (by decide) rfl)⟩
        obtain ⟨H0, eJ64, O⟩ := hJ
        replace h7 := (mo_Keep ad) _ _ _ _ _ (ovr_mono eJ64) h7
        replace h10 := (mo_Free ad a_5) _ _ _ _ _ (ovr_mono eJ64) h10
        replace eB := eB.trans eJ64
        replace eJ62 := eJ62.trans eJ64
        exact k2 _ ⟨H0, eJ62, (Own.pkB (L' := ((a_2, x_Post ad dx_4 a_5 a_8) :: ((dx_4, .own a_2) :: (hAppend L_6 (hAppend L_9 []))))) O [[_], [_], _, _] rfl [0, 1, 2, 3] (by decide) rfl)⟩
      obtain ⟨H0, eJ62, O⟩ := hJ
      replace h7 := (mo_Keep ad) _ _ _ _ _ (ovr_mono eJ62) h7
      replace h10 := (mo_Free ad a_5) _ _ _ _ _ (ovr_mono eJ62) h10
      replace eB := eB.trans eJ62
      refine iteS (c := ((!true) || (false || (!decide (faults_56 = (0 : Int)))))) (fun h65 => ?_) (fun h65 => ?_)
      · replace hm := ifT hm h65
        -- 234
        refine o_ret ?_
        refine o_c ?_
        obtain rfl := Option.some.inj hm
        exact k _ _ H0 (hAppend ((a_2, x_Post ad dx_4 a_5 a_8) :: (dx_4, .own a_2) :: (hAppend L_6 (hAppend L_9 []))) []) eB (by exact (Own.pkB O [[_], [_], _, _] rfl [0, 1, 2, 3] (by decide) (by simp only [g1, g2, g3, g4, n2, n3, n4, n5, n6, n7]))) ⟨_, rfl, ⟨rfl, rfl⟩⟩
      · replace hm := ifF hm h65
        refine o_next ?_
        -- 235
        refine o_ret ?_
        obtain ⟨is_qui_68, h69, hm⟩ := bndE hm
        obtain ⟨c_78, h79, hm⟩ := bndE hm
        refine x_andVJ (c := (decide (is_qui_68 = false))) (e := c_78) (d := c_78) (fun H => ∃ (R_ : Hp), Ex H0 R_ ∧ Own R_ H ((a_2, x_Post ad dx_4 a_5 a_8) :: ((dx_4, .own a_2) :: (hAppend L_6 (hAppend L_9 []))))) (fun Q1 k1 => ?_) (fun h66 => ⟨rfl, fun H hJ Q2 k2 => ?_⟩) (fun h66 => Option.some.inj (ifF h79 h66)) (fun H hJ => ?_)
        · have eJ67 : Ex H0 H0 := Ex.refl _
          refine ⟨_, rfl, a_2, _, _, rfl, (O.mem (hd_)), (lk_skip (by decide) (lk_skip (by decide) lk_nil)), ?_⟩
          refine x_nil ?_
          have Oc : Own H0 H (hAppend (hAppend ((a_2, x_Post ad dx_4 a_5 a_8) :: (dx_4, .own a_2) :: (hAppend L_6 (hAppend L_9 []))) []) []) := (Own.pkB O [[_], [_], _, _] rfl [0, 1, 2, 3] (by decide) (by simp only [g1, g2, g3, g4, n2, n3, n4, n5, n6, n7]))
          refine ⟨post_1, a_2, _, ovr R0 Hb H0, is_qui_68, rfl, (Own.shrink Oc.left ovr_ex), ⟨dx_4, a_5, L_6, a_8, L_9, rfl, h7, h10⟩, h69, ?_⟩
          refine Oc.retXO (mdK mdV) eB fun w_70 H H0 L_71 O e_ d_ => ?_
          replace h7 := (mo_Keep ad) _ _ _ _ _ (ovr_mono e_) h7
          replace h10 := (mo_Free ad a_5) _ _ _ _ _ (ovr_mono e_) h10
          replace eB := eB.trans e_
          replace eJ67 := eJ67.trans e_
          obtain ⟨L_72, rfl, ⟨rfl, rfl⟩⟩ := d_
          replace O := Own.cv (L' := ((a_2, x_Post ad dx_4 a_5 a_8) :: ((dx_4, .own a_2) :: (hAppend L_6 (hAppend L_9 []))))) O (by first | with_reducible rfl | simp only [n1, n2, n3, n4, n5, n6, n7])
          refine ⟨_, _, rfl, rfl, ?_⟩
          exact k1 _ ⟨H0, eJ67, (Own.pkB (L' := ((a_2, x_Post ad dx_4 a_5 a_8) :: ((dx_4, .own a_2) :: (hAppend L_6 (hAppend L_9 []))))) O [[_], [_], _, _] rfl [0, 1, 2, 3] (by decide) rfl)⟩
        · replace hm := ifT h79 h66
          obtain ⟨is_off_73, h74, hm⟩ := bndE hm
          obtain rfl := Option.some.inj hm
          obtain ⟨H0, eJ67, O⟩ := hJ
          replace h7 := (mo_Keep ad) _ _ _ _ _ (ovr_mono eJ67) h7
          replace h10 := (mo_Free ad a_5) _ _ _ _ _ (ovr_mono eJ67) h10
          replace eB := eB.trans eJ67
          refine ⟨_, rfl, a_2, _, _, rfl, (O.mem (hd_)), (lk_skip (by decide) (lk_skip (by decide) lk_nil)), ?_⟩
          refine x_nil ?_
          have Oc : Own H0 H (hAppend (hAppend ((a_2, x_Post ad dx_4 a_5 a_8) :: (dx_4, .own a_2) :: (hAppend L_6 (hAppend L_9 []))) []) []) := (Own.pkB O [[_], [_], _, _] rfl [0, 1, 2, 3] (by decide) (by simp only [g1, g2, g3, g4, n2, n3, n4, n5, n6, n7]))
          refine ⟨post_1, a_2, _, ovr R0 Hb H0, is_off_73, rfl, (Own.shrink Oc.left ovr_ex), ⟨dx_4, a_5, L_6, a_8, L_9, rfl, h7, h10⟩, h74, ?_⟩
          refine Oc.retXO (mdK mdV) eB fun w_75 H H0 L_76 O e_ d_ => ?_
          replace h7 := (mo_Keep ad) _ _ _ _ _ (ovr_mono e_) h7
          replace h10 := (mo_Free ad a_5) _ _ _ _ _ (ovr_mono e_) h10
          replace eB := eB.trans e_
          replace eJ67 := eJ67.trans e_
          obtain ⟨L_77, rfl, ⟨rfl, rfl⟩⟩ := d_
          replace O := Own.cv (L' := ((a_2, x_Post ad dx_4 a_5 a_8) :: ((dx_4, .own a_2) :: (hAppend L_6 (hAppend L_9 []))))) O (by first | with_reducible rfl | simp only [n1, n2, n3, n4, n5, n6, n7])
          refine ⟨_, _, rfl, rfl, ?_⟩
          exact k2 _ ⟨H0, eJ67, (Own.pkB (L' := ((a_2, x_Post ad dx_4 a_5 a_8) :: ((dx_4, .own a_2) :: (hAppend L_6 (hAppend L_9 []))))) O [[_], [_], _, _] rfl [0, 1, 2, 3] (by decide) rfl)⟩
        obtain ⟨H0, eJ67, O⟩ := hJ
        replace h7 := (mo_Keep ad) _ _ _ _ _ (ovr_mono eJ67) h7
        replace h10 := (mo_Free ad a_5) _ _ _ _ _ (ovr_mono eJ67) h10
        replace eB := eB.trans eJ67
        obtain rfl := Option.some.inj hm
        exact k _ _ H0 (hAppend ((a_2, x_Post ad dx_4 a_5 a_8) :: (dx_4, .own a_2) :: (hAppend L_6 (hAppend L_9 []))) []) eB (by exact (Own.pkB O [[_], [_], _, _] rfl [0, 1, 2, 3] (by decide) (by simp only [g1, g2, g3, g4, n2, n3, n4, n5, n6, n7]))) ⟨_, rfl, ⟨rfl, rfl⟩⟩
def m_bits_of_C0 (number_1 : Int) (many_2 : Int) (k_7 : Int) : Option Int :=
  bnd (shrG number_1 ((many_2 - (1 : Int)) - k_7)) fun t_12 =>
  some (Builtin.bitAnd t_12 (1 : Int))
def m_bits_of (number_1 : Int) (many_2 : Int) : Option (Rs (List Int)) :=
  ifB (decide (number_1 < (0 : Int)) || decide (many_2 < (Builtin.Int.intBits number_1 : Int))) (
    some (.er .NoBits)) (
    bnd (rng1 many_2) fun rg_5 =>
    bnd (compM (m_bits_of_C0 number_1 many_2) rg_5 []) fun l_9 =>
    some (.ok l_9))
def sp_bits_of (K : PySem.W.Frag) (d : Eds) : Sp := fun vs H Q E => ∃ (number_1 : Int) (many_2 : Int) (r : Rs (List Int)), vs = [.int number_1, .int many_2] ∧ m_bits_of number_1 many_2 = some r ∧ RetR (fun r => RetL (List.map V.int r) H Q) d r H E
abbrev N_bits_of : List Str := ["number", "many", "k"]
theorem sc_bits_of : FnScope N_bits_of ["number", "many"] (defScope s_bits_of) := ⟨rfl, rfl, rfl, by decide +kernel, rfl, by decide +kernel, by decide +kernel⟩
theorem ok_bits_of {ad : Ad} (T : Txt K mg ad) : FnOk P w K mg base (L2N.CX P w) 1 ad.f_bits_of ad.fd_bits_of ["number", "many"] (sp_bits_of K ad.es) := by
  refine okN T.F_bits_of sc_bits_of (fun vs H Q E h => ?_) (fun cdv A outer s H vs Q E hr h => ?_)
  · obtain ⟨_, _, _, rfl, _⟩ := h
    rfl
  · obtain ⟨number_1, many_2, r, rfl, hm, k⟩ := h
    unfold m_bits_of at hm
    obtain ⟨H0, hH0⟩ : ∃ H0 : Hp, H0 = H := ⟨H, rfl⟩
    have O : Own H0 H [] := by rw [hH0]; exact Own.start H
    rw [← hH0] at k
    clear hH0
    refine ⟨_, (pss_cons (ps_if (PW.pt (pw_or (pt_cmpR op_lt (pv 0) pe_int (nomark _)) (pw_or1 (pt_cmpR op_gt (pe_bits (pv 0)) (pv 1) (nomark _))))) (pss_one (ps_errN T.e_NoBits (L2N.takes_of rfl rfl rfl rfl) rfl rfl)) pss_nil) (pss_one (ps_ret (pe_lc (own := [("k", 2)]) (g := gName 2) (tt := tYes) rfl sc_bits_of.nd (pi_range1 (by rfl) T.z_range (pa_cons (pv 1) pa_nil)) (blkOk_by (own := [("k", 2)]) (N := N_bits_of) (sc := defScope s_bits_of) (by decide +kernel)) (fun _ _ _ _ _ => pg_name (i := 2) sc_bits_of.nd rfl (Or.inl rfl)) (fun _ _ _ _ _ => pts_nil) (fun _ _ _ _ _ => (pe_op op_and (pe_op op_shr (pv 0) (pe_op op_sub (pe_op op_sub (pv 1) pe_int) (pv 2))) pe_int)))))), ?_⟩
    -- 35
    refine o_seq ?_
    refine o_ifs ?_
    refine x_or (c := decide (number_1 < (0 : Int))) (e := decide (many_2 < (Builtin.Int.intBits number_1 : Int))) (d := (decide (number_1 < (0 : Int)) || decide (many_2 < (Builtin.Int.intBits number_1 : Int)))) O (fun Q1 k1 => ?_) (fun h3 => ⟨by rw [h3]; rfl, fun H O Q2 k2 => ?_⟩) (fun h3 => by rw [h3]; rfl) (fun H O => ?_)
    · refine ⟨_, rfl, _, _, rfl, rfl, _, rfl, ?_⟩
      exact k1 _ O
    · refine ⟨_, rfl, _, rfl, _, rfl, _, _, rfl, rfl, _, rfl, ?_⟩
      exact k2 _ O
    refine iteS (c := (decide (number_1 < (0 : Int)) || decide (many_2 < (Builtin.Int.intBits number_1 : Int)))) (fun h4 => ?_) (fun h4 => ?_)
    · replace hm := ifT hm h4
      -- 36
      obtain rfl := Option.some.inj hm
      exact k _ O.ex
    · replace hm := ifF hm h4
      refine o_next ?_
      -- 37
      refine o_ret ?_
      obtain ⟨rg_5, h6, hm⟩ := bndE hm
      refine ⟨_, rfl, ?_⟩
      refine x_nil ?_
      obtain ⟨c1, c2, rfl⟩ := rng1E h6
      obtain ⟨l_9, h10, hm⟩ := bndE hm
      refine ⟨_, rfl, c1, c2, fun p_11 hD => k_lcR (fun r H => ∃ acc : List Int, Own H0 H ((p_11, .lst (List.map V.int acc)) :: []) ∧ compM (m_bits_of_C0 number_1 many_2) r acc = some l_9) ⟨[], O.new hD, h10⟩ ?_ ?_⟩
      · rintro k_7 r H ⟨acc, O, hC⟩
        obtain ⟨y, hm, hz, hC⟩ := compM_cons hC
        refine ⟨rfl, ?_⟩
        unfold m_bits_of_C0 at hm
        obtain ⟨t_12, h13, hm⟩ := bndE hm
        refine ⟨_, rfl, _, rfl, _, _, rfl, rfl, _, rfl, _, _, rfl, rfl, ?_⟩
        refine k_shr h13 ?_
        refine ⟨_, _, rfl, rfl, ?_⟩
        obtain rfl := Option.some.inj hm
        refine ⟨_, O.mem (hd_), (by rw [List.length_map]; exact hz), _, ?_, hC⟩
        rw [map_snoc]
        exact O.put0
      rintro H ⟨acc, O, hC⟩
      obtain rfl := compM_nil hC
      obtain rfl := Option.some.inj hm
      exact RetL.go k O (hd_)
def m_divided_W0c (key_2 : Int) (size_4 : Int) (number_6 : Int) (whole_7 : Int) : Option Bool :=
  some (decide (size_4 ≤ (Builtin.Int.intBits number_6 : Int)))
def m_divided_W0 (key_2 : Int) (size_4 : Int) (number_6 : Int) (whole_7 : Int) : Option (Int × Int) :=
  ltv (((Builtin.Int.intBits number_6 : Int) - size_4)) fun at_12 =>
  bnd (shlG (1 : Int) at_12) fun t_14 =>
  ltv ((Builtin.bitXor whole_7 t_14)) fun whole_16 =>
  bnd (shlG key_2 at_12) fun t_18 =>
  some ((Builtin.bitXor number_6 t_18), whole_16)
def m_divided (number_1 : Int) (key_2 : Int) : Option (Rs (Int × Int)) :=
  ifB (decide (key_2 = (0 : Int))) (
    some (.er .NoKey)) (
    ltv ((Builtin.Int.intBits key_2 : Int)) fun size_4 =>
    bnd (whileM (fun s => m_divided_W0c key_2 size_4 s.1 s.2) (fun s => m_divided_W0 key_2 size_4 s.1 s.2) FUEL (number_1, (0 : Int))) fun (number_9, whole_10) =>
    some (.ok (whole_10, number_9)))
def sp_divided (K : PySem.W.Frag) (d : Eds) : Sp := fun vs H Q E => ∃ (number_1 : Int) (key_2 : Int) (r : Rs (Int × Int)), vs = [.int number_1, .int key_2] ∧ m_divided number_1 key_2 = some r ∧ RetR (fun r => RetT [V.int r.1, V.int r.2] H Q) d r H E
abbrev N_divided : List Str := ["number", "key", "whole", "size", "at"]
theorem sc_divided : FnScope N_divided ["number", "key"] (defScope s_divided) := ⟨rfl, rfl, rfl, by decide +kernel, rfl, by decide +kernel, by decide +kernel⟩
theorem ok_divided {ad : Ad} (T : Txt K mg ad) : FnOk P w K mg base (L2N.CX P w) 1 ad.f_divided ad.fd_divided ["number", "key"] (sp_divided K ad.es) := by
  refine okN T.F_divided sc_divided (fun vs H Q E h => ?_) (fun cdv A outer s H vs Q E hr h => ?_)
  · obtain ⟨_, _, _, rfl, _⟩ := h
    rfl
  · obtain ⟨number_1, key_2, r, rfl, hm, k⟩ := h
    unfold m_divided at hm
    obtain ⟨H0, hH0⟩ : ∃ H0 : Hp, H0 = H := ⟨H, rfl⟩
    have O : Own H0 H [] := by rw [hH0]; exact Own.start H
    rw [← hH0] at k
    clear hH0
    refine ⟨_, (pss_cons (ps_if (pt_cmpR op_eq (pv 1) pe_int (nomark _)) (pss_one (ps_errN T.e_NoKey (L2N.takes_of rfl rfl rfl rfl) rfl rfl)) pss_nil) (pss_cons (ps_set (i := 2) sc_divided.nd rfl (Or.inl rfl) pe_int) (pss_cons (ps_set (i := 3) sc_divided.nd rfl (Or.inl rfl) (pe_bits (pv 1))) (pss_cons (ps_while (passes_of rfl) (pt_cmpR op_ge (pe_bits (pv 0)) (pv 3) (nomark _)) (pss_cons (ps_set (i := 4) sc_divided.nd rfl (Or.inl rfl) (pe_op op_sub (pe_bits (pv 0)) (pv 3))) (pss_cons (ps_set (i := 2) sc_divided.nd rfl (Or.inl rfl) (pe_op op_xor (pv 2) (pe_op op_shlW pe_int (pv 4)))) (pss_one (ps_set (i := 0) sc_divided.nd rfl (Or.inl rfl) (pe_op op_xor (pv 0) (pe_op op_shlW (pv 1) (pv 4)))))))) (pss_one (ps_ret (pe_tupQ (pe_tup (pa_cons (pv 2) (pa_cons (pv 0) pa_nil)))))))))), ?_⟩
    -- 45
    refine o_seq ?_
    refine o_ifs ?_
    refine ⟨_, rfl, ?_⟩
    refine o_c ?_
    refine k_eqI ?_
    refine ⟨_, rfl, ?_⟩
    refine iteS (c := (decide (key_2 = (0 : Int)))) (fun h3 => ?_) (fun h3 => ?_)
    · replace hm := ifT hm h3
      -- 46
      obtain rfl := Option.some.inj hm
      exact k _ O.ex
    · replace hm := ifF hm h3
      refine o_next ?_
      -- 47
      refine o_seq ?_
      refine o_asg ?_
      refine o_c ?_
      -- 48
      refine o_seq ?_
      refine o_asg ?_
      refine ⟨_, rfl, _, rfl, ?_⟩
      obtain ⟨size_4, h5, hm⟩ := ltvE hm
      refine a_set (congrArg V.int h5) ?_
      -- 49
      refine o_seq ?_
      obtain ⟨⟨number_9, whole_10⟩, h11, hm⟩ := bndE hm
      refine o_while (fun m σ H => ∃ (number_6 : Int) (whole_7 : Int) (j_8 : Option V), σ = [some (.int number_6), some (.int key_2), some (.int whole_7), some (.int size_4), j_8] ∧ Own H0 H [] ∧ whileM (fun s => m_divided_W0c key_2 size_4 s.1 s.2) (fun s => m_divided_W0 key_2 size_4 s.1 s.2) m (number_6, whole_7) = some (number_9, whole_10)) FUEL ⟨_, _, _, rfl, O, h11⟩ ?_ ?_
      · rintro σ H ⟨number_6, whole_7, j_8, rfl, O, hL⟩
        exact whileM_zero hL
      rintro m σ H ⟨number_6, whole_7, j_8, rfl, O, hL⟩
      have h21 := hm
      obtain ⟨b_, hm, hL⟩ := whileM_succ hL
      replace hm : m_divided_W0c key_2 size_4 number_6 whole_7 = some b_ := hm
      unfold m_divided_W0c at hm
      refine ⟨_, rfl, _, rfl, _, rfl, _, _, rfl, rfl, _, rfl, ?_⟩
      obtain rfl := Option.some.inj hm
      refine iteS (c := decide (size_4 ≤ (Builtin.Int.intBits number_6 : Int))) (fun h20 => ?_) (fun h20 => ?_)
      · obtain ⟨s_, hm, hL⟩ := bndE (ifT hL h20)
        replace hm : m_divided_W0 key_2 size_4 number_6 whole_7 = some s_ := hm
        unfold m_divided_W0 at hm
        refine o_turn ?_
        -- 50
        refine o_seq ?_
        refine o_asg ?_
        refine ⟨_, rfl, _, rfl, _, rfl, _, _, rfl, rfl, ?_⟩
        obtain ⟨at_12, h13, hm⟩ := ltvE hm
        refine a_set (congrArg V.int h13) ?_
        -- 51
        refine o_seq ?_
        refine o_asg ?_
        obtain ⟨t_14, h15, hm⟩ := bndE hm
        refine ⟨_, rfl, _, rfl, ?_⟩
        refine k_shl h15 ?_
        refine ⟨_, _, rfl, rfl, ?_⟩
        obtain ⟨whole_16, h17, hm⟩ := ltvE hm
        refine a_set (congrArg V.int h17) ?_
        -- 52
        refine o_asg ?_
        obtain ⟨t_18, h19, hm⟩ := bndE hm
        refine ⟨_, rfl, _, rfl, _, rfl, ?_⟩
        refine k_shl h19 ?_
        refine ⟨_, _, rfl, rfl, ?_⟩
        have Oz := O
        obtain rfl := Option.some.inj hm
        exact ⟨_, _, _, rfl, Oz, hL⟩
      cases whileM_end hL h20
      replace hm := h21
      -- 53
      refine o_ret ?_
      refine ⟨_, rfl, _, rfl, ?_⟩
      refine x_nil ?_
      refine n_tup O (by show 2 ≤ sizeLine; decide) fun p_22 H O => ?_
      obtain rfl := Option.some.inj hm
      exact RetT.go k O (hd_)
def m_number_of_L0  (bit_9 : Int) (number_3 : Int) : Option (Int) :=
  bnd (shlG number_3 (1 : Int)) fun t_13 =>
  some (Builtin.bitOr t_13 bit_9)
def m_number_of (bits_1 : List Int) : Option (Int) :=
  bnd (loopM (fun bit_9 s => m_number_of_L0 bit_9 s) bits_1 (0 : Int)) fun number_5 =>
  some number_5
def sp_number_of (K : PySem.W.Frag) : Sp := fun vs H Q _ => ∃ (bits_1 : List Int) (a_2 : Addr) (r : Int), vs = [.ref a_2] ∧ H a_2 = some (.lst (List.map V.int bits_1)) ∧ m_number_of bits_1 = some r ∧ RetV (.int r) H Q
abbrev N_number_of : List Str := ["bits", "number", "bit"]
theorem sc_number_of : FnScope N_number_of ["bits"] (defScope s_number_of) := ⟨rfl, rfl, rfl, by decide +kernel, rfl, by decide +kernel, by decide +kernel⟩
theorem ok_number_of {ad : Ad} (T : Txt K mg ad) : FnOk P w K mg base CX0 1 ad.f_number_of ad.fd_number_of ["bits"] (sp_number_of K) := by
  refine T.F_number_of.ok sc_number_of (fun vs H Q E h => ?_) (fun cdv A outer s H vs Q E hr h => ?_)
  · obtain ⟨_, _, _, rfl, _⟩ := h
    rfl
  · obtain ⟨bits_1, a_2, r, rfl, hp_a_2, hm, k⟩ := h
    unfold m_number_of at hm
    obtain ⟨H0, hH0⟩ : ∃ H0 : Hp, H0 = H := ⟨H, rfl⟩
    have O : Own H0 H [] := by rw [hH0]; exact Own.start H
    rw [← hH0] at k hp_a_2
    clear hH0
    refine ⟨_, (pss_cons (ps_set (i := 1) sc_number_of.nd rfl (Or.inl rfl) pe_int) (pss_cons (ps_for PassesOwn.never rfl (pi_list (pv 0)) (pg_name (i := 2) sc_number_of.nd rfl (Or.inl rfl)) (pss_one (ps_set (i := 1) sc_number_of.nd rfl (Or.inl rfl) (pe_op op_or (pe_op op_shlW (pv 1) pe_int) (pv 2))))) (pss_one (ps_ret (pv 1))))), ?_⟩
    -- 39
    refine o_seq ?_
    refine o_asg ?_
    refine o_c ?_
    -- 40
    refine o_seq ?_
    refine o_for ?_
    refine ⟨_, rfl, ?_⟩
    obtain ⟨number_5, h6, hm⟩ := bndE hm
    refine ⟨_, rfl, ⟨_, (SqL.of (O.ex _ _ hp_a_2))⟩, q_forL (f := V.int) (xs := bits_1) (fun r σ H => ∃ (number_3 : Int) (j_4 : Option V), σ = [some (.ref a_2), some (.int number_3), j_4] ∧ Own H0 H [] ∧ loopM (fun bit_9 s => m_number_of_L0 bit_9 s) r number_3 = some number_5) ⟨_, _, rfl, O, h6⟩ (by rintro r σ H ⟨number_3, j_4, rfl, O, hL⟩; exact (SqL.of (O.ex _ _ hp_a_2))) ?_ ?_⟩
    · rintro bit_9 r σ H ⟨number_3, j_4, rfl, O, hL⟩
      obtain ⟨s_, hm, h8⟩ := loopM_cons hL
      replace hm : m_number_of_L0 bit_9 number_3 = some s_ := hm
      unfold m_number_of_L0 at hm
      -- 41
      refine o_asg ?_
      obtain ⟨t_13, h14, hm⟩ := bndE hm
      refine ⟨_, rfl, ?_⟩
      refine o_c ?_
      refine k_shl h14 ?_
      refine ⟨_, rfl, _, _, rfl, rfl, ?_⟩
      have Oz := O
      obtain rfl := Option.some.inj hm
      exact ⟨_, _, rfl, Oz, h8⟩
    rintro σ H ⟨number_3, j_4, rfl, O, hL⟩
    cases loopM_nil hL
    -- 42
    refine o_ret ?_
    refine ⟨_, rfl, ?_⟩
    obtain rfl := Option.some.inj hm
    exact RetV.go k O
def m_rest_of (bits_1 : List Int) : Option (Int) :=
  bnd (m_number_of bits_1) fun number_3 =>
  bndO (m_divided number_3 (64647 : Int)) fun divide_5 =>
  some divide_5.2
def sp_rest_of (K : PySem.W.Frag) : Sp := fun vs H Q _ => ∃ (bits_1 : List Int) (a_2 : Addr) (r : Int), vs = [.ref a_2] ∧ H a_2 = some (.lst (List.map V.int bits_1)) ∧ m_rest_of bits_1 = some r ∧ RetV (.int r) H Q
abbrev N_rest_of : List Str := ["bits"]
theorem sc_rest_of : FnScope N_rest_of ["bits"] (defScope s_rest_of) := ⟨rfl, rfl, rfl, by decide +kernel, rfl, by decide +kernel, by decide +kernel⟩
theorem ok_rest_of {ad : Ad} (T : Txt K mg ad) : FnOk P w K mg base CX0 2 ad.f_rest_of ad.fd_rest_of ["bits"] (sp_rest_of K) := by
  have G_divided := ok_divided (P := P) (w := w) (base := base) T
  have G_number_of := ok_number_of (P := P) (w := w) (base := base) T
  refine T.F_rest_of.ok sc_rest_of (fun vs H Q E h => ?_) (fun cdv A outer s H vs Q E hr h => ?_)
  · obtain ⟨_, _, _, rfl, _⟩ := h
    rfl
  · obtain ⟨bits_1, a_2, r, rfl, hp_a_2, hm, k⟩ := h
    unfold m_rest_of at hm
    obtain ⟨H0, hH0⟩ : ∃ H0 : Hp, H0 = H := ⟨H, rfl⟩
    have O : Own H0 H [] := by rw [hH0]; exact Own.start H
    rw [← hH0] at k hp_a_2
    clear hH0
    refine ⟨_, (pss_one (ps_ret (pe_ix (r := rIxT K) ix_tup (pe_call G_divided (hr.mono (by decide)) (by rfl) T.g_divided T.F_divided.kp T.b_divided .nil passN (pa_cons (pe_call G_number_of (hr.mono (by decide)) (by rfl) T.g_number_of T.F_number_of.kp T.b_number_of .nil pass0 (pa_cons (pv 0) pa_nil)) (pa_cons (pe_gv rfl T.g_KEY) pa_nil))) pe_int (fun _ _ => rfl)))), ?_⟩
    -- 58
    refine o_ret ?_
    obtain ⟨number_3, h4, hm⟩ := bndE hm
    refine ⟨_, rfl, ?_⟩
    refine x_nil ?_
    refine ⟨_, _, number_3, rfl, (O.ex _ _ hp_a_2), h4, ?_⟩
    refine O.retV fun H O => ?_
    obtain ⟨divide_5, h6, hm⟩ := bndOE hm
    refine o_cons ?_
    refine o_c ?_
    refine x_nil ?_
    refine ⟨_, _, .ok divide_5, rfl, h6, ?_⟩
    refine RetR.ok ?_
    refine O.retT fun p_7 H O => ?_
    refine o_c ?_
    refine k_ixT (SqT.of (O.mem (hd_))) rfl ?_
    obtain rfl := Option.some.inj hm
    exact RetV.go k O
def m_check_of (bits_1 : List Int) : Option (List Int) :=
  bnd (repG ([(0 : Int)]) (15 : Int)) fun t_5 =>
  bnd (catG bits_1 t_5) fun t_8 =>
  bnd (m_rest_of t_8) fun rest_o_11 =>
  bndO (m_bits_of rest_o_11 (15 : Int)) fun bits_o_13 =>
  some bits_o_13
def sp_check_of (K : PySem.W.Frag) : Sp := fun vs H Q _ => ∃ (bits_1 : List Int) (a_2 : Addr) (r : List Int), vs = [.ref a_2] ∧ H a_2 = some (.lst (List.map V.int bits_1)) ∧ m_check_of bits_1 = some r ∧ RetL (List.map V.int r) H Q
abbrev N_check_of : List Str := ["bits"]
theorem sc_check_of : FnScope N_check_of ["bits"] (defScope s_check_of) := ⟨rfl, rfl, rfl, by decide +kernel, rfl, by decide +kernel, by decide +kernel⟩
theorem ok_check_of {ad : Ad} (T : Txt K mg ad) : FnOk P w K mg base CX0 3 ad.f_check_of ad.fd_check_of ["bits"] (sp_check_of K) := by
  have G_bits_of := ok_bits_of (P := P) (w := w) (base := base) T
  have G_rest_of := ok_rest_of (P := P) (w := w) (base := base) T
  refine T.F_check_of.ok sc_check_of (fun vs H Q E h => ?_) (fun cdv A outer s H vs Q E hr h => ?_)
  · obtain ⟨_, _, _, rfl, _⟩ := h
    rfl
  · obtain ⟨bits_1, a_2, r, rfl, hp_a_2, hm, k⟩ := h
    unfold m_check_of at hm
    obtain ⟨H0, hH0⟩ : ∃ H0 : Hp, H0 = H := ⟨H, rfl⟩
    have O : Own H0 H [] := by rw [hH0]; exact Own.start H
    rw [← hH0] at k hp_a_2
    clear hH0
    refine ⟨_, (pss_one (ps_ret (pe_call G_bits_of (hr.mono (by decide)) (by rfl) T.g_bits_of T.F_bits_of.kp T.b_bits_of .nil passN (pa_cons (pe_call G_rest_of (hr.mono (by decide)) (by rfl) T.g_rest_of T.F_rest_of.kp T.b_rest_of .nil pass0 (pa_cons (pe_op op_cat (pe_callTy (r := rListQ K) call_listQ (by rfl) T.z_list (by decide +kernel) (pa_cons (pv 0) pa_nil)) (pe_op op_rep (pe_lstQ (pe_lst (pa_cons pe_int pa_nil))) (pe_gv rfl T.g_WIDE))) pa_nil)) (pa_cons (pe_gv rfl T.g_WIDE) pa_nil))))), ?_⟩
    -- 60
    refine o_ret ?_
    refine ⟨_, rfl, ?_⟩
    refine x_nil ?_
    refine n_list O (SqL.of (O.ex _ _ hp_a_2)) fun p_3 H O => ?_
    refine o_op ?_
    refine o_cons ?_
    refine o_c ?_
    refine x_nil ?_
    refine n_lst (f := V.int) (xs := [(0 : Int)]) O rfl (by show 1 ≤ sizeLine; decide) fun p_4 H O => ?_
    obtain ⟨t_5, h6, hm⟩ := bndE hm
    refine o_c ?_
    refine k_rep (f := V.int) O (O.mem (hd_)) h6 fun p_7 H O => ?_
    obtain ⟨t_8, h9, hm⟩ := bndE hm
    refine k_cat (f := V.int) O (O.mem (tl_ (tl_ (hd_)))) (O.mem (hd_)) h9 fun p_10 H O => ?_
    obtain ⟨rest_o_11, h12, hm⟩ := bndE hm
    refine x_nil ?_
    refine ⟨_, _, rest_o_11, rfl, (O.mem (hd_)), h12, ?_⟩
    refine O.retV fun H O => ?_
    obtain ⟨bits_o_13, h14, hm⟩ := bndOE hm
    refine o_cons ?_
    refine o_c ?_
    refine x_nil ?_
    refine ⟨_, _, .ok bits_o_13, rfl, h14, ?_⟩
    refine RetR.ok ?_
    refine O.retL fun p_15 H O => ?_
    obtain rfl := Option.some.inj hm
    exact RetL.go k O (hd_)
def m_frame_bits_L0  (byte_33 : Int) (bits_26 : List Int) : Option (Fl ((List Int)) (Rs (List Int))) :=
  ifB (decide (byte_33 < (0 : Int)) || decide ((255 : Int) < byte_33)) (
    some (.rt (.er .NoFrame))) (
    bndRF (m_bits_of byte_33 (8 : Int)) fun bits_o_39 =>
    bnd (catG bits_26 bits_o_39) fun t_44 =>
    some (.nx t_44))
def m_frame_bits (name_1 : Int) (data_2 : List Int) : Option (Rs (List Int)) :=
  bnd (m_is_name name_1) fun is_nam_5 =>
  ifB ((!is_nam_5) || decide ((7 : Int) < (List.length data_2 : Int))) (
    some (.er .NoFrame)) (
    bndR (m_bits_of name_1 (8 : Int)) fun bits_o_9 =>
    bnd (catG ([(0 : Int)]) bits_o_9) fun t_14 =>
    bndR (m_bits_of (List.length data_2 : Int) (3 : Int)) fun bits_o_17 =>
    bnd (catG t_14 bits_o_17) fun t_22 =>
    fin (loopF (fun byte_33 s => m_frame_bits_L0 byte_33 s) data_2 t_22) fun bits_26 =>
    bnd (m_check_of bits_26) fun check_47 =>
    bnd (catG bits_26 check_47) fun t_50 =>
    some (.ok t_50))
def sp_frame_bits (K : PySem.W.Frag) (d : Eds) : Sp := fun vs H Q E => ∃ (name_1 : Int) (data_2 : List Int) (a_3 : Addr) (r : Rs (List Int)), vs = [.int name_1, .ref a_3] ∧ H a_3 = some (.lst (List.map V.int data_2)) ∧ m_frame_bits name_1 data_2 = some r ∧ RetR (fun r => RetL (List.map V.int r) H Q) d r H E
abbrev N_frame_bits : List Str := ["name", "data", "bits", "byte"]
theorem sc_frame_bits : FnScope N_frame_bits ["name", "data"] (defScope s_frame_bits) := ⟨rfl, rfl, rfl, by decide +kernel, rfl, by decide +kernel, by decide +kernel⟩
theorem ok_frame_bits {ad : Ad} (T : Txt K mg ad) : FnOk P w K mg base (L2N.CX P w) 4 ad.f_frame_bits ad.fd_frame_bits ["name", "data"] (sp_frame_bits K ad.es) := by
  have G_bits_of := ok_bits_of (P := P) (w := w) (base := base) T
  have G_check_of := ok_check_of (P := P) (w := w) (base := base) T
  have G_is_name := ok_is_name (P := P) (w := w) (base := base) T
  refine okN T.F_frame_bits sc_frame_bits (fun vs H Q E h => ?_) (fun cdv A outer s H vs Q E hr h => ?_)
  · obtain ⟨_, _, _, _, rfl, _⟩ := h
    rfl
  · obtain ⟨name_1, data_2, a_3, r, rfl, hp_a_3, hm, k⟩ := h
    unfold m_frame_bits at hm
    obtain ⟨H0, hH0⟩ : ∃ H0 : Hp, H0 = H := ⟨H, rfl⟩
    have O : Own H0 H [] := by rw [hH0]; exact Own.start H
    rw [← hH0] at k hp_a_3
    clear hH0
    refine ⟨_, (pss_cons (ps_if (PW.pt (pw_or (pt_not (pt_val (pe_call G_is_name (hr.mono (by decide)) (by rfl) T.g_is_name T.F_is_name.kp T.b_is_name .nil pass0 (pa_cons (pv 0) pa_nil)))) (pw_or1 (pt_cmpR op_gt (pe_callB (r := rLenQ K) call_lenQ (by rfl) T.z_len PySem.boot_len (pa_cons (pv 1) pa_nil)) pe_int (nomark _))))) (pss_one (ps_errN T.e_NoFrame (L2N.takes_of rfl rfl rfl rfl) rfl rfl)) pss_nil) (pss_cons (ps_set (i := 2) sc_frame_bits.nd rfl (Or.inl rfl) (pe_op op_cat (pe_op op_cat (pe_lstQ (pe_lst (pa_cons pe_int pa_nil))) (pe_call G_bits_of (hr.mono (by decide)) (by rfl) T.g_bits_of T.F_bits_of.kp T.b_bits_of .nil (E := E) (L2N.passes_call (L2N.takes_of rfl rfl rfl rfl) fun _ _ _ _ h => h) (pa_cons (pv 0) (pa_cons pe_int pa_nil)))) (pe_call G_bits_of (hr.mono (by decide)) (by rfl) T.g_bits_of T.F_bits_of.kp T.b_bits_of .nil (E := E) (L2N.passes_call (L2N.takes_of rfl rfl rfl rfl) fun _ _ _ _ h => h) (pa_cons (pe_callB (r := rLenQ K) call_lenQ (by rfl) T.z_len PySem.boot_len (pa_cons (pv 1) pa_nil)) (pa_cons pe_int pa_nil))))) (pss_cons (ps_for (passes_of rfl) rfl (pi_list (pv 1)) (pg_name (i := 3) sc_frame_bits.nd rfl (Or.inl rfl)) (pss_cons (ps_if (PW.pt (pw_or (pt_cmpR op_lt (pv 3) pe_int (nomark _)) (pw_or1 (pt_cmpR op_gt (pv 3) pe_int (nomark _))))) (pss_one (ps_errN T.e_NoFrame (L2N.takes_of rfl rfl rfl rfl) rfl rfl)) pss_nil) (pss_one (ps_set (i := 2) sc_frame_bits.nd rfl (Or.inl rfl) (pe_op op_cat (pv 2) (pe_call G_bits_of (hr.mono (by decide)) (by rfl) T.g_bits_of T.F_bits_of.kp T.b_bits_of .nil (E := E) (L2N.passes_call (L2N.takes_of rfl rfl rfl rfl) fun _ _ _ _ h => h) (pa_cons (pv 3) (pa_cons pe_int pa_nil)))))))) (pss_one (ps_ret (pe_op op_cat (pv 2) (pe_call G_check_of (hr.mono (by decide)) (by rfl) T.g_check_of T.F_check_of.kp T.b_check_of .nil pass0 (pa_cons (pv 2) pa_nil)))))))), ?_⟩
    -- 66
    refine o_seq ?_
    refine o_ifs ?_
    obtain ⟨is_nam_5, h6, hm⟩ := bndE hm
    refine x_or (c := (!is_nam_5)) (e := decide ((7 : Int) < (List.length data_2 : Int))) (d := ((!is_nam_5) || decide ((7 : Int) < (List.length data_2 : Int)))) O (fun Q1 k1 => ?_) (fun h4 => ⟨by rw [h4]; rfl, fun H O Q2 k2 => ?_⟩) (fun h4 => by rw [h4]; rfl) (fun H O => ?_)
    · refine ⟨_, rfl, ?_⟩
      refine x_nil ?_
      refine ⟨_, is_nam_5, rfl, h6, ?_⟩
      refine O.retV fun H O => ?_
      refine ⟨_, rfl, ?_⟩
      exact k1 _ O
    · refine ⟨_, rfl, ?_⟩
      refine x_nil ?_
      refine n_len (SqL.of (O.ex _ _ hp_a_3)) ?_
      refine ⟨_, _, rfl, rfl, _, rfl, ?_⟩
      exact k2 _ O
    refine iteS (c := ((!is_nam_5) || decide ((7 : Int) < (List.length data_2 : Int)))) (fun h7 => ?_) (fun h7 => ?_)
    · replace hm := ifT hm h7
      -- 67
      obtain rfl := Option.some.inj hm
      exact k _ O.ex
    · replace hm := ifF hm h7
      refine o_next ?_
      -- 68
      refine o_seq ?_
      refine o_asg ?_
      refine o_op ?_
      refine o_op ?_
      refine o_cons ?_
      refine o_c ?_
      refine x_nil ?_
      refine n_lst (f := V.int) (xs := [(0 : Int)]) O rfl (by show 1 ≤ sizeLine; decide) fun p_8 H O => ?_
      obtain ⟨x_11, h10, hm⟩ := bndRE hm
      refine ⟨_, rfl, ?_⟩
      refine o_cons ?_
      refine o_c ?_
      refine x_nil ?_
      refine ⟨_, _, x_11, rfl, h10, ?_⟩
      refine RetR.split (fun e_ h12 => ?_) (fun bits_o_9 h12 => ?_)
      · subst h12
        obtain rfl := erR hm
        exact RetE.go k O
      subst h12
      replace hm := okR hm
      refine O.retL fun p_13 H O => ?_
      obtain ⟨t_14, h15, hm⟩ := bndE hm
      refine k_cat (f := V.int) O (O.mem (tl_ (hd_))) (O.mem (hd_)) h15 fun p_16 H O => ?_
      refine ⟨_, rfl, ?_⟩
      refine x_nil ?_
      refine n_len (SqL.of (O.ex _ _ hp_a_3)) ?_
      obtain ⟨x_19, h18, hm⟩ := bndRE hm
      refine o_cons ?_
      refine o_c ?_
      refine x_nil ?_
      refine ⟨_, _, x_19, rfl, h18, ?_⟩
      refine RetR.split (fun e_ h20 => ?_) (fun bits_o_17 h20 => ?_)
      · subst h20
        obtain rfl := erR hm
        exact RetE.go k O
      subst h20
      replace hm := okR hm
      refine O.retL fun p_21 H O => ?_
      obtain ⟨t_22, h23, hm⟩ := bndE hm
      refine k_cat (f := V.int) O (O.mem (tl_ (hd_))) (O.mem (hd_)) h23 fun p_24 H O => ?_
      -- 69
      refine o_seq ?_
      refine o_for ?_
      refine ⟨_, rfl, ?_⟩
      obtain ⟨out_34, h30, h31⟩ := bndE hm
      refine ⟨_, rfl, ⟨_, (SqL.of (O.ex _ _ hp_a_3))⟩, q_forL (f := V.int) (xs := data_2) (fun r σ H => ∃ (p_27 : Addr) (bits_26 : List Int) (j_25 : Option V) (j_28 : Option V), σ = [j_25, some (.ref a_3), some (.ref p_27), j_28] ∧ Own H0 H [(p_27, .lst (List.map V.int bits_26))] ∧ loopF (fun byte_33 s => m_frame_bits_L0 byte_33 s) r bits_26 = some out_34) ⟨p_24, _, _, _, rfl, (Own.pk (L' := [(p_24, .lst (List.map V.int t_22))]) O [0] (by decide) rfl), h30⟩ (by rintro r σ H ⟨p_27, bits_26, j_25, j_28, rfl, O, hL⟩; exact (SqL.of (O.ex _ _ hp_a_3))) ?_ ?_⟩
      · rintro byte_33 r σ H ⟨p_27, bits_26, j_25, j_28, rfl, O, hL⟩
        obtain ⟨s_, hm, h32⟩ := loopF_cons hL
        replace hm : m_frame_bits_L0 byte_33 bits_26 = some s_ := hm
        unfold m_frame_bits_L0 at hm
        -- 70
        refine o_seq ?_
        refine o_ifs ?_
        refine x_or (c := decide (byte_33 < (0 : Int))) (e := decide ((255 : Int) < byte_33)) (d := (decide (byte_33 < (0 : Int)) || decide ((255 : Int) < byte_33))) O (fun Q1 k1 => ?_) (fun h37 => ⟨by rw [h37]; rfl, fun H O Q2 k2 => ?_⟩) (fun h37 => by rw [h37]; rfl) (fun H O => ?_)
        · refine ⟨_, rfl, _, _, rfl, rfl, _, rfl, ?_⟩
          exact k1 _ O
        · refine ⟨_, rfl, _, _, rfl, rfl, _, rfl, ?_⟩
          exact k2 _ O
        refine iteS (c := (decide (byte_33 < (0 : Int)) || decide ((255 : Int) < byte_33))) (fun h38 => ?_) (fun h38 => ?_)
        · replace hm := ifT hm h38
          -- 71
          obtain rfl := Option.some.inj hm
          obtain rfl := contRt h32
          obtain rfl := finRt h31
          exact k _ O.ex
        · replace hm := ifF hm h38
          refine o_next ?_
          -- 72
          refine o_asg ?_
          obtain ⟨x_41, h40, hm⟩ := bndRFE hm
          refine ⟨_, rfl, _, rfl, ?_⟩
          refine o_cons ?_
          refine o_c ?_
          refine x_nil ?_
          refine ⟨_, _, x_41, rfl, h40, ?_⟩
          refine RetR.split (fun e_ h42 => ?_) (fun bits_o_39 h42 => ?_)
          · subst h42
            obtain rfl := erRF hm
            obtain rfl := contRt h32
            obtain rfl := finRt h31
            exact RetE.go k O
          subst h42
          replace hm := okRF hm
          refine O.retL fun p_43 H O => ?_
          obtain ⟨t_44, h45, hm⟩ := bndE hm
          refine k_cat (f := V.int) O (O.mem (tl_ (hd_))) (O.mem (hd_)) h45 fun p_46 H O => ?_
          have Oz := O
          obtain rfl := Option.some.inj hm
          exact ⟨p_46, _, _, _, rfl, (Own.pk (L' := [(p_46, .lst (List.map V.int t_44))]) Oz [0] (by decide) rfl), h32⟩
      rintro σ H ⟨p_27, bits_26, j_25, j_28, rfl, O, hL⟩
      obtain rfl := loopF_nil hL
      replace hm := finNx h31
      -- 73
      refine o_ret ?_
      obtain ⟨check_47, h48, hm⟩ := bndE hm
      refine ⟨_, rfl, _, rfl, ?_⟩
      refine x_nil ?_
      refine ⟨_, _, check_47, rfl, (O.mem (hd_)), h48, ?_⟩
      refine O.retL fun p_49 H O => ?_
      obtain ⟨t_50, h51, hm⟩ := bndE hm
      refine k_cat (f := V.int) O (O.mem (tl_ (hd_))) (O.mem (hd_)) h51 fun p_52 H O => ?_
      obtain rfl := Option.some.inj hm
      exact RetL.go k O (hd_)
def m_Post_hand (self_1 : S_Post) (name_4 : Int) (data_5 : List Int) : Option (Rs S_Post) :=
  bndR (m_frame_bits name_4 data_5) fun frame_14 =>
  bnd (appG self_1.keep.queue (name_4, data_5)) fun l_30 =>
  some (.ok (S_Post.mk (S_Keep.mk self_1.keep.choice self_1.keep.votes l_30 self_1.keep.handed_up self_1.keep.count) self_1.now))
def sp_Post_hand (K : PySem.W.Frag) (ad : Ad) (d : Eds) : Sp := fun vs H Q E => ∃ (self_1 : S_Post) (a_2 : Addr) (L_3 : List Cell) (name_4 : Int) (data_5 : List Int) (a_6 : Addr) (R0 : Hp) (r : Rs S_Post), vs = [.ref a_2, .int name_4, .ref a_6] ∧ Own R0 H (hAppend L_3 []) ∧ (o_Post ad) R0 a_2 L_3 self_1 ∧ (hsub H (hAppend L_3 [])) a_6 = some (.lst (List.map V.int data_5)) ∧ m_Post_hand self_1 name_4 data_5 = some r ∧ RetR (fun r => RetX R0 (hsub H (hAppend L_3 [])) (dX (o_Post ad) a_2 r (dV .non)) Q) d r H E
abbrev N_Post_hand : List Str := ["self", "name", "data"]
theorem sc_Post_hand : FnScope N_Post_hand ["self", "name", "data"] (defScope s_Post_hand) := ⟨rfl, rfl, rfl, by decide +kernel, rfl, by decide +kernel, by decide +kernel⟩
theorem ok_Post_hand {ad : Ad} (T : Txt K mg ad) : FnOk P w K mg base (L2N.CX P w) 5 ad.f_Post_hand ad.fd_Post_hand ["self", "name", "data"] (sp_Post_hand K ad ad.es) := by
  have G_frame_bits := ok_frame_bits (P := P) (w := w) (base := base) T
  refine okN T.F_Post_hand sc_Post_hand (fun vs H Q E h => ?_) (fun cdv A outer s H vs Q E hr h => ?_)
  · obtain ⟨_, _, _, _, _, _, _, _, rfl, _⟩ := h
    rfl
  · obtain ⟨self_1, a_2, L_3, name_4, data_5, a_6, R0, r, rfl, OO, hb_a_2, hp_a_6, hm, k⟩ := h
    unfold m_Post_hand at hm
    obtain ⟨Hb, hHb⟩ : ∃ Hb : Hp, Hb = hsub H (hAppend L_3 []) := ⟨_, rfl⟩
    obtain ⟨H0, hH0⟩ : ∃ H0 : Hp, H0 = Hb := ⟨Hb, rfl⟩
    have O : Own H0 H (hAppend L_3 []) := by rw [hH0, hHb]; exact OO.startX
    have eR : Ex R0 Hb := by rw [hHb]; exact OO.subR
    rw [← hHb] at k hp_a_6
    have eB : Ex Hb H0 := by rw [hH0]; exact Ex.refl _
    have eS : Ex R0 (ovr R0 Hb H0) := by rw [hH0]; exact ovr_start eR
    replace hb_a_2 := (mo_Post ad) _ _ _ _ _ eS hb_a_2
    rw [← hH0] at hp_a_6
    clear hH0
    refine ⟨_, (pss_cons (ps_expr (pe_call G_frame_bits (hr.mono (by decide)) (by rfl) T.g_frame_bits T.F_frame_bits.kp T.b_frame_bits .nil (E := E) (L2N.passes_call (L2N.takes_of rfl rfl rfl rfl) fun _ _ _ _ h => h) (pa_cons (pv 1) (pa_cons (pv 2) pa_nil)))) (pss_one (ps_expr (pe_bm PySem.F.plainAttrs_list PySem.F.slot_list_append PySem.F.type_list_append mt_append (pe_fld (pe_fld (pv 0) rfl) rfl) (pa_cons (pe_tupQ (pe_tup (pa_cons (pv 1) (pa_cons (pe_callTy (r := rListQ K) call_listQ (by rfl) T.z_list (by decide +kernel) (pa_cons (pv 2) pa_nil)) pa_nil)))) pa_nil))))), ?_⟩
    obtain ⟨dx_7, a_8, L_9, a_11, L_12, rfl, h10, h13⟩ := hb_a_2
    replace O := Own.cv (L' := ((a_2, x_Post ad dx_7 a_8 a_11) :: ((dx_7, .own a_2) :: (hAppend L_9 (hAppend L_12 []))))) O (by first | with_reducible rfl | simp only [n1, n2, n3, n4, n5, n6, n7])
    -- 164
    refine o_seq ?_
    refine o_drop ?_
    obtain ⟨x_16, h15, hm⟩ := bndRE hm
    refine ⟨_, rfl, _, rfl, ?_⟩
    refine x_nil ?_
    refine ⟨_, _, _, x_16, rfl, (O.ex _ _ hp_a_6), h15, ?_⟩
    refine RetR.split (fun e_ h17 => ?_) (fun frame_14 h17 => ?_)
    · subst h17
      obtain rfl := erR hm
      exact RetE.up k (Own.whole OO hHb eB (show Own _ _ (hAppend (hAppend ((a_2, x_Post ad dx_7 a_8 a_11) :: (dx_7, .own a_2) :: (hAppend L_9 (hAppend L_12 []))) []) []) from (Own.pkB O [[_], [_], _, _] rfl [0, 1, 2, 3] (by decide) (by simp only [g1, g2, g3, g4, n2, n3, n4, n5, n6, n7]))))
    subst h17
    replace hm := okR hm
    refine O.retL fun p_18 H O => ?_
    replace O := (Own.pkB (L' := ((a_2, x_Post ad dx_7 a_8 a_11) :: ((dx_7, .own a_2) :: (hAppend L_9 (hAppend L_12 []))))) O [[_], [_], [_], _, _] rfl [1, 2, 3, 4] (by decide) rfl)
    -- 165
    refine o_drop ?_
    refine ⟨_, rfl, ?_⟩
    obtain ⟨dx_19, p_20, p_21, vs_22, p_23, vs_24, a_25, L_26, rfl, ha_p_21, ha_p_23, h27⟩ := h10
    replace O := Own.cv (L' := ((a_2, x_Post ad dx_7 a_8 a_11) :: ((dx_7, .own a_2) :: ((a_8, x_Keep ad dx_19 p_20 self_1.keep.votes p_21 p_23 a_25) :: ((dx_19, .own a_8) :: ((p_20, .tup [V.int self_1.keep.choice.1, V.int self_1.keep.choice.2]) :: ((p_21, .lst vs_22) :: ((p_23, .lst vs_24) :: (hAppend L_26 (hAppend L_12 [])))))))))) O (by first | with_reducible rfl | simp only [n1, n2, n3, n4, n5, n6, n7])
    refine ⟨a_2, _, _, _, _, rfl, (O.mem (hd_)), T.C_Post, T.N_Post_keep, lk_hit, a_8, _, _, _, _, rfl, (O.mem (tl_ (tl_ (hd_)))), T.C_Keep, T.N_Keep_queue, (lk_skip (by decide) (lk_skip (by decide) lk_hit)), .inl ⟨rfl, _, (SqL.of (O.mem (tl_ (tl_ (tl_ (tl_ (tl_ (hd_))))))))⟩, _, rfl, _, rfl, ?_⟩
    refine x_nil ?_
    refine n_list O (SqL.of (O.ex _ _ hp_a_6)) fun p_28 H O => ?_
    refine x_nil ?_
    obtain ⟨H0, O, e_, hp_p_28⟩ := O.frzO (R0 := R0) eB
    replace hp_a_6 := e_ _ _ hp_a_6
    replace h13 := (mo_Free ad a_8) _ _ _ _ _ (ovr_mono e_) h13
    replace ha_p_21 := mA (mT2 mI (mL mI)) (ovr_mono e_) ha_p_21
    replace ha_p_23 := mA (mT2 mI (mL mI)) (ovr_mono e_) ha_p_23
    replace h27 := (mo_Count ad) _ _ _ _ _ (ovr_mono e_) h27
    replace eB := eB.trans e_
    refine n_tup O (by show 2 ≤ sizeLine; decide) fun p_29 H O => ?_
    obtain ⟨H0, O, e_, hp_p_29⟩ := O.frzO (R0 := R0) eB
    replace hp_a_6 := e_ _ _ hp_a_6
    replace h13 := (mo_Free ad a_8) _ _ _ _ _ (ovr_mono e_) h13
    replace ha_p_21 := mA (mT2 mI (mL mI)) (ovr_mono e_) ha_p_21
    replace ha_p_23 := mA (mT2 mI (mL mI)) (ovr_mono e_) ha_p_23
    replace h27 := (mo_Count ad) _ _ _ _ _ (ovr_mono e_) h27
    replace hp_p_28 := (ovr_mono e_) _ _ hp_p_28
    replace eB := eB.trans e_
    have hn_p_29 : (rT2 rI (rL rI)) (ovr R0 Hb H0) (.ref p_29) ((name_4, data_5) : Int × (List Int)) := ⟨_, _, _, rfl, hp_p_29, rfl, (gI hp_p_28)⟩
    refine x_nil ?_
    obtain ⟨l_30, h31, hm⟩ := bndE hm
    refine k_appA (O.mem (tl_ (tl_ (tl_ (tl_ (tl_ (hd_))))))) ha_p_21 (fun _ => O.put5) h31 hn_p_29 fun H O ha_p_21 => ?_
    obtain rfl := Option.some.inj hm
    exact k _ _ H0 (hAppend ((a_2, x_Post ad dx_7 a_8 a_11) :: (dx_7, .own a_2) :: (hAppend ((a_8, x_Keep ad dx_19 p_20 self_1.keep.votes p_21 p_23 a_25) :: (dx_19, .own a_8) :: ((p_20, .tup [V.int self_1.keep.choice.1, V.int self_1.keep.choice.2]) :: ((p_21, .lst (vs_22 ++ [.ref p_29])) :: ((p_23, .lst vs_24) :: (hAppend L_26 []))))) (hAppend L_12 []))) []) eB (by exact (Own.pkB O [[_], [_], [_], [_], [_], [_], [_], _, _] rfl [0, 1, 2, 3, 4, 5, 6, 7, 8] (by decide) (by simp only [g1, g2, g3, g4, n2, n3, n4, n5, n6, n7]))) ⟨_, _, rfl, ⟨dx_7, a_8, ((a_8, x_Keep ad dx_19 p_20 self_1.keep.votes p_21 p_23 a_25) :: (dx_19, .own a_8) :: ((p_20, .tup [V.int self_1.keep.choice.1, V.int self_1.keep.choice.2]) :: ((p_21, .lst (vs_22 ++ [.ref p_29])) :: ((p_23, .lst vs_24) :: (hAppend L_26 []))))), a_11, L_12, rfl, ⟨dx_19, p_20, p_21, ((vs_22 ++ [.ref p_29])), p_23, (vs_24), a_25, L_26, rfl, ha_p_21, ha_p_23, h27⟩, h13⟩, ⟨rfl, rfl⟩⟩
def m__law_frames_alike_L1  (number_67 : Int) : Option (Fl (Unit) (Bool)) :=
  ifB ((!true) || false) (
    some (.rt false)) (
    some (.nx ()))
def m__law_frames_alike_L0 (found_1 : List (Int × (List Int))) (due_3 : List (Int × (List Int))) (k_25 : Int) : Option (Fl (Unit) (Bool)) :=
  bnd (atI found_1 k_25) fun e_29 =>
  ifB ((!true) || ((!decide (((2 : Nat) : Int) = (2 : Int))) || (!true))) (
    some (.rt false)) (
    bnd (catG ([e_29.1]) e_29.2) fun t_60 =>
    flo (loopF (fun number_67 (_ : Unit) => m__law_frames_alike_L1 number_67) t_60 ()) fun _ =>
    bnd (atI due_3 k_25) fun e_79 =>
    bnd (ifB (!decide (e_29.1 = e_79.1)) (some true) (bnd (atI due_3 k_25) fun e_98 => some (!decide (e_29.2 = e_98.2)))) fun c_112 =>
    ifB c_112 (
      some (.rt false)) (
      some (.nx ())))
def m__law_frames_alike (found_1 : List (Int × (List Int))) (due_3 : List (Int × (List Int))) : Option (Bool) :=
  ifB ((!true) || (!decide ((List.length found_1 : Int) = (List.length due_3 : Int)))) (
    some false) (
    bnd (rng1 (List.length due_3 : Int)) fun rg_17 =>
    fin (loopF (fun k_25 (_ : Unit) => m__law_frames_alike_L0 found_1 due_3 k_25) rg_17 ()) fun _ =>
    some true)
def sp__law_frames_alike (K : PySem.W.Frag) : Sp := fun vs H Q _ => ∃ (found_1 : List (Int × (List Int))) (a_2 : Addr) (due_3 : List (Int × (List Int))) (a_4 : Addr) (r : Bool), vs = [.ref a_2, .ref a_4] ∧ (rL (rT2 rI (rL rI))) H (.ref a_2) found_1 ∧ (rL (rT2 rI (rL rI))) H (.ref a_4) due_3 ∧ m__law_frames_alike found_1 due_3 = some r ∧ RetV (.bl r) H Q
abbrev N__law_frames_alike : List Str := ["found", "due", "k", "one", "number"]
theorem sc__law_frames_alike : FnScope N__law_frames_alike ["found", "due"] (defScope s__law_frames_alike) := ⟨rfl, rfl, rfl, by decide +kernel, rfl, by decide +kernel, by decide +kernel⟩
theorem ok__law_frames_alike {ad : Ad} (T : Txt K mg ad) : FnOk P w K mg base CX0 1 ad.f__law_frames_alike ad.fd__law_frames_alike ["found", "due"] (sp__law_frames_alike K) := by
  refine T.F__law_frames_alike.ok sc__law_frames_alike (fun vs H Q E h => ?_) (fun cdv A outer s H vs Q E hr h => ?_)
  · obtain ⟨_, _, _, _, _, rfl, _⟩ := h
    rfl
  · obtain ⟨found_1, a_2, due_3, a_4, r, rfl, hn_a_2, hn_a_4, hm, k⟩ := h
    unfold m__law_frames_alike at hm
    obtain ⟨H0, hH0⟩ : ∃ H0 : Hp, H0 = H := ⟨H, rfl⟩
    have O : Own H0 H [] := by rw [hH0]; exact Own.start H
    rw [← hH0] at k hn_a_2 hn_a_4
    clear hH0
    refine ⟨_, (pss_cons (ps_if (PW.pt (pw_or (pt_not (pt_val (pe_callB (r := rIsi K) call_isi (by rfl) T.z_isinstance (by decide +kernel) (pa_cons (pv 0) (pa_cons (pe_bltn (v := V.ty "list") (u := .type "list") (by rfl) T.z_list (by decide +kernel) rfl) pa_nil))))) (pw_or1 (pt_cmpR op_ne (pe_callB (r := rLenQ K) call_lenQ (by rfl) T.z_len PySem.boot_len (pa_cons (pv 0) pa_nil)) (pe_callB (r := rLenQ K) call_lenQ (by rfl) T.z_len PySem.boot_len (pa_cons (pv 1) pa_nil)) (nomark _))))) (pss_one (ps_ret pe_bl)) pss_nil) (pss_cons (ps_for PassesOwn.never rfl (pi_range1 (by rfl) T.z_range (pa_cons (pe_callB (r := rLenQ K) call_lenQ (by rfl) T.z_len PySem.boot_len (pa_cons (pv 1) pa_nil)) pa_nil)) (pg_name (i := 2) sc__law_frames_alike.nd rfl (Or.inl rfl)) (pss_cons (ps_set (i := 3) sc__law_frames_alike.nd rfl (Or.inl rfl) (pe_ix (r := rIxL K) ix_list (pv 0) (pv 2) (fun _ _ => rfl))) (pss_cons (ps_if (PW.pt (pw_or (pt_not (pt_val (pe_callB (r := rIsi K) call_isi (by rfl) T.z_isinstance (by decide +kernel) (pa_cons (pv 3) (pa_cons (pe_bltn (v := V.ty "tuple") (u := .type "tuple") (by rfl) T.z_tuple (by decide +kernel) rfl) pa_nil))))) (pw_or (pt_cmpR op_ne (pe_callB (r := rLenQ K) call_lenQ (by rfl) T.z_len PySem.boot_len (pa_cons (pv 3) pa_nil)) pe_int (nomark _)) (pw_or1 (pt_not (pt_val (pe_callB (r := rIsi K) call_isi (by rfl) T.z_isinstance (by decide +kernel) (pa_cons (pe_ix (r := rIxT K) ix_tup (pv 3) pe_int (fun _ _ => rfl)) (pa_cons (pe_bltn (v := V.ty "list") (u := .type "list") (by rfl) T.z_list (by decide +kernel) rfl) pa_nil))))))))) (pss_one (ps_ret pe_bl)) pss_nil) (pss_cons (ps_for PassesOwn.never rfl (pi_list (pe_op op_cat (pe_lstQ (pe_lst (pa_cons (pe_ix (r := rIxT K) ix_tup (pv 3) pe_int (fun _ _ => rfl)) pa_nil))) (pe_ix (r := rIxT K) ix_tup (pv 3) pe_int (fun _ _ => rfl)))) (pg_name (i := 4) sc__law_frames_alike.nd rfl (Or.inl rfl)) (pss_one (ps_if (PW.pt (pw_or (pt_not (pt_val (pe_callB (r := rIsi K) call_isi (by rfl) T.z_isinstance (by decide +kernel) (pa_cons (pv 4) (pa_cons (pe_bltn (v := V.ty "int") (u := .type "int") (by rfl) T.z_int (by decide +kernel) rfl) pa_nil))))) (pw_or1 (pt_val (pe_callB (r := rIsi K) call_isi (by rfl) T.z_isinstance (by decide +kernel) (pa_cons (pv 4) (pa_cons (pe_bltn (v := V.ty "bool") (u := .type "bool") (by rfl) T.z_bool (by decide +kernel) rfl) pa_nil))))))) (pss_one (ps_ret pe_bl)) pss_nil))) (pss_one (ps_if (PW.pt (pw_or (pt_cmpR op_ne (pe_ix (r := rIxT K) ix_tup (pv 3) pe_int (fun _ _ => rfl)) (pe_ix (r := rIxT K) ix_tup (pe_ix (r := rIxL K) ix_list (pv 1) (pv 2) (fun _ _ => rfl)) pe_int (fun _ _ => rfl)) (nomark _)) (pw_or1 (pt_cmpR (r := rNeD K) (op_neD hr.units) (pe_ix (r := rIxT K) ix_tup (pv 3) pe_int (fun _ _ => rfl)) (pe_ix (r := rIxT K) ix_tup (pe_ix (r := rIxL K) ix_list (pv 1) (pv 2) (fun _ _ => rfl)) pe_int (fun _ _ => rfl)) (nomark _))))) (pss_one (ps_ret pe_bl)) pss_nil)))))) (pss_one (ps_ret pe_bl)))), ?_⟩
    -- 217
    refine o_seq ?_
    refine o_ifs ?_
    refine x_or (c := (!true)) (e := (!decide ((List.length found_1 : Int) = (List.length due_3 : Int)))) (d := ((!true) || (!decide ((List.length found_1 : Int) = (List.length due_3 : Int))))) O (fun Q1 k1 => ?_) (fun h5 => ⟨by rw [h5]; rfl, fun H O Q2 k2 => ?_⟩) (fun h5 => by rw [h5]; rfl) (fun H O => ?_)
    · refine ⟨_, rfl, ?_⟩
      obtain ⟨_, h6, _⟩ := rL_at hn_a_2
      refine ⟨_, _, _, _, true, rfl, .ty _, .base (.lst (O.ex _ _ h6)), kit_ty (by decide +kernel), _, rfl, ?_⟩
      exact k1 _ O
    · refine ⟨_, rfl, ?_⟩
      refine x_nil ?_
      obtain ⟨vs_7, h8, h9⟩ := rL_at hn_a_2
      refine n_lenA (SqL.of (O.ex _ _ h8)) h9 ?_
      refine ⟨_, rfl, ?_⟩
      refine x_nil ?_
      obtain ⟨vs_10, h11, h12⟩ := rL_at hn_a_4
      refine n_lenA (SqL.of (O.ex _ _ h11)) h12 ?_
      refine k_neI ?_
      refine ⟨_, rfl, ?_⟩
      exact k2 _ O
    refine iteS (c := ((!true) || (!decide ((List.length found_1 : Int) = (List.length due_3 : Int))))) (fun h13 => ?_) (fun h13 => ?_)
    · replace hm := ifT hm h13
      -- 218
      refine o_ret ?_
      refine o_c ?_
      obtain rfl := Option.some.inj hm
      exact RetV.go k O
    · replace hm := ifF hm h13
      refine o_next ?_
      -- 219
      refine o_seq ?_
      refine o_for ?_
      refine ⟨_, rfl, ?_⟩
      refine x_nil ?_
      obtain ⟨vs_14, h15, h16⟩ := rL_at hn_a_4
      refine n_lenA (SqL.of (O.ex _ _ h15)) h16 ?_
      obtain ⟨rg_17, h18, hm⟩ := bndE hm
      refine x_nil ?_
      obtain ⟨c1, c2, rfl⟩ := rng1E h18
      obtain ⟨out_26, h22, h23⟩ := bndE hm
      refine ⟨_, rfl, c1, c2, q_forR (fun r σ H => ∃ (j_19 : Option V) (j_20 : Option V) (j_21 : Option V), σ = [some (.ref a_2), some (.ref a_4), j_19, j_20, j_21] ∧ Own H0 H [] ∧ loopF (fun k_25 (_ : Unit) => m__law_frames_alike_L0 found_1 due_3 k_25) r () = some out_26) ⟨_, _, _, rfl, O, h22⟩ ?_ ?_⟩
      · rintro k_25 r σ H ⟨j_19, j_20, j_21, rfl, O, hL⟩
        obtain ⟨s_, hm, h24⟩ := loopF_cons hL
        replace hm : m__law_frames_alike_L0 found_1 due_3 k_25 = some s_ := hm
        unfold m__law_frames_alike_L0 at hm
        -- 220
        refine o_seq ?_
        refine o_asg ?_
        obtain ⟨e_29, h30, hm⟩ := bndE hm
        refine ⟨_, rfl, _, rfl, ?_⟩
        obtain ⟨vs_31, h32, h33⟩ := rL_at hn_a_2
        refine k_ixA (SqL.of (O.ex _ _ h32)) h33 h30 fun w_34 h35 => ?_
        obtain ⟨p_36, rfl⟩ := rT2_ref h35
        have hn_p_36 := h35
        -- 221
        refine o_seq ?_
        refine o_ifs ?_
        refine x_or (c := (!true)) (e := ((!decide (((2 : Nat) : Int) = (2 : Int))) || (!true))) (d := ((!true) || ((!decide (((2 : Nat) : Int) = (2 : Int))) || (!true)))) O (fun Q1 k1 => ?_) (fun h37 => ⟨by rw [h37]; rfl, fun H O Q2 k2 => ?_⟩) (fun h37 => by rw [h37]; rfl) (fun H O => ?_)
        · refine ⟨_, rfl, ?_⟩
          obtain ⟨_, _, h38, _⟩ := rT2_at hn_p_36
          refine ⟨_, _, _, _, true, rfl, .ty _, .base (.tup (O.ex _ _ h38)), kit_ty (by decide +kernel), _, rfl, ?_⟩
          exact k1 _ O
        · refine x_or (c := (!decide (((2 : Nat) : Int) = (2 : Int)))) (e := (!true)) (d := ((!decide (((2 : Nat) : Int) = (2 : Int))) || (!true))) O (fun Q1 k1 => ?_) (fun h39 => ⟨by rw [h39]; rfl, fun H O Q2 k2 => ?_⟩) (fun h39 => by rw [h39]; rfl) (fun H O => ?_)
          · refine ⟨_, rfl, ?_⟩
            refine x_nil ?_
            obtain ⟨_, _, h40, _⟩ := rT2_at hn_p_36
            refine n_lenT (SqT.of (O.ex _ _ h40)) (n := 2) rfl ?_
            refine o_c ?_
            refine k_neI ?_
            refine ⟨_, rfl, ?_⟩
            exact k1 _ O
          · refine ⟨_, rfl, ?_⟩
            refine o_c ?_
            obtain ⟨w_41, w_42, h43, h44, h45⟩ := rT2_at hn_p_36
            refine k_ixT (xs := [w_41, w_42]) (SqT.of (O.ex _ _ h43)) rfl ?_
            obtain ⟨p_46, rfl, hp_p_46⟩ := fI h45
            refine ⟨_, _, _, _, true, rfl, .ty _, .base (.lst (O.ex _ _ hp_p_46)), kit_ty (by decide +kernel), _, rfl, ?_⟩
            exact k2 _ O
          exact k2 _ O
        refine iteS (c := ((!true) || ((!decide (((2 : Nat) : Int) = (2 : Int))) || (!true)))) (fun h47 => ?_) (fun h47 => ?_)
        · replace hm := ifT hm h47
          -- 222
          refine o_ret ?_
          refine o_c ?_
          obtain rfl := Option.some.inj hm
          obtain rfl := contRt h24
          obtain rfl := finRt h23
          exact RetV.go k O
        · replace hm := ifF hm h47
          refine o_next ?_
          -- 223
          refine o_seq ?_
          refine o_for ?_
          refine ⟨_, rfl, ?_⟩
          refine o_c ?_
          obtain ⟨w_48, w_49, h50, h51, h52⟩ := rT2_at hn_p_36
          refine k_ixT (xs := [w_48, w_49]) (SqT.of (O.ex _ _ h50)) rfl ?_
          obtain rfl := h51
          refine x_nil ?_
          refine n_lst (f := V.int) (xs := [e_29.1]) O rfl (by show 1 ≤ sizeLine; decide) fun p_53 H O => ?_
          refine ⟨_, rfl, ?_⟩
          refine o_c ?_
          obtain ⟨w_54, w_55, h56, h57, h58⟩ := rT2_at hn_p_36
          refine k_ixT (xs := [w_54, w_55]) (SqT.of (O.ex _ _ h56)) rfl ?_
          obtain ⟨p_59, rfl, hp_p_59⟩ := fI h58
          obtain ⟨t_60, h61, hm⟩ := bndE hm
          refine k_cat (f := V.int) O (O.mem (hd_)) (O.ex _ _ hp_p_59) h61 fun p_62 H O => ?_
          obtain ⟨out_68, h64, h65⟩ := bndE hm
          refine ⟨_, rfl, ⟨_, (SqL.of (O.mem (hd_)))⟩, q_forL (f := V.int) (xs := t_60) (fun r σ H => ∃ (j_63 : Option V), σ = [some (.ref a_2), some (.ref a_4), some (.int k_25), some (.ref p_36), j_63] ∧ Own H0 H [(p_62, .lst (List.map V.int t_60)), (p_53, .lst (List.map V.int ([e_29.1])))] ∧ loopF (fun number_67 (_ : Unit) => m__law_frames_alike_L1 number_67) r () = some out_68) ⟨_, rfl, O, h64⟩ (by rintro r σ H ⟨j_63, rfl, O, hL⟩; exact (SqL.of (O.mem (hd_)))) ?_ ?_⟩
          · rintro number_67 r σ H ⟨j_63, rfl, O, hL⟩
            obtain ⟨s_, hm, h66⟩ := loopF_cons hL
            replace hm : m__law_frames_alike_L1 number_67 = some s_ := hm
            unfold m__law_frames_alike_L1 at hm
            -- 224
            refine o_ifs ?_
            refine x_or (c := (!true)) (e := false) (d := ((!true) || false)) O (fun Q1 k1 => ?_) (fun h71 => ⟨by rw [h71]; rfl, fun H O Q2 k2 => ?_⟩) (fun h71 => by rw [h71]; rfl) (fun H O => ?_)
            · refine ⟨_, rfl, _, _, _, _, true, rfl, .ty _, .base (.int _), kit_ty (by decide +kernel), _, rfl, ?_⟩
              exact k1 _ O
            · refine ⟨_, rfl, _, _, _, _, false, rfl, .ty _, .base (.int _), kit_ty (by decide +kernel), _, rfl, ?_⟩
              exact k2 _ O
            refine iteS (c := ((!true) || false)) (fun h72 => ?_) (fun h72 => ?_)
            · replace hm := ifT hm h72
              -- 225
              refine o_ret ?_
              refine o_c ?_
              obtain rfl := Option.some.inj hm
              obtain rfl := contRt h66
              obtain rfl := floRt h65
              obtain rfl := contRt h24
              obtain rfl := finRt h23
              exact RetV.go k O
            · replace hm := ifF hm h72
              refine o_next ?_
              have Oz := O
              obtain rfl := Option.some.inj hm
              exact ⟨_, rfl, Oz, h66⟩
          rintro σ H ⟨j_63, rfl, O, hL⟩
          obtain rfl := loopF_nil hL
          replace hm := floNx h65
          replace O := (Own.pk (L' := []) O [] (by decide) rfl)
          -- 226
          refine o_ifs ?_
          obtain ⟨e_79, h80, hm⟩ := bndE hm
          obtain ⟨c_112, h113, hm⟩ := bndE hm
          refine x_or (c := (!decide (e_29.1 = e_79.1))) (e := c_112) (d := c_112) O (fun Q1 k1 => ?_) (fun h73 => ⟨rfl, fun H O Q2 k2 => ?_⟩) (fun h73 => Option.some.inj (ifT h113 h73)) (fun H O => ?_)
          · refine ⟨_, rfl, ?_⟩
            refine o_c ?_
            obtain ⟨w_74, w_75, h76, h77, h78⟩ := rT2_at hn_p_36
            refine k_ixT (xs := [w_74, w_75]) (SqT.of (O.ex _ _ h76)) rfl ?_
            obtain rfl := h77
            refine ⟨_, rfl, _, rfl, ?_⟩
            obtain ⟨vs_81, h82, h83⟩ := rL_at hn_a_4
            refine k_ixA (SqL.of (O.ex _ _ h82)) h83 h80 fun w_84 h85 => ?_
            obtain ⟨p_86, rfl⟩ := rT2_ref h85
            have hn_p_86 := h85
            refine o_c ?_
            obtain ⟨w_87, w_88, h89, h90, h91⟩ := rT2_at hn_p_86
            refine k_ixT (xs := [w_87, w_88]) (SqT.of (O.ex _ _ h89)) rfl ?_
            obtain rfl := h90
            refine k_neI ?_
            refine ⟨_, rfl, ?_⟩
            exact k1 _ O
          · replace hm := ifF h113 h73
            obtain ⟨e_98, h99, hm⟩ := bndE hm
            obtain rfl := Option.some.inj hm
            refine ⟨_, rfl, ?_⟩
            refine o_c ?_
            obtain ⟨w_92, w_93, h94, h95, h96⟩ := rT2_at hn_p_36
            refine k_ixT (xs := [w_92, w_93]) (SqT.of (O.ex _ _ h94)) rfl ?_
            obtain ⟨p_97, rfl, hp_p_97⟩ := fI h96
            refine ⟨_, rfl, _, rfl, ?_⟩
            obtain ⟨vs_100, h101, h102⟩ := rL_at hn_a_4
            refine k_ixA (SqL.of (O.ex _ _ h101)) h102 h99 fun w_103 h104 => ?_
            obtain ⟨p_105, rfl⟩ := rT2_ref h104
            have hn_p_105 := h104
            refine o_c ?_
            obtain ⟨w_106, w_107, h108, h109, h110⟩ := rT2_at hn_p_105
            refine k_ixT (xs := [w_106, w_107]) (SqT.of (O.ex _ _ h108)) rfl ?_
            obtain ⟨p_111, rfl, hp_p_111⟩ := fI h110
            refine k_neLI (SqL.of (O.ex _ _ hp_p_97)) (SqL.of (O.ex _ _ hp_p_111)) ?_
            refine ⟨_, rfl, ?_⟩
            exact k2 _ O
          refine iteS (c := c_112) (fun h114 => ?_) (fun h114 => ?_)
          · replace hm := ifT hm h114
            -- 227
            refine o_ret ?_
            refine o_c ?_
            obtain rfl := Option.some.inj hm
            obtain rfl := contRt h24
            obtain rfl := finRt h23
            exact RetV.go k O
          · replace hm := ifF hm h114
            refine o_next ?_
            have Oz := O
            obtain rfl := Option.some.inj hm
            exact ⟨_, _, _, rfl, Oz, h24⟩
      rintro σ H ⟨j_19, j_20, j_21, rfl, O, hL⟩
      obtain rfl := loopF_nil hL
      replace hm := finNx h23
      -- 228
      refine o_ret ?_
      refine o_c ?_
      obtain rfl := Option.some.inj hm
      exact RetV.go k O
def m__law_far (script_1 : List Int) (k_3 : Int) : Option (Int) :=
  bnd (ifB (decide ((0 : Int) < (List.length script_1 : Int))) (bnd (modG k_3 (List.length script_1 : Int)) fun t_4 =>
  bnd (atI script_1 t_4) fun e_6 => some e_6) ( some (0 : Int))) fun z_9 =>
  bnd (powG (10 : Int) (18 : Int)) fun t_11 =>
  bnd (modG z_9 t_11) fun t_13 =>
  bnd (powG (10 : Int) (18 : Int)) fun t_15 =>
  bnd (modG z_9 t_15) fun t_17 =>
  bnd (m__law_draw script_1 (k_3 + (1 : Int)) (4 : Int)) fun law_dr_20 =>
  bnd (atI ([(-(1 : Int)), (256 : Int), ((256 : Int) + t_13), ((-(1 : Int)) - t_17)]) law_dr_20) fun e_22 =>
  some e_22
def sp__law_far (K : PySem.W.Frag) : Sp := fun vs H Q _ => ∃ (script_1 : List Int) (a_2 : Addr) (k_3 : Int) (r : Int), vs = [.ref a_2, .int k_3] ∧ SqL K H a_2 (List.map V.int script_1) ∧ m__law_far script_1 k_3 = some r ∧ RetV (.int r) H Q
abbrev N__law_far : List Str := ["script", "k", "cell"]
theorem sc__law_far : FnScope N__law_far ["script", "k"] (defScope s__law_far) := ⟨rfl, rfl, rfl, by decide +kernel, rfl, by decide +kernel, by decide +kernel⟩
theorem ok__law_far {ad : Ad} (T : Txt K mg ad) : FnOk P w K mg base CX0 2 ad.f__law_far ad.fd__law_far ["script", "k"] (sp__law_far K) := by
  have G__law_draw := ok__law_draw (P := P) (w := w) (base := base) T
  refine T.F__law_far.ok sc__law_far (fun vs H Q E h => ?_) (fun cdv A outer s H vs Q E hr h => ?_)
  · obtain ⟨_, _, _, _, rfl, _⟩ := h
    rfl
  · obtain ⟨script_1, a_2, k_3, r, rfl, hp_a_2, hm, k⟩ := h
    unfold m__law_far at hm
    obtain ⟨H0, hH0⟩ : ∃ H0 : Hp, H0 = H := ⟨H, rfl⟩
    have O : Own H0 H [] := by rw [hH0]; exact Own.start H
    rw [← hH0] at k hp_a_2
    clear hH0
    refine ⟨_, (pss_cons (ps_set (i := 2) sc__law_far.nd rfl (Or.inl rfl) (pe_ifExp (pt_cmpR op_gt (pe_callB (r := rLenQ K) call_lenQ (by rfl) T.z_len PySem.boot_len (pa_cons (pv 0) pa_nil)) pe_int (nomark _)) (pe_ix (r := rIxL K) ix_list (pv 0) (pe_op op_mod (pv 1) (pe_callB (r := rLenQ K) call_lenQ (by rfl) T.z_len PySem.boot_len (pa_cons (pv 0) pa_nil))) (fun _ _ => rfl)) pe_int)) (pss_one (ps_ret (pe_ix (r := rIxL K) ix_list (pe_lstQ (pe_lst (pa_cons (pe_un un_neg pe_int) (pa_cons pe_int (pa_cons (pe_op op_add pe_int (pe_op op_mod (pv 2) (pe_op op_pow pe_int pe_int))) (pa_cons (pe_op op_sub (pe_un un_neg pe_int) (pe_op op_mod (pv 2) (pe_op op_pow pe_int pe_int))) pa_nil)))))) (pe_call G__law_draw (hr.mono (by decide)) (by rfl) T.g__law_draw T.F__law_draw.kp T.b__law_draw .nil pass0 (pa_cons (pv 0) (pa_cons (pe_op op_add (pv 1) pe_int) (pa_cons pe_int pa_nil)))) (fun _ _ => rfl))))), ?_⟩
    -- 196
    refine o_seq ?_
    refine o_asg ?_
    obtain ⟨z_9, h10, hm⟩ := bndE hm
    refine x_if (c := decide ((0 : Int) < (List.length script_1 : Int))) (x := .int z_9) (y := .int z_9) (v := .int z_9) O (fun Q1 k1 => ?_) (fun h8 => ⟨rfl, fun H O Q2 k2 => ?_⟩) (fun h8 => ⟨rfl, fun H O Q2 k2 => ?_⟩) (fun H O => ?_)
    · refine ⟨_, rfl, ?_⟩
      refine x_nil ?_
      refine n_len (O.ex.l hp_a_2) ?_
      refine ⟨_, _, rfl, rfl, _, rfl, ?_⟩
      exact k1 _ O
    · replace hm := ifT h10 h8
      obtain ⟨t_4, h5, hm⟩ := bndE hm
      obtain ⟨e_6, h7, hm⟩ := bndE hm
      obtain rfl := Option.some.inj hm
      refine ⟨_, rfl, _, rfl, _, rfl, ?_⟩
      refine x_nil ?_
      refine n_len (O.ex.l hp_a_2) ?_
      refine k_mod h5 ?_
      refine k_ixL (f := V.int) (O.ex.l hp_a_2) h7 ?_
      exact k2 _ O
    · replace hm := ifF h10 h8
      obtain rfl := Option.some.inj hm
      refine o_c ?_
      exact k2 _ O
    -- 197
    refine o_ret ?_
    obtain ⟨t_11, h12, hm⟩ := bndE hm
    refine ⟨_, rfl, _, rfl, ?_⟩
    refine o_op ?_
    refine o_c ?_
    refine o_c ?_
    refine k_pow h12 ?_
    obtain ⟨t_13, h14, hm⟩ := bndE hm
    refine k_mod h14 ?_
    obtain ⟨t_15, h16, hm⟩ := bndE hm
    refine ⟨_, _, rfl, rfl, _, rfl, _, rfl, ?_⟩
    refine o_op ?_
    refine o_c ?_
    refine o_c ?_
    refine k_pow h16 ?_
    obtain ⟨t_17, h18, hm⟩ := bndE hm
    refine k_mod h18 ?_
    refine ⟨_, _, rfl, rfl, ?_⟩
    refine x_nil ?_
    refine n_lst (f := V.int) (xs := [(-(1 : Int)), (256 : Int), ((256 : Int) + t_13), ((-(1 : Int)) - t_17)]) O rfl (by show 4 ≤ sizeLine; decide) fun p_19 H O => ?_
    obtain ⟨law_dr_20, h21, hm⟩ := bndE hm
    refine ⟨_, rfl, _, rfl, _, _, rfl, rfl, ?_⟩
    refine o_cons ?_
    refine o_c ?_
    refine x_nil ?_
    refine ⟨_, _, _, _, law_dr_20, rfl, (O.ex.l hp_a_2), h21, ?_⟩
    refine O.retV fun H O => ?_
    obtain ⟨e_22, h23, hm⟩ := bndE hm
    refine k_ixL (f := V.int) (SqL.of (O.mem (hd_))) h23 ?_
    obtain rfl := Option.some.inj hm
    exact RetV.go k O
def m__law_data_C0 (script_1 : List Int) (base_3 : Int) (k_8 : Int) : Option Int :=
  bnd (m__law_draw script_1 ((base_3 + (1 : Int)) + k_8) (256 : Int)) fun law_dr_13 =>
  some law_dr_13
def m__law_data (script_1 : List Int) (base_3 : Int) : Option (List Int) :=
  bnd (m__law_draw script_1 base_3 (8 : Int)) fun law_dr_4 =>
  bnd (rng1 law_dr_4) fun rg_6 =>
  bnd (compM (m__law_data_C0 script_1 base_3) rg_6 []) fun l_10 =>
  some l_10
def sp__law_data (K : PySem.W.Frag) : Sp := fun vs H Q _ => ∃ (script_1 : List Int) (a_2 : Addr) (base_3 : Int) (r : List Int), vs = [.ref a_2, .int base_3] ∧ SqL K H a_2 (List.map V.int script_1) ∧ m__law_data script_1 base_3 = some r ∧ RetL (List.map V.int r) H Q
abbrev N__law_data : List Str := ["script", "base", "k"]
theorem sc__law_data : FnScope N__law_data ["script", "base"] (defScope s__law_data) := ⟨rfl, rfl, rfl, by decide +kernel, rfl, by decide +kernel, by decide +kernel⟩
theorem ok__law_data {ad : Ad} (T : Txt K mg ad) : FnOk P w K mg base CX0 2 ad.f__law_data ad.fd__law_data ["script", "base"] (sp__law_data K) := by
  have G__law_draw := ok__law_draw (P := P) (w := w) (base := base) T
  refine T.F__law_data.ok sc__law_data (fun vs H Q E h => ?_) (fun cdv A outer s H vs Q E hr h => ?_)
  · obtain ⟨_, _, _, _, rfl, _⟩ := h
    rfl
  · obtain ⟨script_1, a_2, base_3, r, rfl, hp_a_2, hm, k⟩ := h
    unfold m__law_data at hm
    obtain ⟨H0, hH0⟩ : ∃ H0 : Hp, H0 = H := ⟨H, rfl⟩
    have O : Own H0 H [] := by rw [hH0]; exact Own.start H
    rw [← hH0] at k hp_a_2
    clear hH0
    refine ⟨_, (pss_one (ps_ret (pe_lc (own := [("k", 2)]) (g := gName 2) (tt := tYes) rfl sc__law_data.nd (pi_range1 (by rfl) T.z_range (pa_cons (pe_call G__law_draw (hr.mono (by decide)) (by rfl) T.g__law_draw T.F__law_draw.kp T.b__law_draw .nil pass0 (pa_cons (pv 0) (pa_cons (pv 1) (pa_cons pe_int pa_nil)))) pa_nil)) (blkOk_by (own := [("k", 2)]) (N := N__law_data) (sc := defScope s__law_data) (by decide +kernel)) (fun _ _ _ _ _ => pg_name (i := 2) sc__law_data.nd rfl (Or.inl rfl)) (fun _ _ _ _ _ => pts_nil) (fun _ _ _ _ _ => (pe_call G__law_draw (hr.mono (by decide)) (by rfl) T.g__law_draw T.F__law_draw.kp T.b__law_draw .nil pass0 (pa_cons (pv 0) (pa_cons (pe_op op_add (pe_op op_add (pv 1) pe_int) (pv 2)) (pa_cons pe_int pa_nil)))))))), ?_⟩
    -- 237
    refine o_ret ?_
    obtain ⟨law_dr_4, h5, hm⟩ := bndE hm
    refine ⟨_, rfl, _, rfl, ?_⟩
    refine o_cons ?_
    refine o_c ?_
    refine x_nil ?_
    refine ⟨_, _, _, _, law_dr_4, rfl, (O.ex.l hp_a_2), h5, ?_⟩
    refine O.retV fun H O => ?_
    obtain ⟨rg_6, h7, hm⟩ := bndE hm
    refine x_nil ?_
    obtain ⟨c1, c2, rfl⟩ := rng1E h7
    obtain ⟨l_10, h11, hm⟩ := bndE hm
    refine ⟨_, rfl, c1, c2, fun p_12 hD => k_lcR (fun r H => ∃ acc : List Int, Own H0 H ((p_12, .lst (List.map V.int acc)) :: []) ∧ compM (m__law_data_C0 script_1 base_3) r acc = some l_10) ⟨[], O.new hD, h11⟩ ?_ ?_⟩
    · rintro k_8 r H ⟨acc, O, hC⟩
      obtain ⟨y, hm, hz, hC⟩ := compM_cons hC
      refine ⟨rfl, ?_⟩
      unfold m__law_data_C0 at hm
      obtain ⟨law_dr_13, h14, hm⟩ := bndE hm
      refine ⟨_, rfl, _, rfl, _, _, rfl, rfl, _, rfl, _, _, rfl, rfl, ?_⟩
      refine o_cons ?_
      refine o_c ?_
      refine x_nil ?_
      refine ⟨_, _, _, _, law_dr_13, rfl, (O.ex.l hp_a_2), h14, ?_⟩
      refine O.retV fun H O => ?_
      obtain rfl := Option.some.inj hm
      refine ⟨_, O.mem (hd_), (by rw [List.length_map]; exact hz), _, ?_, hC⟩
      rw [map_snoc]
      exact O.put0
    rintro H ⟨acc, O, hC⟩
    obtain rfl := compM_nil hC
    obtain rfl := Option.some.inj hm
    exact RetL.go k O (hd_)
def m__law_no_frame (post_1 : S_Post) (name_4 : Int) (data_5 : List Int) : Option (S_Post × Bool) :=
  bnd (m_Post_hand post_1 name_4 data_5) fun x_16 =>
  tryR x_16 (fun self_14 =>
    some (self_14, false)) (fun e_ =>
    ifB (okE ks e_) (
      ltv (((decide (e_.k = .NoFrame)) && true)) fun good_20 =>
      some (post_1, (good_20 && ((!(decide (e_.k = .NoPost))) && (!(m__law_is_other e_.k)))))) none)
def sp__law_no_frame (K : PySem.W.Frag) (ad : Ad) : Sp := fun vs H Q _ => ∃ (post_1 : S_Post) (a_2 : Addr) (L_3 : List Cell) (name_4 : Int) (data_5 : List Int) (a_6 : Addr) (R0 : Hp) (r : S_Post × Bool), vs = [.ref a_2, .int name_4, .ref a_6] ∧ Own R0 H (hAppend L_3 []) ∧ (o_Post ad) R0 a_2 L_3 post_1 ∧ (hsub H (hAppend L_3 [])) a_6 = some (.lst (List.map V.int data_5)) ∧ m__law_no_frame post_1 name_4 data_5 = some r ∧ RetX R0 (hsub H (hAppend L_3 [])) (dX (o_Post ad) a_2 r.1 (dV (.bl r.2))) Q
abbrev N__law_no_frame : List Str := ["post", "name", "data", "good", "e"]
theorem sc__law_no_frame : FnScope N__law_no_frame ["post", "name", "data"] (defScope s__law_no_frame) := ⟨rfl, rfl, rfl, by decide +kernel, rfl, by decide +kernel, by decide +kernel⟩
theorem ok__law_no_frame {ad : Ad} (T : Txt K mg ad) : FnOk P w K mg base CX0 6 ad.f__law_no_frame ad.fd__law_no_frame ["post", "name", "data"] (sp__law_no_frame K ad) := by
  have G_Post_hand := ok_Post_hand (P := P) (w := w) (base := base) T
  have G__law_is_other := ok__law_is_other (P := P) (w := w) (base := base) T
  refine T.F__law_no_frame.ok sc__law_no_frame (fun vs H Q E h => ?_) (fun cdv A outer s H vs Q E hr h => ?_)
  · obtain ⟨_, _, _, _, _, _, _, _, rfl, _⟩ := h
    rfl
  · obtain ⟨post_1, a_2, L_3, name_4, data_5, a_6, R0, r, rfl, OO, hb_a_2, hp_a_6, hm, k⟩ := h
    unfold m__law_no_frame at hm
    obtain ⟨Hb, hHb⟩ : ∃ Hb : Hp, Hb = hsub H (hAppend L_3 []) := ⟨_, rfl⟩
    obtain ⟨H0, hH0⟩ : ∃ H0 : Hp, H0 = Hb := ⟨Hb, rfl⟩
    have O : Own H0 H (hAppend L_3 []) := by rw [hH0, hHb]; exact OO.startX
    have eR : Ex R0 Hb := by rw [hHb]; exact OO.subR
    rw [← hHb] at k hp_a_6
    have eB : Ex Hb H0 := by rw [hH0]; exact Ex.refl _
    have eS : Ex R0 (ovr R0 Hb H0) := by rw [hH0]; exact ovr_start eR
    replace hb_a_2 := (mo_Post ad) _ _ _ _ _ eS hb_a_2
    rw [← hH0] at hp_a_6
    clear hH0
    refine ⟨_, (pss_cons (ps_set (i := 3) sc__law_no_frame.nd rfl (Or.inl rfl) pe_bl) (pss_cons (L2N.ps_try_as (i := 4) (tb := fun W => _) rfl rfl sc__law_no_frame.nd rfl rfl ⟨rfl, by decide, .inl T.n_RailError⟩ takesN0 (fun W pn xe tk _ => (pss_one (ps_expr (pe_methE (pv 0) T.C_Post T.M_Post_hand G_Post_hand (hr.mono (by decide)) T.b_Post_hand (fun σ => L2N.passAt tk σ) (pa_cons (pv 1) (pa_cons (pv 2) pa_nil)))))) (fun a oe cls d pn hz hf => pss_exc (es := ad.es) (ks := ks) fun ex hk hc => (pss_cons (ps_set (i := 3) sc__law_no_frame.nd rfl (Or.inl rfl) (pe_and (pe_callB (r := rIsX K (ad.es.at ex.k) a ex d) (call_isP (p := (a, oe)) (hd_) (T.EC.ec _ hk) (hz.1.trans hc) hz.2.1 hf) (by rfl) T.z_isinstance (by decide +kernel) (pa_cons (pv 4) (pa_cons (pe_gr rfl T.n_NoFrame) pa_nil))) (pe_one (pe_callB (r := rIsX K (ad.es.at ex.k) a ex d) (call_isP (p := (a, oe)) (hd_) (T.EC.ec _ hk) (hz.1.trans hc) hz.2.1 hf) (by rfl) T.z_isinstance (by decide +kernel) (pa_cons (pv 4) (pa_cons (pe_bltn (v := V.ty "ValueError") (u := .type "ValueError") (by rfl) T.z_ValueError (by decide +kernel) rfl) pa_nil)))))) (pss_one (ps_set (i := 3) sc__law_no_frame.nd rfl (Or.inl rfl) (pe_and (pv 3) (pe_and (pe_not (pe_callB (r := rIsX K (ad.es.at ex.k) a ex d) (call_isP (p := (a, oe)) (hd_) (T.EC.ec _ hk) (hz.1.trans hc) hz.2.1 hf) (by rfl) T.z_isinstance (by decide +kernel) (pa_cons (pv 4) (pa_cons (pe_gr rfl T.n_NoPost) pa_nil)))) (pe_one (pe_not (pe_callEs (ok__law_is_other (P := P) (w := w) (base := base) T ex hk) hz hf hc (hr.mono (by decide)) (by rfl) T.g__law_is_other T.F__law_is_other.kp T.b__law_is_other (pa_cons (pv 4) pa_nil))))))))))) (pss_one (ps_ret (pv 3))))), ?_⟩
    obtain ⟨dx_7, a_8, L_9, a_11, L_12, rfl, h10, h13⟩ := hb_a_2
    replace O := Own.cv (L' := ((a_2, x_Post ad dx_7 a_8 a_11) :: ((dx_7, .own a_2) :: (hAppend L_9 (hAppend L_12 []))))) O (by first | with_reducible rfl | simp only [n1, n2, n3, n4, n5, n6, n7])
    -- 209
    refine o_seq ?_
    refine o_asg ?_
    refine o_c ?_
    -- 210
    refine o_seq ?_
    refine o_drop ?_
    refine ⟨_, rfl, a_2, _, _, rfl, (O.mem (hd_)), (lk_skip (by decide) (lk_skip (by decide) lk_nil)), _, rfl, _, rfl, ?_⟩
    refine x_nil ?_
    obtain ⟨x_16, h15, hm⟩ := bndE hm
    have Oc : Own H0 H (hAppend (hAppend ((a_2, x_Post ad dx_7 a_8 a_11) :: (dx_7, .own a_2) :: (hAppend L_9 (hAppend L_12 []))) []) []) := (Own.pkB O [[_], [_], _, _] rfl [0, 1, 2, 3] (by decide) (by simp only [g1, g2, g3, g4, n2, n3, n4, n5, n6, n7]))
    refine ⟨post_1, a_2, _, name_4, data_5, a_6, ovr R0 Hb H0, x_16, rfl, (Own.shrink Oc.left ovr_ex), ⟨dx_7, a_8, L_9, a_11, L_12, rfl, h10, h13⟩, (Oc.left.subR _ _ hp_a_6), h15, ?_⟩
    refine RetR.split (fun e_ h17 => ?_) ?_
    · subst h17
      replace hm := tryEr hm
      obtain ⟨hq_, hm⟩ := ifN hm
      obtain ⟨hp_, hk_⟩ := okE_iff hq_
      refine RetE.byP hp_ fun H1 hE => ?_
      replace O := O.ext hE
      refine ⟨true, T.EC.xr _ hk_, fun _ a_ ha_ => ?_, fun q => nomatch q⟩
      refine ⟨e_, hk_, rfl, ?_⟩
      -- 213
      refine o_seq ?_
      refine o_asg ?_
      refine x_andVJ (c := (decide (e_.k = .NoFrame))) (e := true) (d := ((decide (e_.k = .NoFrame)) && true)) (fun H => ∃ (R_ : Hp), Ex H0 R_ ∧ Own R_ H ((a_2, x_Post ad dx_7 a_8 a_11) :: ((dx_7, .own a_2) :: (hAppend L_9 (hAppend L_12 []))))) (fun Q1 k1 => ?_) (fun h18 => ⟨by rw [h18]; rfl, fun H hJ Q2 k2 => ?_⟩) (fun h18 => by rw [h18]; rfl) (fun H hJ => ?_)
      · have eJ19 : Ex H0 H0 := Ex.refl _
        refine ⟨_, rfl, ?_⟩
        refine o_cons ?_
        refine o_c ?_
        refine x_nil ?_
        refine ⟨_, _, _, rfl, .own _, (XFl.of hp_), T.EC.kt _ hk_ .NoFrame (by decide), ?_⟩
        exact k1 _ ⟨H0, eJ19, (Own.pkB (L' := ((a_2, x_Post ad dx_7 a_8 a_11) :: ((dx_7, .own a_2) :: (hAppend L_9 (hAppend L_12 []))))) O [[_], [_], _, _] rfl [0, 1, 2, 3] (by decide) rfl)⟩
      · obtain ⟨H0, eJ19, O⟩ := hJ
        replace hp_a_6 := eJ19 _ _ hp_a_6
        replace h10 := (mo_Keep ad) _ _ _ _ _ (ovr_mono eJ19) h10
        replace h13 := (mo_Free ad a_8) _ _ _ _ _ (ovr_mono eJ19) h13
        replace eB := eB.trans eJ19
        refine ⟨_, rfl, ?_⟩
        refine o_cons ?_
        refine o_c ?_
        refine x_nil ?_
        refine ⟨_, _, _, rfl, .ty _, (XFl.of hp_), T.EC.kv _ hk_, ?_⟩
        exact k2 _ ⟨H0, eJ19, (Own.pkB (L' := ((a_2, x_Post ad dx_7 a_8 a_11) :: ((dx_7, .own a_2) :: (hAppend L_9 (hAppend L_12 []))))) O [[_], [_], _, _] rfl [0, 1, 2, 3] (by decide) rfl)⟩
      obtain ⟨H0, eJ19, O⟩ := hJ
      replace hp_a_6 := eJ19 _ _ hp_a_6
      replace h10 := (mo_Keep ad) _ _ _ _ _ (ovr_mono eJ19) h10
      replace h13 := (mo_Free ad a_8) _ _ _ _ _ (ovr_mono eJ19) h13
      replace eB := eB.trans eJ19
      obtain ⟨good_20, h21, hm⟩ := ltvE hm
      refine a_set (congrArg V.bl h21) ?_
      -- 214
      refine o_asg ?_
      refine x_andVJ (c := good_20) (e := ((!(decide (e_.k = .NoPost))) && (!(m__law_is_other e_.k)))) (d := (good_20 && ((!(decide (e_.k = .NoPost))) && (!(m__law_is_other e_.k))))) (fun H => ∃ (R_ : Hp), Ex H0 R_ ∧ Own R_ H ((a_2, x_Post ad dx_7 a_8 a_11) :: ((dx_7, .own a_2) :: (hAppend L_9 (hAppend L_12 []))))) (fun Q1 k1 => ?_) (fun h22 => ⟨by rw [h22]; rfl, fun H hJ Q2 k2 => ?_⟩) (fun h22 => by rw [h22]; rfl) (fun H hJ => ?_)
      · have eJ23 : Ex H0 H0 := Ex.refl _
        refine ⟨_, rfl, ?_⟩
        exact k1 _ ⟨H0, eJ23, (Own.pkB (L' := ((a_2, x_Post ad dx_7 a_8 a_11) :: ((dx_7, .own a_2) :: (hAppend L_9 (hAppend L_12 []))))) O [[_], [_], _, _] rfl [0, 1, 2, 3] (by decide) rfl)⟩
      · obtain ⟨H0, eJ23, O⟩ := hJ
        replace hp_a_6 := eJ23 _ _ hp_a_6
        replace h10 := (mo_Keep ad) _ _ _ _ _ (ovr_mono eJ23) h10
        replace h13 := (mo_Free ad a_8) _ _ _ _ _ (ovr_mono eJ23) h13
        replace eB := eB.trans eJ23
        refine x_andVJ (c := (!(decide (e_.k = .NoPost)))) (e := (!(m__law_is_other e_.k))) (d := ((!(decide (e_.k = .NoPost))) && (!(m__law_is_other e_.k)))) (fun H => ∃ (R_ : Hp), Ex H0 R_ ∧ Own R_ H ((a_2, x_Post ad dx_7 a_8 a_11) :: ((dx_7, .own a_2) :: (hAppend L_9 (hAppend L_12 []))))) (fun Q1 k1 => ?_) (fun h24 => ⟨by rw [h24]; rfl, fun H hJ Q2 k2 => ?_⟩) (fun h24 => by rw [h24]; rfl) (fun H hJ => ?_)
        · have eJ25 : Ex H0 H0 := Ex.refl _
          refine ⟨_, rfl, ?_⟩
          refine o_cons ?_
          refine o_c ?_
          refine x_nil ?_
          refine ⟨_, _, _, rfl, .own _, (XFl.of hp_), T.EC.kt _ hk_ .NoPost (by decide), ?_⟩
          refine ⟨_, rfl, ?_⟩
          exact k1 _ ⟨H0, eJ25, (Own.pkB (L' := ((a_2, x_Post ad dx_7 a_8 a_11) :: ((dx_7, .own a_2) :: (hAppend L_9 (hAppend L_12 []))))) O [[_], [_], _, _] rfl [0, 1, 2, 3] (by decide) rfl)⟩
        · obtain ⟨H0, eJ25, O⟩ := hJ
          replace hp_a_6 := eJ25 _ _ hp_a_6
          replace h10 := (mo_Keep ad) _ _ _ _ _ (ovr_mono eJ25) h10
          replace h13 := (mo_Free ad a_8) _ _ _ _ _ (ovr_mono eJ25) h13
          replace eB := eB.trans eJ25
          replace eJ23 := eJ23.trans eJ25
          refine ⟨_, rfl, ?_⟩
          refine x_nil ?_
          refine ⟨rfl, (XFl.of hp_), ?_⟩
          refine O.retV fun H O => ?_
          refine ⟨_, rfl, ?_⟩
          exact k2 _ ⟨H0, eJ25, (Own.pkB (L' := ((a_2, x_Post ad dx_7 a_8 a_11) :: ((dx_7, .own a_2) :: (hAppend L_9 (hAppend L_12 []))))) O [[_], [_], _, _] rfl [0, 1, 2, 3] (by decide) rfl)⟩
        obtain ⟨H0, eJ25, O⟩ := hJ
        replace hp_a_6 := eJ25 _ _ hp_a_6
        replace h10 := (mo_Keep ad) _ _ _ _ _ (ovr_mono eJ25) h10
        replace h13 := (mo_Free ad a_8) _ _ _ _ _ (ovr_mono eJ25) h13
        replace eB := eB.trans eJ25
        replace eJ23 := eJ23.trans eJ25
        exact k2 _ ⟨H0, eJ23, (Own.pkB (L' := ((a_2, x_Post ad dx_7 a_8 a_11) :: ((dx_7, .own a_2) :: (hAppend L_9 (hAppend L_12 []))))) O [[_], [_], _, _] rfl [0, 1, 2, 3] (by decide) rfl)⟩
      obtain ⟨H0, eJ23, O⟩ := hJ
      replace hp_a_6 := eJ23 _ _ hp_a_6
      replace h10 := (mo_Keep ad) _ _ _ _ _ (ovr_mono eJ23) h10
      replace h13 := (mo_Free ad a_8) _ _ _ _ _ (ovr_mono eJ23) h13
      replace eB := eB.trans eJ23
      refine o_dn ?_
      -- 215
      refine o_ret ?_
      refine ⟨_, rfl, ?_⟩
      obtain rfl := Option.some.inj hm
      exact k _ _ H0 (hAppend ((a_2, x_Post ad dx_7 a_8 a_11) :: (dx_7, .own a_2) :: (hAppend L_9 (hAppend L_12 []))) []) eB (by exact (Own.pkB O [[_], [_], _, _] rfl [0, 1, 2, 3] (by decide) (by simp only [g1, g2, g3, g4, n2, n3, n4, n5, n6, n7]))) ⟨_, _, rfl, ⟨dx_7, a_8, L_9, a_11, L_12, rfl, h10, h13⟩, ⟨rfl, rfl⟩⟩
    rintro self_14 h17
    subst h17
    replace hm := tryOk hm
    refine Oc.retXO (mdX (mo_Post ad) mdV) eB fun w_26 H H0 L_27 O e_ d_ => ?_
    replace hp_a_6 := e_ _ _ hp_a_6
    replace h10 := (mo_Keep ad) _ _ _ _ _ (ovr_mono e_) h10
    replace h13 := (mo_Free ad a_8) _ _ _ _ _ (ovr_mono e_) h13
    replace eB := eB.trans e_
    obtain ⟨L_28, L_30, rfl, h29, ⟨rfl, rfl⟩⟩ := d_
    obtain ⟨dx_31, a_32, L_33, a_35, L_36, rfl, h34, h37⟩ := h29
    replace O := Own.cv (L' := ((a_2, x_Post ad dx_31 a_32 a_35) :: ((dx_31, .own a_2) :: (hAppend L_33 (hAppend L_36 []))))) O (by first | with_reducible rfl | simp only [n1, n2, n3, n4, n5, n6, n7])
    -- 215
    refine o_ret ?_
    refine ⟨_, rfl, ?_⟩
    obtain rfl := Option.some.inj hm
    exact k _ _ H0 (hAppend ((a_2, x_Post ad dx_31 a_32 a_35) :: (dx_31, .own a_2) :: (hAppend L_33 (hAppend L_36 []))) []) eB (by exact (Own.pkB O [[_], [_], _, _] rfl [0, 1, 2, 3] (by decide) (by simp only [g1, g2, g3, g4, n2, n3, n4, n5, n6, n7]))) ⟨_, _, rfl, ⟨dx_31, a_32, L_33, a_35, L_36, rfl, h34, h37⟩, ⟨rfl, rfl⟩⟩
def m__law_spoiled_C0 (script_1 : List Int) (base_6 : Int) (k_51 : Int) : Option Int :=
  bnd (m__law_draw script_1 (base_6 + k_51) (256 : Int)) fun law_dr_59 =>
  some law_dr_59
def m__law_spoiled (script_1 : List Int) (post_3 : S_Post) (base_6 : Int) (frame_7 : Int × (List Int)) : Option (S_Post × Bool) :=
  bnd (m__law_draw script_1 base_6 (3 : Int)) fun law_dr_16 =>
  ifB (decide (law_dr_16 = (0 : Int))) (
    bnd (m__law_far script_1 (base_6 + (1 : Int))) fun law_fa_19 =>
    bnd (m__law_no_frame post_3 law_fa_19 frame_7.2) fun (post_28, law_no_29) =>
    some (post_28, law_no_29)) (
    ifB (decide (law_dr_16 = (1 : Int))) (
      bnd (rng1 ((8 : Int) + (base_6 % (5 : Int)))) fun rg_49 =>
      bnd (compM (m__law_spoiled_C0 script_1 base_6) rg_49 []) fun l_52 =>
      bnd (m__law_no_frame post_3 frame_7.1 l_52) fun (post_61, law_no_62) =>
      some (post_61, law_no_62)) (
      bnd (m__law_draw script_1 (base_6 + (3 : Int)) ((List.length (cutL frame_7.2 none (some (6 : Int))) : Int) + (1 : Int))) fun law_dr_84 =>
      bnd (m__law_far script_1 (base_6 + (4 : Int))) fun law_fa_86 =>
      bnd (insG (cutL frame_7.2 none (some (6 : Int))) law_dr_84 law_fa_86) fun l_88 =>
      bnd (m__law_no_frame post_3 frame_7.1 l_88) fun (post_95, law_no_96) =>
      some (post_95, law_no_96)))
def sp__law_spoiled (K : PySem.W.Frag) (ad : Ad) : Sp := fun vs H Q _ => ∃ (script_1 : List Int) (a_2 : Addr) (post_3 : S_Post) (a_4 : Addr) (L_5 : List Cell) (base_6 : Int) (frame_7 : Int × (List Int)) (a_8 : Addr) (R0 : Hp) (r : S_Post × Bool), vs = [.ref a_2, .ref a_4, .int base_6, .ref a_8] ∧ Own R0 H (hAppend L_5 []) ∧ SqL K (hsub H (hAppend L_5 [])) a_2 (List.map V.int script_1) ∧ (o_Post ad) R0 a_4 L_5 post_3 ∧ (rT2 rI (rL rI)) (hsub H (hAppend L_5 [])) (.ref a_8) frame_7 ∧ m__law_spoiled script_1 post_3 base_6 frame_7 = some r ∧ RetX R0 (hsub H (hAppend L_5 [])) (dX (o_Post ad) a_4 r.1 (dV (.bl r.2))) Q
abbrev N__law_spoiled : List Str := ["script", "post", "base", "frame", "way", "data", "k"]
theorem sc__law_spoiled : FnScope N__law_spoiled ["script", "post", "base", "frame"] (defScope s__law_spoiled) := ⟨rfl, rfl, rfl, by decide +kernel, rfl, by decide +kernel, by decide +kernel⟩
theorem ok__law_spoiled {ad : Ad} (T : Txt K mg ad) : FnOk P w K mg base CX0 7 ad.f__law_spoiled ad.fd__law_spoiled ["script", "post", "base", "frame"] (sp__law_spoiled K ad) := by
  have G__law_draw := ok__law_draw (P := P) (w := w) (base := base) T
  have G__law_far := ok__law_far (P := P) (w := w) (base := base) T
  have G__law_no_frame := ok__law_no_frame (P := P) (w := w) (base := base) T
  refine T.F__law_spoiled.ok sc__law_spoiled (fun vs H Q E h => ?_) (fun cdv A outer s H vs Q E hr h => ?_)
  · obtain ⟨_, _, _, _, _, _, _, _, _, _, rfl, _⟩ := h
    rfl
  · obtain ⟨script_1, a_2, post_3, a_4, L_5, base_6, frame_7, a_8, R0, r, rfl, OO, hp_a_2, hb_a_4, hn_a_8, hm, k⟩ := h
    unfold m__law_spoiled at hm
    obtain ⟨Hb, hHb⟩ : ∃ Hb : Hp, Hb = hsub H (hAppend L_5 []) := ⟨_, rfl⟩
    obtain ⟨H0, hH0⟩ : ∃ H0 : Hp, H0 = Hb := ⟨Hb, rfl⟩
    have O : Own H0 H (hAppend L_5 []) := by rw [hH0, hHb]; exact OO.startX
    have eR : Ex R0 Hb := by rw [hHb]; exact OO.subR
    rw [← hHb] at k hp_a_2 hn_a_8
    have eB : Ex Hb H0 := by rw [hH0]; exact Ex.refl _
    have eS : Ex R0 (ovr R0 Hb H0) := by rw [hH0]; exact ovr_start eR
    rw [← hH0] at hp_a_2
    replace hb_a_4 := (mo_Post ad) _ _ _ _ _ eS hb_a_4
    rw [← hH0] at hn_a_8
    clear hH0
    refine ⟨_, (pss_cons (ps_set (i := 4) sc__law_spoiled.nd rfl (Or.inl rfl) (pe_call G__law_draw (hr.mono (by decide)) (by rfl) T.g__law_draw T.F__law_draw.kp T.b__law_draw .nil pass0 (pa_cons (pv 0) (pa_cons (pv 2) (pa_cons pe_int pa_nil))))) (pss_cons (ps_if (pt_cmpR op_eq (pv 4) pe_int (nomark _)) (pss_one (ps_ret (pe_call G__law_no_frame (hr.mono (by decide)) (by rfl) T.g__law_no_frame T.F__law_no_frame.kp T.b__law_no_frame .nil pass0 (pa_cons (pv 1) (pa_cons (pe_call G__law_far (hr.mono (by decide)) (by rfl) T.g__law_far T.F__law_far.kp T.b__law_far .nil pass0 (pa_cons (pv 0) (pa_cons (pe_op op_add (pv 2) pe_int) pa_nil))) (pa_cons (pe_callTy (r := rListQ K) call_listQ (by rfl) T.z_list (by decide +kernel) (pa_cons (pe_ix (r := rIxT K) ix_tup (pv 3) pe_int (fun _ _ => rfl)) pa_nil)) pa_nil)))))) pss_nil) (pss_cons (ps_if (pt_cmpR op_eq (pv 4) pe_int (nomark _)) (pss_one (ps_ret (pe_call G__law_no_frame (hr.mono (by decide)) (by rfl) T.g__law_no_frame T.F__law_no_frame.kp T.b__law_no_frame .nil pass0 (pa_cons (pv 1) (pa_cons (pe_ix (r := rIxT K) ix_tup (pv 3) pe_int (fun _ _ => rfl)) (pa_cons (pe_lc (own := [("k", 6)]) (g := gName 6) (tt := tYes) rfl sc__law_spoiled.nd (pi_range1 (by rfl) T.z_range (pa_cons (pe_op op_add pe_int (pe_op op_mod (pv 2) pe_int)) pa_nil)) (blkOk_by (own := [("k", 6)]) (N := N__law_spoiled) (sc := defScope s__law_spoiled) (by decide +kernel)) (fun _ _ _ _ _ => pg_name (i := 6) sc__law_spoiled.nd rfl (Or.inl rfl)) (fun _ _ _ _ _ => pts_nil) (fun _ _ _ _ _ => (pe_call G__law_draw (hr.mono (by decide)) (by rfl) T.g__law_draw T.F__law_draw.kp T.b__law_draw .nil pass0 (pa_cons (pv 0) (pa_cons (pe_op op_add (pv 2) (pv 6)) (pa_cons pe_int pa_nil)))))) pa_nil)))))) pss_nil) (pss_cons (ps_set (i := 5) sc__law_spoiled.nd rfl (Or.inl rfl) (pe_callTy (r := rListQ K) call_listQ (by rfl) T.z_list (by decide +kernel) (pa_cons (pe_slice (r := rSlL K) sl_list (pe_ix (r := rIxT K) ix_tup (pv 3) pe_int (fun _ _ => rfl)) po_none (po_some pe_int)) pa_nil))) (pss_cons (ps_expr (pe_bm (r := rInsert) PySem.F.plainAttrs_list PySem.F.slot_list_insert PySem.F.type_list_insert mt_insertQ (pv 5) (pa_cons (pe_call G__law_draw (hr.mono (by decide)) (by rfl) T.g__law_draw T.F__law_draw.kp T.b__law_draw .nil pass0 (pa_cons (pv 0) (pa_cons (pe_op op_add (pv 2) pe_int) (pa_cons (pe_op op_add (pe_callB (r := rLenQ K) call_lenQ (by rfl) T.z_len PySem.boot_len (pa_cons (pv 5) pa_nil)) pe_int) pa_nil)))) (pa_cons (pe_call G__law_far (hr.mono (by decide)) (by rfl) T.g__law_far T.F__law_far.kp T.b__law_far .nil pass0 (pa_cons (pv 0) (pa_cons (pe_op op_add (pv 2) pe_int) pa_nil))) pa_nil)))) (pss_one (ps_ret (pe_call G__law_no_frame (hr.mono (by decide)) (by rfl) T.g__law_no_frame T.F__law_no_frame.kp T.b__law_no_frame .nil pass0 (pa_cons (pv 1) (pa_cons (pe_ix (r := rIxT K) ix_tup (pv 3) pe_int (fun _ _ => rfl)) (pa_cons (pv 5) pa_nil))))))))))), ?_⟩
    obtain ⟨dx_9, a_10, L_11, a_13, L_14, rfl, h12, h15⟩ := hb_a_4
    replace O := Own.cv (L' := ((a_4, x_Post ad dx_9 a_10 a_13) :: ((dx_9, .own a_4) :: (hAppend L_11 (hAppend L_14 []))))) O (by first | with_reducible rfl | simp only [n1, n2, n3, n4, n5, n6, n7])
    -- 239
    refine o_seq ?_
    refine o_asg ?_
    obtain ⟨law_dr_16, h17, hm⟩ := bndE hm
    refine ⟨_, rfl, _, rfl, ?_⟩
    refine o_cons ?_
    refine o_c ?_
    refine x_nil ?_
    refine ⟨_, _, _, _, law_dr_16, rfl, (O.ex.l hp_a_2), h17, ?_⟩
    refine O.retV fun H O => ?_
    -- 240
    refine o_seq ?_
    refine o_ifs ?_
    refine ⟨_, rfl, ?_⟩
    refine o_c ?_
    refine k_eqI ?_
    refine ⟨_, rfl, ?_⟩
    refine iteS (c := (decide (law_dr_16 = (0 : Int)))) (fun h18 => ?_) (fun h18 => ?_)
    · replace hm := ifT hm h18
      -- 241
      refine o_ret ?_
      obtain ⟨law_fa_19, h20, hm⟩ := bndE hm
      refine ⟨_, rfl, _, rfl, _, rfl, _, _, rfl, rfl, ?_⟩
      refine x_nil ?_
      refine ⟨_, _, _, law_fa_19, rfl, (O.ex.l hp_a_2), h20, ?_⟩
      refine O.retV fun H O => ?_
      refine ⟨_, rfl, ?_⟩
      refine o_c ?_
      obtain ⟨w_21, w_22, h23, h24, h25⟩ := rT2_at hn_a_8
      refine k_ixT (xs := [w_21, w_22]) (SqT.of (O.ex _ _ h23)) rfl ?_
      obtain ⟨p_26, rfl, hp_p_26⟩ := fI h25
      refine x_nil ?_
      refine n_list O (SqL.of (O.ex _ _ hp_p_26)) fun p_27 H O => ?_
      obtain ⟨⟨post_28, law_no_29⟩, h30, hm⟩ := bndE hm
      refine x_nil ?_
      have Oc : Own H0 H (hAppend (hAppend ((a_4, x_Post ad dx_9 a_10 a_13) :: (dx_9, .own a_4) :: (hAppend L_11 (hAppend L_14 []))) []) [(p_27, .lst (List.map V.int frame_7.2))]) := (Own.pkB O [[_], [_], [_], _, _] rfl [1, 2, 3, 4, 0] (by decide) (by simp only [g1, g2, g3, g4, n2, n3, n4, n5, n6, n7]))
      refine ⟨post_3, a_4, _, law_fa_19, frame_7.2, p_27, ovr R0 Hb H0, (post_28, law_no_29), rfl, (Own.shrink Oc.left ovr_ex), ⟨dx_9, a_10, L_11, a_13, L_14, rfl, h12, h15⟩, (Own.inC Oc (hd_)), h30, ?_⟩
      refine Oc.retXO (mdX (mo_Post ad) mdV) eB fun w_31 H H0 L_32 O e_ d_ => ?_
      replace hp_a_2 := e_.l hp_a_2
      replace hn_a_8 := (mT2 mI (mL mI)) _ _ _ _ e_ hn_a_8
      replace h12 := (mo_Keep ad) _ _ _ _ _ (ovr_mono e_) h12
      replace h15 := (mo_Free ad a_10) _ _ _ _ _ (ovr_mono e_) h15
      replace hp_p_26 := e_ _ _ hp_p_26
      replace eB := eB.trans e_
      obtain ⟨L_33, L_35, rfl, h34, ⟨rfl, rfl⟩⟩ := d_
      obtain ⟨dx_36, a_37, L_38, a_40, L_41, rfl, h39, h42⟩ := h34
      replace O := Own.cv (L' := ((a_4, x_Post ad dx_36 a_37 a_40) :: ((dx_36, .own a_4) :: (hAppend L_38 (hAppend L_41 ((p_27, .lst (List.map V.int frame_7.2)) :: [])))))) O (by first | with_reducible rfl | simp only [n1, n2, n3, n4, n5, n6, n7])
      replace O := (Own.pkB (L' := ((a_4, x_Post ad dx_36 a_37 a_40) :: ((dx_36, .own a_4) :: ((p_27, .lst (List.map V.int frame_7.2)) :: (hAppend L_38 (hAppend L_41 [])))))) O [[_], [_], _, _, [_]] rfl [0, 1, 4, 2, 3] (by decide) rfl)
      obtain rfl := Option.some.inj hm
      exact k _ _ H0 (hAppend ((a_4, x_Post ad dx_36 a_37 a_40) :: (dx_36, .own a_4) :: (hAppend L_38 (hAppend L_41 []))) []) eB (by exact (Own.pkB O [[_], [_], [_], _, _] rfl [0, 1, 3, 4] (by decide) (by simp only [g1, g2, g3, g4, n2, n3, n4, n5, n6, n7]))) ⟨_, _, rfl, ⟨dx_36, a_37, L_38, a_40, L_41, rfl, h39, h42⟩, ⟨rfl, rfl⟩⟩
    · replace hm := ifF hm h18
      refine o_next ?_
      -- 242
      refine o_seq ?_
      refine o_ifs ?_
      refine ⟨_, rfl, ?_⟩
      refine o_c ?_
      refine k_eqI ?_
      refine ⟨_, rfl, ?_⟩
      refine iteS (c := (decide (law_dr_16 = (1 : Int)))) (fun h43 => ?_) (fun h43 => ?_)
      · replace hm := ifT hm h43
        -- 243
        refine o_ret ?_
        refine ⟨_, rfl, _, rfl, ?_⟩
        refine o_c ?_
        obtain ⟨w_44, w_45, h46, h47, h48⟩ := rT2_at hn_a_8
        refine k_ixT (xs := [w_44, w_45]) (SqT.of (O.ex _ _ h46)) rfl ?_
        obtain rfl := h47
        obtain ⟨rg_49, h50, hm⟩ := bndE hm
        refine ⟨_, rfl, _, _, rfl, rfl, (by show (0 : Int) < 5; decide), _, _, rfl, rfl, ?_⟩
        refine x_nil ?_
        obtain ⟨c1, c2, rfl⟩ := rng1E h50
        obtain ⟨l_52, h53, hm⟩ := bndE hm
        refine ⟨_, rfl, c1, c2, fun p_54 hD => k_lcR (fun r H => ∃ (R_ : Hp) (acc : List Int), Ex H0 R_ ∧ Own R_ H ((p_54, .lst (List.map V.int acc)) :: ((a_4, x_Post ad dx_9 a_10 a_13) :: ((dx_9, .own a_4) :: (hAppend L_11 (hAppend L_14 []))))) ∧ compM (m__law_spoiled_C0 script_1 base_6) r acc = some l_52) ⟨H0, [], Ex.refl _, O.new hD, h53⟩ ?_ ?_⟩
        · rintro k_51 r H ⟨H0, acc, eC54, O, hC⟩
          replace hp_a_2 := eC54.l hp_a_2
          replace hn_a_8 := (mT2 mI (mL mI)) _ _ _ _ eC54 hn_a_8
          replace h12 := (mo_Keep ad) _ _ _ _ _ (ovr_mono eC54) h12
          replace h15 := (mo_Free ad a_10) _ _ _ _ _ (ovr_mono eC54) h15
          replace eB := eB.trans eC54
          obtain ⟨y, hm, hz, hC⟩ := compM_cons hC
          refine ⟨rfl, ?_⟩
          unfold m__law_spoiled_C0 at hm
          obtain ⟨law_dr_59, h60, hm⟩ := bndE hm
          refine ⟨_, rfl, _, rfl, _, rfl, _, _, rfl, rfl, ?_⟩
          refine o_cons ?_
          refine o_c ?_
          refine x_nil ?_
          refine ⟨_, _, _, _, law_dr_59, rfl, (O.ex.l hp_a_2), h60, ?_⟩
          refine O.retV fun H O => ?_
          obtain rfl := Option.some.inj hm
          refine ⟨_, O.mem (hd_), (by rw [List.length_map]; exact hz), H0, _, eC54, ?_, hC⟩
          rw [map_snoc]
          exact O.put0
        rintro H ⟨H0, acc, eC54, O, hC⟩
        replace hp_a_2 := eC54.l hp_a_2
        replace hn_a_8 := (mT2 mI (mL mI)) _ _ _ _ eC54 hn_a_8
        replace h12 := (mo_Keep ad) _ _ _ _ _ (ovr_mono eC54) h12
        replace h15 := (mo_Free ad a_10) _ _ _ _ _ (ovr_mono eC54) h15
        replace eB := eB.trans eC54
        obtain rfl := compM_nil hC
        obtain ⟨⟨post_61, law_no_62⟩, h63, hm⟩ := bndE hm
        refine x_nil ?_
        have Oc : Own H0 H (hAppend (hAppend ((a_4, x_Post ad dx_9 a_10 a_13) :: (dx_9, .own a_4) :: (hAppend L_11 (hAppend L_14 []))) []) [(p_54, .lst (List.map V.int l_52))]) := (Own.pkB O [[_], [_], [_], _, _] rfl [1, 2, 3, 4, 0] (by decide) (by simp only [g1, g2, g3, g4, n2, n3, n4, n5, n6, n7]))
        refine ⟨post_3, a_4, _, frame_7.1, l_52, p_54, ovr R0 Hb H0, (post_61, law_no_62), rfl, (Own.shrink Oc.left ovr_ex), ⟨dx_9, a_10, L_11, a_13, L_14, rfl, h12, h15⟩, (Own.inC Oc (hd_)), h63, ?_⟩
        refine Oc.retXO (mdX (mo_Post ad) mdV) eB fun w_64 H H0 L_65 O e_ d_ => ?_
        replace hp_a_2 := e_.l hp_a_2
        replace hn_a_8 := (mT2 mI (mL mI)) _ _ _ _ e_ hn_a_8
        replace h12 := (mo_Keep ad) _ _ _ _ _ (ovr_mono e_) h12
        replace h15 := (mo_Free ad a_10) _ _ _ _ _ (ovr_mono e_) h15
        replace eB := eB.trans e_
        obtain ⟨L_66, L_68, rfl, h67, ⟨rfl, rfl⟩⟩ := d_
        obtain ⟨dx_69, a_70, L_71, a_73, L_74, rfl, h72, h75⟩ := h67
        replace O := Own.cv (L' := ((a_4, x_Post ad dx_69 a_70 a_73) :: ((dx_69, .own a_4) :: (hAppend L_71 (hAppend L_74 ((p_54, .lst (List.map V.int l_52)) :: [])))))) O (by first | with_reducible rfl | simp only [n1, n2, n3, n4, n5, n6, n7])
        replace O := (Own.pkB (L' := ((a_4, x_Post ad dx_69 a_70 a_73) :: ((dx_69, .own a_4) :: ((p_54, .lst (List.map V.int l_52)) :: (hAppend L_71 (hAppend L_74 [])))))) O [[_], [_], _, _, [_]] rfl [0, 1, 4, 2, 3] (by decide) rfl)
        obtain rfl := Option.some.inj hm
        exact k _ _ H0 (hAppend ((a_4, x_Post ad dx_69 a_70 a_73) :: (dx_69, .own a_4) :: (hAppend L_71 (hAppend L_74 []))) []) eB (by exact (Own.pkB O [[_], [_], [_], _, _] rfl [0, 1, 3, 4] (by decide) (by simp only [g1, g2, g3, g4, n2, n3, n4, n5, n6, n7]))) ⟨_, _, rfl, ⟨dx_69, a_70, L_71, a_73, L_74, rfl, h72, h75⟩, ⟨rfl, rfl⟩⟩
      · replace hm := ifF hm h43
        refine o_next ?_
        -- 244
        refine o_seq ?_
        refine o_asg ?_
        refine ⟨_, rfl, ?_⟩
        refine o_c ?_
        obtain ⟨w_76, w_77, h78, h79, h80⟩ := rT2_at hn_a_8
        refine k_ixT (xs := [w_76, w_77]) (SqT.of (O.ex _ _ h78)) rfl ?_
        obtain ⟨p_81, rfl, hp_p_81⟩ := fI h80
        refine ⟨_, rfl, ?_⟩
        refine k_cut (f := V.int) O (SqL.of (O.ex _ _ hp_p_81)) fun p_82 H O => ?_
        refine x_nil ?_
        refine n_list O (SqL.of (O.mem (hd_))) fun p_83 H O => ?_
        -- 245
        refine o_seq ?_
        refine o_drop ?_
        refine ⟨_, rfl, .inl ⟨rfl, _, (SqL.of (O.mem (hd_)))⟩, _, rfl, _, rfl, _, _, rfl, rfl, _, rfl, ?_⟩
        refine x_nil ?_
        refine n_len (SqL.of (O.mem (hd_))) ?_
        obtain ⟨law_dr_84, h85, hm⟩ := bndE hm
        refine ⟨_, _, rfl, rfl, ?_⟩
        refine x_nil ?_
        refine ⟨_, _, _, _, law_dr_84, rfl, (O.ex.l hp_a_2), h85, ?_⟩
        refine O.retV fun H O => ?_
        obtain ⟨law_fa_86, h87, hm⟩ := bndE hm
        refine ⟨_, rfl, _, rfl, _, _, rfl, rfl, ?_⟩
        refine x_nil ?_
        refine ⟨_, _, _, law_fa_86, rfl, (O.ex.l hp_a_2), h87, ?_⟩
        refine O.retV fun H O => ?_
        refine x_nil ?_
        obtain ⟨l_88, h89, hm⟩ := bndE hm
        refine k_ins (f := V.int) (O.mem (hd_)) (fun _ => O.put0) h89 fun H O => ?_
        -- 246
        refine o_ret ?_
        refine ⟨_, rfl, _, rfl, ?_⟩
        refine o_c ?_
        obtain ⟨w_90, w_91, h92, h93, h94⟩ := rT2_at hn_a_8
        refine k_ixT (xs := [w_90, w_91]) (SqT.of (O.ex _ _ h92)) rfl ?_
        obtain rfl := h93
        obtain ⟨⟨post_95, law_no_96⟩, h97, hm⟩ := bndE hm
        refine ⟨_, rfl, ?_⟩
        refine x_nil ?_
        have Oc : Own H0 H (hAppend (hAppend ((a_4, x_Post ad dx_9 a_10 a_13) :: (dx_9, .own a_4) :: (hAppend L_11 (hAppend L_14 []))) []) [(p_83, .lst (List.map V.int l_88)), (p_82, .lst (List.map V.int (cutL frame_7.2 none (some (6 : Int)))))]) := (Own.pkB O [[_], [_], [_], [_], _, _] rfl [2, 3, 4, 5, 0, 1] (by decide) (by simp only [g1, g2, g3, g4, n2, n3, n4, n5, n6, n7]))
        refine ⟨post_3, a_4, _, frame_7.1, l_88, p_83, ovr R0 Hb H0, (post_95, law_no_96), rfl, (Own.shrink Oc.left ovr_ex), ⟨dx_9, a_10, L_11, a_13, L_14, rfl, h12, h15⟩, (Own.inC Oc (hd_)), h97, ?_⟩
        refine Oc.retXO (mdX (mo_Post ad) mdV) eB fun w_98 H H0 L_99 O e_ d_ => ?_
        replace hp_a_2 := e_.l hp_a_2
        replace hn_a_8 := (mT2 mI (mL mI)) _ _ _ _ e_ hn_a_8
        replace h12 := (mo_Keep ad) _ _ _ _ _ (ovr_mono e_) h12
        replace h15 := (mo_Free ad a_10) _ _ _ _ _ (ovr_mono e_) h15
        replace hp_p_81 := e_ _ _ hp_p_81
        replace eB := eB.trans e_
        obtain ⟨L_100, L_102, rfl, h101, ⟨rfl, rfl⟩⟩ := d_
        obtain ⟨dx_103, a_104, L_105, a_107, L_108, rfl, h106, h109⟩ := h101
        replace O := Own.cv (L' := ((a_4, x_Post ad dx_103 a_104 a_107) :: ((dx_103, .own a_4) :: (hAppend L_105 (hAppend L_108 ((p_83, .lst (List.map V.int l_88)) :: ((p_82, .lst (List.map V.int (cutL frame_7.2 none (some (6 : Int))))) :: []))))))) O (by first | with_reducible rfl | simp only [n1, n2, n3, n4, n5, n6, n7])
        replace O := (Own.pkB (L' := ((a_4, x_Post ad dx_103 a_104 a_107) :: ((dx_103, .own a_4) :: ((p_83, .lst (List.map V.int l_88)) :: ((p_82, .lst (List.map V.int (cutL frame_7.2 none (some (6 : Int))))) :: (hAppend L_105 (hAppend L_108 []))))))) O [[_], [_], _, _, [_], [_]] rfl [0, 1, 4, 5, 2, 3] (by decide) rfl)
        obtain rfl := Option.some.inj hm
        exact k _ _ H0 (hAppend ((a_4, x_Post ad dx_103 a_104 a_107) :: (dx_103, .own a_4) :: (hAppend L_105 (hAppend L_108 []))) []) eB (by exact (Own.pkB O [[_], [_], [_], [_], _, _] rfl [0, 1, 4, 5] (by decide) (by simp only [g1, g2, g3, g4, n2, n3, n4, n5, n6, n7]))) ⟨_, _, rfl, ⟨dx_103, a_104, L_105, a_107, L_108, rfl, h106, h109⟩, ⟨rfl, rfl⟩⟩
def m_law_L0 (script_1 : List Int) (k_72 : Int) (post_58 : S_Post) (frames_61 : List (Int × (List Int))) : Option (Fl (S_Post × (List (Int × (List Int)))) (Bool)) :=
  bnd (m__law_draw script_1 ((20 : Int) + k_72) (256 : Int)) fun law_dr_83 =>
  bnd (m__law_data script_1 ((30 : Int) + ((10 : Int) * k_72))) fun law_da_85 =>
  bnd (m__law_spoiled script_1 post_58 ((60 : Int) + ((11 : Int) * k_72)) (law_dr_83, law_da_85)) fun (post_93, law_sp_94) =>
  bnd (ifB (!law_sp_94) (some true) (bnd (m_Post_waits post_93) fun waits_115 =>
  bnd (m__law_frames_alike waits_115 frames_61) fun law_fr_122 => some (!law_fr_122))) fun c_124 =>
  ifB c_124 (
    some (.rt false)) (
    bndO (m_Post_hand post_93 law_dr_83 law_da_85) fun self_146 =>
    ifB (!decide (law_da_85 = law_da_85)) (
      some (.rt false)) (
      bnd (appG law_da_85 (300 : Int)) fun l_167 =>
      bnd (appG frames_61 (law_dr_83, law_da_85)) fun l_169 =>
      bnd (m_Post_waits self_146) fun waits_171 =>
      bnd (m__law_frames_alike waits_171 l_169) fun law_fr_181 =>
      bnd (ifB (!law_fr_181) (some true) (bnd (m_Post_says self_146) fun says_185 =>
      bnd (ifB (!decide (says_185 = (0 : Int))) (some true) (bnd (m_Post_stance self_146) fun stance_190 =>
      bnd (okD (dqT2 dqS (De.q deI)).d stance_190) fun u_197 =>
      bnd (okD (dqT2 dqS (De.q deI)).d (("free" : Str), (0 : Int))) fun u_199 => some (!decide ((stance_190 : Str × Int) = (("free" : Str), (0 : Int)))))) fun c_201 => some c_201)) fun c_203 =>
      ifB c_203 (
        some (.rt false)) (
        bnd (atI waits_171 k_72) fun e_206 =>
        bnd (appG e_206.2 (1 : Int)) fun l_220 =>
        bnd (popA waits_171 (0 : Int)) fun (e_226, l_227) =>
        some (.nx (self_146, l_169)))))
def m_law (script_1 : List Int) : Option (Bool) :=
  bnd (m__law_draw script_1 (0 : Int) (256 : Int)) fun law_dr_3 =>
  bnd (m__law_draw script_1 (1 : Int) (256 : Int)) fun law_dr_5 =>
  bnd (m__law_draw script_1 (2 : Int) (3 : Int)) fun law_dr_9 =>
  bnd (atI ([(1 : Int), (3 : Int), (5 : Int)]) law_dr_9) fun e_11 =>
  bnd (m__law_far script_1 (3 : Int)) fun law_fa_13 =>
  bnd (m__law_no_post (law_fa_13, law_dr_5) e_11) fun law_no_16 =>
  ifB (!law_no_16) (
    some false) (
    bnd (m__law_far script_1 (5 : Int)) fun law_fa_19 =>
    bnd (m__law_no_post (law_dr_3, law_fa_19) e_11) fun law_no_22 =>
    ifB (!law_no_22) (
      some false) (
      bnd (m__law_far script_1 (7 : Int)) fun law_fa_25 =>
      bnd (m__law_draw script_1 (9 : Int) (5 : Int)) fun law_dr_28 =>
      bnd (atI ([(0 : Int), (2 : Int), (4 : Int), (6 : Int), law_fa_25]) law_dr_28) fun e_30 =>
      bnd (m__law_no_post (law_dr_3, law_dr_5) e_30) fun law_no_32 =>
      ifB (!law_no_32) (
        some false) (
        bndO (m_Post_init (law_dr_3, law_dr_5) e_11) fun post_37 =>
        bnd (m__law_new post_37) fun law_ne_48 =>
        ifB (!law_ne_48) (
          some false) (
          bnd (rng1 (3 : Int)) fun rg_55 =>
          fin (loopF (fun k_72 s => m_law_L0 script_1 k_72 s.1 s.2) rg_55 (post_37, ([] : List (Int × (List Int))))) fun (post_58, frames_61) =>
          bnd (m_Post_waits post_58) fun waits_238 =>
          bnd (m__law_frames_alike waits_238 frames_61) fun law_fr_245 =>
          bnd (ifB law_fr_245 (bndO (m_Post_init (law_dr_3, law_dr_5) e_11) fun post_251 =>
          bnd (m__law_new post_251) fun law_ne_262 =>
          bnd (ifB law_ne_262 (bnd (m_Post_got post_58) fun got_267 => some (decide ((got_267 : List (Int × (List Int))) = ([] : List (Int × (List Int)))))) (some false)) fun c_275 => some c_275) (some false)) fun c_277 =>
          some c_277))))
def sp_law (K : PySem.W.Frag) : Sp := fun vs H Q _ => ∃ (script_1 : List Int) (a_2 : Addr) (r : Bool), vs = [.ref a_2] ∧ SqL K H a_2 (List.map V.int script_1) ∧ m_law script_1 = some r ∧ RetV (.bl r) H Q
abbrev N_law : List Str := ["script", "choice", "votes", "other", "post", "frames", "k", "frame", "handed", "found"]
theorem sc_law : FnScope N_law ["script"] (defScope s_law) := ⟨rfl, rfl, rfl, by decide +kernel, rfl, by decide +kernel, by decide +kernel⟩
theorem ok_law {ad : Ad} (T : Txt K mg ad) : FnOk P w K mg base CX0 8 ad.f_law ad.fd_law ["script"] (sp_law K) := by
  have G_Post_init := ok_Post_init (P := P) (w := w) (base := base) T
  have G_Post_got := ok_Post_got (P := P) (w := w) (base := base) T
  have G_Post_hand := ok_Post_hand (P := P) (w := w) (base := base) T
  have G_Post_says := ok_Post_says (P := P) (w := w) (base := base) T
  have G_Post_stance := ok_Post_stance (P := P) (w := w) (base := base) T
  have G_Post_waits := ok_Post_waits (P := P) (w := w) (base := base) T
  have G__law_data := ok__law_data (P := P) (w := w) (base := base) T
  have G__law_draw := ok__law_draw (P := P) (w := w) (base := base) T
  have G__law_far := ok__law_far (P := P) (w := w) (base := base) T
  have G__law_frames_alike := ok__law_frames_alike (P := P) (w := w) (base := base) T
  have G__law_new := ok__law_new (P := P) (w := w) (base := base) T
  have G__law_no_post := ok__law_no_post (P := P) (w := w) (base := base) T
  have G__law_spoiled := ok__law_spoiled (P := P) (w := w) (base := base) T
  refine T.F_law.ok sc_law (fun vs H Q E h => ?_) (fun cdv A outer s H vs Q E hr h => ?_)
  · obtain ⟨_, _, _, rfl, _⟩ := h
    rfl
  · obtain ⟨script_1, a_2, r, rfl, hp_a_2, hm, k⟩ := h
    unfold m_law at hm
    obtain ⟨Hb, hHb⟩ : ∃ Hb : Hp, Hb = H := ⟨H, rfl⟩
    obtain ⟨H0, hH0⟩ : ∃ H0 : Hp, H0 = Hb := ⟨Hb, rfl⟩
    have O : Own H0 H [] := by rw [hH0, hHb]; exact Own.start H
    rw [← hHb] at k hp_a_2
    rw [← hH0] at hp_a_2
    have eB : Ex Hb H0 := by rw [hH0]; exact Ex.refl _
    clear hH0 hHb
    refine ⟨_, (pss_cons (ps_set (i := 1) sc_law.nd rfl (Or.inl rfl) (pe_tupQ (pe_tup (pa_cons (pe_call G__law_draw (hr.mono (by decide)) (by rfl) T.g__law_draw T.F__law_draw.kp T.b__law_draw .nil pass0 (pa_cons (pv 0) (pa_cons pe_int (pa_cons pe_int pa_nil)))) (pa_cons (pe_call G__law_draw (hr.mono (by decide)) (by rfl) T.g__law_draw T.F__law_draw.kp T.b__law_draw .nil pass0 (pa_cons (pv 0) (pa_cons pe_int (pa_cons pe_int pa_nil)))) pa_nil))))) (pss_cons (ps_set (i := 2) sc_law.nd rfl (Or.inl rfl) (pe_ix (r := rIxL K) ix_list (pe_lstQ (pe_lst (pa_cons pe_int (pa_cons pe_int (pa_cons pe_int pa_nil))))) (pe_call G__law_draw (hr.mono (by decide)) (by rfl) T.g__law_draw T.F__law_draw.kp T.b__law_draw .nil pass0 (pa_cons (pv 0) (pa_cons pe_int (pa_cons pe_int pa_nil)))) (fun _ _ => rfl))) (pss_cons (ps_if (pt_not (pt_val (pe_call G__law_no_post (hr.mono (by decide)) (by rfl) T.g__law_no_post T.F__law_no_post.kp T.b__law_no_post .nil pass0 (pa_cons (pe_tupQ (pe_tup (pa_cons (pe_call G__law_far (hr.mono (by decide)) (by rfl) T.g__law_far T.F__law_far.kp T.b__law_far .nil pass0 (pa_cons (pv 0) (pa_cons pe_int pa_nil))) (pa_cons (pe_ix (r := rIxT K) ix_tup (pv 1) pe_int (fun _ _ => rfl)) pa_nil)))) (pa_cons (pv 2) pa_nil))))) (pss_one (ps_ret pe_bl)) pss_nil) (pss_cons (ps_if (pt_not (pt_val (pe_call G__law_no_post (hr.mono (by decide)) (by rfl) T.g__law_no_post T.F__law_no_post.kp T.b__law_no_post .nil pass0 (pa_cons (pe_tupQ (pe_tup (pa_cons (pe_ix (r := rIxT K) ix_tup (pv 1) pe_int (fun _ _ => rfl)) (pa_cons (pe_call G__law_far (hr.mono (by decide)) (by rfl) T.g__law_far T.F__law_far.kp T.b__law_far .nil pass0 (pa_cons (pv 0) (pa_cons pe_int pa_nil))) pa_nil)))) (pa_cons (pv 2) pa_nil))))) (pss_one (ps_ret pe_bl)) pss_nil) (pss_cons (ps_set (i := 3) sc_law.nd rfl (Or.inl rfl) (pe_ix (r := rIxL K) ix_list (pe_lstQ (pe_lst (pa_cons pe_int (pa_cons pe_int (pa_cons pe_int (pa_cons pe_int (pa_cons (pe_call G__law_far (hr.mono (by decide)) (by rfl) T.g__law_far T.F__law_far.kp T.b__law_far .nil pass0 (pa_cons (pv 0) (pa_cons pe_int pa_nil))) pa_nil))))))) (pe_call G__law_draw (hr.mono (by decide)) (by rfl) T.g__law_draw T.F__law_draw.kp T.b__law_draw .nil pass0 (pa_cons (pv 0) (pa_cons pe_int (pa_cons pe_int pa_nil)))) (fun _ _ => rfl))) (pss_cons (ps_if (pt_not (pt_val (pe_call G__law_no_post (hr.mono (by decide)) (by rfl) T.g__law_no_post T.F__law_no_post.kp T.b__law_no_post .nil pass0 (pa_cons (pv 1) (pa_cons (pv 3) pa_nil))))) (pss_one (ps_ret pe_bl)) pss_nil) (pss_cons (ps_set (i := 4) sc_law.nd rfl (Or.inl rfl) (pe_make T.K_Post G_Post_init (hr.mono (by decide)) (by rfl) T.k_Post T.b_Post_init .nil passN (pa_cons (pv 1) (pa_cons (pv 2) pa_nil)))) (pss_cons (ps_if (pt_not (pt_val (pe_call G__law_new (hr.mono (by decide)) (by rfl) T.g__law_new T.F__law_new.kp T.b__law_new .nil pass0 (pa_cons (pv 4) pa_nil)))) (pss_one (ps_ret pe_bl)) pss_nil) (pss_cons (ps_set (i := 5) sc_law.nd rfl (Or.inl rfl) (pe_lstQ (pe_lst pa_nil))) (pss_cons (ps_for PassesOwn.never rfl (pi_range1 (by rfl) T.z_range (pa_cons pe_int pa_nil)) (pg_name (i := 6) sc_law.nd rfl (Or.inl rfl)) (pss_cons (ps_set (i := 7) sc_law.nd rfl (Or.inl rfl) (pe_tupQ (pe_tup (pa_cons (pe_call G__law_draw (hr.mono (by decide)) (by rfl) T.g__law_draw T.F__law_draw.kp T.b__law_draw .nil pass0 (pa_cons (pv 0) (pa_cons (pe_op op_add pe_int (pv 6)) (pa_cons pe_int pa_nil)))) (pa_cons (pe_call G__law_data (hr.mono (by decide)) (by rfl) T.g__law_data T.F__law_data.kp T.b__law_data .nil pass0 (pa_cons (pv 0) (pa_cons (pe_op op_add pe_int (pe_op op_mul pe_int (pv 6))) pa_nil))) pa_nil))))) (pss_cons (ps_if (PW.pt (pw_or (pt_not (pt_val (pe_call G__law_spoiled (hr.mono (by decide)) (by rfl) T.g__law_spoiled T.F__law_spoiled.kp T.b__law_spoiled .nil pass0 (pa_cons (pv 0) (pa_cons (pv 4) (pa_cons (pe_op op_add pe_int (pe_op op_mul pe_int (pv 6))) (pa_cons (pv 7) pa_nil))))))) (pw_or1 (pt_not (pt_val (pe_call G__law_frames_alike (hr.mono (by decide)) (by rfl) T.g__law_frames_alike T.F__law_frames_alike.kp T.b__law_frames_alike .nil pass0 (pa_cons (pe_meth0 (pv 4) T.C_Post T.M_Post_waits G_Post_waits (hr.mono (by decide)) T.b_Post_waits .nil pass0) (pa_cons (pv 5) pa_nil)))))))) (pss_one (ps_ret pe_bl)) pss_nil) (pss_cons (ps_set (i := 8) sc_law.nd rfl (Or.inl rfl) (pe_callTy (r := rListQ K) call_listQ (by rfl) T.z_list (by decide +kernel) (pa_cons (pe_ix (r := rIxT K) ix_tup (pv 7) pe_int (fun _ _ => rfl)) pa_nil))) (pss_cons (ps_expr (pe_meth (pv 4) T.C_Post T.M_Post_hand G_Post_hand (hr.mono (by decide)) T.b_Post_hand .nil passN (pa_cons (pe_ix (r := rIxT K) ix_tup (pv 7) pe_int (fun _ _ => rfl)) (pa_cons (pv 8) pa_nil)))) (pss_cons (ps_if (pt_cmpR (r := rNeD K) (op_neD hr.units) (pv 8) (pe_ix (r := rIxT K) ix_tup (pv 7) pe_int (fun _ _ => rfl)) (nomark _)) (pss_one (ps_ret pe_bl)) pss_nil) (pss_cons (ps_expr (pe_bm PySem.F.plainAttrs_list PySem.F.slot_list_append PySem.F.type_list_append mt_append (pv 8) (pa_cons pe_int pa_nil))) (pss_cons (ps_expr (pe_bm PySem.F.plainAttrs_list PySem.F.slot_list_append PySem.F.type_list_append mt_append (pv 5) (pa_cons (pv 7) pa_nil))) (pss_cons (ps_set (i := 9) sc_law.nd rfl (Or.inl rfl) (pe_meth0 (pv 4) T.C_Post T.M_Post_waits G_Post_waits (hr.mono (by decide)) T.b_Post_waits .nil pass0)) (pss_cons (ps_if (PW.pt (pw_or (pt_not (pt_val (pe_call G__law_frames_alike (hr.mono (by decide)) (by rfl) T.g__law_frames_alike T.F__law_frames_alike.kp T.b__law_frames_alike .nil pass0 (pa_cons (pv 9) (pa_cons (pv 5) pa_nil))))) (pw_or (pt_cmpR op_ne (pe_meth0 (pv 4) T.C_Post T.M_Post_says G_Post_says (hr.mono (by decide)) T.b_Post_says .nil pass0) pe_int (nomark _)) (pw_or1 (pt_cmpR (r := rNeD K) (op_neD hr.units) (pe_meth0 (pv 4) T.C_Post T.M_Post_stance G_Post_stance (hr.mono (by decide)) T.b_Post_stance .nil pass0) (pe_tupQ (pe_tup (pa_cons pe_str (pa_cons pe_int pa_nil)))) (nomark _)))))) (pss_one (ps_ret pe_bl)) pss_nil) (pss_cons (ps_expr (pe_bm PySem.F.plainAttrs_list PySem.F.slot_list_append PySem.F.type_list_append mt_append (pe_ix (r := rIxT K) ix_tup (pe_ix (r := rIxL K) ix_list (pv 9) (pv 6) (fun _ _ => rfl)) pe_int (fun _ _ => rfl)) (pa_cons pe_int pa_nil))) (pss_one (ps_expr (pe_bm (r := rPopI) PySem.F.plainAttrs_list PySem.F.slot_list_pop PySem.F.type_list_pop mt_popI (pv 9) (pa_cons pe_int pa_nil))))))))))))))) (pss_one (ps_ret (pe_and (pe_call G__law_frames_alike (hr.mono (by decide)) (by rfl) T.g__law_frames_alike T.F__law_frames_alike.kp T.b__law_frames_alike .nil pass0 (pa_cons (pe_meth0 (pv 4) T.C_Post T.M_Post_waits G_Post_waits (hr.mono (by decide)) T.b_Post_waits .nil pass0) (pa_cons (pv 5) pa_nil))) (pe_and (pe_call G__law_new (hr.mono (by decide)) (by rfl) T.g__law_new T.F__law_new.kp T.b__law_new .nil pass0 (pa_cons (pe_make T.K_Post G_Post_init (hr.mono (by decide)) (by rfl) T.k_Post T.b_Post_init .nil passN (pa_cons (pv 1) (pa_cons (pv 2) pa_nil))) pa_nil)) (pe_one (pe_cmpR (r := rEqD K) (op_eqD hr.units) (pe_meth0 (pv 4) T.C_Post T.M_Post_got G_Post_got (hr.mono (by decide)) T.b_Post_got .nil pass0) (pe_lstQ (pe_lst pa_nil)) (nomark _))))))))))))))))), ?_⟩
    -- 248
    refine o_seq ?_
    refine o_asg ?_
    obtain ⟨law_dr_3, h4, hm⟩ := bndE hm
    refine ⟨_, rfl, ?_⟩
    refine o_cons ?_
    refine o_c ?_
    refine o_cons ?_
    refine o_c ?_
    refine x_nil ?_
    refine ⟨_, _, _, _, law_dr_3, rfl, (O.ex.l hp_a_2), h4, ?_⟩
    refine O.retV fun H O => ?_
    obtain ⟨law_dr_5, h6, hm⟩ := bndE hm
    refine ⟨_, rfl, ?_⟩
    refine o_cons ?_
    refine o_c ?_
    refine o_cons ?_
    refine o_c ?_
    refine x_nil ?_
    refine ⟨_, _, _, _, law_dr_5, rfl, (O.ex.l hp_a_2), h6, ?_⟩
    refine O.retV fun H O => ?_
    refine x_nil ?_
    refine n_tup O (by show 2 ≤ sizeLine; decide) fun p_7 H O => ?_
    -- 249
    refine o_seq ?_
    refine o_asg ?_
    refine o_op ?_
    refine o_cons ?_
    refine o_c ?_
    refine o_cons ?_
    refine o_c ?_
    refine o_cons ?_
    refine o_c ?_
    refine x_nil ?_
    refine n_lst (f := V.int) (xs := [(1 : Int), (3 : Int), (5 : Int)]) O rfl (by show 3 ≤ sizeLine; decide) fun p_8 H O => ?_
    obtain ⟨law_dr_9, h10, hm⟩ := bndE hm
    refine ⟨_, rfl, ?_⟩
    refine o_cons ?_
    refine o_c ?_
    refine o_cons ?_
    refine o_c ?_
    refine x_nil ?_
    refine ⟨_, _, _, _, law_dr_9, rfl, (O.ex.l hp_a_2), h10, ?_⟩
    refine O.retV fun H O => ?_
    obtain ⟨e_11, h12, hm⟩ := bndE hm
    refine k_ixL (f := V.int) (SqL.of (O.mem (hd_))) h12 ?_
    -- 250
    refine o_seq ?_
    refine o_ifs ?_
    obtain ⟨law_fa_13, h14, hm⟩ := bndE hm
    refine ⟨_, rfl, ?_⟩
    refine o_cons ?_
    refine o_c ?_
    refine x_nil ?_
    refine ⟨_, _, _, law_fa_13, rfl, (O.ex.l hp_a_2), h14, ?_⟩
    refine O.retV fun H O => ?_
    refine ⟨_, rfl, ?_⟩
    refine o_c ?_
    refine k_ixT (SqT.of (O.mem (tl_ (hd_)))) rfl ?_
    refine x_nil ?_
    refine n_tup O (by show 2 ≤ sizeLine; decide) fun p_15 H O => ?_
    obtain ⟨law_no_16, h17, hm⟩ := bndE hm
    refine ⟨_, rfl, ?_⟩
    refine x_nil ?_
    refine ⟨(law_fa_13, law_dr_5), _, _, law_no_16, rfl, ⟨_, _, _, rfl, (O.mem (hd_)), rfl, rfl⟩, h17, ?_⟩
    refine O.retV fun H O => ?_
    refine ⟨_, rfl, ?_⟩
    replace O := O.tl
    refine iteS (c := (!law_no_16)) (fun h18 => ?_) (fun h18 => ?_)
    · replace hm := ifT hm h18
      -- 251
      refine o_ret ?_
      refine o_c ?_
      obtain rfl := Option.some.inj hm
      exact RetV.goR k O eB
    · replace hm := ifF hm h18
      refine o_next ?_
      -- 252
      refine o_seq ?_
      refine o_ifs ?_
      refine ⟨_, rfl, ?_⟩
      refine o_c ?_
      refine k_ixT (SqT.of (O.mem (tl_ (hd_)))) rfl ?_
      obtain ⟨law_fa_19, h20, hm⟩ := bndE hm
      refine ⟨_, rfl, ?_⟩
      refine o_cons ?_
      refine o_c ?_
      refine x_nil ?_
      refine ⟨_, _, _, law_fa_19, rfl, (O.ex.l hp_a_2), h20, ?_⟩
      refine O.retV fun H O => ?_
      refine x_nil ?_
      refine n_tup O (by show 2 ≤ sizeLine; decide) fun p_21 H O => ?_
      obtain ⟨law_no_22, h23, hm⟩ := bndE hm
      refine ⟨_, rfl, ?_⟩
      refine x_nil ?_
      refine ⟨(law_dr_3, law_fa_19), _, _, law_no_22, rfl, ⟨_, _, _, rfl, (O.mem (hd_)), rfl, rfl⟩, h23, ?_⟩
      refine O.retV fun H O => ?_
      refine ⟨_, rfl, ?_⟩
      replace O := O.tl
      refine iteS (c := (!law_no_22)) (fun h24 => ?_) (fun h24 => ?_)
      · replace hm := ifT hm h24
        -- 253
        refine o_ret ?_
        refine o_c ?_
        obtain rfl := Option.some.inj hm
        exact RetV.goR k O eB
      · replace hm := ifF hm h24
        refine o_next ?_
        -- 254
        refine o_seq ?_
        refine o_asg ?_
        obtain ⟨law_fa_25, h26, hm⟩ := bndE hm
        refine ⟨_, rfl, ?_⟩
        refine o_cons ?_
        refine o_c ?_
        refine x_nil ?_
        refine ⟨_, _, _, law_fa_25, rfl, (O.ex.l hp_a_2), h26, ?_⟩
        refine O.retV fun H O => ?_
        refine x_nil ?_
        refine n_lst (f := V.int) (xs := [(0 : Int), (2 : Int), (4 : Int), (6 : Int), law_fa_25]) O rfl (by show 5 ≤ sizeLine; decide) fun p_27 H O => ?_
        obtain ⟨law_dr_28, h29, hm⟩ := bndE hm
        refine ⟨_, rfl, ?_⟩
        refine o_cons ?_
        refine o_c ?_
        refine o_cons ?_
        refine o_c ?_
        refine x_nil ?_
        refine ⟨_, _, _, _, law_dr_28, rfl, (O.ex.l hp_a_2), h29, ?_⟩
        refine O.retV fun H O => ?_
        obtain ⟨e_30, h31, hm⟩ := bndE hm
        refine k_ixL (f := V.int) (SqL.of (O.mem (hd_))) h31 ?_
        -- 255
        refine o_seq ?_
        refine o_ifs ?_
        obtain ⟨law_no_32, h33, hm⟩ := bndE hm
        refine ⟨_, rfl, _, rfl, ?_⟩
        refine x_nil ?_
        refine ⟨(law_dr_3, law_dr_5), _, _, law_no_32, rfl, ⟨_, _, _, rfl, (O.mem (tl_ (tl_ (hd_)))), rfl, rfl⟩, h33, ?_⟩
        refine O.retV fun H O => ?_
        refine ⟨_, rfl, ?_⟩
        refine iteS (c := (!law_no_32)) (fun h34 => ?_) (fun h34 => ?_)
        · replace hm := ifT hm h34
          -- 256
          refine o_ret ?_
          refine o_c ?_
          obtain rfl := Option.some.inj hm
          exact RetV.goR k O eB
        · replace hm := ifF hm h34
          refine o_next ?_
          -- 257
          refine o_seq ?_
          refine o_asg ?_
          refine ⟨_, rfl, _, rfl, ?_⟩
          refine x_nil ?_
          refine k_make O fun a_35 dx_36 H O => ?_
          obtain ⟨post_37, h38, hm⟩ := bndOE hm
          have Oc : Own H0 H (hAppend ((a_35, .ins ad.c_Post dx_36 []) :: (dx_36, .own a_35) :: []) [(p_27, .lst (List.map V.int ([(0 : Int), (2 : Int), (4 : Int), (6 : Int), law_fa_25]))), (p_8, .lst (List.map V.int ([(1 : Int), (3 : Int), (5 : Int)]))), (p_7, .tup [V.int law_dr_3, V.int law_dr_5])]) := (Own.pk O [0, 1, 2, 3, 4] (by decide) rfl)
          refine ⟨a_35, dx_36, (law_dr_3, law_dr_5), _, e_11, H0, (.ok post_37), rfl, Oc.left, ⟨_, _, _, rfl, (Own.inC Oc (tl_ (tl_ (hd_)))), rfl, rfl⟩, h38, ?_⟩
          refine RetR.ok ?_
          refine Oc.retX (mdI (mo_Post ad)) fun v_ H H0 L_40 O e_ d_ => ?_
          replace hp_a_2 := e_.l hp_a_2
          replace eB := eB.trans e_
          obtain ⟨rfl, h39⟩ := d_
          refine ⟨rfl, ?_⟩
          obtain ⟨dx_41, a_42, L_43, a_45, L_46, rfl, h44, h47⟩ := h39
          replace O := Own.cv (L' := ((a_35, x_Post ad dx_41 a_42 a_45) :: ((dx_41, .own a_35) :: (hAppend L_43 (hAppend L_46 ((p_27, .lst (List.map V.int ([(0 : Int), (2 : Int), (4 : Int), (6 : Int), law_fa_25]))) :: ((p_8, .lst (List.map V.int ([(1 : Int), (3 : Int), (5 : Int)]))) :: ((p_7, .tup [V.int law_dr_3, V.int law_dr_5]) :: [])))))))) O (by first | with_reducible rfl | simp only [n1, n2, n3, n4, n5, n6, n7])
          replace O := (Own.pkB (L' := ((a_35, x_Post ad dx_41 a_42 a_45) :: ((dx_41, .own a_35) :: ((p_27, .lst (List.map V.int ([(0 : Int), (2 : Int), (4 : Int), (6 : Int), law_fa_25]))) :: ((p_8, .lst (List.map V.int ([(1 : Int), (3 : Int), (5 : Int)]))) :: ((p_7, .tup [V.int law_dr_3, V.int law_dr_5]) :: (hAppend L_43 (hAppend L_46 [])))))))) O [[_], [_], _, _, [_], [_], [_]] rfl [0, 1, 4, 5, 6, 2, 3] (by decide) rfl)
          -- 258
          refine o_seq ?_
          refine o_ifs ?_
          obtain ⟨law_ne_48, h49, hm⟩ := bndE hm
          refine ⟨_, rfl, ?_⟩
          refine x_nil ?_
          have Oc : Own H0 H (hAppend (hAppend ((a_35, x_Post ad dx_41 a_42 a_45) :: (dx_41, .own a_35) :: (hAppend L_43 (hAppend L_46 []))) []) [(p_27, .lst (List.map V.int ([(0 : Int), (2 : Int), (4 : Int), (6 : Int), law_fa_25]))), (p_8, .lst (List.map V.int ([(1 : Int), (3 : Int), (5 : Int)]))), (p_7, .tup [V.int law_dr_3, V.int law_dr_5])]) := (Own.pkB O [[_], [_], [_], [_], [_], _, _] rfl [0, 1, 5, 6, 2, 3, 4] (by decide) (by simp only [g1, g2, g3, g4, n2, n3, n4, n5, n6, n7]))
          refine ⟨post_37, a_35, _, H0, law_ne_48, rfl, Oc.left, ⟨dx_41, a_42, L_43, a_45, L_46, rfl, h44, h47⟩, h49, ?_⟩
          refine Oc.retX (mdK mdV) fun w_50 H H0 L_51 O e_ d_ => ?_
          replace hp_a_2 := e_.l hp_a_2
          replace h44 := (mo_Keep ad) _ _ _ _ _ e_ h44
          replace h47 := (mo_Free ad a_42) _ _ _ _ _ e_ h47
          replace eB := eB.trans e_
          obtain ⟨L_52, rfl, ⟨rfl, rfl⟩⟩ := d_
          replace O := Own.cv (L' := ((a_35, x_Post ad dx_41 a_42 a_45) :: ((dx_41, .own a_35) :: (hAppend L_43 (hAppend L_46 ((p_27, .lst (List.map V.int ([(0 : Int), (2 : Int), (4 : Int), (6 : Int), law_fa_25]))) :: ((p_8, .lst (List.map V.int ([(1 : Int), (3 : Int), (5 : Int)]))) :: ((p_7, .tup [V.int law_dr_3, V.int law_dr_5]) :: [])))))))) O (by first | with_reducible rfl | simp only [n1, n2, n3, n4, n5, n6, n7])
          replace O := (Own.pkB (L' := ((a_35, x_Post ad dx_41 a_42 a_45) :: ((dx_41, .own a_35) :: ((p_27, .lst (List.map V.int ([(0 : Int), (2 : Int), (4 : Int), (6 : Int), law_fa_25]))) :: ((p_8, .lst (List.map V.int ([(1 : Int), (3 : Int), (5 : Int)]))) :: ((p_7, .tup [V.int law_dr_3, V.int law_dr_5]) :: (hAppend L_43 (hAppend L_46 [])))))))) O [[_], [_], _, _, [_], [_], [_]] rfl [0, 1, 4, 5, 6, 2, 3] (by decide) rfl)
          refine ⟨_, rfl, ?_⟩
          refine iteS (c := (!law_ne_48)) (fun h53 => ?_) (fun h53 => ?_)
          · replace hm := ifT hm h53
            -- 259
            refine o_ret ?_
            refine o_c ?_
            obtain rfl := Option.some.inj hm
            exact RetV.goR k O eB
          · replace hm := ifF hm h53
            refine o_next ?_
            -- 260
            refine o_seq ?_
            refine o_asg ?_
            refine x_nil ?_
            refine n_lstV O (by show 0 ≤ sizeLine; decide) fun p_54 H O => ?_
            have ha_p_54 : All2 ((rT2 rI (rL rI)) (H0)) ([] : List V) (([] : List (Int × (List Int))) : List (Int × (List Int))) := .nil
            -- 261
            refine o_seq ?_
            refine o_for ?_
            obtain ⟨rg_55, h56, hm⟩ := bndE hm
            refine o_ir1 ?_
            refine o_cons ?_
            refine o_c ?_
            refine x_nil ?_
            obtain ⟨c1, c2, rfl⟩ := rng1E h56
            obtain ⟨out_73, h69, h70⟩ := bndE hm
            refine ⟨_, rfl, c1, c2, q_forR (fun r σ H => ∃ (R_ : Hp) (post_58 : S_Post) (frames_61 : List (Int × (List Int))) (vs_62 : List V) (B_59 : List Cell) (j_57 : Option V) (j_63 : Option V) (j_64 : Option V) (j_65 : Option V) (j_66 : Option V), σ = [some (.ref a_2), some (.ref p_7), some (.int e_11), j_57, some (.ref a_35), some (.ref p_54), j_63, j_64, j_65, j_66] ∧ Ex H0 R_ ∧ Own R_ H ((p_7, .tup [V.int law_dr_3, V.int law_dr_5]) :: ((p_54, .lst vs_62) :: (hAppend B_59 []))) ∧ All2 ((rT2 rI (rL rI)) (R_)) vs_62 frames_61 ∧ (o_Post ad) (R_) a_35 B_59 post_58 ∧ loopF (fun k_72 s => m_law_L0 script_1 k_72 s.1 s.2) r (post_58, frames_61) = some out_73) ⟨H0, _, ([] : List (Int × (List Int))), (([] : List V)), ((a_35, x_Post ad dx_41 a_42 a_45) :: (dx_41, .own a_35) :: (hAppend L_43 (hAppend L_46 []))), _, _, _, _, _, rfl, Ex.refl _, (Own.pkB O [[_], [_], [_], [_], [_], [_], _, _] rfl [5, 0, 1, 2, 6, 7] (by decide) (by simp only [g1, g2, g3, g4, n2, n3, n4, n5, n6, n7])), ha_p_54, ⟨dx_41, a_42, L_43, a_45, L_46, rfl, h44, h47⟩, h69⟩ ?_ ?_⟩
            · rintro k_72 r σ H ⟨H0, post_58, frames_61, vs_62, B_59, j_57, j_63, j_64, j_65, j_66, rfl, eL73, O, ha_p_54, h60, hL⟩
              replace hp_a_2 := eL73.l hp_a_2
              replace eB := eB.trans eL73
              obtain ⟨s_, hm, h71⟩ := loopF_cons hL
              replace hm : m_law_L0 script_1 k_72 post_58 frames_61 = some s_ := hm
              unfold m_law_L0 at hm
              obtain ⟨dx_76, a_77, L_78, a_80, L_81, rfl, h79, h82⟩ := h60
              replace O := Own.cv (L' := ((p_7, .tup [V.int law_dr_3, V.int law_dr_5]) :: ((p_54, .lst vs_62) :: ((a_35, x_Post ad dx_76 a_77 a_80) :: ((dx_76, .own a_35) :: (hAppend L_78 (hAppend L_81 []))))))) O (by first | with_reducible rfl | simp only [n1, n2, n3, n4, n5, n6, n7])
              -- 262
              refine o_seq ?_
              refine o_asg ?_
              obtain ⟨law_dr_83, h84, hm⟩ := bndE hm
              refine ⟨_, rfl, _, rfl, _, _, rfl, rfl, ?_⟩
              refine o_cons ?_
              refine o_c ?_
              refine x_nil ?_
              refine ⟨_, _, _, _, law_dr_83, rfl, (O.ex.l hp_a_2), h84, ?_⟩
              refine O.retV fun H O => ?_
              obtain ⟨law_da_85, h86, hm⟩ := bndE hm
              refine ⟨_, rfl, _, rfl, _, _, rfl, rfl, .inl ⟨by decide, by decide⟩, _, _, rfl, rfl, ?_⟩
              refine x_nil ?_
              refine ⟨_, _, _, law_da_85, rfl, (O.ex.l hp_a_2), h86, ?_⟩
              refine O.retL fun p_87 H O => ?_
              refine x_nil ?_
              obtain ⟨H0, O, e_, hp_p_87⟩ := O.frz
              replace hp_a_2 := e_.l hp_a_2
              replace ha_p_54 := mA (mT2 mI (mL mI)) e_ ha_p_54
              replace h79 := (mo_Keep ad) _ _ _ _ _ e_ h79
              replace h82 := (mo_Free ad a_77) _ _ _ _ _ e_ h82
              replace eB := eB.trans e_
              replace eL73 := eL73.trans e_
              refine n_tup O (by show 2 ≤ sizeLine; decide) fun p_88 H O => ?_
              obtain ⟨H0, O, e_, hp_p_88⟩ := O.frz
              replace hp_a_2 := e_.l hp_a_2
              replace ha_p_54 := mA (mT2 mI (mL mI)) e_ ha_p_54
              replace h79 := (mo_Keep ad) _ _ _ _ _ e_ h79
              replace h82 := (mo_Free ad a_77) _ _ _ _ _ e_ h82
              replace hp_p_87 := e_ _ _ hp_p_87
              replace eB := eB.trans e_
              replace eL73 := eL73.trans e_
              have hn_p_88 : (rT2 rI (rL rI)) (H0) (.ref p_88) ((law_dr_83, law_da_85) : Int × (List Int)) := ⟨_, _, _, rfl, hp_p_88, rfl, (gI hp_p_87)⟩
              -- 263
              refine o_seq ?_
              refine o_ifs ?_
              obtain ⟨⟨post_93, law_sp_94⟩, h95, hm⟩ := bndE hm
              obtain ⟨c_124, h125, hm⟩ := bndE hm
              refine x_orJ (c := (!law_sp_94)) (e := c_124) (d := c_124) (fun H => ∃ (R_ : Hp) (B_90 : List Cell), Ex H0 R_ ∧ Own R_ H ((p_7, .tup [V.int law_dr_3, V.int law_dr_5]) :: ((p_54, .lst vs_62) :: (hAppend B_90 []))) ∧ (o_Post ad) (R_) a_35 B_90 post_93) (fun Q1 k1 => ?_) (fun h89 => ⟨rfl, fun H hJ Q2 k2 => ?_⟩) (fun h89 => Option.some.inj (ifT h125 h89)) (fun H hJ => ?_)
              · have eJ92 : Ex H0 H0 := Ex.refl _
                refine ⟨_, rfl, _, rfl, _, rfl, _, _, rfl, rfl, .inl ⟨by decide, by decide⟩, _, _, rfl, rfl, _, rfl, ?_⟩
                refine x_nil ?_
                have Oc : Own H0 H (hAppend (hAppend ((a_35, x_Post ad dx_76 a_77 a_80) :: (dx_76, .own a_35) :: (hAppend L_78 (hAppend L_81 []))) []) [(p_7, .tup [V.int law_dr_3, V.int law_dr_5]), (p_54, .lst vs_62)]) := (Own.pkB O [[_], [_], [_], [_], _, _] rfl [2, 3, 4, 5, 0, 1] (by decide) (by simp only [g1, g2, g3, g4, n2, n3, n4, n5, n6, n7]))
                refine ⟨script_1, a_2, post_58, a_35, _, ((60 : Int) + ((11 : Int) * k_72)), (law_dr_83, law_da_85), _, H0, (post_93, law_sp_94), rfl, Oc.left, (Oc.left.subR.l hp_a_2), ⟨dx_76, a_77, L_78, a_80, L_81, rfl, h79, h82⟩, ((mT2 mI (mL mI)) _ _ _ _ Oc.left.subR hn_p_88), h95, ?_⟩
                refine Oc.retX (mdX (mo_Post ad) mdV) fun w_96 H H0 L_97 O e_ d_ => ?_
                replace hp_a_2 := e_.l hp_a_2
                replace ha_p_54 := mA (mT2 mI (mL mI)) e_ ha_p_54
                replace h79 := (mo_Keep ad) _ _ _ _ _ e_ h79
                replace h82 := (mo_Free ad a_77) _ _ _ _ _ e_ h82
                replace hp_p_87 := e_ _ _ hp_p_87
                replace hp_p_88 := e_ _ _ hp_p_88
                replace hn_p_88 := (mT2 mI (mL mI)) _ _ _ _ e_ hn_p_88
                replace eB := eB.trans e_
                replace eL73 := eL73.trans e_
                replace eJ92 := eJ92.trans e_
                obtain ⟨L_98, L_100, rfl, h99, ⟨rfl, rfl⟩⟩ := d_
                obtain ⟨dx_101, a_102, L_103, a_105, L_106, rfl, h104, h107⟩ := h99
                replace O := Own.cv (L' := ((a_35, x_Post ad dx_101 a_102 a_105) :: ((dx_101, .own a_35) :: (hAppend L_103 (hAppend L_106 ((p_7, .tup [V.int law_dr_3, V.int law_dr_5]) :: ((p_54, .lst vs_62) :: []))))))) O (by first | with_reducible rfl | simp only [n1, n2, n3, n4, n5, n6, n7])
                replace O := (Own.pkB (L' := ((a_35, x_Post ad dx_101 a_102 a_105) :: ((dx_101, .own a_35) :: ((p_7, .tup [V.int law_dr_3, V.int law_dr_5]) :: ((p_54, .lst vs_62) :: (hAppend L_103 (hAppend L_106 []))))))) O [[_], [_], _, _, [_], [_]] rfl [0, 1, 4, 5, 2, 3] (by decide) rfl)
                refine ⟨_, rfl, ?_⟩
                exact k1 _ ⟨H0, ((a_35, x_Post ad dx_101 a_102 a_105) :: (dx_101, .own a_35) :: (hAppend L_103 (hAppend L_106 []))), eJ92, (Own.pkB O [[_], [_], [_], [_], _, _] rfl [2, 3, 0, 1, 4, 5] (by decide) (by simp only [g1, g2, g3, g4, n2, n3, n4, n5, n6, n7])), ⟨dx_101, a_102, L_103, a_105, L_106, rfl, h104, h107⟩⟩
              · replace hm := ifF h125 h89
                obtain ⟨waits_115, h116, hm⟩ := bndE hm
                obtain ⟨law_fr_122, h123, hm⟩ := bndE hm
                obtain rfl := Option.some.inj hm
                obtain ⟨H0, B_90, eJ92, O, h91⟩ := hJ
                replace hp_a_2 := eJ92.l hp_a_2
                replace ha_p_54 := mA (mT2 mI (mL mI)) eJ92 ha_p_54
                replace h79 := (mo_Keep ad) _ _ _ _ _ eJ92 h79
                replace h82 := (mo_Free ad a_77) _ _ _ _ _ eJ92 h82
                replace hp_p_87 := eJ92 _ _ hp_p_87
                replace hp_p_88 := eJ92 _ _ hp_p_88
                replace hn_p_88 := (mT2 mI (mL mI)) _ _ _ _ eJ92 hn_p_88
                replace eB := eB.trans eJ92
                replace eL73 := eL73.trans eJ92
                obtain ⟨dx_108, a_109, L_110, a_112, L_113, rfl, h111, h114⟩ := h91
                replace O := Own.cv (L' := ((p_7, .tup [V.int law_dr_3, V.int law_dr_5]) :: ((p_54, .lst vs_62) :: ((a_35, x_Post ad dx_108 a_109 a_112) :: ((dx_108, .own a_35) :: (hAppend L_110 (hAppend L_113 []))))))) O (by first | with_reducible rfl | simp only [n1, n2, n3, n4, n5, n6, n7])
                refine ⟨_, rfl, a_35, _, _, rfl, (O.mem (tl_ (tl_ (hd_)))), (lk_skip (by decide) (lk_skip (by decide) lk_nil)), ?_⟩
                refine x_nil ?_
                have Oc : Own H0 H (hAppend (hAppend ((a_35, x_Post ad dx_108 a_109 a_112) :: (dx_108, .own a_35) :: (hAppend L_110 (hAppend L_113 []))) []) [(p_7, .tup [V.int law_dr_3, V.int law_dr_5]), (p_54, .lst vs_62)]) := (Own.pkB O [[_], [_], [_], [_], _, _] rfl [2, 3, 4, 5, 0, 1] (by decide) (by simp only [g1, g2, g3, g4, n2, n3, n4, n5, n6, n7]))
                refine ⟨post_93, a_35, _, H0, H0, waits_115, rfl, Oc.left, (Ex.refl _), ⟨dx_108, a_109, L_110, a_112, L_113, rfl, h111, h114⟩, h116, ?_⟩
                refine Oc.retX (mdK (mdP (mL (mT2 mI (mL mI))))) fun w_117 H H0 L_118 O e_ d_ => ?_
                replace hp_a_2 := e_.l hp_a_2
                replace ha_p_54 := mA (mT2 mI (mL mI)) e_ ha_p_54
                replace h79 := (mo_Keep ad) _ _ _ _ _ e_ h79
                replace h82 := (mo_Free ad a_77) _ _ _ _ _ e_ h82
                replace hp_p_87 := e_ _ _ hp_p_87
                replace hp_p_88 := e_ _ _ hp_p_88
                replace hn_p_88 := (mT2 mI (mL mI)) _ _ _ _ e_ hn_p_88
                replace h111 := (mo_Keep ad) _ _ _ _ _ e_ h111
                replace h114 := (mo_Free ad a_109) _ _ _ _ _ e_ h114
                replace eB := eB.trans e_
                replace eL73 := eL73.trans e_
                replace eJ92 := eJ92.trans e_
                obtain ⟨L_120, rfl, ⟨rfl, h119⟩⟩ := d_
                replace O := Own.cv (L' := ((a_35, x_Post ad dx_108 a_109 a_112) :: ((dx_108, .own a_35) :: (hAppend L_110 (hAppend L_113 ((p_7, .tup [V.int law_dr_3, V.int law_dr_5]) :: ((p_54, .lst vs_62) :: []))))))) O (by first | with_reducible rfl | simp only [n1, n2, n3, n4, n5, n6, n7])
                replace O := (Own.pkB (L' := ((a_35, x_Post ad dx_108 a_109 a_112) :: ((dx_108, .own a_35) :: ((p_7, .tup [V.int law_dr_3, V.int law_dr_5]) :: ((p_54, .lst vs_62) :: (hAppend L_110 (hAppend L_113 []))))))) O [[_], [_], _, _, [_], [_]] rfl [0, 1, 4, 5, 2, 3] (by decide) rfl)
                obtain ⟨p_121, rfl⟩ := rL_ref h119
                have hn_p_121 := h119
                refine ⟨_, rfl, ?_⟩
                refine x_nil ?_
                refine ⟨waits_115, _, frames_61, _, law_fr_122, rfl, ((mL (mT2 mI (mL mI))) _ _ _ _ O.ex hn_p_121), ⟨_, _, rfl, (O.mem (tl_ (tl_ (tl_ (hd_))))), (mA (mT2 mI (mL mI)) O.ex ha_p_54)⟩, h123, ?_⟩
                refine O.retV fun H O => ?_
                refine ⟨_, rfl, ?_⟩
                exact k2 _ ⟨H0, ((a_35, x_Post ad dx_108 a_109 a_112) :: (dx_108, .own a_35) :: (hAppend L_110 (hAppend L_113 []))), eJ92, (Own.pkB O [[_], [_], [_], [_], _, _] rfl [2, 3, 0, 1, 4, 5] (by decide) (by simp only [g1, g2, g3, g4, n2, n3, n4, n5, n6, n7])), ⟨dx_108, a_109, L_110, a_112, L_113, rfl, h111, h114⟩⟩
              obtain ⟨H0, B_90, eJ92, O, h91⟩ := hJ
              replace hp_a_2 := eJ92.l hp_a_2
              replace ha_p_54 := mA (mT2 mI (mL mI)) eJ92 ha_p_54
              replace h79 := (mo_Keep ad) _ _ _ _ _ eJ92 h79
              replace h82 := (mo_Free ad a_77) _ _ _ _ _ eJ92 h82
              replace hp_p_87 := eJ92 _ _ hp_p_87
              replace hp_p_88 := eJ92 _ _ hp_p_88
              replace hn_p_88 := (mT2 mI (mL mI)) _ _ _ _ eJ92 hn_p_88
              replace eB := eB.trans eJ92
              replace eL73 := eL73.trans eJ92
              obtain ⟨dx_126, a_127, L_128, a_130, L_131, rfl, h129, h132⟩ := h91
              replace O := Own.cv (L' := ((p_7, .tup [V.int law_dr_3, V.int law_dr_5]) :: ((p_54, .lst vs_62) :: ((a_35, x_Post ad dx_126 a_127 a_130) :: ((dx_126, .own a_35) :: (hAppend L_128 (hAppend L_131 []))))))) O (by first | with_reducible rfl | simp only [n1, n2, n3, n4, n5, n6, n7])
              refine iteS (c := c_124) (fun h133 => ?_) (fun h133 => ?_)
              · replace hm := ifT hm h133
                -- 264
                refine o_ret ?_
                refine o_c ?_
                obtain rfl := Option.some.inj hm
                obtain rfl := contRt h71
                obtain rfl := finRt h70
                exact RetV.goR k O eB
              · replace hm := ifF hm h133
                refine o_next ?_
                -- 265
                refine o_seq ?_
                refine o_asg ?_
                refine ⟨_, rfl, ?_⟩
                refine o_c ?_
                obtain ⟨w_134, w_135, h136, h137, h138⟩ := rT2_at hn_p_88
                refine k_ixT (xs := [w_134, w_135]) (SqT.of (O.ex _ _ h136)) rfl ?_
                obtain ⟨p_139, rfl, hp_p_139⟩ := fI h138
                refine x_nil ?_
                refine n_list O (SqL.of (O.ex _ _ hp_p_139)) fun p_140 H O => ?_
                -- 266
                refine o_seq ?_
                refine o_drop ?_
                refine ⟨_, rfl, a_35, _, _, rfl, (O.mem (tl_ (tl_ (tl_ (hd_))))), (lk_skip (by decide) (lk_skip (by decide) lk_nil)), _, rfl, ?_⟩
                refine o_c ?_
                obtain ⟨w_141, w_142, h143, h144, h145⟩ := rT2_at hn_p_88
                refine k_ixT (xs := [w_141, w_142]) (SqT.of (O.ex _ _ h143)) rfl ?_
                obtain rfl := h144
                refine ⟨_, rfl, ?_⟩
                refine x_nil ?_
                obtain ⟨self_146, h147, hm⟩ := bndOE hm
                have Oc : Own H0 H (hAppend (hAppend ((a_35, x_Post ad dx_126 a_127 a_130) :: (dx_126, .own a_35) :: (hAppend L_128 (hAppend L_131 []))) []) [(p_140, .lst (List.map V.int law_da_85)), (p_7, .tup [V.int law_dr_3, V.int law_dr_5]), (p_54, .lst vs_62)]) := (Own.pkB O [[_], [_], [_], [_], [_], _, _] rfl [3, 4, 5, 6, 0, 1, 2] (by decide) (by simp only [g1, g2, g3, g4, n2, n3, n4, n5, n6, n7]))
                refine ⟨post_93, a_35, _, law_dr_83, law_da_85, p_140, H0, (.ok self_146), rfl, Oc.left, ⟨dx_126, a_127, L_128, a_130, L_131, rfl, h129, h132⟩, (Own.inC Oc (hd_)), h147, ?_⟩
                refine RetR.ok ?_
                refine Oc.retX (mdX (mo_Post ad) mdV) fun w_148 H H0 L_149 O e_ d_ => ?_
                replace hp_a_2 := e_.l hp_a_2
                replace ha_p_54 := mA (mT2 mI (mL mI)) e_ ha_p_54
                replace h79 := (mo_Keep ad) _ _ _ _ _ e_ h79
                replace h82 := (mo_Free ad a_77) _ _ _ _ _ e_ h82
                replace hp_p_87 := e_ _ _ hp_p_87
                replace hp_p_88 := e_ _ _ hp_p_88
                replace hn_p_88 := (mT2 mI (mL mI)) _ _ _ _ e_ hn_p_88
                replace h129 := (mo_Keep ad) _ _ _ _ _ e_ h129
                replace h132 := (mo_Free ad a_127) _ _ _ _ _ e_ h132
                replace hp_p_139 := e_ _ _ hp_p_139
                replace eB := eB.trans e_
                replace eL73 := eL73.trans e_
                obtain ⟨L_150, L_152, rfl, h151, ⟨rfl, rfl⟩⟩ := d_
                obtain ⟨dx_153, a_154, L_155, a_157, L_158, rfl, h156, h159⟩ := h151
                replace O := Own.cv (L' := ((a_35, x_Post ad dx_153 a_154 a_157) :: ((dx_153, .own a_35) :: (hAppend L_155 (hAppend L_158 ((p_140, .lst (List.map V.int law_da_85)) :: ((p_7, .tup [V.int law_dr_3, V.int law_dr_5]) :: ((p_54, .lst vs_62) :: [])))))))) O (by first | with_reducible rfl | simp only [n1, n2, n3, n4, n5, n6, n7])
                replace O := (Own.pkB (L' := ((a_35, x_Post ad dx_153 a_154 a_157) :: ((dx_153, .own a_35) :: ((p_140, .lst (List.map V.int law_da_85)) :: ((p_7, .tup [V.int law_dr_3, V.int law_dr_5]) :: ((p_54, .lst vs_62) :: (hAppend L_155 (hAppend L_158 [])))))))) O [[_], [_], _, _, [_], [_], [_]] rfl [0, 1, 4, 5, 6, 2, 3] (by decide) rfl)
                -- 267
                refine o_seq ?_
                refine o_ifs ?_
                refine ⟨_, rfl, _, rfl, ?_⟩
                refine o_c ?_
                obtain ⟨w_160, w_161, h162, h163, h164⟩ := rT2_at hn_p_88
                refine k_ixT (xs := [w_160, w_161]) (SqT.of (O.ex _ _ h162)) rfl ?_
                obtain ⟨p_165, rfl, hp_p_165⟩ := fI h164
                refine k_neLI (SqL.of (O.mem (tl_ (tl_ (hd_))))) (SqL.of (O.ex _ _ hp_p_165)) ?_
                refine ⟨_, rfl, ?_⟩
                refine iteS (c := (!decide (law_da_85 = law_da_85))) (fun h166 => ?_) (fun h166 => ?_)
                · replace hm := ifT hm h166
                  -- 268
                  refine o_ret ?_
                  refine o_c ?_
                  obtain rfl := Option.some.inj hm
                  obtain rfl := contRt h71
                  obtain rfl := finRt h70
                  exact RetV.goR k O eB
                · replace hm := ifF hm h166
                  refine o_next ?_
                  -- 269
                  refine o_seq ?_
                  refine o_drop ?_
                  obtain ⟨l_167, h168, hm⟩ := bndE hm
                  refine ⟨_, rfl, .inl ⟨rfl, _, (SqL.of (O.mem (tl_ (tl_ (hd_)))))⟩, ?_⟩
                  refine o_cons ?_
                  refine o_c ?_
                  refine x_nil ?_
                  refine k_app (f := V.int) (O.mem (tl_ (tl_ (hd_)))) (fun _ => O.put2) h168 fun H O => ?_
                  -- 270
                  refine o_seq ?_
                  refine o_drop ?_
                  refine ⟨_, rfl, .inl ⟨rfl, _, (SqL.of (O.mem (tl_ (tl_ (tl_ (tl_ (hd_)))))))⟩, _, rfl, ?_⟩
                  refine x_nil ?_
                  obtain ⟨l_169, h170, hm⟩ := bndE hm
                  refine k_appA (O.mem (tl_ (tl_ (tl_ (tl_ (hd_)))))) ha_p_54 (fun _ => O.put4) h170 hn_p_88 fun H O ha_p_54 => ?_
                  -- 271
                  refine o_seq ?_
                  refine o_asg ?_
                  refine ⟨_, rfl, a_35, _, _, rfl, (O.mem (hd_)), (lk_skip (by decide) (lk_skip (by decide) lk_nil)), ?_⟩
                  refine x_nil ?_
                  obtain ⟨waits_171, h172, hm⟩ := bndE hm
                  obtain ⟨Hs_173, hHs_173⟩ : ∃ Hs : Hp, Hs = H0 := ⟨_, rfl⟩
                  have eS_173 : Ex Hs_173 H0 := by rw [hHs_173]; exact Ex.refl _
                  have s173_hp_a_2 := hp_a_2
                  have s173_ha_p_54 := ha_p_54
                  have s173_h79 := h79
                  have s173_h82 := h82
                  have s173_hp_p_87 := hp_p_87
                  have s173_hp_p_88 := hp_p_88
                  have s173_hn_p_88 := hn_p_88
                  have s173_h129 := h129
                  have s173_h132 := h132
                  have s173_hp_p_139 := hp_p_139
                  have s173_h156 := h156
                  have s173_h159 := h159
                  have s173_hp_p_165 := hp_p_165
                  have s173_eB := eB
                  have s173_eL73 := eL73
                  rw [← hHs_173] at s173_hp_a_2 s173_ha_p_54 s173_h79 s173_h82 s173_hp_p_87 s173_hp_p_88 s173_hn_p_88 s173_h129 s173_h132 s173_hp_p_139 s173_h156 s173_h159 s173_hp_p_165
                  rw [← hHs_173] at s173_eB s173_eL73
                  have Oc : Own H0 H (hAppend (hAppend ((a_35, x_Post ad dx_153 a_154 a_157) :: (dx_153, .own a_35) :: (hAppend L_155 (hAppend L_158 []))) []) [(p_140, .lst (List.map V.int l_167)), (p_7, .tup [V.int law_dr_3, V.int law_dr_5]), (p_54, .lst (vs_62 ++ [.ref p_88]))]) := (Own.pkB O [[_], [_], [_], [_], [_], _, _] rfl [0, 1, 5, 6, 2, 3, 4] (by decide) (by simp only [g1, g2, g3, g4, n2, n3, n4, n5, n6, n7]))
                  refine ⟨self_146, a_35, _, H0, (fun _ => none), waits_171, rfl, Oc.left, exE, ⟨dx_153, a_154, L_155, a_157, L_158, rfl, h156, h159⟩, h172, ?_⟩
                  have eH_173 : Ex Hs_173 (hsub H (hAppend ((a_35, x_Post ad dx_153 a_154 a_157) :: (dx_153, .own a_35) :: (hAppend L_155 (hAppend L_158 []))) [])) := eS_173.trans Oc.left.subR
                  obtain ⟨Hc_173, hHc_⟩ : ∃ Hc : Hp, Hc = hsub H (hAppend ((a_35, x_Post ad dx_153 a_154 a_157) :: (dx_153, .own a_35) :: (hAppend L_155 (hAppend L_158 []))) []) := ⟨_, rfl⟩
                  rw [← hHc_] at eH_173
                  have eC_ : Ex H0 Hc_173 := by rw [hHc_]; exact Oc.left.subR
                  refine Oc.retX0 (mdK (mdP (mL (mT2 mI (mL mI))))) hHc_ fun w_174 H H0 L_175 O e_ d_ => ?_
                  replace hp_a_2 := e_.l hp_a_2
                  replace ha_p_54 := mA (mT2 mI (mL mI)) e_ ha_p_54
                  replace h79 := (mo_Keep ad) _ _ _ _ _ e_ h79
                  replace h82 := (mo_Free ad a_77) _ _ _ _ _ e_ h82
                  replace hp_p_87 := e_ _ _ hp_p_87
                  replace hp_p_88 := e_ _ _ hp_p_88
                  replace hn_p_88 := (mT2 mI (mL mI)) _ _ _ _ e_ hn_p_88
                  replace h129 := (mo_Keep ad) _ _ _ _ _ e_ h129
                  replace h132 := (mo_Free ad a_127) _ _ _ _ _ e_ h132
                  replace hp_p_139 := e_ _ _ hp_p_139
                  replace h156 := (mo_Keep ad) _ _ _ _ _ e_ h156
                  replace h159 := (mo_Free ad a_154) _ _ _ _ _ e_ h159
                  replace hp_p_165 := e_ _ _ hp_p_165
                  replace eB := eB.trans e_
                  replace eL73 := eL73.trans e_
                  replace eS_173 := eS_173.trans e_
                  obtain ⟨L_177, rfl, ⟨rfl, h176⟩⟩ := d_
                  replace O := Own.cv (L' := ((a_35, x_Post ad dx_153 a_154 a_157) :: ((dx_153, .own a_35) :: (hAppend L_155 (hAppend L_158 ((p_140, .lst (List.map V.int l_167)) :: ((p_7, .tup [V.int law_dr_3, V.int law_dr_5]) :: ((p_54, .lst (vs_62 ++ [.ref p_88])) :: [])))))))) O (by first | with_reducible rfl | simp only [n1, n2, n3, n4, n5, n6, n7])
                  replace O := (Own.pkB (L' := ((a_35, x_Post ad dx_153 a_154 a_157) :: ((dx_153, .own a_35) :: ((p_140, .lst (List.map V.int l_167)) :: ((p_7, .tup [V.int law_dr_3, V.int law_dr_5]) :: ((p_54, .lst (vs_62 ++ [.ref p_88])) :: (hAppend L_155 (hAppend L_158 [])))))))) O [[_], [_], _, _, [_], [_], [_]] rfl [0, 1, 4, 5, 6, 2, 3] (by decide) rfl)
                  have hfr_173 := h176
                  replace h176 := (mL (mT2 mI (mL mI))) _ _ _ _ ovr_ex h176
                  obtain ⟨p_178, rfl⟩ := rL_ref h176
                  have hn_p_178 := h176
                  -- 272
                  refine o_seq ?_
                  refine o_ifs ?_
                  obtain ⟨law_fr_181, h182, hm⟩ := bndE hm
                  obtain ⟨c_203, h204, hm⟩ := bndE hm
                  refine x_orJ (c := (!law_fr_181)) (e := c_203) (d := c_203) (fun H => ∃ (R_ : Hp), Ex H0 R_ ∧ Own R_ H ((a_35, x_Post ad dx_153 a_154 a_157) :: ((dx_153, .own a_35) :: ((p_140, .lst (List.map V.int l_167)) :: ((p_7, .tup [V.int law_dr_3, V.int law_dr_5]) :: ((p_54, .lst (vs_62 ++ [.ref p_88])) :: (hAppend L_155 (hAppend L_158 [])))))))) (fun Q1 k1 => ?_) (fun h179 => ⟨rfl, fun H hJ Q2 k2 => ?_⟩) (fun h179 => Option.some.inj (ifT h204 h179)) (fun H hJ => ?_)
                  · have eJ180 : Ex H0 H0 := Ex.refl _
                    refine ⟨_, rfl, _, rfl, ?_⟩
                    refine x_nil ?_
                    refine ⟨waits_171, _, l_169, _, law_fr_181, rfl, ((mL (mT2 mI (mL mI))) _ _ _ _ O.ex hn_p_178), ⟨_, _, rfl, (O.mem (tl_ (tl_ (tl_ (tl_ (hd_)))))), (mA (mT2 mI (mL mI)) O.ex ha_p_54)⟩, h182, ?_⟩
                    refine O.retV fun H O => ?_
                    refine ⟨_, rfl, ?_⟩
                    exact k1 _ ⟨H0, eJ180, (Own.pkB (L' := ((a_35, x_Post ad dx_153 a_154 a_157) :: ((dx_153, .own a_35) :: ((p_140, .lst (List.map V.int l_167)) :: ((p_7, .tup [V.int law_dr_3, V.int law_dr_5]) :: ((p_54, .lst (vs_62 ++ [.ref p_88])) :: (hAppend L_155 (hAppend L_158 [])))))))) O [[_], [_], [_], [_], [_], _, _] rfl [0, 1, 2, 3, 4, 5, 6] (by decide) rfl)⟩
                  · replace hm := ifF h204 h179
                    obtain ⟨says_185, h186, hm⟩ := bndE hm
                    obtain ⟨c_201, h202, hm⟩ := bndE hm
                    obtain rfl := Option.some.inj hm
                    obtain ⟨H0, eJ180, O⟩ := hJ
                    replace hp_a_2 := eJ180.l hp_a_2
                    replace ha_p_54 := mA (mT2 mI (mL mI)) eJ180 ha_p_54
                    replace h79 := (mo_Keep ad) _ _ _ _ _ eJ180 h79
                    replace h82 := (mo_Free ad a_77) _ _ _ _ _ eJ180 h82
                    replace hp_p_87 := eJ180 _ _ hp_p_87
                    replace hp_p_88 := eJ180 _ _ hp_p_88
                    replace hn_p_88 := (mT2 mI (mL mI)) _ _ _ _ eJ180 hn_p_88
                    replace h129 := (mo_Keep ad) _ _ _ _ _ eJ180 h129
                    replace h132 := (mo_Free ad a_127) _ _ _ _ _ eJ180 h132
                    replace hp_p_139 := eJ180 _ _ hp_p_139
                    replace h156 := (mo_Keep ad) _ _ _ _ _ eJ180 h156
                    replace h159 := (mo_Free ad a_154) _ _ _ _ _ eJ180 h159
                    replace hp_p_165 := eJ180 _ _ hp_p_165
                    replace hfr_173 := (mL (mT2 mI (mL mI))) _ _ _ _ (ovr_mono eJ180) hfr_173
                    replace hn_p_178 := (mL (mT2 mI (mL mI))) _ _ _ _ eJ180 hn_p_178
                    replace eB := eB.trans eJ180
                    replace eL73 := eL73.trans eJ180
                    replace eS_173 := eS_173.trans eJ180
                    refine x_orJ (c := (!decide (says_185 = (0 : Int)))) (e := c_201) (d := c_201) (fun H => ∃ (R_ : Hp), Ex H0 R_ ∧ Own R_ H ((a_35, x_Post ad dx_153 a_154 a_157) :: ((dx_153, .own a_35) :: ((p_140, .lst (List.map V.int l_167)) :: ((p_7, .tup [V.int law_dr_3, V.int law_dr_5]) :: ((p_54, .lst (vs_62 ++ [.ref p_88])) :: (hAppend L_155 (hAppend L_158 [])))))))) (fun Q1 k1 => ?_) (fun h183 => ⟨rfl, fun H hJ Q2 k2 => ?_⟩) (fun h183 => Option.some.inj (ifT h202 h183)) (fun H hJ => ?_)
                    · have eJ184 : Ex H0 H0 := Ex.refl _
                      refine ⟨_, rfl, a_35, _, _, rfl, (O.mem (hd_)), (lk_skip (by decide) (lk_skip (by decide) lk_nil)), ?_⟩
                      refine x_nil ?_
                      have Oc : Own H0 H (hAppend (hAppend ((a_35, x_Post ad dx_153 a_154 a_157) :: (dx_153, .own a_35) :: (hAppend L_155 (hAppend L_158 []))) []) [(p_140, .lst (List.map V.int l_167)), (p_7, .tup [V.int law_dr_3, V.int law_dr_5]), (p_54, .lst (vs_62 ++ [.ref p_88]))]) := (Own.pkB O [[_], [_], [_], [_], [_], _, _] rfl [0, 1, 5, 6, 2, 3, 4] (by decide) (by simp only [g1, g2, g3, g4, n2, n3, n4, n5, n6, n7]))
                      refine ⟨self_146, a_35, _, H0, says_185, rfl, Oc.left, ⟨dx_153, a_154, L_155, a_157, L_158, rfl, h156, h159⟩, h186, ?_⟩
                      refine Oc.retX (mdK mdV) fun w_187 H H0 L_188 O e_ d_ => ?_
                      replace hp_a_2 := e_.l hp_a_2
                      replace ha_p_54 := mA (mT2 mI (mL mI)) e_ ha_p_54
                      replace h79 := (mo_Keep ad) _ _ _ _ _ e_ h79
                      replace h82 := (mo_Free ad a_77) _ _ _ _ _ e_ h82
                      replace hp_p_87 := e_ _ _ hp_p_87
                      replace hp_p_88 := e_ _ _ hp_p_88
                      replace hn_p_88 := (mT2 mI (mL mI)) _ _ _ _ e_ hn_p_88
                      replace h129 := (mo_Keep ad) _ _ _ _ _ e_ h129
                      replace h132 := (mo_Free ad a_127) _ _ _ _ _ e_ h132
                      replace hp_p_139 := e_ _ _ hp_p_139
                      replace h156 := (mo_Keep ad) _ _ _ _ _ e_ h156
                      replace h159 := (mo_Free ad a_154) _ _ _ _ _ e_ h159
                      replace hp_p_165 := e_ _ _ hp_p_165
                      replace hfr_173 := (mL (mT2 mI (mL mI))) _ _ _ _ (ovr_mono e_) hfr_173
                      replace hn_p_178 := (mL (mT2 mI (mL mI))) _ _ _ _ e_ hn_p_178
                      replace eB := eB.trans e_
                      replace eL73 := eL73.trans e_
                      replace eS_173 := eS_173.trans e_
                      replace eJ180 := eJ180.trans e_
                      replace eJ184 := eJ184.trans e_
                      obtain ⟨L_189, rfl, ⟨rfl, rfl⟩⟩ := d_
                      replace O := Own.cv (L' := ((a_35, x_Post ad dx_153 a_154 a_157) :: ((dx_153, .own a_35) :: (hAppend L_155 (hAppend L_158 ((p_140, .lst (List.map V.int l_167)) :: ((p_7, .tup [V.int law_dr_3, V.int law_dr_5]) :: ((p_54, .lst (vs_62 ++ [.ref p_88])) :: [])))))))) O (by first | with_reducible rfl | simp only [n1, n2, n3, n4, n5, n6, n7])
                      replace O := (Own.pkB (L' := ((a_35, x_Post ad dx_153 a_154 a_157) :: ((dx_153, .own a_35) :: ((p_140, .lst (List.map V.int l_167)) :: ((p_7, .tup [V.int law_dr_3, V.int law_dr_5]) :: ((p_54, .lst (vs_62 ++ [.ref p_88])) :: (hAppend L_155 (hAppend L_158 [])))))))) O [[_], [_], _, _, [_], [_], [_]] rfl [0, 1, 4, 5, 6, 2, 3] (by decide) rfl)
                      refine o_c ?_
                      refine k_neI ?_
                      refine ⟨_, rfl, ?_⟩
                      exact k1 _ ⟨H0, eJ184, (Own.pkB (L' := ((a_35, x_Post ad dx_153 a_154 a_157) :: ((dx_153, .own a_35) :: ((p_140, .lst (List.map V.int l_167)) :: ((p_7, .tup [V.int law_dr_3, V.int law_dr_5]) :: ((p_54, .lst (vs_62 ++ [.ref p_88])) :: (hAppend L_155 (hAppend L_158 [])))))))) O [[_], [_], [_], [_], [_], _, _] rfl [0, 1, 2, 3, 4, 5, 6] (by decide) rfl)⟩
                    · replace hm := ifF h202 h183
                      obtain ⟨stance_190, h191, hm⟩ := bndE hm
                      obtain ⟨u_197, h198, hm⟩ := bndE hm
                      obtain ⟨u_199, h200, hm⟩ := bndE hm
                      obtain rfl := Option.some.inj hm
                      obtain ⟨H0, eJ184, O⟩ := hJ
                      replace hp_a_2 := eJ184.l hp_a_2
                      replace ha_p_54 := mA (mT2 mI (mL mI)) eJ184 ha_p_54
                      replace h79 := (mo_Keep ad) _ _ _ _ _ eJ184 h79
                      replace h82 := (mo_Free ad a_77) _ _ _ _ _ eJ184 h82
                      replace hp_p_87 := eJ184 _ _ hp_p_87
                      replace hp_p_88 := eJ184 _ _ hp_p_88
                      replace hn_p_88 := (mT2 mI (mL mI)) _ _ _ _ eJ184 hn_p_88
                      replace h129 := (mo_Keep ad) _ _ _ _ _ eJ184 h129
                      replace h132 := (mo_Free ad a_127) _ _ _ _ _ eJ184 h132
                      replace hp_p_139 := eJ184 _ _ hp_p_139
                      replace h156 := (mo_Keep ad) _ _ _ _ _ eJ184 h156
                      replace h159 := (mo_Free ad a_154) _ _ _ _ _ eJ184 h159
                      replace hp_p_165 := eJ184 _ _ hp_p_165
                      replace hfr_173 := (mL (mT2 mI (mL mI))) _ _ _ _ (ovr_mono eJ184) hfr_173
                      replace hn_p_178 := (mL (mT2 mI (mL mI))) _ _ _ _ eJ184 hn_p_178
                      replace eB := eB.trans eJ184
                      replace eL73 := eL73.trans eJ184
                      replace eS_173 := eS_173.trans eJ184
                      replace eJ180 := eJ180.trans eJ184
                      refine ⟨_, rfl, a_35, _, _, rfl, (O.mem (hd_)), (lk_skip (by decide) (lk_skip (by decide) lk_nil)), ?_⟩
                      refine x_nil ?_
                      have Oc : Own H0 H (hAppend (hAppend ((a_35, x_Post ad dx_153 a_154 a_157) :: (dx_153, .own a_35) :: (hAppend L_155 (hAppend L_158 []))) []) [(p_140, .lst (List.map V.int l_167)), (p_7, .tup [V.int law_dr_3, V.int law_dr_5]), (p_54, .lst (vs_62 ++ [.ref p_88]))]) := (Own.pkB O [[_], [_], [_], [_], [_], _, _] rfl [0, 1, 5, 6, 2, 3, 4] (by decide) (by simp only [g1, g2, g3, g4, n2, n3, n4, n5, n6, n7]))
                      refine ⟨self_146, a_35, _, H0, stance_190, rfl, Oc.left, ⟨dx_153, a_154, L_155, a_157, L_158, rfl, h156, h159⟩, h191, ?_⟩
                      refine Oc.retX (mdK mdTp) fun w_192 H H0 L_193 O e_ d_ => ?_
                      replace hp_a_2 := e_.l hp_a_2
                      replace ha_p_54 := mA (mT2 mI (mL mI)) e_ ha_p_54
                      replace h79 := (mo_Keep ad) _ _ _ _ _ e_ h79
                      replace h82 := (mo_Free ad a_77) _ _ _ _ _ e_ h82
                      replace hp_p_87 := e_ _ _ hp_p_87
                      replace hp_p_88 := e_ _ _ hp_p_88
                      replace hn_p_88 := (mT2 mI (mL mI)) _ _ _ _ e_ hn_p_88
                      replace h129 := (mo_Keep ad) _ _ _ _ _ e_ h129
                      replace h132 := (mo_Free ad a_127) _ _ _ _ _ e_ h132
                      replace hp_p_139 := e_ _ _ hp_p_139
                      replace h156 := (mo_Keep ad) _ _ _ _ _ e_ h156
                      replace h159 := (mo_Free ad a_154) _ _ _ _ _ e_ h159
                      replace hp_p_165 := e_ _ _ hp_p_165
                      replace hfr_173 := (mL (mT2 mI (mL mI))) _ _ _ _ (ovr_mono e_) hfr_173
                      replace hn_p_178 := (mL (mT2 mI (mL mI))) _ _ _ _ e_ hn_p_178
                      replace eB := eB.trans e_
                      replace eL73 := eL73.trans e_
                      replace eS_173 := eS_173.trans e_
                      replace eJ180 := eJ180.trans e_
                      replace eJ184 := eJ184.trans e_
                      obtain ⟨L_195, rfl, ⟨p_194, rfl, rfl⟩⟩ := d_
                      replace O := Own.cv (L' := ((a_35, x_Post ad dx_153 a_154 a_157) :: ((dx_153, .own a_35) :: (hAppend L_155 (hAppend L_158 ((p_194, .tup [V.str stance_190.1, V.int stance_190.2]) :: ((p_140, .lst (List.map V.int l_167)) :: ((p_7, .tup [V.int law_dr_3, V.int law_dr_5]) :: ((p_54, .lst (vs_62 ++ [.ref p_88])) :: []))))))))) O (by first | with_reducible rfl | simp only [n1, n2, n3, n4, n5, n6, n7])
                      replace O := (Own.pkB (L' := ((a_35, x_Post ad dx_153 a_154 a_157) :: ((dx_153, .own a_35) :: ((p_194, .tup [V.str stance_190.1, V.int stance_190.2]) :: ((p_140, .lst (List.map V.int l_167)) :: ((p_7, .tup [V.int law_dr_3, V.int law_dr_5]) :: ((p_54, .lst (vs_62 ++ [.ref p_88])) :: (hAppend L_155 (hAppend L_158 []))))))))) O [[_], [_], _, _, [_], [_], [_], [_]] rfl [0, 1, 4, 5, 6, 7, 2, 3] (by decide) rfl)
                      refine o_cons ?_
                      refine o_c ?_
                      refine o_cons ?_
                      refine o_c ?_
                      refine x_nil ?_
                      refine n_tup O (by show 2 ≤ sizeLine; decide) fun p_196 H O => ?_
                      refine k_neQ (x := stance_190) (y := (("free" : Str), (0 : Int))) (dqT2 dqS (De.q deI)) (mT2 mS mI) (by decide) (okDE h198) (okDE h200) ⟨_, _, _, rfl, (O.mem (tl_ (tl_ (tl_ (hd_))))), rfl, rfl⟩ (Ex.refl _) ⟨_, _, _, rfl, (O.mem (hd_)), rfl, rfl⟩ (Ex.refl _) ?_
                      refine ⟨_, rfl, ?_⟩
                      replace O := (Own.pkB (L' := ((a_35, x_Post ad dx_153 a_154 a_157) :: ((dx_153, .own a_35) :: ((p_140, .lst (List.map V.int l_167)) :: ((p_7, .tup [V.int law_dr_3, V.int law_dr_5]) :: ((p_54, .lst (vs_62 ++ [.ref p_88])) :: (hAppend L_155 (hAppend L_158 [])))))))) O [[_], [_], [_], [_], [_], [_], [_], _, _] rfl [1, 2, 4, 5, 6, 7, 8] (by decide) rfl)
                      exact k2 _ ⟨H0, eJ184, (Own.pkB (L' := ((a_35, x_Post ad dx_153 a_154 a_157) :: ((dx_153, .own a_35) :: ((p_140, .lst (List.map V.int l_167)) :: ((p_7, .tup [V.int law_dr_3, V.int law_dr_5]) :: ((p_54, .lst (vs_62 ++ [.ref p_88])) :: (hAppend L_155 (hAppend L_158 [])))))))) O [[_], [_], [_], [_], [_], _, _] rfl [0, 1, 2, 3, 4, 5, 6] (by decide) rfl)⟩
                    obtain ⟨H0, eJ184, O⟩ := hJ
                    replace hp_a_2 := eJ184.l hp_a_2
                    replace ha_p_54 := mA (mT2 mI (mL mI)) eJ184 ha_p_54
                    replace h79 := (mo_Keep ad) _ _ _ _ _ eJ184 h79
                    replace h82 := (mo_Free ad a_77) _ _ _ _ _ eJ184 h82
                    replace hp_p_87 := eJ184 _ _ hp_p_87
                    replace hp_p_88 := eJ184 _ _ hp_p_88
                    replace hn_p_88 := (mT2 mI (mL mI)) _ _ _ _ eJ184 hn_p_88
                    replace h129 := (mo_Keep ad) _ _ _ _ _ eJ184 h129
                    replace h132 := (mo_Free ad a_127) _ _ _ _ _ eJ184 h132
                    replace hp_p_139 := eJ184 _ _ hp_p_139
                    replace h156 := (mo_Keep ad) _ _ _ _ _ eJ184 h156
                    replace h159 := (mo_Free ad a_154) _ _ _ _ _ eJ184 h159
                    replace hp_p_165 := eJ184 _ _ hp_p_165
                    replace hfr_173 := (mL (mT2 mI (mL mI))) _ _ _ _ (ovr_mono eJ184) hfr_173
                    replace hn_p_178 := (mL (mT2 mI (mL mI))) _ _ _ _ eJ184 hn_p_178
                    replace eB := eB.trans eJ184
                    replace eL73 := eL73.trans eJ184
                    replace eS_173 := eS_173.trans eJ184
                    replace eJ180 := eJ180.trans eJ184
                    exact k2 _ ⟨H0, eJ180, (Own.pkB (L' := ((a_35, x_Post ad dx_153 a_154 a_157) :: ((dx_153, .own a_35) :: ((p_140, .lst (List.map V.int l_167)) :: ((p_7, .tup [V.int law_dr_3, V.int law_dr_5]) :: ((p_54, .lst (vs_62 ++ [.ref p_88])) :: (hAppend L_155 (hAppend L_158 [])))))))) O [[_], [_], [_], [_], [_], _, _] rfl [0, 1, 2, 3, 4, 5, 6] (by decide) rfl)⟩
                  obtain ⟨H0, eJ180, O⟩ := hJ
                  replace hp_a_2 := eJ180.l hp_a_2
                  replace ha_p_54 := mA (mT2 mI (mL mI)) eJ180 ha_p_54
                  replace h79 := (mo_Keep ad) _ _ _ _ _ eJ180 h79
                  replace h82 := (mo_Free ad a_77) _ _ _ _ _ eJ180 h82
                  replace hp_p_87 := eJ180 _ _ hp_p_87
                  replace hp_p_88 := eJ180 _ _ hp_p_88
                  replace hn_p_88 := (mT2 mI (mL mI)) _ _ _ _ eJ180 hn_p_88
                  replace h129 := (mo_Keep ad) _ _ _ _ _ eJ180 h129
                  replace h132 := (mo_Free ad a_127) _ _ _ _ _ eJ180 h132
                  replace hp_p_139 := eJ180 _ _ hp_p_139
                  replace h156 := (mo_Keep ad) _ _ _ _ _ eJ180 h156
                  replace h159 := (mo_Free ad a_154) _ _ _ _ _ eJ180 h159
                  replace hp_p_165 := eJ180 _ _ hp_p_165
                  replace hfr_173 := (mL (mT2 mI (mL mI))) _ _ _ _ (ovr_mono eJ180) hfr_173
                  replace hn_p_178 := (mL (mT2 mI (mL mI))) _ _ _ _ eJ180 hn_p_178
                  replace eB := eB.trans eJ180
                  replace eL73 := eL73.trans eJ180
                  replace eS_173 := eS_173.trans eJ180
                  refine iteS (c := c_203) (fun h205 => ?_) (fun h205 => ?_)
                  · replace hm := ifT hm h205
                    -- 273
                    refine o_ret ?_
                    refine o_c ?_
                    obtain rfl := Option.some.inj hm
                    obtain rfl := contRt h71
                    obtain rfl := finRt h70
                    exact RetV.goR k O eB
                  · replace hm := ifF hm h205
                    refine o_next ?_
                    -- 274
                    refine o_seq ?_
                    refine o_drop ?_
                    have hn_f_173 := hfr_173
                    obtain ⟨e_206, h207, hm⟩ := bndE hm
                    refine ⟨_, rfl, _, rfl, ?_⟩
                    obtain ⟨vs_208, h209, h210⟩ := rL_at hn_f_173
                    refine k_ixA (SqL.of ((ovr_ex.trans O.ex) _ _ h209)) h210 h207 fun w_211 h212 => ?_
                    obtain ⟨p_213, rfl⟩ := rT2_ref h212
                    have hn_p_213 := h212
                    refine o_c ?_
                    obtain ⟨w_214, w_215, h216, h217, h218⟩ := rT2_at hn_p_213
                    refine k_ixT (xs := [w_214, w_215]) (SqT.of ((ovr_ex.trans O.ex) _ _ h216)) rfl ?_
                    obtain ⟨p_219, rfl, hp_p_219⟩ := fI h218
                    refine ⟨.inl ⟨rfl, _, (SqL.of (O.ex _ _ (ovr_ex _ _ hp_p_219)))⟩, ?_⟩
                    refine o_cons ?_
                    refine o_c ?_
                    refine x_nil ?_
                    obtain ⟨l_220, h221, hm⟩ := bndE hm
                    obtain ⟨vs_222, h223, h224, h225⟩ := rL_atP hn_f_173 hp_p_219 h207
                    refine k_app (f := V.int) (O.ex _ _ (ovr_ex _ _ hp_p_219)) (fun o_ => Own.pokeX (o' := o_) O eS_173 eH_173 hp_p_219 h223 h225) h221 fun H O => ?_
                    obtain ⟨H0, hZ_⟩ : ∃ H0 : Hp, H0 = Hs_173 := ⟨_, rfl⟩
                    rw [← hZ_] at O s173_h156 s173_h159 s173_ha_p_54 s173_hp_a_2 s173_eB
                    have h156 := s173_h156
                    have h159 := s173_h159
                    have ha_p_54 := s173_ha_p_54
                    have hp_a_2 := s173_hp_a_2
                    have eB := s173_eB
                    have eL73 := s173_eL73
                    rw [← hZ_] at eL73
                    -- 275
                    refine o_drop ?_
                    obtain ⟨⟨e_226, l_227⟩, h228, hm⟩ := bndE hm
                    refine ⟨_, rfl, .inl ⟨rfl, _, SqL.of ((O.mem (hd_)))⟩, ?_⟩
                    refine o_cons ?_
                    refine o_c ?_
                    refine x_nil ?_
                    refine k_popIA (P := fun _ _ => True) (O.mem (hd_)) (All2.mp (fun _ _ _ => trivial) h224) (fun _ => O.put0) h228 fun H _ _ O _ _ => ?_
                    replace O := Own.drop1 O
                    have Oz := O
                    obtain rfl := Option.some.inj hm
                    exact ⟨H0, _, _, ((vs_62 ++ [.ref p_88])), ((a_35, x_Post ad dx_153 a_154 a_157) :: (dx_153, .own a_35) :: (hAppend L_155 (hAppend L_158 []))), _, _, _, _, _, rfl, eL73, (Own.pkB Oz [[_], [_], [_], [_], [_], _, _] rfl [3, 4, 0, 1, 5, 6] (by decide) (by simp only [g1, g2, g3, g4, n2, n3, n4, n5, n6, n7])), ha_p_54, ⟨dx_153, a_154, L_155, a_157, L_158, rfl, h156, h159⟩, h71⟩
            rintro σ H ⟨H0, post_58, frames_61, vs_62, B_59, j_57, j_63, j_64, j_65, j_66, rfl, eJ_, O, ha_p_54, h60, hL⟩
            replace hp_a_2 := eJ_.l hp_a_2
            replace eB := eB.trans eJ_
            obtain rfl := loopF_nil hL
            replace hm := finNx h70
            obtain ⟨dx_229, a_230, L_231, a_233, L_234, rfl, h232, h235⟩ := h60
            replace O := Own.cv (L' := ((p_7, .tup [V.int law_dr_3, V.int law_dr_5]) :: ((p_54, .lst vs_62) :: ((a_35, x_Post ad dx_229 a_230 a_233) :: ((dx_229, .own a_35) :: (hAppend L_231 (hAppend L_234 []))))))) O (by first | with_reducible rfl | simp only [n1, n2, n3, n4, n5, n6, n7])
            -- 276
            refine o_ret ?_
            obtain ⟨waits_238, h239, hm⟩ := bndE hm
            obtain ⟨law_fr_245, h246, hm⟩ := bndE hm
            obtain ⟨c_277, h278, hm⟩ := bndE hm
            refine x_andVJ (c := law_fr_245) (e := c_277) (d := c_277) (fun H => ∃ (R_ : Hp), Ex H0 R_ ∧ Own R_ H ((p_7, .tup [V.int law_dr_3, V.int law_dr_5]) :: ((p_54, .lst vs_62) :: ((a_35, x_Post ad dx_229 a_230 a_233) :: ((dx_229, .own a_35) :: (hAppend L_231 (hAppend L_234 []))))))) (fun Q1 k1 => ?_) (fun h236 => ⟨rfl, fun H hJ Q2 k2 => ?_⟩) (fun h236 => Option.some.inj (ifF h278 h236)) (fun H hJ => ?_)
            · have eJ237 : Ex H0 H0 := Ex.refl _
              refine ⟨_, rfl, a_35, _, _, rfl, (O.mem (tl_ (tl_ (hd_)))), (lk_skip (by decide) (lk_skip (by decide) lk_nil)), ?_⟩
              refine x_nil ?_
              have Oc : Own H0 H (hAppend (hAppend ((a_35, x_Post ad dx_229 a_230 a_233) :: (dx_229, .own a_35) :: (hAppend L_231 (hAppend L_234 []))) []) [(p_7, .tup [V.int law_dr_3, V.int law_dr_5]), (p_54, .lst vs_62)]) := (Own.pkB O [[_], [_], [_], [_], _, _] rfl [2, 3, 4, 5, 0, 1] (by decide) (by simp only [g1, g2, g3, g4, n2, n3, n4, n5, n6, n7]))
              refine ⟨post_58, a_35, _, H0, H0, waits_238, rfl, Oc.left, (Ex.refl _), ⟨dx_229, a_230, L_231, a_233, L_234, rfl, h232, h235⟩, h239, ?_⟩
              refine Oc.retX (mdK (mdP (mL (mT2 mI (mL mI))))) fun w_240 H H0 L_241 O e_ d_ => ?_
              replace hp_a_2 := e_.l hp_a_2
              replace ha_p_54 := mA (mT2 mI (mL mI)) e_ ha_p_54
              replace h232 := (mo_Keep ad) _ _ _ _ _ e_ h232
              replace h235 := (mo_Free ad a_230) _ _ _ _ _ e_ h235
              replace eB := eB.trans e_
              replace eJ237 := eJ237.trans e_
              obtain ⟨L_243, rfl, ⟨rfl, h242⟩⟩ := d_
              replace O := Own.cv (L' := ((a_35, x_Post ad dx_229 a_230 a_233) :: ((dx_229, .own a_35) :: (hAppend L_231 (hAppend L_234 ((p_7, .tup [V.int law_dr_3, V.int law_dr_5]) :: ((p_54, .lst vs_62) :: []))))))) O (by first | with_reducible rfl | simp only [n1, n2, n3, n4, n5, n6, n7])
              replace O := (Own.pkB (L' := ((a_35, x_Post ad dx_229 a_230 a_233) :: ((dx_229, .own a_35) :: ((p_7, .tup [V.int law_dr_3, V.int law_dr_5]) :: ((p_54, .lst vs_62) :: (hAppend L_231 (hAppend L_234 []))))))) O [[_], [_], _, _, [_], [_]] rfl [0, 1, 4, 5, 2, 3] (by decide) rfl)
              obtain ⟨p_244, rfl⟩ := rL_ref h242
              have hn_p_244 := h242
              refine ⟨_, rfl, ?_⟩
              refine x_nil ?_
              refine ⟨waits_238, _, frames_61, _, law_fr_245, rfl, ((mL (mT2 mI (mL mI))) _ _ _ _ O.ex hn_p_244), ⟨_, _, rfl, (O.mem (tl_ (tl_ (tl_ (hd_))))), (mA (mT2 mI (mL mI)) O.ex ha_p_54)⟩, h246, ?_⟩
              refine O.retV fun H O => ?_
              exact k1 _ ⟨H0, eJ237, (Own.pkB (L' := ((p_7, .tup [V.int law_dr_3, V.int law_dr_5]) :: ((p_54, .lst vs_62) :: ((a_35, x_Post ad dx_229 a_230 a_233) :: ((dx_229, .own a_35) :: (hAppend L_231 (hAppend L_234 []))))))) O [[_], [_], [_], [_], _, _] rfl [2, 3, 0, 1, 4, 5] (by decide) rfl)⟩
            · replace hm := ifT h278 h236
              obtain ⟨post_251, h252, hm⟩ := bndOE hm
              obtain ⟨law_ne_262, h263, hm⟩ := bndE hm
              obtain ⟨c_275, h276, hm⟩ := bndE hm
              obtain rfl := Option.some.inj hm
              obtain ⟨H0, eJ237, O⟩ := hJ
              replace hp_a_2 := eJ237.l hp_a_2
              replace ha_p_54 := mA (mT2 mI (mL mI)) eJ237 ha_p_54
              replace h232 := (mo_Keep ad) _ _ _ _ _ eJ237 h232
              replace h235 := (mo_Free ad a_230) _ _ _ _ _ eJ237 h235
              replace eB := eB.trans eJ237
              refine x_andVJ (c := law_ne_262) (e := c_275) (d := c_275) (fun H => ∃ (R_ : Hp), Ex H0 R_ ∧ Own R_ H ((p_7, .tup [V.int law_dr_3, V.int law_dr_5]) :: ((p_54, .lst vs_62) :: ((a_35, x_Post ad dx_229 a_230 a_233) :: ((dx_229, .own a_35) :: (hAppend L_231 (hAppend L_234 []))))))) (fun Q1 k1 => ?_) (fun h247 => ⟨rfl, fun H hJ Q2 k2 => ?_⟩) (fun h247 => Option.some.inj (ifF h276 h247)) (fun H hJ => ?_)
              · have eJ248 : Ex H0 H0 := Ex.refl _
                refine ⟨_, rfl, _, rfl, ?_⟩
                refine x_nil ?_
                refine k_make O fun a_249 dx_250 H O => ?_
                have Oc : Own H0 H (hAppend ((a_249, .ins ad.c_Post dx_250 []) :: (dx_250, .own a_249) :: []) ((p_7, .tup [V.int law_dr_3, V.int law_dr_5]) :: ((p_54, .lst vs_62) :: ((a_35, x_Post ad dx_229 a_230 a_233) :: ((dx_229, .own a_35) :: (hAppend L_231 (hAppend L_234 []))))))) := (Own.pkB O [[_], [_], [_], [_], [_], [_], _, _] rfl [0, 1, 2, 3, 4, 5, 6, 7] (by decide) (by simp only [g1, g2, g3, g4, n2, n3, n4, n5, n6, n7]))
                refine ⟨a_249, dx_250, (law_dr_3, law_dr_5), _, e_11, H0, (.ok post_251), rfl, Oc.left, ⟨_, _, _, rfl, (Own.inC Oc (hd_)), rfl, rfl⟩, h252, ?_⟩
                refine RetR.ok ?_
                refine Oc.retX (mdI (mo_Post ad)) fun v_ H H0 L_254 O e_ d_ => ?_
                replace hp_a_2 := e_.l hp_a_2
                replace ha_p_54 := mA (mT2 mI (mL mI)) e_ ha_p_54
                replace h232 := (mo_Keep ad) _ _ _ _ _ e_ h232
                replace h235 := (mo_Free ad a_230) _ _ _ _ _ e_ h235
                replace eB := eB.trans e_
                replace eJ237 := eJ237.trans e_
                replace eJ248 := eJ248.trans e_
                obtain ⟨rfl, h253⟩ := d_
                refine ⟨rfl, ?_⟩
                obtain ⟨dx_255, a_256, L_257, a_259, L_260, rfl, h258, h261⟩ := h253
                replace O := Own.cv (L' := ((a_249, x_Post ad dx_255 a_256 a_259) :: ((dx_255, .own a_249) :: (hAppend L_257 (hAppend L_260 ((p_7, .tup [V.int law_dr_3, V.int law_dr_5]) :: ((p_54, .lst vs_62) :: ((a_35, x_Post ad dx_229 a_230 a_233) :: ((dx_229, .own a_35) :: (hAppend L_231 (hAppend L_234 []))))))))))) O (by first | with_reducible rfl | simp only [n1, n2, n3, n4, n5, n6, n7])
                replace O := (Own.pkB (L' := ((a_249, x_Post ad dx_255 a_256 a_259) :: ((dx_255, .own a_249) :: ((p_7, .tup [V.int law_dr_3, V.int law_dr_5]) :: ((p_54, .lst vs_62) :: ((a_35, x_Post ad dx_229 a_230 a_233) :: ((dx_229, .own a_35) :: (hAppend L_257 (hAppend L_260 (hAppend L_231 (hAppend L_234 []))))))))))) O [[_], [_], _, _, [_], [_], [_], [_], _, _] rfl [0, 1, 4, 5, 6, 7, 2, 3, 8, 9] (by decide) rfl)
                refine x_nil ?_
                have Oc : Own H0 H (hAppend (hAppend ((a_249, x_Post ad dx_255 a_256 a_259) :: (dx_255, .own a_249) :: (hAppend L_257 (hAppend L_260 []))) []) ((p_7, .tup [V.int law_dr_3, V.int law_dr_5]) :: ((p_54, .lst vs_62) :: ((a_35, x_Post ad dx_229 a_230 a_233) :: ((dx_229, .own a_35) :: (hAppend L_231 (hAppend L_234 []))))))) := (Own.pkB O [[_], [_], [_], [_], [_], [_], _, _, _, _] rfl [0, 1, 6, 7, 2, 3, 4, 5, 8, 9] (by decide) (by simp only [g1, g2, g3, g4, n2, n3, n4, n5, n6, n7]))
                refine ⟨post_251, a_249, _, H0, law_ne_262, rfl, Oc.left, ⟨dx_255, a_256, L_257, a_259, L_260, rfl, h258, h261⟩, h263, ?_⟩
                refine Oc.retX (mdK mdV) fun w_264 H H0 L_265 O e_ d_ => ?_
                replace hp_a_2 := e_.l hp_a_2
                replace ha_p_54 := mA (mT2 mI (mL mI)) e_ ha_p_54
                replace h232 := (mo_Keep ad) _ _ _ _ _ e_ h232
                replace h235 := (mo_Free ad a_230) _ _ _ _ _ e_ h235
                replace h258 := (mo_Keep ad) _ _ _ _ _ e_ h258
                replace h261 := (mo_Free ad a_256) _ _ _ _ _ e_ h261
                replace eB := eB.trans e_
                replace eJ237 := eJ237.trans e_
                replace eJ248 := eJ248.trans e_
                obtain ⟨L_266, rfl, ⟨rfl, rfl⟩⟩ := d_
                replace O := Own.cv (L' := ((a_249, x_Post ad dx_255 a_256 a_259) :: ((dx_255, .own a_249) :: (hAppend L_257 (hAppend L_260 ((p_7, .tup [V.int law_dr_3, V.int law_dr_5]) :: ((p_54, .lst vs_62) :: ((a_35, x_Post ad dx_229 a_230 a_233) :: ((dx_229, .own a_35) :: (hAppend L_231 (hAppend L_234 []))))))))))) O (by first | with_reducible rfl | simp only [n1, n2, n3, n4, n5, n6, n7])
                replace O := (Own.pkB (L' := ((a_249, x_Post ad dx_255 a_256 a_259) :: ((dx_255, .own a_249) :: ((p_7, .tup [V.int law_dr_3, V.int law_dr_5]) :: ((p_54, .lst vs_62) :: ((a_35, x_Post ad dx_229 a_230 a_233) :: ((dx_229, .own a_35) :: (hAppend L_257 (hAppend L_260 (hAppend L_231 (hAppend L_234 []))))))))))) O [[_], [_], _, _, [_], [_], [_], [_], _, _] rfl [0, 1, 4, 5, 6, 7, 2, 3, 8, 9] (by decide) rfl)
                exact k1 _ ⟨H0, eJ248, (Own.pkB (L' := ((p_7, .tup [V.int law_dr_3, V.int law_dr_5]) :: ((p_54, .lst vs_62) :: ((a_35, x_Post ad dx_229 a_230 a_233) :: ((dx_229, .own a_35) :: (hAppend L_231 (hAppend L_234 []))))))) O [[_], [_], [_], [_], [_], [_], _, _, _, _] rfl [2, 3, 4, 5, 8, 9] (by decide) rfl)⟩
              · replace hm := ifT h276 h247
                obtain ⟨got_267, h268, hm⟩ := bndE hm
                obtain rfl := Option.some.inj hm
                obtain ⟨H0, eJ248, O⟩ := hJ
                replace hp_a_2 := eJ248.l hp_a_2
                replace ha_p_54 := mA (mT2 mI (mL mI)) eJ248 ha_p_54
                replace h232 := (mo_Keep ad) _ _ _ _ _ eJ248 h232
                replace h235 := (mo_Free ad a_230) _ _ _ _ _ eJ248 h235
                replace eB := eB.trans eJ248
                replace eJ237 := eJ237.trans eJ248
                refine ⟨_, rfl, a_35, _, _, rfl, (O.mem (tl_ (tl_ (hd_)))), (lk_skip (by decide) (lk_skip (by decide) lk_nil)), ?_⟩
                refine x_nil ?_
                have Oc : Own H0 H (hAppend (hAppend ((a_35, x_Post ad dx_229 a_230 a_233) :: (dx_229, .own a_35) :: (hAppend L_231 (hAppend L_234 []))) []) [(p_7, .tup [V.int law_dr_3, V.int law_dr_5]), (p_54, .lst vs_62)]) := (Own.pkB O [[_], [_], [_], [_], _, _] rfl [2, 3, 4, 5, 0, 1] (by decide) (by simp only [g1, g2, g3, g4, n2, n3, n4, n5, n6, n7]))
                refine ⟨post_58, a_35, _, H0, H0, got_267, rfl, Oc.left, (Ex.refl _), ⟨dx_229, a_230, L_231, a_233, L_234, rfl, h232, h235⟩, h268, ?_⟩
                refine Oc.retX (mdK (mdP (mL (mT2 mI (mL mI))))) fun w_269 H H0 L_270 O e_ d_ => ?_
                replace hp_a_2 := e_.l hp_a_2
                replace ha_p_54 := mA (mT2 mI (mL mI)) e_ ha_p_54
                replace h232 := (mo_Keep ad) _ _ _ _ _ e_ h232
                replace h235 := (mo_Free ad a_230) _ _ _ _ _ e_ h235
                replace eB := eB.trans e_
                replace eJ237 := eJ237.trans e_
                replace eJ248 := eJ248.trans e_
                obtain ⟨L_272, rfl, ⟨rfl, h271⟩⟩ := d_
                replace O := Own.cv (L' := ((a_35, x_Post ad dx_229 a_230 a_233) :: ((dx_229, .own a_35) :: (hAppend L_231 (hAppend L_234 ((p_7, .tup [V.int law_dr_3, V.int law_dr_5]) :: ((p_54, .lst vs_62) :: []))))))) O (by first | with_reducible rfl | simp only [n1, n2, n3, n4, n5, n6, n7])
                replace O := (Own.pkB (L' := ((a_35, x_Post ad dx_229 a_230 a_233) :: ((dx_229, .own a_35) :: ((p_7, .tup [V.int law_dr_3, V.int law_dr_5]) :: ((p_54, .lst vs_62) :: (hAppend L_231 (hAppend L_234 []))))))) O [[_], [_], _, _, [_], [_]] rfl [0, 1, 4, 5, 2, 3] (by decide) rfl)
                obtain ⟨p_273, rfl⟩ := rL_ref h271
                have hn_p_273 := h271
                refine x_nil ?_
                refine n_lst (f := V.int) (xs := ([] : List Int)) O rfl (Nat.zero_le _) fun p_274 H O => ?_
                refine k_eqN (x := got_267) (y := ([] : List (Int × (List Int)))) (deL (deT2 deI (deL deI))) (mL (mT2 mI (mL mI))) (by decide) ((mL (mT2 mI (mL mI))) _ _ _ _ O.ex hn_p_273) (Ex.refl _) ⟨_, [], rfl, (O.mem (hd_)), .nil⟩ (Ex.refl _) ?_
                replace O := (Own.pkB (L' := ((a_35, x_Post ad dx_229 a_230 a_233) :: ((dx_229, .own a_35) :: ((p_7, .tup [V.int law_dr_3, V.int law_dr_5]) :: ((p_54, .lst vs_62) :: (hAppend L_231 (hAppend L_234 []))))))) O [[_], [_], [_], [_], [_], _, _] rfl [1, 2, 3, 4, 5, 6] (by decide) rfl)
                exact k2 _ ⟨H0, eJ248, (Own.pkB (L' := ((p_7, .tup [V.int law_dr_3, V.int law_dr_5]) :: ((p_54, .lst vs_62) :: ((a_35, x_Post ad dx_229 a_230 a_233) :: ((dx_229, .own a_35) :: (hAppend L_231 (hAppend L_234 []))))))) O [[_], [_], [_], [_], _, _] rfl [2, 3, 0, 1, 4, 5] (by decide) rfl)⟩
              obtain ⟨H0, eJ248, O⟩ := hJ
              replace hp_a_2 := eJ248.l hp_a_2
              replace ha_p_54 := mA (mT2 mI (mL mI)) eJ248 ha_p_54
              replace h232 := (mo_Keep ad) _ _ _ _ _ eJ248 h232
              replace h235 := (mo_Free ad a_230) _ _ _ _ _ eJ248 h235
              replace eB := eB.trans eJ248
              replace eJ237 := eJ237.trans eJ248
              exact k2 _ ⟨H0, eJ237, (Own.pkB (L' := ((p_7, .tup [V.int law_dr_3, V.int law_dr_5]) :: ((p_54, .lst vs_62) :: ((a_35, x_Post ad dx_229 a_230 a_233) :: ((dx_229, .own a_35) :: (hAppend L_231 (hAppend L_234 []))))))) O [[_], [_], [_], [_], _, _] rfl [0, 1, 2, 3, 4, 5] (by decide) rfl)⟩
            obtain ⟨H0, eJ237, O⟩ := hJ
            replace hp_a_2 := eJ237.l hp_a_2
            replace ha_p_54 := mA (mT2 mI (mL mI)) eJ237 ha_p_54
            replace h232 := (mo_Keep ad) _ _ _ _ _ eJ237 h232
            replace h235 := (mo_Free ad a_230) _ _ _ _ _ eJ237 h235
            replace eB := eB.trans eJ237
            obtain rfl := Option.some.inj hm
            exact RetV.goR k O eB
end
theorem walk {l : PySem.W.OpenLaw} {q : Program} {loose : List Str} {XP : (Str → Option Value) → Heap → Prop} {YP : World → Heap → Prop} {d : DefRec} {K : Params → PySem.W.Frag} (M : ∀ ns : List Int, ns.length ≤ 63 → m_law ns = some true) (hn : l.most = some 63) (hdf : d.params.defaults = [])
    (hY : ∀ (w : World) (h : Heap), YP w h → (K w.params).In h)
    (F : ∀ (w : World) (mg : Str → Option Value) (fa : Addr) (h : Heap), (K w.params).In h → h.Ns mainGlobals mg → mg d.name = some (.ref fa) →
      ∃ fd : FuncData, (∀ (s : Shared) (u : Value), BindsTo s fd ⟨[u], []⟩ [("script", u)]) ∧ ∀ base : Heap, (K w.params).In base → base.Ns mainGlobals mg → FnOk l.prog w (K w.params) mg base CX0 8 fa fd ["script"] (sp_law (K w.params))) :
    PySem.W.WalkO q loose XP YP l.row.toRowW d [] (fun f vs => PySem.call f vs) :=
  L2.walk_of (n := 63) (k := 8) (x := "script") (CX := fun _ => CX0) (sp := fun w => sp_law (K w.params)) hn (by decide) hdf ⟨rfl, by decide, by decide⟩ hY F (fun _ _ a ns hl _ hS => ⟨ns, a, true, rfl, hS, M ns hl, fun _ _ => rfl⟩) fun _ _ _ _ _ z => z
theorem packc {K : PySem.W.Frag} {h : Heap} {mg : Str → Option Value} (X : K.In h) (G : h.Ns mainGlobals mg) {C_Count C_Keep C_Free C_Post : Addr} {q_0 : Addr} {q_1 : Addr} {q_2 : Addr} {q_3 : Addr} {q_4 : Addr} {q_5 : Addr} {q_6 : Addr} {q_7 : Addr} {q_8 : Addr} {q_9 : Addr} {q_10 : Addr} {q_11 : Addr} {q_12 : Addr} {q_13 : Addr} {q_14 : Addr} {q_15 : Addr} {q_16 : Addr} (a_Count : PySem.W.nsIn K mainGlobals "Count" = some (some (.ref C_Count))) (pg_Count : PySem.W.plainGet K C_Count Str.empty = true) (hd_Count : PySem.W.hasDictIn K C_Count = true) (po_Count : PySem.W.plainOver K C_Count = true) (sa_Count : PySem.W.findIn K (.ref C_Count) "__setattr__" = some (some (.builtin "object.__setattr__"))) (a_Keep : PySem.W.nsIn K mainGlobals "Keep" = some (some (.ref C_Keep))) (pg_Keep : PySem.W.plainGet K C_Keep Str.empty = true) (hd_Keep : PySem.W.hasDictIn K C_Keep = true) (po_Keep : PySem.W.plainOver K C_Keep = true) (sa_Keep : PySem.W.findIn K (.ref C_Keep) "__setattr__" = some (some (.builtin "object.__setattr__"))) (a_Free : PySem.W.nsIn K mainGlobals "Free" = some (some (.ref C_Free))) (pg_Free : PySem.W.plainGet K C_Free Str.empty = true) (hd_Free : PySem.W.hasDictIn K C_Free = true) (po_Free : PySem.W.plainOver K C_Free = true) (sa_Free : PySem.W.findIn K (.ref C_Free) "__setattr__" = some (some (.builtin "object.__setattr__"))) (a_Post : PySem.W.nsIn K mainGlobals "Post" = some (some (.ref C_Post))) (pg_Post : PySem.W.plainGet K C_Post Str.empty = true) (hd_Post : PySem.W.hasDictIn K C_Post = true) (po_Post : PySem.W.plainOver K C_Post = true) (sa_Post : PySem.W.findIn K (.ref C_Post) "__setattr__" = some (some (.builtin "object.__setattr__"))) (n_Count_tally : PySem.W.findIn K (.ref C_Count) "tally" = some none) (n_Free_keep : PySem.W.findIn K (.ref C_Free) "keep" = some none) (n_Free_many : PySem.W.findIn K (.ref C_Free) "many" = some none) (n_Keep_choice : PySem.W.findIn K (.ref C_Keep) "choice" = some none) (n_Keep_count : PySem.W.findIn K (.ref C_Keep) "count" = some none) (n_Keep_handed_up : PySem.W.findIn K (.ref C_Keep) "handed_up" = some none) (n_Keep_queue : PySem.W.findIn K (.ref C_Keep) "queue" = some none) (n_Keep_votes : PySem.W.findIn K (.ref C_Keep) "votes" = some none) (n_Post_keep : PySem.W.findIn K (.ref C_Post) "keep" = some none) (n_Post_now : PySem.W.findIn K (.ref C_Post) "now" = some none) (mf_0 : MF K C_Count q_0 "__init__" "Count.__init__" s_Count_init) (mf_1 : MF K C_Keep q_1 "__init__" "Keep.__init__" s_Keep_init) (mf_2 : MF K C_Free q_2 "__init__" "Stance.__init__" s_Free_init) (mf_3 : MF K C_Post q_3 "__init__" "Post.__init__" s_Post_init) (mf_4 : MF K C_Count q_4 "number" "Count.number" s_Count_number) (mf_5 : MF K C_Post q_5 "faults" "Post.faults" s_Post_faults) (mf_6 : MF K C_Free q_6 "called" "Stance.called" s_Free_called) (mf_7 : MF K C_Post q_7 "stance" "Post.stance" s_Post_stance) (mf_8 : MF K C_Post q_8 "waits" "Post.waits" s_Post_waits) (mf_9 : MF K C_Post q_9 "got" "Post.got" s_Post_got) (mf_10 : MF K C_Count q_10 "is_quiet" "Count.is_quiet" s_Count_is_quiet) (mf_11 : MF K C_Free q_11 "says" "Free.says" s_Free_says) (mf_12 : MF K C_Post q_12 "says" "Post.says" s_Post_says) (mf_13 : MF K C_Post q_13 "is_quiet" "Post.is_quiet" s_Post_is_quiet) (mf_14 : MF K C_Count q_14 "is_off" "Count.is_off" s_Count_is_off) (mf_15 : MF K C_Post q_15 "is_off" "Post.is_off" s_Post_is_off) (mf_16 : MF K C_Post q_16 "hand" "Post.hand" s_Post_hand) (mk_Count : PySem.W.makesIn K C_Count = true) (kc_Count : PySem.W.keepIn K (.ref C_Count) = true) (mk_Free : PySem.W.makesIn K C_Free = true) (kc_Free : PySem.W.keepIn K (.ref C_Free) = true) (mk_Keep : PySem.W.makesIn K C_Keep = true) (kc_Keep : PySem.W.keepIn K (.ref C_Keep) = true) (mk_Post : PySem.W.makesIn K C_Post = true) (kc_Post : PySem.W.keepIn K (.ref C_Post) = true) :
  ∃ (c_Count c_Keep c_Free c_Post f_Count_init f_Keep_init f_Free_init f_Post_init f_Count_number f_Post_faults f_Free_called f_Post_stance f_Post_waits f_Post_got f_Count_is_quiet f_Free_says f_Post_says f_Post_is_quiet f_Count_is_off f_Post_is_off f_Post_hand : Addr) (fd_Count_init fd_Keep_init fd_Free_init fd_Post_init fd_Count_number fd_Post_faults fd_Free_called fd_Post_stance fd_Post_waits fd_Post_got fd_Count_is_quiet fd_Free_says fd_Post_says fd_Post_is_quiet fd_Count_is_off fd_Post_is_off fd_Post_hand : FuncData), Cls K c_Count ∧ Cls K c_Keep ∧ Cls K c_Free ∧ Cls K c_Post ∧ NoAttr K c_Count "tally" ∧ NoAttr K c_Free "keep" ∧ NoAttr K c_Free "many" ∧ NoAttr K c_Keep "choice" ∧ NoAttr K c_Keep "count" ∧ NoAttr K c_Keep "handed_up" ∧ NoAttr K c_Keep "queue" ∧ NoAttr K c_Keep "votes" ∧ NoAttr K c_Post "keep" ∧ NoAttr K c_Post "now" ∧ L2.Fun K "__init__" "Count.__init__" s_Count_init f_Count_init fd_Count_init ∧ L2.Fun K "__init__" "Keep.__init__" s_Keep_init f_Keep_init fd_Keep_init ∧ L2.Fun K "__init__" "Stance.__init__" s_Free_init f_Free_init fd_Free_init ∧ L2.Fun K "__init__" "Post.__init__" s_Post_init f_Post_init fd_Post_init ∧ L2.Fun K "number" "Count.number" s_Count_number f_Count_number fd_Count_number ∧ L2.Fun K "faults" "Post.faults" s_Post_faults f_Post_faults fd_Post_faults ∧ L2.Fun K "called" "Stance.called" s_Free_called f_Free_called fd_Free_called ∧ L2.Fun K "stance" "Post.stance" s_Post_stance f_Post_stance fd_Post_stance ∧ L2.Fun K "waits" "Post.waits" s_Post_waits f_Post_waits fd_Post_waits ∧ L2.Fun K "got" "Post.got" s_Post_got f_Post_got fd_Post_got ∧ L2.Fun K "is_quiet" "Count.is_quiet" s_Count_is_quiet f_Count_is_quiet fd_Count_is_quiet ∧ L2.Fun K "says" "Free.says" s_Free_says f_Free_says fd_Free_says ∧ L2.Fun K "says" "Post.says" s_Post_says f_Post_says fd_Post_says ∧ L2.Fun K "is_quiet" "Post.is_quiet" s_Post_is_quiet f_Post_is_quiet fd_Post_is_quiet ∧ L2.Fun K "is_off" "Count.is_off" s_Count_is_off f_Count_is_off fd_Count_is_off ∧ L2.Fun K "is_off" "Post.is_off" s_Post_is_off f_Post_is_off fd_Post_is_off ∧ L2.Fun K "hand" "Post.hand" s_Post_hand f_Post_hand fd_Post_hand ∧ Meth K c_Count "is_off" f_Count_is_off ∧ Meth K c_Count "is_quiet" f_Count_is_quiet ∧ Meth K c_Count "number" f_Count_number ∧ Meth K c_Free "called" f_Free_called ∧ Meth K c_Free "says" f_Free_says ∧ Meth K c_Post "faults" f_Post_faults ∧ Meth K c_Post "got" f_Post_got ∧ Meth K c_Post "hand" f_Post_hand ∧ Meth K c_Post "is_off" f_Post_is_off ∧ Meth K c_Post "is_quiet" f_Post_is_quiet ∧ Meth K c_Post "says" f_Post_says ∧ Meth K c_Post "stance" f_Post_stance ∧ Meth K c_Post "waits" f_Post_waits ∧ Mk K c_Count f_Count_init ∧ mg "Count" = some (.ref c_Count) ∧ Mk K c_Free f_Free_init ∧ mg "Free" = some (.ref c_Free) ∧ Mk K c_Keep f_Keep_init ∧ mg "Keep" = some (.ref c_Keep) ∧ Mk K c_Post f_Post_init ∧ mg "Post" = some (.ref c_Post) :=
  ⟨C_Count, C_Keep, C_Free, C_Post, q_0, q_1, q_2, q_3, q_4, q_5, q_6, q_7, q_8, q_9, q_10, q_11, q_12, q_13, q_14, q_15, q_16, mf_0.fn.choose, mf_1.fn.choose, mf_2.fn.choose, mf_3.fn.choose, mf_4.fn.choose, mf_5.fn.choose, mf_6.fn.choose, mf_7.fn.choose, mf_8.fn.choose, mf_9.fn.choose, mf_10.fn.choose, mf_11.fn.choose, mf_12.fn.choose, mf_13.fn.choose, mf_14.fn.choose, mf_15.fn.choose, mf_16.fn.choose, ⟨pg_Count, hd_Count, po_Count, sa_Count⟩, ⟨pg_Keep, hd_Keep, po_Keep, sa_Keep⟩, ⟨pg_Free, hd_Free, po_Free, sa_Free⟩, ⟨pg_Post, hd_Post, po_Post, sa_Post⟩, n_Count_tally, n_Free_keep, n_Free_many, n_Keep_choice, n_Keep_count, n_Keep_handed_up, n_Keep_queue, n_Keep_votes, n_Post_keep, n_Post_now, mf_0.fn.choose_spec, mf_1.fn.choose_spec, mf_2.fn.choose_spec, mf_3.fn.choose_spec, mf_4.fn.choose_spec, mf_5.fn.choose_spec, mf_6.fn.choose_spec, mf_7.fn.choose_spec, mf_8.fn.choose_spec, mf_9.fn.choose_spec, mf_10.fn.choose_spec, mf_11.fn.choose_spec, mf_12.fn.choose_spec, mf_13.fn.choose_spec, mf_14.fn.choose_spec, mf_15.fn.choose_spec, mf_16.fn.choose_spec, ⟨mf_14.at_, mf_14.fi, mf_14.ik⟩, ⟨mf_10.at_, mf_10.fi, mf_10.ik⟩, ⟨mf_4.at_, mf_4.fi, mf_4.ik⟩, ⟨mf_6.at_, mf_6.fi, mf_6.ik⟩, ⟨mf_11.at_, mf_11.fi, mf_11.ik⟩, ⟨mf_5.at_, mf_5.fi, mf_5.ik⟩, ⟨mf_9.at_, mf_9.fi, mf_9.ik⟩, ⟨mf_16.at_, mf_16.fi, mf_16.ik⟩, ⟨mf_15.at_, mf_15.fi, mf_15.ik⟩, ⟨mf_13.at_, mf_13.fi, mf_13.ik⟩, ⟨mf_12.at_, mf_12.fi, mf_12.ik⟩, ⟨mf_7.at_, mf_7.fi, mf_7.ik⟩, ⟨mf_8.at_, mf_8.fi, mf_8.ik⟩, ⟨mk_Count, mf_0.at_, mf_0.fi, kc_Count⟩, PySem.W.mg_of X G a_Count, ⟨mk_Free, mf_2.at_, mf_2.fi, kc_Free⟩, PySem.W.mg_of X G a_Free, ⟨mk_Keep, mf_1.at_, mf_1.fi, kc_Keep⟩, PySem.W.mg_of X G a_Keep, ⟨mk_Post, mf_3.at_, mf_3.fi, kc_Post⟩, PySem.W.mg_of X G a_Post⟩
theorem pack {K : PySem.W.Frag} {h : Heap} {mg : Str → Option Value} (X : K.In h) (G : h.Ns mainGlobals mg) {A_NoBits A_NoFrame A_NoKey A_NoName A_NoPost A_NoRail A_NoRow A_NoStrip A_NoThing A_NoWire A_RailError : Addr} (a_NoBits : PySem.W.nsIn K mainGlobals "NoBits" = some (some (.ref A_NoBits))) (a_NoFrame : PySem.W.nsIn K mainGlobals "NoFrame" = some (some (.ref A_NoFrame))) (a_NoKey : PySem.W.nsIn K mainGlobals "NoKey" = some (some (.ref A_NoKey))) (a_NoName : PySem.W.nsIn K mainGlobals "NoName" = some (some (.ref A_NoName))) (a_NoPost : PySem.W.nsIn K mainGlobals "NoPost" = some (some (.ref A_NoPost))) (a_NoRail : PySem.W.nsIn K mainGlobals "NoRail" = some (some (.ref A_NoRail))) (a_NoRow : PySem.W.nsIn K mainGlobals "NoRow" = some (some (.ref A_NoRow))) (a_NoStrip : PySem.W.nsIn K mainGlobals "NoStrip" = some (some (.ref A_NoStrip))) (a_NoThing : PySem.W.nsIn K mainGlobals "NoThing" = some (some (.ref A_NoThing))) (a_NoWire : PySem.W.nsIn K mainGlobals "NoWire" = some (some (.ref A_NoWire))) (a_RailError : PySem.W.nsIn K mainGlobals "RailError" = some (some (.ref A_RailError))) (e_NoBits : PySem.W.excIn K A_NoBits [.type "ValueError", .type "Exception", .type "BaseException", .type "object"] "ValueError.__new__" = true) (k_NoBits : PySem.W.keepIn K (.ref A_NoBits) = true) (s_NoBits : PySem.W.subIn K (.ref A_NoBits) (.type "BaseException") = some true) (t_NoBits : PySem.W.typeIn K (.ref A_NoBits) = some (.type "type")) (e_NoFrame : PySem.W.excIn K A_NoFrame [.type "ValueError", .type "Exception", .type "BaseException", .type "object"] "ValueError.__new__" = true) (k_NoFrame : PySem.W.keepIn K (.ref A_NoFrame) = true) (s_NoFrame : PySem.W.subIn K (.ref A_NoFrame) (.type "BaseException") = some true) (t_NoFrame : PySem.W.typeIn K (.ref A_NoFrame) = some (.type "type")) (e_NoKey : PySem.W.excIn K A_NoKey [.type "ValueError", .type "Exception", .type "BaseException", .type "object"] "ValueError.__new__" = true) (k_NoKey : PySem.W.keepIn K (.ref A_NoKey) = true) (s_NoKey : PySem.W.subIn K (.ref A_NoKey) (.type "BaseException") = some true) (t_NoKey : PySem.W.typeIn K (.ref A_NoKey) = some (.type "type")) (e_NoPost : PySem.W.excIn K A_NoPost [.type "ValueError", .type "Exception", .type "BaseException", .type "object"] "ValueError.__new__" = true) (k_NoPost : PySem.W.keepIn K (.ref A_NoPost) = true) (s_NoPost : PySem.W.subIn K (.ref A_NoPost) (.type "BaseException") = some true) (t_NoPost : PySem.W.typeIn K (.ref A_NoPost) = some (.type "type")) (q_NoBits : EcP K A_NoBits) (q_NoName : EcP K A_NoName) (q_NoKey : EcP K A_NoKey) (q_NoFrame : EcP K A_NoFrame) (q_NoPost : EcP K A_NoPost) (q_NoThing : EcP K A_NoThing) (q_NoStrip : EcP K A_NoStrip) (q_NoRail : EcP K A_NoRail) (q_NoWire : EcP K A_NoWire) (q_NoRow : EcP K A_NoRow) (q_RailError : EcP K A_RailError) (r_NoBits : PySem.W.subIn K (.ref A_NoBits) (.ref A_RailError) = some true) (p_NoBits_NoBits : PySem.W.subIn K (.ref A_NoBits) (.ref A_NoBits) = some true) (p_NoBits_NoName : PySem.W.subIn K (.ref A_NoBits) (.ref A_NoName) = some false) (p_NoBits_NoKey : PySem.W.subIn K (.ref A_NoBits) (.ref A_NoKey) = some false) (p_NoBits_NoFrame : PySem.W.subIn K (.ref A_NoBits) (.ref A_NoFrame) = some false) (p_NoBits_NoPost : PySem.W.subIn K (.ref A_NoBits) (.ref A_NoPost) = some false) (p_NoBits_NoThing : PySem.W.subIn K (.ref A_NoBits) (.ref A_NoThing) = some false) (p_NoBits_NoStrip : PySem.W.subIn K (.ref A_NoBits) (.ref A_NoStrip) = some false) (p_NoBits_NoRail : PySem.W.subIn K (.ref A_NoBits) (.ref A_NoRail) = some false) (p_NoBits_NoWire : PySem.W.subIn K (.ref A_NoBits) (.ref A_NoWire) = some false) (p_NoBits_NoRow : PySem.W.subIn K (.ref A_NoBits) (.ref A_NoRow) = some false) (r_NoName : PySem.W.subIn K (.ref A_NoName) (.ref A_RailError) = some true) (p_NoName_NoBits : PySem.W.subIn K (.ref A_NoName) (.ref A_NoBits) = some false) (p_NoName_NoName : PySem.W.subIn K (.ref A_NoName) (.ref A_NoName) = some true) (p_NoName_NoKey : PySem.W.subIn K (.ref A_NoName) (.ref A_NoKey) = some false) (p_NoName_NoFrame : PySem.W.subIn K (.ref A_NoName) (.ref A_NoFrame) = some false) (p_NoName_NoPost : PySem.W.subIn K (.ref A_NoName) (.ref A_NoPost) = some false) (p_NoName_NoThing : PySem.W.subIn K (.ref A_NoName) (.ref A_NoThing) = some false) (p_NoName_NoStrip : PySem.W.subIn K (.ref A_NoName) (.ref A_NoStrip) = some false) (p_NoName_NoRail : PySem.W.subIn K (.ref A_NoName) (.ref A_NoRail) = some false) (p_NoName_NoWire : PySem.W.subIn K (.ref A_NoName) (.ref A_NoWire) = some false) (p_NoName_NoRow : PySem.W.subIn K (.ref A_NoName) (.ref A_NoRow) = some false) (r_NoKey : PySem.W.subIn K (.ref A_NoKey) (.ref A_RailError) = some true) (p_NoKey_NoBits : PySem.W.subIn K (.ref A_NoKey) (.ref A_NoBits) = some false) (p_NoKey_NoName : PySem.W.subIn K (.ref A_NoKey) (.ref A_NoName) = some false) (p_NoKey_NoKey : PySem.W.subIn K (.ref A_NoKey) (.ref A_NoKey) = some true) (p_NoKey_NoFrame : PySem.W.subIn K (.ref A_NoKey) (.ref A_NoFrame) = some false) (p_NoKey_NoPost : PySem.W.subIn K (.ref A_NoKey) (.ref A_NoPost) = some false) (p_NoKey_NoThing : PySem.W.subIn K (.ref A_NoKey) (.ref A_NoThing) = some false) (p_NoKey_NoStrip : PySem.W.subIn K (.ref A_NoKey) (.ref A_NoStrip) = some false) (p_NoKey_NoRail : PySem.W.subIn K (.ref A_NoKey) (.ref A_NoRail) = some false) (p_NoKey_NoWire : PySem.W.subIn K (.ref A_NoKey) (.ref A_NoWire) = some false) (p_NoKey_NoRow : PySem.W.subIn K (.ref A_NoKey) (.ref A_NoRow) = some false) (r_NoFrame : PySem.W.subIn K (.ref A_NoFrame) (.ref A_RailError) = some true) (p_NoFrame_NoBits : PySem.W.subIn K (.ref A_NoFrame) (.ref A_NoBits) = some false) (p_NoFrame_NoName : PySem.W.subIn K (.ref A_NoFrame) (.ref A_NoName) = some false) (p_NoFrame_NoKey : PySem.W.subIn K (.ref A_NoFrame) (.ref A_NoKey) = some false) (p_NoFrame_NoFrame : PySem.W.subIn K (.ref A_NoFrame) (.ref A_NoFrame) = some true) (p_NoFrame_NoPost : PySem.W.subIn K (.ref A_NoFrame) (.ref A_NoPost) = some false) (p_NoFrame_NoThing : PySem.W.subIn K (.ref A_NoFrame) (.ref A_NoThing) = some false) (p_NoFrame_NoStrip : PySem.W.subIn K (.ref A_NoFrame) (.ref A_NoStrip) = some false) (p_NoFrame_NoRail : PySem.W.subIn K (.ref A_NoFrame) (.ref A_NoRail) = some false) (p_NoFrame_NoWire : PySem.W.subIn K (.ref A_NoFrame) (.ref A_NoWire) = some false) (p_NoFrame_NoRow : PySem.W.subIn K (.ref A_NoFrame) (.ref A_NoRow) = some false) (r_NoPost : PySem.W.subIn K (.ref A_NoPost) (.ref A_RailError) = some true) (p_NoPost_NoBits : PySem.W.subIn K (.ref A_NoPost) (.ref A_NoBits) = some false) (p_NoPost_NoName : PySem.W.subIn K (.ref A_NoPost) (.ref A_NoName) = some false) (p_NoPost_NoKey : PySem.W.subIn K (.ref A_NoPost) (.ref A_NoKey) = some false) (p_NoPost_NoFrame : PySem.W.subIn K (.ref A_NoPost) (.ref A_NoFrame) = some false) (p_NoPost_NoPost : PySem.W.subIn K (.ref A_NoPost) (.ref A_NoPost) = some true) (p_NoPost_NoThing : PySem.W.subIn K (.ref A_NoPost) (.ref A_NoThing) = some false) (p_NoPost_NoStrip : PySem.W.subIn K (.ref A_NoPost) (.ref A_NoStrip) = some false) (p_NoPost_NoRail : PySem.W.subIn K (.ref A_NoPost) (.ref A_NoRail) = some false) (p_NoPost_NoWire : PySem.W.subIn K (.ref A_NoPost) (.ref A_NoWire) = some false) (p_NoPost_NoRow : PySem.W.subIn K (.ref A_NoPost) (.ref A_NoRow) = some false) (r_NoThing : PySem.W.subIn K (.ref A_NoThing) (.ref A_RailError) = some true) (p_NoThing_NoBits : PySem.W.subIn K (.ref A_NoThing) (.ref A_NoBits) = some false) (p_NoThing_NoName : PySem.W.subIn K (.ref A_NoThing) (.ref A_NoName) = some false) (p_NoThing_NoKey : PySem.W.subIn K (.ref A_NoThing) (.ref A_NoKey) = some false) (p_NoThing_NoFrame : PySem.W.subIn K (.ref A_NoThing) (.ref A_NoFrame) = some false) (p_NoThing_NoPost : PySem.W.subIn K (.ref A_NoThing) (.ref A_NoPost) = some false) (p_NoThing_NoThing : PySem.W.subIn K (.ref A_NoThing) (.ref A_NoThing) = some true) (p_NoThing_NoStrip : PySem.W.subIn K (.ref A_NoThing) (.ref A_NoStrip) = some false) (p_NoThing_NoRail : PySem.W.subIn K (.ref A_NoThing) (.ref A_NoRail) = some false) (p_NoThing_NoWire : PySem.W.subIn K (.ref A_NoThing) (.ref A_NoWire) = some false) (p_NoThing_NoRow : PySem.W.subIn K (.ref A_NoThing) (.ref A_NoRow) = some false) (r_NoStrip : PySem.W.subIn K (.ref A_NoStrip) (.ref A_RailError) = some true) (p_NoStrip_NoBits : PySem.W.subIn K (.ref A_NoStrip) (.ref A_NoBits) = some false) (p_NoStrip_NoName : PySem.W.subIn K (.ref A_NoStrip) (.ref A_NoName) = some false) (p_NoStrip_NoKey : PySem.W.subIn K (.ref A_NoStrip) (.ref A_NoKey) = some false) (p_NoStrip_NoFrame : PySem.W.subIn K (.ref A_NoStrip) (.ref A_NoFrame) = some false) (p_NoStrip_NoPost : PySem.W.subIn K (.ref A_NoStrip) (.ref A_NoPost) = some false) (p_NoStrip_NoThing : PySem.W.subIn K (.ref A_NoStrip) (.ref A_NoThing) = some false) (p_NoStrip_NoStrip : PySem.W.subIn K (.ref A_NoStrip) (.ref A_NoStrip) = some true) (p_NoStrip_NoRail : PySem.W.subIn K (.ref A_NoStrip) (.ref A_NoRail) = some false) (p_NoStrip_NoWire : PySem.W.subIn K (.ref A_NoStrip) (.ref A_NoWire) = some false) (p_NoStrip_NoRow : PySem.W.subIn K (.ref A_NoStrip) (.ref A_NoRow) = some false) (r_NoRail : PySem.W.subIn K (.ref A_NoRail) (.ref A_RailError) = some true) (p_NoRail_NoBits : PySem.W.subIn K (.ref A_NoRail) (.ref A_NoBits) = some false) (p_NoRail_NoName : PySem.W.subIn K (.ref A_NoRail) (.ref A_NoName) = some false) (p_NoRail_NoKey : PySem.W.subIn K (.ref A_NoRail) (.ref A_NoKey) = some false) (p_NoRail_NoFrame : PySem.W.subIn K (.ref A_NoRail) (.ref A_NoFrame) = some false) (p_NoRail_NoPost : PySem.W.subIn K (.ref A_NoRail) (.ref A_NoPost) = some false) (p_NoRail_NoThing : PySem.W.subIn K (.ref A_NoRail) (.ref A_NoThing) = some false) (p_NoRail_NoStrip : PySem.W.subIn K (.ref A_NoRail) (.ref A_NoStrip) = some false) (p_NoRail_NoRail : PySem.W.subIn K (.ref A_NoRail) (.ref A_NoRail) = some true) (p_NoRail_NoWire : PySem.W.subIn K (.ref A_NoRail) (.ref A_NoWire) = some false) (p_NoRail_NoRow : PySem.W.subIn K (.ref A_NoRail) (.ref A_NoRow) = some false) (r_NoWire : PySem.W.subIn K (.ref A_NoWire) (.ref A_RailError) = some true) (p_NoWire_NoBits : PySem.W.subIn K (.ref A_NoWire) (.ref A_NoBits) = some false) (p_NoWire_NoName : PySem.W.subIn K (.ref A_NoWire) (.ref A_NoName) = some false) (p_NoWire_NoKey : PySem.W.subIn K (.ref A_NoWire) (.ref A_NoKey) = some false) (p_NoWire_NoFrame : PySem.W.subIn K (.ref A_NoWire) (.ref A_NoFrame) = some false) (p_NoWire_NoPost : PySem.W.subIn K (.ref A_NoWire) (.ref A_NoPost) = some false) (p_NoWire_NoThing : PySem.W.subIn K (.ref A_NoWire) (.ref A_NoThing) = some false) (p_NoWire_NoStrip : PySem.W.subIn K (.ref A_NoWire) (.ref A_NoStrip) = some false) (p_NoWire_NoRail : PySem.W.subIn K (.ref A_NoWire) (.ref A_NoRail) = some false) (p_NoWire_NoWire : PySem.W.subIn K (.ref A_NoWire) (.ref A_NoWire) = some true) (p_NoWire_NoRow : PySem.W.subIn K (.ref A_NoWire) (.ref A_NoRow) = some false) (r_NoRow : PySem.W.subIn K (.ref A_NoRow) (.ref A_RailError) = some true) (p_NoRow_NoBits : PySem.W.subIn K (.ref A_NoRow) (.ref A_NoBits) = some false) (p_NoRow_NoName : PySem.W.subIn K (.ref A_NoRow) (.ref A_NoName) = some false) (p_NoRow_NoKey : PySem.W.subIn K (.ref A_NoRow) (.ref A_NoKey) = some false) (p_NoRow_NoFrame : PySem.W.subIn K (.ref A_NoRow) (.ref A_NoFrame) = some false) (p_NoRow_NoPost : PySem.W.subIn K (.ref A_NoRow) (.ref A_NoPost) = some false) (p_NoRow_NoThing : PySem.W.subIn K (.ref A_NoRow) (.ref A_NoThing) = some false) (p_NoRow_NoStrip : PySem.W.subIn K (.ref A_NoRow) (.ref A_NoStrip) = some false) (p_NoRow_NoRail : PySem.W.subIn K (.ref A_NoRow) (.ref A_NoRail) = some false) (p_NoRow_NoWire : PySem.W.subIn K (.ref A_NoRow) (.ref A_NoWire) = some false) (p_NoRow_NoRow : PySem.W.subIn K (.ref A_NoRow) (.ref A_NoRow) = some true) (hn : PySem.W.specialIn K (.builtin "object.__class__") "__get__" = some (some (.builtin "getset_descriptor.__get__"))) (ht : PySem.W.takesIn K (.builtin "object.__class__") = some true) :
  ∃ (es : Eds), mg "NoBits" = some (.ref es.NoBits) ∧ mg "NoFrame" = some (.ref es.NoFrame) ∧ mg "NoKey" = some (.ref es.NoKey) ∧ mg "NoName" = some (.ref es.NoName) ∧ mg "NoPost" = some (.ref es.NoPost) ∧ mg "NoRail" = some (.ref es.NoRail) ∧ mg "NoRow" = some (.ref es.NoRow) ∧ mg "NoStrip" = some (.ref es.NoStrip) ∧ mg "NoThing" = some (.ref es.NoThing) ∧ mg "NoWire" = some (.ref es.NoWire) ∧ mg "RailError" = some (.ref es.RailError) ∧ ErrC K mg "NoBits" es.NoBits ∧ ErrC K mg "NoFrame" es.NoFrame ∧ ErrC K mg "NoKey" es.NoKey ∧ ErrC K mg "NoPost" es.NoPost ∧ EcF K es ks :=
  ⟨(⟨A_NoBits, A_NoName, A_NoKey, A_NoFrame, A_NoPost, A_NoThing, A_NoStrip, A_NoRail, A_NoWire, A_NoRow, A_RailError⟩ : Eds), PySem.W.mg_of X G a_NoBits, PySem.W.mg_of X G a_NoFrame, PySem.W.mg_of X G a_NoKey, PySem.W.mg_of X G a_NoName, PySem.W.mg_of X G a_NoPost, PySem.W.mg_of X G a_NoRail, PySem.W.mg_of X G a_NoRow, PySem.W.mg_of X G a_NoStrip, PySem.W.mg_of X G a_NoThing, PySem.W.mg_of X G a_NoWire, PySem.W.mg_of X G a_RailError, ⟨PySem.W.mg_of X G a_NoBits, e_NoBits, k_NoBits, s_NoBits, t_NoBits⟩, ⟨PySem.W.mg_of X G a_NoFrame, e_NoFrame, k_NoFrame, s_NoFrame, t_NoFrame⟩, ⟨PySem.W.mg_of X G a_NoKey, e_NoKey, k_NoKey, s_NoKey, t_NoKey⟩, ⟨PySem.W.mg_of X G a_NoPost, e_NoPost, k_NoPost, s_NoPost, t_NoPost⟩, ecf_mk (d := (⟨A_NoBits, A_NoName, A_NoKey, A_NoFrame, A_NoPost, A_NoThing, A_NoStrip, A_NoRail, A_NoWire, A_NoRow, A_RailError⟩ : Eds)) (all_cons (P := fun k => EcP K ((⟨A_NoBits, A_NoName, A_NoKey, A_NoFrame, A_NoPost, A_NoThing, A_NoStrip, A_NoRail, A_NoWire, A_NoRow, A_RailError⟩ : Eds).at k)) q_NoBits (all_cons (P := fun k => EcP K ((⟨A_NoBits, A_NoName, A_NoKey, A_NoFrame, A_NoPost, A_NoThing, A_NoStrip, A_NoRail, A_NoWire, A_NoRow, A_RailError⟩ : Eds).at k)) q_NoName (all_cons (P := fun k => EcP K ((⟨A_NoBits, A_NoName, A_NoKey, A_NoFrame, A_NoPost, A_NoThing, A_NoStrip, A_NoRail, A_NoWire, A_NoRow, A_RailError⟩ : Eds).at k)) q_NoKey (all_cons (P := fun k => EcP K ((⟨A_NoBits, A_NoName, A_NoKey, A_NoFrame, A_NoPost, A_NoThing, A_NoStrip, A_NoRail, A_NoWire, A_NoRow, A_RailError⟩ : Eds).at k)) q_NoFrame (all_cons (P := fun k => EcP K ((⟨A_NoBits, A_NoName, A_NoKey, A_NoFrame, A_NoPost, A_NoThing, A_NoStrip, A_NoRail, A_NoWire, A_NoRow, A_RailError⟩ : Eds).at k)) q_NoPost (all_cons (P := fun k => EcP K ((⟨A_NoBits, A_NoName, A_NoKey, A_NoFrame, A_NoPost, A_NoThing, A_NoStrip, A_NoRail, A_NoWire, A_NoRow, A_RailError⟩ : Eds).at k)) q_NoThing (all_cons (P := fun k => EcP K ((⟨A_NoBits, A_NoName, A_NoKey, A_NoFrame, A_NoPost, A_NoThing, A_NoStrip, A_NoRail, A_NoWire, A_NoRow, A_RailError⟩ : Eds).at k)) q_NoStrip (all_cons (P := fun k => EcP K ((⟨A_NoBits, A_NoName, A_NoKey, A_NoFrame, A_NoPost, A_NoThing, A_NoStrip, A_NoRail, A_NoWire, A_NoRow, A_RailError⟩ : Eds).at k)) q_NoRail (all_cons (P := fun k => EcP K ((⟨A_NoBits, A_NoName, A_NoKey, A_NoFrame, A_NoPost, A_NoThing, A_NoStrip, A_NoRail, A_NoWire, A_NoRow, A_RailError⟩ : Eds).at k)) q_NoWire (all_cons (P := fun k => EcP K ((⟨A_NoBits, A_NoName, A_NoKey, A_NoFrame, A_NoPost, A_NoThing, A_NoStrip, A_NoRail, A_NoWire, A_NoRow, A_RailError⟩ : Eds).at k)) q_NoRow all_nil)))))))))) (all_cons (P := fun k => ∀ c ∈ ks, PySem.W.subIn K (.ref ((⟨A_NoBits, A_NoName, A_NoKey, A_NoFrame, A_NoPost, A_NoThing, A_NoStrip, A_NoRail, A_NoWire, A_NoRow, A_RailError⟩ : Eds).at k)) (.ref ((⟨A_NoBits, A_NoName, A_NoKey, A_NoFrame, A_NoPost, A_NoThing, A_NoStrip, A_NoRail, A_NoWire, A_NoRow, A_RailError⟩ : Eds).at c)) = some (decide (k = c))) (all_cons (P := fun c => PySem.W.subIn K (.ref ((⟨A_NoBits, A_NoName, A_NoKey, A_NoFrame, A_NoPost, A_NoThing, A_NoStrip, A_NoRail, A_NoWire, A_NoRow, A_RailError⟩ : Eds).at .NoBits)) (.ref ((⟨A_NoBits, A_NoName, A_NoKey, A_NoFrame, A_NoPost, A_NoThing, A_NoStrip, A_NoRail, A_NoWire, A_NoRow, A_RailError⟩ : Eds).at c)) = some (decide (.NoBits = c))) p_NoBits_NoBits (all_cons (P := fun c => PySem.W.subIn K (.ref ((⟨A_NoBits, A_NoName, A_NoKey, A_NoFrame, A_NoPost, A_NoThing, A_NoStrip, A_NoRail, A_NoWire, A_NoRow, A_RailError⟩ : Eds).at .NoBits)) (.ref ((⟨A_NoBits, A_NoName, A_NoKey, A_NoFrame, A_NoPost, A_NoThing, A_NoStrip, A_NoRail, A_NoWire, A_NoRow, A_RailError⟩ : Eds).at c)) = some (decide (.NoBits = c))) p_NoBits_NoName (all_cons (P := fun c => PySem.W.subIn K (.ref ((⟨A_NoBits, A_NoName, A_NoKey, A_NoFrame, A_NoPost, A_NoThing, A_NoStrip, A_NoRail, A_NoWire, A_NoRow, A_RailError⟩ : Eds).at .NoBits)) (.ref ((⟨A_NoBits, A_NoName, A_NoKey, A_NoFrame, A_NoPost, A_NoThing, A_NoStrip, A_NoRail, A_NoWire, A_NoRow, A_RailError⟩ : Eds).at c)) = some (decide (.NoBits = c))) p_NoBits_NoKey (all_cons (P := fun c => PySem.W.subIn K (.ref ((⟨A_NoBits, A_NoName, A_NoKey, A_NoFrame, A_NoPost, A_NoThing, A_NoStrip, A_NoRail, A_NoWire, A_NoRow, A_RailError⟩ : Eds).at .NoBits)) (.ref ((⟨A_NoBits, A_NoName, A_NoKey, A_NoFrame, A_NoPost, A_NoThing, A_NoStrip, A_NoRail, A_NoWire, A_NoRow, A_RailError⟩ : Eds).at c)) = some (decide (.NoBits = c))) p_NoBits_NoFrame (all_cons (P := fun c => PySem.W.subIn K (.ref ((⟨A_NoBits, A_NoName, A_NoKey, A_NoFrame, A_NoPost, A_NoThing, A_NoStrip, A_NoRail, A_NoWire, A_NoRow, A_RailError⟩ : Eds).at .NoBits)) (.ref ((⟨A_NoBits, A_NoName, A_NoKey, A_NoFrame, A_NoPost, A_NoThing, A_NoStrip, A_NoRail, A_NoWire, A_NoRow, A_RailError⟩ : Eds).at c)) = some (decide (.NoBits = c))) p_NoBits_NoPost (all_cons (P := fun c => PySem.W.subIn K (.ref ((⟨A_NoBits, A_NoName, A_NoKey, A_NoFrame, A_NoPost, A_NoThing, A_NoStrip, A_NoRail, A_NoWire, A_NoRow, A_RailError⟩ : Eds).at .NoBits)) (.ref ((⟨A_NoBits, A_NoName, A_NoKey, A_NoFrame, A_NoPost, A_NoThing, A_NoStrip, A_NoRail, A_NoWire, A_NoRow, A_RailError⟩ : Eds).at c)) = some (decide (.NoBits = c))) p_NoBits_NoThing (all_cons (P := fun c => PySem.W.subIn K (.ref ((⟨A_NoBits, A_NoName, A_NoKey, A_NoFrame, A_NoPost, A_NoThing, A_NoStrip, A_NoRail, A_NoWire, A_NoRow, A_RailError⟩ : Eds).at .NoBits)) (.ref ((⟨A_NoBits, A_NoName, A_NoKey, A_NoFrame, A_NoPost, A_NoThing, A_NoStrip, A_NoRail, A_NoWire, A_NoRow, A_RailError⟩ : Eds).at c)) = some (decide (.NoBits = c))) p_NoBits_NoStrip (all_cons (P := fun c => PySem.W.subIn K (.ref ((⟨A_NoBits, A_NoName, A_NoKey, A_NoFrame, A_NoPost, A_NoThing, A_NoStrip, A_NoRail, A_NoWire, A_NoRow, A_RailError⟩ : Eds).at .NoBits)) (.ref ((⟨A_NoBits, A_NoName, A_NoKey, A_NoFrame, A_NoPost, A_NoThing, A_NoStrip, A_NoRail, A_NoWire, A_NoRow, A_RailError⟩ : Eds).at c)) = some (decide (.NoBits = c))) p_NoBits_NoRail (all_cons (P := fun c => PySem.W.subIn K (.ref ((⟨A_NoBits, A_NoName, A_NoKey, A_NoFrame, A_NoPost, A_NoThing, A_NoStrip, A_NoRail, A_NoWire, A_NoRow, A_RailError⟩ : Eds).at .NoBits)) (.ref ((⟨A_NoBits, A_NoName, A_NoKey, A_NoFrame, A_NoPost, A_NoThing, A_NoStrip, A_NoRail, A_NoWire, A_NoRow, A_RailError⟩ : Eds).at c)) = some (decide (.NoBits = c))) p_NoBits_NoWire (all_cons (P := fun c => PySem.W.subIn K (.ref ((⟨A_NoBits, A_NoName, A_NoKey, A_NoFrame, A_NoPost, A_NoThing, A_NoStrip, A_NoRail, A_NoWire, A_NoRow, A_RailError⟩ : Eds).at .NoBits)) (.ref ((⟨A_NoBits, A_NoName, A_NoKey, A_NoFrame, A_NoPost, A_NoThing, A_NoStrip, A_NoRail, A_NoWire, A_NoRow, A_RailError⟩ : Eds).at c)) = some (decide (.NoBits = c))) p_NoBits_NoRow all_nil)))))))))) (all_cons (P := fun k => ∀ c ∈ ks, PySem.W.subIn K (.ref ((⟨A_NoBits, A_NoName, A_NoKey, A_NoFrame, A_NoPost, A_NoThing, A_NoStrip, A_NoRail, A_NoWire, A_NoRow, A_RailError⟩ : Eds).at k)) (.ref ((⟨A_NoBits, A_NoName, A_NoKey, A_NoFrame, A_NoPost, A_NoThing, A_NoStrip, A_NoRail, A_NoWire, A_NoRow, A_RailError⟩ : Eds).at c)) = some (decide (k = c))) (all_cons (P := fun c => PySem.W.subIn K (.ref ((⟨A_NoBits, A_NoName, A_NoKey, A_NoFrame, A_NoPost, A_NoThing, A_NoStrip, A_NoRail, A_NoWire, A_NoRow, A_RailError⟩ : Eds).at .NoName)) (.ref ((⟨A_NoBits, A_NoName, A_NoKey, A_NoFrame, A_NoPost, A_NoThing, A_NoStrip, A_NoRail, A_NoWire, A_NoRow, A_RailError⟩ : Eds).at c)) = some (decide (.NoName = c))) p_NoName_NoBits (all_cons (P := fun c => PySem.W.subIn K (.ref ((⟨A_NoBits, A_NoName, A_NoKey, A_NoFrame, A_NoPost, A_NoThing, A_NoStrip, A_NoRail, A_NoWire, A_NoRow, A_RailError⟩ : Eds).at .NoName)) (.ref ((⟨A_NoBits, A_NoName, A_NoKey, A_NoFrame, A_NoPost, A_NoThing, A_NoStrip, A_NoRail, A_NoWire, A_NoRow, A_RailError⟩ : Eds).at c)) = some (decide (.NoName = c))) p_NoName_NoName (all_cons (P := fun c => PySem.W.subIn K (.ref ((⟨A_NoBits, A_NoName, A_NoKey, A_NoFrame, A_NoPost, A_NoThing, A_NoStrip, A_NoRail, A_NoWire, A_NoRow, A_RailError⟩ : Eds).at .NoName)) (.ref ((⟨A_NoBits, A_NoName, A_NoKey, A_NoFrame, A_NoPost, A_NoThing, A_NoStrip, A_NoRail, A_NoWire, A_NoRow, A_RailError⟩ : Eds).at c)) = some (decide (.NoName = c))) p_NoName_NoKey (all_cons (P := fun c => PySem.W.subIn K (.ref ((⟨A_NoBits, A_NoName, A_NoKey, A_NoFrame, A_NoPost, A_NoThing, A_NoStrip, A_NoRail, A_NoWire, A_NoRow, A_RailError⟩ : Eds).at .NoName)) (.ref ((⟨A_NoBits, A_NoName, A_NoKey, A_NoFrame, A_NoPost, A_NoThing, A_NoStrip, A_NoRail, A_NoWire, A_NoRow, A_RailError⟩ : Eds).at c)) = some (decide (.NoName = c))) p_NoName_NoFrame (all_cons (P := fun c => PySem.W.subIn K (.ref ((⟨A_NoBits, A_NoName, A_NoKey, A_NoFrame, A_NoPost, A_NoThing, A_NoStrip, A_NoRail, A_NoWire, A_NoRow, A_RailError⟩ : Eds).at .NoName)) (.ref ((⟨A_NoBits, A_NoName, A_NoKey, A_NoFrame, A_NoPost, A_NoThing, A_NoStrip, A_NoRail, A_NoWire, A_NoRow, A_RailError⟩ : Eds).at c)) = some (decide (.NoName = c))) p_NoName_NoPost (all_cons (P := fun c => PySem.W.subIn K (.ref ((⟨A_NoBits, A_NoName, A_NoKey, A_NoFrame, A_NoPost, A_NoThing, A_NoStrip, A_NoRail, A_NoWire, A_NoRow, A_RailError⟩ : Eds).at .NoName)) (.ref ((⟨A_NoBits, A_NoName, A_NoKey, A_NoFrame, A_NoPost, A_NoThing, A_NoStrip, A_NoRail, A_NoWire, A_NoRow, A_RailError⟩ : Eds).at c)) = some (decide (.NoName = c))) p_NoName_NoThing (all_cons (P := fun c => PySem.W.subIn K (.ref ((⟨A_NoBits, A_NoName, A_NoKey, A_NoFrame, A_NoPost, A_NoThing, A_NoStrip, A_NoRail, A_NoWire, A_NoRow, A_RailError⟩ : Eds).at .NoName)) (.ref ((⟨A_NoBits, A_NoName, A_NoKey, A_NoFrame, A_NoPost, A_NoThing, A_NoStrip, A_NoRail, A_NoWire, A_NoRow, A_RailError⟩ : Eds).at c)) = some (decide (.NoName = c))) p_NoName_NoStrip (all_cons (P := fun c => PySem.W.subIn K (.ref ((⟨A_NoBits, A_NoName, A_NoKey, A_NoFrame, A_NoPost, A_NoThing, A_NoStrip, A_NoRail, A_NoWire, A_NoRow, A_RailError⟩ : Eds).at .NoName)) (.ref ((⟨A_NoBits, A_NoName, A_NoKey, A_NoFrame, A_NoPost, A_NoThing, A_NoStrip, A_NoRail, A_NoWire, A_NoRow, A_RailError⟩ : Eds).at c)) = some (decide (.NoName = c))) p_NoName_NoRail (all_cons (P := fun c => PySem.W.subIn K (.ref ((⟨A_NoBits, A_NoName, A_NoKey, A_NoFrame, A_NoPost, A_NoThing, A_NoStrip, A_NoRail, A_NoWire, A_NoRow, A_RailError⟩ : Eds).at .NoName)) (.ref ((⟨A_NoBits, A_NoName, A_NoKey, A_NoFrame, A_NoPost, A_NoThing, A_NoStrip, A_NoRail, A_NoWire, A_NoRow, A_RailError⟩ : Eds).at c)) = some (decide (.NoName = c))) p_NoName_NoWire (all_cons (P := fun c => PySem.W.subIn K (.ref ((⟨A_NoBits, A_NoName, A_NoKey, A_NoFrame, A_NoPost, A_NoThing, A_NoStrip, A_NoRail, A_NoWire, A_NoRow, A_RailError⟩ : Eds).at .NoName)) (.ref ((⟨A_NoBits, A_NoName, A_NoKey, A_NoFrame, A_NoPost, A_NoThing, A_NoStrip, A_NoRail, A_NoWire, A_NoRow, A_RailError⟩ : Eds).at c)) = some (decide (.NoName = c))) p_NoName_NoRow all_nil)))))))))) (all_cons (P := fun k => ∀ c ∈ ks, PySem.W.subIn K (.ref ((⟨A_NoBits, A_NoName, A_NoKey, A_NoFrame, A_NoPost, A_NoThing, A_NoStrip, A_NoRail, A_NoWire, A_NoRow, A_RailError⟩ : Eds).at k)) (.ref ((⟨A_NoBits, A_NoName, A_NoKey, A_NoFrame, A_NoPost, A_NoThing, A_NoStrip, A_NoRail, A_NoWire, A_NoRow, A_RailError⟩ : Eds).at c)) = some (decide (k = c))) (all_cons (P := fun c => PySem.W.subIn K (.ref ((⟨A_NoBits, A_NoName, A_NoKey, A_NoFrame, A_NoPost, A_NoThing, A_NoStrip, A_NoRail, A_NoWire, A_NoRow, A_RailError⟩ : Eds).at .NoKey)) (.ref ((⟨A_NoBits, A_NoName, A_NoKey, A_NoFrame, A_NoPost, A_NoThing, A_NoStrip, A_NoRail, A_NoWire, A_NoRow, A_RailError⟩ : Eds).at c)) = some (decide (.NoKey = c))) p_NoKey_NoBits (all_cons (P := fun c => PySem.W.subIn K (.ref ((⟨A_NoBits, A_NoName, A_NoKey, A_NoFrame, A_NoPost, A_NoThing, A_NoStrip, A_NoRail, A_NoWire, A_NoRow, A_RailError⟩ : Eds).at .NoKey)) (.ref ((⟨A_NoBits, A_NoName, A_NoKey, A_NoFrame, A_NoPost, A_NoThing, A_NoStrip, A_NoRail, A_NoWire, A_NoRow, A_RailError⟩ : Eds).at c)) = some (decide (.NoKey = c))) p_NoKey_NoName (all_cons (P := fun c => PySem.W.subIn K (.ref ((⟨A_NoBits, A_NoName, A_NoKey, A_NoFrame, A_NoPost, A_NoThing, A_NoStrip, A_NoRail, A_NoWire, A_NoRow, A_RailError⟩ : Eds).at .NoKey)) (.ref ((⟨A_NoBits, A_NoName, A_NoKey, A_NoFrame, A_NoPost, A_NoThing, A_NoStrip, A_NoRail, A_NoWire, A_NoRow, A_RailError⟩ : Eds).at c)) = some (decide (.NoKey = c))) p_NoKey_NoKey (all_cons (P := fun c => PySem.W.subIn K (.ref ((⟨A_NoBits, A_NoName, A_NoKey, A_NoFrame, A_NoPost, A_NoThing, A_NoStrip, A_NoRail, A_NoWire, A_NoRow, A_RailError⟩ : Eds).at .NoKey)) (.ref ((⟨A_NoBits, A_NoName, A_NoKey, A_NoFrame, A_NoPost, A_NoThing, A_NoStrip, A_NoRail, A_NoWire, A_NoRow, A_RailError⟩ : Eds).at c)) = some (decide (.NoKey = c))) p_NoKey_NoFrame (all_cons (P := fun c => PySem.W.subIn K (.ref ((⟨A_NoBits, A_NoName, A_NoKey, A_NoFrame, A_NoPost, A_NoThing, A_NoStrip, A_NoRail, A_NoWire, A_NoRow, A_RailError⟩ : Eds).at .NoKey)) (.ref ((⟨A_NoBits, A_NoName, A_NoKey, A_NoFrame, A_NoPost, A_NoThing, A_NoStrip, A_NoRail, A_NoWire, A_NoRow, A_RailError⟩ : Eds).at c)) = some (decide (.NoKey = c))) p_NoKey_NoPost (all_cons (P := fun c => PySem.W.subIn K (.ref ((⟨A_NoBits, A_NoName, A_NoKey, A_NoFrame, A_NoPost, A_NoThing, A_NoStrip, A_NoRail, A_NoWire, A_NoRow, A_RailError⟩ : Eds).at .NoKey)) (.ref ((⟨A_NoBits, A_NoName, A_NoKey, A_NoFrame, A_NoPost, A_NoThing, A_NoStrip, A_NoRail, A_NoWire, A_NoRow, A_RailError⟩ : Eds).at c)) = some (decide (.NoKey = c))) p_NoKey_NoThing (all_cons (P := fun c => PySem.W.subIn K (.ref ((⟨A_NoBits, A_NoName, A_NoKey, A_NoFrame, A_NoPost, A_NoThing, A_NoStrip, A_NoRail, A_NoWire, A_NoRow, A_RailError⟩ : Eds).at .NoKey)) (.ref ((⟨A_NoBits, A_NoName, A_NoKey, A_NoFrame, A_NoPost, A_NoThing, A_NoStrip, A_NoRail, A_NoWire, A_NoRow, A_RailError⟩ : Eds).at c)) = some (decide (.NoKey = c))) p_NoKey_NoStrip (all_cons (P := fun c => PySem.W.subIn K (.ref ((⟨A_NoBits, A_NoName, A_NoKey, A_NoFrame, A_NoPost, A_NoThing, A_NoStrip, A_NoRail, A_NoWire, A_NoRow, A_RailError⟩ : Eds).at .NoKey)) (.ref ((⟨A_NoBits, A_NoName, A_NoKey, A_NoFrame, A_NoPost, A_NoThing, A_NoStrip, A_NoRail, A_NoWire, A_NoRow, A_RailError⟩ : Eds).at c)) = some (decide (.NoKey = c))) p_NoKey_NoRail (all_cons (P := fun c => PySem.W.subIn K (.ref ((⟨A_NoBits, A_NoName, A_NoKey, A_NoFrame, A_NoPost, A_NoThing, A_NoStrip, A_NoRail, A_NoWire, A_NoRow, A_RailError⟩ : Eds).at .NoKey)) (.ref ((⟨A_NoBits, A_NoName, A_NoKey, A_NoFrame, A_NoPost, A_NoThing, A_NoStrip, A_NoRail, A_NoWire, A_NoRow, A_RailError⟩ : Eds).at c)) = some (decide (.NoKey = c))) p_NoKey_NoWire (all_cons (P := fun c => PySem.W.subIn K (.ref ((⟨A_NoBits, A_NoName, A_NoKey, A_NoFrame, A_NoPost, A_NoThing, A_NoStrip, A_NoRail, A_NoWire, A_NoRow, A_RailError⟩ : Eds).at .NoKey)) (.ref ((⟨A_NoBits, A_NoName, A_NoKey, A_NoFrame, A_NoPost, A_NoThing, A_NoStrip, A_NoRail, A_NoWire, A_NoRow, A_RailError⟩ : Eds).at c)) = some (decide (.NoKey = c))) p_NoKey_NoRow all_nil)))))))))) (all_cons (P := fun k => ∀ c ∈ ks, PySem.W.subIn K (.ref ((⟨A_NoBits, A_NoName, A_NoKey, A_NoFrame, A_NoPost, A_NoThing, A_NoStrip, A_NoRail, A_NoWire, A_NoRow, A_RailError⟩ : Eds).at k)) (.ref ((⟨A_NoBits, A_NoName, A_NoKey, A_NoFrame, A_NoPost, A_NoThing, A_NoStrip, A_NoRail, A_NoWire, A_NoRow, A_RailError⟩ : Eds).at c)) = some (decide (k = c))) (all_cons (P := fun c => PySem.W.subIn K (.ref ((⟨A_NoBits, A_NoName, A_NoKey, A_NoFrame, A_NoPost, A_NoThing, A_NoStrip, A_NoRail, A_NoWire, A_NoRow, A_RailError⟩ : Eds).at .NoFrame)) (.ref ((⟨A_NoBits, A_NoName, A_NoKey, A_NoFrame, A_NoPost, A_NoThing, A_NoStrip, A_NoRail, A_NoWire, A_NoRow, A_RailError⟩ : Eds).at c)) = some (decide (.NoFrame = c))) p_NoFrame_NoBits (all_cons (P := fun c => PySem.W.subIn K (.ref ((⟨A_NoBits, A_NoName, A_NoKey, A_NoFrame, A_NoPost, A_NoThing, A_NoStrip, A_NoRail, A_NoWire, A_NoRow, A_RailError⟩ : Eds).at .NoFrame)) (.ref ((⟨A_NoBits, A_NoName, A_NoKey, A_NoFrame, A_NoPost, A_NoThing, A_NoStrip, A_NoRail, A_NoWire, A_NoRow, A_RailError⟩ : Eds).at c)) = some (decide (.NoFrame = c))) p_NoFrame_NoName (all_cons (P := fun c => PySem.W.subIn K (.ref ((⟨A_NoBits, A_NoName, A_NoKey, A_NoFrame, A_NoPost, A_NoThing, A_NoStrip, A_NoRail, A_NoWire, A_NoRow, A_RailError⟩ : Eds).at .NoFrame)) (.ref ((⟨A_NoBits, A_NoName, A_NoKey, A_NoFrame, A_NoPost, A_NoThing, A_NoStrip, A_NoRail, A_NoWire, A_NoRow, A_RailError⟩ : Eds).at c)) = some (decide (.NoFrame = c))) p_NoFrame_NoKey (all_cons (P := fun c => PySem.W.subIn K (.ref ((⟨A_NoBits, A_NoName, A_NoKey, A_NoFrame, A_NoPost, A_NoThing, A_NoStrip, A_NoRail, A_NoWire, A_NoRow, A_RailError⟩ : Eds).at .NoFrame)) (.ref ((⟨A_NoBits, A_NoName, A_NoKey, A_NoFrame, A_NoPost, A_NoThing, A_NoStrip, A_NoRail, A_NoWire, A_NoRow, A_RailError⟩ : Eds).at c)) = some (decide (.NoFrame = c))) p_NoFrame_NoFrame (all_cons (P := fun c => PySem.W.subIn K (.ref ((⟨A_NoBits, A_NoName, A_NoKey, A_NoFrame, A_NoPost, A_NoThing, A_NoStrip, A_NoRail, A_NoWire, A_NoRow, A_RailError⟩ : Eds).at .NoFrame)) (.ref ((⟨A_NoBits, A_NoName, A_NoKey, A_NoFrame, A_NoPost, A_NoThing, A_NoStrip, A_NoRail, A_NoWire, A_NoRow, A_RailError⟩ : Eds).at c)) = some (decide (.NoFrame = c))) p_NoFrame_NoPost (all_cons (P := fun c => PySem.W.subIn K (.ref ((⟨A_NoBits, A_NoName, A_NoKey, A_NoFrame, A_NoPost, A_NoThing, A_NoStrip, A_NoRail, A_NoWire, A_NoRow, A_RailError⟩ : Eds).at .NoFrame)) (.ref ((⟨A_NoBits, A_NoName, A_NoKey, A_NoFrame, A_NoPost, A_NoThing, A_NoStrip, A_NoRail, A_NoWire, A_NoRow, A_RailError⟩ : Eds).at c)) = some (decide (.NoFrame = c))) p_NoFrame_NoThing (all_cons (P := fun c => PySem.W.subIn K (.ref ((⟨A_NoBits, A_NoName, A_NoKey, A_NoFrame, A_NoPost, A_NoThing, A_NoStrip, A_NoRail, A_NoWire, A_NoRow, A_RailError⟩ : Eds).at .NoFrame)) (.ref ((⟨A_NoBits, A_NoName, A_NoKey, A_NoFrame, A_NoPost, A_NoThing, A_NoStrip, A_NoRail, A_NoWire, A_NoRow, A_RailError⟩ : Eds).at c)) = some (decide (.NoFrame = c))) p_NoFrame_NoStrip (all_cons (P := fun c => PySem.W.subIn K (.ref ((⟨A_NoBits, A_NoName, A_NoKey, A_NoFrame, A_NoPost, A_NoThing, A_NoStrip, A_NoRail, A_NoWire, A_NoRow, A_RailError⟩ : Eds).at .NoFrame)) (.ref ((⟨A_NoBits, A_NoName, A_NoKey, A_NoFrame, A_NoPost, A_NoThing, A_NoStrip, A_NoRail, A_NoWire, A_NoRow, A_RailError⟩ : Eds).at c)) = some (decide (.NoFrame = c))) p_NoFrame_NoRail (all_cons (P := fun c => PySem.W.subIn K (.ref ((⟨A_NoBits, A_NoName, A_NoKey, A_NoFrame, A_NoPost, A_NoThing, A_NoStrip, A_NoRail, A_NoWire, A_NoRow, A_RailError⟩ : Eds).at .NoFrame)) (.ref ((⟨A_NoBits, A_NoName, A_NoKey, A_NoFrame, A_NoPost, A_NoThing, A_NoStrip, A_NoRail, A_NoWire, A_NoRow, A_RailError⟩ : Eds).at c)) = some (decide (.NoFrame = c))) p_NoFrame_NoWire (all_cons (P := fun c => PySem.W.subIn K (.ref ((⟨A_NoBits, A_NoName, A_NoKey, A_NoFrame, A_NoPost, A_NoThing, A_NoStrip, A_NoRail, A_NoWire, A_NoRow, A_RailError⟩ : Eds).at .NoFrame)) (.ref ((⟨A_NoBits, A_NoName, A_NoKey, A_NoFrame, A_NoPost, A_NoThing, A_NoStrip, A_NoRail, A_NoWire, A_NoRow, A_RailError⟩ : Eds).at c)) = some (decide (.NoFrame = c))) p_NoFrame_NoRow all_nil)))))))))) (all_cons (P := fun k => ∀ c ∈ ks, PySem.W.subIn K (.ref ((⟨A_NoBits, A_NoName, A_NoKey, A_NoFrame, A_NoPost, A_NoThing, A_NoStrip, A_NoRail, A_NoWire, A_NoRow, A_RailError⟩ : Eds).at k)) (.ref ((⟨A_NoBits, A_NoName, A_NoKey, A_NoFrame, A_NoPost, A_NoThing, A_NoStrip, A_NoRail, A_NoWire, A_NoRow, A_RailError⟩ : Eds).at c)) = some (decide (k = c))) (all_cons (P := fun c => PySem.W.subIn K (.ref ((⟨A_NoBits, A_NoName, A_NoKey, A_NoFrame, A_NoPost, A_NoThing, A_NoStrip, A_NoRail, A_NoWire, A_NoRow, A_RailError⟩ : Eds).at .NoPost)) (.ref ((⟨A_NoBits, A_NoName, A_NoKey, A_NoFrame, A_NoPost, A_NoThing, A_NoStrip, A_NoRail, A_NoWire, A_NoRow, A_RailError⟩ : Eds).at c)) = some (decide (.NoPost = c))) p_NoPost_NoBits (all_cons (P := fun c => PySem.W.subIn K (.ref ((⟨A_NoBits, A_NoName, A_NoKey, A_NoFrame, A_NoPost, A_NoThing, A_NoStrip, A_NoRail, A_NoWire, A_NoRow, A_RailError⟩ : Eds).at .NoPost)) (.ref ((⟨A_NoBits, A_NoName, A_NoKey, A_NoFrame, A_NoPost, A_NoThing, A_NoStrip, A_NoRail, A_NoWire, A_NoRow, A_RailError⟩ : Eds).at c)) = some (decide (.NoPost = c))) p_NoPost_NoName (all_cons (P := fun c => PySem.W.subIn K (.ref ((⟨A_NoBits, A_NoName, A_NoKey, A_NoFrame, A_NoPost, A_NoThing, A_NoStrip, A_NoRail, A_NoWire, A_NoRow, A_RailError⟩ : Eds).at .NoPost)) (.ref ((⟨A_NoBits, A_NoName, A_NoKey, A_NoFrame, A_NoPost, A_NoThing, A_NoStrip, A_NoRail, A_NoWire, A_NoRow, A_RailError⟩ : Eds).at c)) = some (decide (.NoPost = c))) p_NoPost_NoKey (all_cons (P := fun c => PySem.W.subIn K (.ref ((⟨A_NoBits, A_NoName, A_NoKey, A_NoFrame, A_NoPost, A_NoThing, A_NoStrip, A_NoRail, A_NoWire, A_NoRow, A_RailError⟩ : Eds).at .NoPost)) (.ref ((⟨A_NoBits, A_NoName, A_NoKey, A_NoFrame, A_NoPost, A_NoThing, A_NoStrip, A_NoRail, A_NoWire, A_NoRow, A_RailError⟩ : Eds).at c)) = some (decide (.NoPost = c))) p_NoPost_NoFrame (all_cons (P := fun c => PySem.W.subIn K (.ref ((⟨A_NoBits, A_NoName, A_NoKey, A_NoFrame, A_NoPost, A_NoThing, A_NoStrip, A_NoRail, A_NoWire, A_NoRow, A_RailError⟩ : Eds).at .NoPost)) (.ref ((⟨A_NoBits, A_NoName, A_NoKey, A_NoFrame, A_NoPost, A_NoThing, A_NoStrip, A_NoRail, A_NoWire, A_NoRow, A_RailError⟩ : Eds).at c)) = some (decide (.NoPost = c))) p_NoPost_NoPost (all_cons (P := fun c => PySem.W.subIn K (.ref ((⟨A_NoBits, A_NoName, A_NoKey, A_NoFrame, A_NoPost, A_NoThing, A_NoStrip, A_NoRail, A_NoWire, A_NoRow, A_RailError⟩ : Eds).at .NoPost)) (.ref ((⟨A_NoBits, A_NoName, A_NoKey, A_NoFrame, A_NoPost, A_NoThing, A_NoStrip, A_NoRail, A_NoWire, A_NoRow, A_RailError⟩ : Eds).at c)) = some (decide (.NoPost = c))) p_NoPost_NoThing (all_cons (P := fun c => PySem.W.subIn K (.ref ((⟨A_NoBits, A_NoName, A_NoKey, A_NoFrame, A_NoPost, A_NoThing, A_NoStrip, A_NoRail, A_NoWire, A_NoRow, A_RailError⟩ : Eds).at .NoPost)) (.ref ((⟨A_NoBits, A_NoName, A_NoKey, A_NoFrame, A_NoPost, A_NoThing, A_NoStrip, A_NoRail, A_NoWire, A_NoRow, A_RailError⟩ : Eds).at c)) = some (decide (.NoPost = c))) p_NoPost_NoStrip (all_cons (P := fun c => PySem.W.subIn K (.ref ((⟨A_NoBits, A_NoName, A_NoKey, A_NoFrame, A_NoPost, A_NoThing, A_NoStrip, A_NoRail, A_NoWire, A_NoRow, A_RailError⟩ : Eds).at .NoPost)) (.ref ((⟨A_NoBits, A_NoName, A_NoKey, A_NoFrame, A_NoPost, A_NoThing, A_NoStrip, A_NoRail, A_NoWire, A_NoRow, A_RailError⟩ : Eds).at c)) = some (decide (.NoPost = c))) p_NoPost_NoRail (all_cons (P := fun c => PySem.W.subIn K (.ref ((⟨A_NoBits, A_NoName, A_NoKey, A_NoFrame, A_NoPost, A_NoThing, A_NoStrip, A_NoRail, A_NoWire, A_NoRow, A_RailError⟩ : Eds).at .NoPost)) (.ref ((⟨A_NoBits, A_NoName, A_NoKey, A_NoFrame, A_NoPost, A_NoThing, A_NoStrip, A_NoRail, A_NoWire, A_NoRow, A_RailError⟩ : Eds).at c)) = some (decide (.NoPost = c))) p_NoPost_NoWire (all_cons (P := fun c => PySem.W.subIn K (.ref ((⟨A_NoBits, A_NoName, A_NoKey, A_NoFrame, A_NoPost, A_NoThing, A_NoStrip, A_NoRail, A_NoWire, A_NoRow, A_RailError⟩ : Eds).at .NoPost)) (.ref ((⟨A_NoBits, A_NoName, A_NoKey, A_NoFrame, A_NoPost, A_NoThing, A_NoStrip, A_NoRail, A_NoWire, A_NoRow, A_RailError⟩ : Eds).at c)) = some (decide (.NoPost = c))) p_NoPost_NoRow all_nil)))))))))) (all_cons (P := fun k => ∀ c ∈ ks, PySem.W.subIn K (.ref ((⟨A_NoBits, A_NoName, A_NoKey, A_NoFrame, A_NoPost, A_NoThing, A_NoStrip, A_NoRail, A_NoWire, A_NoRow, A_RailError⟩ : Eds).at k)) (.ref ((⟨A_NoBits, A_NoName, A_NoKey, A_NoFrame, A_NoPost, A_NoThing, A_NoStrip, A_NoRail, A_NoWire, A_NoRow, A_RailError⟩ : Eds).at c)) = some (decide (k = c))) (all_cons (P := fun c => PySem.W.subIn K (.ref ((⟨A_NoBits, A_NoName, A_NoKey, A_NoFrame, A_NoPost, A_NoThing, A_NoStrip, A_NoRail, A_NoWire, A_NoRow, A_RailError⟩ : Eds).at .NoThing)) (.ref ((⟨A_NoBits, A_NoName, A_NoKey, A_NoFrame, A_NoPost, A_NoThing, A_NoStrip, A_NoRail, A_NoWire, A_NoRow, A_RailError⟩ : Eds).at c)) = some (decide (.NoThing = c))) p_NoThing_NoBits (all_cons (P := fun c => PySem.W.subIn K (.ref ((⟨A_NoBits, A_NoName, A_NoKey, A_NoFrame, A_NoPost, A_NoThing, A_NoStrip, A_NoRail, A_NoWire, A_NoRow, A_RailError⟩ : Eds).at .NoThing)) (.ref ((⟨A_NoBits, A_NoName, A_NoKey, A_NoFrame, A_NoPost, A_NoThing, A_NoStrip, A_NoRail, A_NoWire, A_NoRow, A_RailError⟩ : Eds).at c)) = some (decide (.NoThing = c))) p_NoThing_NoName (all_cons (P := fun c => PySem.W.subIn K (.ref ((⟨A_NoBits, A_NoName, A_NoKey, A_NoFrame, A_NoPost, A_NoThing, A_NoStrip, A_NoRail, A_NoWire, A_NoRow, A_RailError⟩ : Eds).at .NoThing)) (.ref ((⟨A_NoBits, A_NoName, A_NoKey, A_NoFrame, A_NoPost, A_NoThing, A_NoStrip, A_NoRail, A_NoWire, A_NoRow, A_RailError⟩ : Eds).at c)) = some (decide (.NoThing = c))) p_NoThing_NoKey (all_cons (P := fun c => PySem.W.subIn K (.ref ((⟨A_NoBits, A_NoName, A_NoKey, A_NoFrame, A_NoPost, A_NoThing, A_NoStrip, A_NoRail, A_NoWire, A_NoRow, A_RailError⟩ : Eds).at .NoThing)) (.ref ((⟨A_NoBits, A_NoName, A_NoKey, A_NoFrame, A_NoPost, A_NoThing, A_NoStrip, A_NoRail, A_NoWire, A_NoRow, A_RailError⟩ : Eds).at c)) = some (decide (.NoThing = c))) p_NoThing_NoFrame (all_cons (P := fun c => PySem.W.subIn K (.ref ((⟨A_NoBits, A_NoName, A_NoKey, A_NoFrame, A_NoPost, A_NoThing, A_NoStrip, A_NoRail, A_NoWire, A_NoRow, A_RailError⟩ : Eds).at .NoThing)) (.ref ((⟨A_NoBits, A_NoName, A_NoKey, A_NoFrame, A_NoPost, A_NoThing, A_NoStrip, A_NoRail, A_NoWire, A_NoRow, A_RailError⟩ : Eds).at c)) = some (decide (.NoThing = c))) p_NoThing_NoPost (all_cons (P := fun c => PySem.W.subIn K (.ref ((⟨A_NoBits, A_NoName, A_NoKey, A_NoFrame, A_NoPost, A_NoThing, A_NoStrip, A_NoRail, A_NoWire, A_NoRow, A_RailError⟩ : Eds).at .NoThing)) (.ref ((⟨A_NoBits, A_NoName, A_NoKey, A_NoFrame, A_NoPost, A_NoThing, A_NoStrip, A_NoRail, A_NoWire, A_NoRow, A_RailError⟩ : Eds).at c)) = some (decide (.NoThing = c))) p_NoThing_NoThing (all_cons (P := fun c => PySem.W.subIn K (.ref ((⟨A_NoBits, A_NoName, A_NoKey, A_NoFrame, A_NoPost, A_NoThing, A_NoStrip, A_NoRail, A_NoWire, A_NoRow, A_RailError⟩ : Eds).at .NoThing)) (.ref ((⟨A_NoBits, A_NoName, A_NoKey, A_NoFrame, A_NoPost, A_NoThing, A_NoStrip, A_NoRail, A_NoWire, A_NoRow, A_RailError⟩ : Eds).at c)) = some (decide (.NoThing = c))) p_NoThing_NoStrip (all_cons (P := fun c => PySem.W.subIn K (.ref ((⟨A_NoBits, A_NoName, A_NoKey, A_NoFrame, A_NoPost, A_NoThing, A_NoStrip, A_NoRail, A_NoWire, A_NoRow, A_RailError⟩ : Eds).at .NoThing)) (.ref ((⟨A_NoBits, A_NoName, A_NoKey, A_NoFrame, A_NoPost, A_NoThing, A_NoStrip, A_NoRail, A_NoWire, A_NoRow, A_RailError⟩ : Eds).at c)) = some (decide (.NoThing = c))) p_NoThing_NoRail (all_cons (P := fun c => PySem.W.subIn K (.ref ((⟨A_NoBits, A_NoName, A_NoKey, A_NoFrame, A_NoPost, A_NoThing, A_NoStrip, A_NoRail, A_NoWire, A_NoRow, A_RailError⟩ : Eds).at .NoThing)) (.ref ((⟨A_NoBits, A_NoName, A_NoKey, A_NoFrame, A_NoPost, A_NoThing, A_NoStrip, A_NoRail, A_NoWire, A_NoRow, A_RailError⟩ : Eds).at c)) = some (decide (.NoThing = c))) p_NoThing_NoWire (all_cons (P := fun c => PySem.W.subIn K (.ref ((⟨A_NoBits, A_NoName, A_NoKey, A_NoFrame, A_NoPost, A_NoThing, A_NoStrip, A_NoRail, A_NoWire, A_NoRow, A_RailError⟩ : Eds).at .NoThing)) (.ref ((⟨A_NoBits, A_NoName, A_NoKey, A_NoFrame, A_NoPost, A_NoThing, A_NoStrip, A_NoRail, A_NoWire, A_NoRow, A_RailError⟩ : Eds).at c)) = some (decide (.NoThing = c))) p_NoThing_NoRow all_nil)))))))))) (all_cons (P := fun k => ∀ c ∈ ks, PySem.W.subIn K (.ref ((⟨A_NoBits, A_NoName, A_NoKey, A_NoFrame, A_NoPost, A_NoThing, A_NoStrip, A_NoRail, A_NoWire, A_NoRow, A_RailError⟩ : Eds).at k)) (.ref ((⟨A_NoBits, A_NoName, A_NoKey, A_NoFrame, A_NoPost, A_NoThing, A_NoStrip, A_NoRail, A_NoWire, A_NoRow, A_RailError⟩ : Eds).at c)) = some (decide (k = c))) (all_cons (P := fun c => PySem.W.subIn K (.ref ((⟨A_NoBits, A_NoName, A_NoKey, A_NoFrame, A_NoPost, A_NoThing, A_NoStrip, A_NoRail, A_NoWire, A_NoRow, A_RailError⟩ : Eds).at .NoStrip)) (.ref ((⟨A_NoBits, A_NoName, A_NoKey, A_NoFrame, A_NoPost, A_NoThing, A_NoStrip, A_NoRail, A_NoWire, A_NoRow, A_RailError⟩ : Eds).at c)) = some (decide (.NoStrip = c))) p_NoStrip_NoBits (all_cons (P := fun c => PySem.W.subIn K (.ref ((⟨A_NoBits, A_NoName, A_NoKey, A_NoFrame, A_NoPost, A_NoThing, A_NoStrip, A_NoRail, A_NoWire, A_NoRow, A_RailError⟩ : Eds).at .NoStrip)) (.ref ((⟨A_NoBits, A_NoName, A_NoKey, A_NoFrame, A_NoPost, A_NoThing, A_NoStrip, A_NoRail, A_NoWire, A_NoRow, A_RailError⟩ : Eds).at c)) = some (decide (.NoStrip = c))) p_NoStrip_NoName (all_cons (P := fun c => PySem.W.subIn K (.ref ((⟨A_NoBits, A_NoName, A_NoKey, A_NoFrame, A_NoPost, A_NoThing, A_NoStrip, A_NoRail, A_NoWire, A_NoRow, A_RailError⟩ : Eds).at .NoStrip)) (.ref ((⟨A_NoBits, A_NoName, A_NoKey, A_NoFrame, A_NoPost, A_NoThing, A_NoStrip, A_NoRail, A_NoWire, A_NoRow, A_RailError⟩ : Eds).at c)) = some (decide (.NoStrip = c))) p_NoStrip_NoKey (all_cons (P := fun c => PySem.W.subIn K (.ref ((⟨A_NoBits, A_NoName, A_NoKey, A_NoFrame, A_NoPost, A_NoThing, A_NoStrip, A_NoRail, A_NoWire, A_NoRow, A_RailError⟩ : Eds).at .NoStrip)) (.ref ((⟨A_NoBits, A_NoName, A_NoKey, A_NoFrame, A_NoPost, A_NoThing, A_NoStrip, A_NoRail, A_NoWire, A_NoRow, A_RailError⟩ : Eds).at c)) = some (decide (.NoStrip = c))) p_NoStrip_NoFrame (all_cons (P := fun c => PySem.W.subIn K (.ref ((⟨A_NoBits, A_NoName, A_NoKey, A_NoFrame, A_NoPost, A_NoThing, A_NoStrip, A_NoRail, A_NoWire, A_NoRow, A_RailError⟩ : Eds).at .NoStrip)) (.ref ((⟨A_NoBits, A_NoName, A_NoKey, A_NoFrame, A_NoPost, A_NoThing, A_NoStrip, A_NoRail, A_NoWire, A_NoRow, A_RailError⟩ : Eds).at c)) = some (decide (.NoStrip = c))) p_NoStrip_NoPost (all_cons (P := fun c => PySem.W.subIn K (.ref ((⟨A_NoBits, A_NoName, A_NoKey, A_NoFrame, A_NoPost, A_NoThing, A_NoStrip, A_NoRail, A_NoWire, A_NoRow, A_RailError⟩ : Eds).at .NoStrip)) (.ref ((⟨A_NoBits, A_NoName, A_NoKey, A_NoFrame, A_NoPost, A_NoThing, A_NoStrip, A_NoRail, A_NoWire, A_NoRow, A_RailError⟩ : Eds).at c)) = some (decide (.NoStrip = c))) p_NoStrip_NoThing (all_cons (P := fun c => PySem.W.subIn K (.ref ((⟨A_NoBits, A_NoName, A_NoKey, A_NoFrame, A_NoPost, A_NoThing, A_NoStrip, A_NoRail, A_NoWire, A_NoRow, A_RailError⟩ : Eds).at .NoStrip)) (.ref ((⟨A_NoBits, A_NoName, A_NoKey, A_NoFrame, A_NoPost, A_NoThing, A_NoStrip, A_NoRail, A_NoWire, A_NoRow, A_RailError⟩ : Eds).at c)) = some (decide (.NoStrip = c))) p_NoStrip_NoStrip (all_cons (P := fun c => PySem.W.subIn K (.ref ((⟨A_NoBits, A_NoName, A_NoKey, A_NoFrame, A_NoPost, A_NoThing, A_NoStrip, A_NoRail, A_NoWire, A_NoRow, A_RailError⟩ : Eds).at .NoStrip)) (.ref ((⟨A_NoBits, A_NoName, A_NoKey, A_NoFrame, A_NoPost, A_NoThing, A_NoStrip, A_NoRail, A_NoWire, A_NoRow, A_RailError⟩ : Eds).at c)) = some (decide (.NoStrip = c))) p_NoStrip_NoRail (all_cons (P := fun c => PySem.W.subIn K (.ref ((⟨A_NoBits, A_NoName, A_NoKey, A_NoFrame, A_NoPost, A_NoThing, A_NoStrip, A_NoRail, A_NoWire, A_NoRow, A_RailError⟩ : Eds).at .NoStrip)) (.ref ((⟨A_NoBits, A_NoName, A_NoKey, A_NoFrame, A_NoPost, A_NoThing, A_NoStrip, A_NoRail, A_NoWire, A_NoRow, A_RailError⟩ : Eds).at c)) = some (decide (.NoStrip = c))) p_NoStrip_NoWire (all_cons (P := fun c => PySem.W.subIn K (.ref ((⟨A_NoBits, A_NoName, A_NoKey, A_NoFrame, A_NoPost, A_NoThing, A_NoStrip, A_NoRail, A_NoWire, A_NoRow, A_RailError⟩ : Eds).at .NoStrip)) (.ref ((⟨A_NoBits, A_NoName, A_NoKey, A_NoFrame, A_NoPost, A_NoThing, A_NoStrip, A_NoRail, A_NoWire, A_NoRow, A_RailError⟩ : Eds).at c)) = some (decide (.NoStrip = c))) p_NoStrip_NoRow all_nil)))))))))) (all_cons (P := fun k => ∀ c ∈ ks, PySem.W.subIn K (.ref ((⟨A_NoBits, A_NoName, A_NoKey, A_NoFrame, A_NoPost, A_NoThing, A_NoStrip, A_NoRail, A_NoWire, A_NoRow, A_RailError⟩ : Eds).at k)) (.ref ((⟨A_NoBits, A_NoName, A_NoKey, A_NoFrame, A_NoPost, A_NoThing, A_NoStrip, A_NoRail, A_NoWire, A_NoRow, A_RailError⟩ : Eds).at c)) = some (decide (k = c))) (all_cons (P := fun c => PySem.W.subIn K (.ref ((⟨A_NoBits, A_NoName, A_NoKey, A_NoFrame, A_NoPost, A_NoThing, A_NoStrip, A_NoRail, A_NoWire, A_NoRow, A_RailError⟩ : Eds).at .NoRail)) (.ref ((⟨A_NoBits, A_NoName, A_NoKey, A_NoFrame, A_NoPost, A_NoThing, A_NoStrip, A_NoRail, A_NoWire, A_NoRow, A_RailError⟩ : Eds).at c)) = some (decide (.NoRail = c))) p_NoRail_NoBits (all_cons (P := fun c => PySem.W.subIn K (.ref ((⟨A_NoBits, A_NoName, A_NoKey, A_NoFrame, A_NoPost, A_NoThing, A_NoStrip, A_NoRail, A_NoWire, A_NoRow, A_RailError⟩ : Eds).at .NoRail)) (.ref ((⟨A_NoBits, A_NoName, A_NoKey, A_NoFrame, A_NoPost, A_NoThing, A_NoStrip, A_NoRail, A_NoWire, A_NoRow, A_RailError⟩ : Eds).at c)) = some (decide (.NoRail = c))) p_NoRail_NoName (all_cons (P := fun c => PySem.W.subIn K (.ref ((⟨A_NoBits, A_NoName, A_NoKey, A_NoFrame, A_NoPost, A_NoThing, A_NoStrip, A_NoRail, A_NoWire, A_NoRow, A_RailError⟩ : Eds).at .NoRail)) (.ref ((⟨A_NoBits, A_NoName, A_NoKey, A_NoFrame, A_NoPost, A_NoThing, A_NoStrip, A_NoRail, A_NoWire, A_NoRow, A_RailError⟩ : Eds).at c)) = some (decide (.NoRail = c))) p_NoRail_NoKey (all_cons (P := fun c => PySem.W.subIn K (.ref ((⟨A_NoBits, A_NoName, A_NoKey, A_NoFrame, A_NoPost, A_NoThing, A_NoStrip, A_NoRail, A_NoWire, A_NoRow, A_RailError⟩ : Eds).at .NoRail)) (.ref ((⟨A_NoBits, A_NoName, A_NoKey, A_NoFrame, A_NoPost, A_NoThing, A_NoStrip, A_NoRail, A_NoWire, A_NoRow, A_RailError⟩ : Eds).at c)) = some (decide (.NoRail = c))) p_NoRail_NoFrame (all_cons (P := fun c => PySem.W.subIn K (.ref ((⟨A_NoBits, A_NoName, A_NoKey, A_NoFrame, A_NoPost, A_NoThing, A_NoStrip, A_NoRail, A_NoWire, A_NoRow, A_RailError⟩ : Eds).at .NoRail)) (.ref ((⟨A_NoBits, A_NoName, A_NoKey, A_NoFrame, A_NoPost, A_NoThing, A_NoStrip, A_NoRail, A_NoWire, A_NoRow, A_RailError⟩ : Eds).at c)) = some (decide (.NoRail = c))) p_NoRail_NoPost (all_cons (P := fun c => PySem.W.subIn K (.ref ((⟨A_NoBits, A_NoName, A_NoKey, A_NoFrame, A_NoPost, A_NoThing, A_NoStrip, A_NoRail, A_NoWire, A_NoRow, A_RailError⟩ : Eds).at .NoRail)) (.ref ((⟨A_NoBits, A_NoName, A_NoKey, A_NoFrame, A_NoPost, A_NoThing, A_NoStrip, A_NoRail, A_NoWire, A_NoRow, A_RailError⟩ : Eds).at c)) = some (decide (.NoRail = c))) p_NoRail_NoThing (all_cons (P := fun c => PySem.W.subIn K (.ref ((⟨A_NoBits, A_NoName, A_NoKey, A_NoFrame, A_NoPost, A_NoThing, A_NoStrip, A_NoRail, A_NoWire, A_NoRow, A_RailError⟩ : Eds).at .NoRail)) (.ref ((⟨A_NoBits, A_NoName, A_NoKey, A_NoFrame, A_NoPost, A_NoThing, A_NoStrip, A_NoRail, A_NoWire, A_NoRow, A_RailError⟩ : Eds).at c)) = some (decide (.NoRail = c))) p_NoRail_NoStrip (all_cons (P := fun c => PySem.W.subIn K (.ref ((⟨A_NoBits, A_NoName, A_NoKey, A_NoFrame, A_NoPost, A_NoThing, A_NoStrip, A_NoRail, A_NoWire, A_NoRow, A_RailError⟩ : Eds).at .NoRail)) (.ref ((⟨A_NoBits, A_NoName, A_NoKey, A_NoFrame, A_NoPost, A_NoThing, A_NoStrip, A_NoRail, A_NoWire, A_NoRow, A_RailError⟩ : Eds).at c)) = some (decide (.NoRail = c))) p_NoRail_NoRail (all_cons (P := fun c => PySem.W.subIn K (.ref ((⟨A_NoBits, A_NoName, A_NoKey, A_NoFrame, A_NoPost, A_NoThing, A_NoStrip, A_NoRail, A_NoWire, A_NoRow, A_RailError⟩ : Eds).at .NoRail)) (.ref ((⟨A_NoBits, A_NoName, A_NoKey, A_NoFrame, A_NoPost, A_NoThing, A_NoStrip, A_NoRail, A_NoWire, A_NoRow, A_RailError⟩ : Eds).at c)) = some (decide (.NoRail = c))) p_NoRail_NoWire (all_cons (P := fun c => PySem.W.subIn K (.ref ((⟨A_NoBits, A_NoName, A_NoKey, A_NoFrame, A_NoPost, A_NoThing, A_NoStrip, A_NoRail, A_NoWire, A_NoRow, A_RailError⟩ : Eds).at .NoRail)) (.ref ((⟨A_NoBits, A_NoName, A_NoKey, A_NoFrame, A_NoPost, A_NoThing, A_NoStrip, A_NoRail, A_NoWire, A_NoRow, A_RailError⟩ : Eds).at c)) = some (decide (.NoRail = c))) p_NoRail_NoRow all_nil)))))))))) (all_cons (P := fun k => ∀ c ∈ ks, PySem.W.subIn K (.ref ((⟨A_NoBits, A_NoName, A_NoKey, A_NoFrame, A_NoPost, A_NoThing, A_NoStrip, A_NoRail, A_NoWire, A_NoRow, A_RailError⟩ : Eds).at k)) (.ref ((⟨A_NoBits, A_NoName, A_NoKey, A_NoFrame, A_NoPost, A_NoThing, A_NoStrip, A_NoRail, A_NoWire, A_NoRow, A_RailError⟩ : Eds).at c)) = some (decide (k = c))) (all_cons (P := fun c => PySem.W.subIn K (.ref ((⟨A_NoBits, A_NoName, A_NoKey, A_NoFrame, A_NoPost, A_NoThing, A_NoStrip, A_NoRail, A_NoWire, A_NoRow, A_RailError⟩ : Eds).at .NoWire)) (.ref ((⟨A_NoBits, A_NoName, A_NoKey, A_NoFrame, A_NoPost, A_NoThing, A_NoStrip, A_NoRail, A_NoWire, A_NoRow, A_RailError⟩ : Eds).at c)) = some (decide (.NoWire = c))) p_NoWire_NoBits (all_cons (P := fun c => PySem.W.subIn K (.ref ((⟨A_NoBits, A_NoName, A_NoKey, A_NoFrame, A_NoPost, A_NoThing, A_NoStrip, A_NoRail, A_NoWire, A_NoRow, A_RailError⟩ : Eds).at .NoWire)) (.ref ((⟨A_NoBits, A_NoName, A_NoKey, A_NoFrame, A_NoPost, A_NoThing, A_NoStrip, A_NoRail, A_NoWire, A_NoRow, A_RailError⟩ : Eds).at c)) = some (decide (.NoWire = c))) p_NoWire_NoName (all_cons (P := fun c => PySem.W.subIn K (.ref ((⟨A_NoBits, A_NoName, A_NoKey, A_NoFrame, A_NoPost, A_NoThing, A_NoStrip, A_NoRail, A_NoWire, A_NoRow, A_RailError⟩ : Eds).at .NoWire)) (.ref ((⟨A_NoBits, A_NoName, A_NoKey, A_NoFrame, A_NoPost, A_NoThing, A_NoStrip, A_NoRail, A_NoWire, A_NoRow, A_RailError⟩ : Eds).at c)) = some (decide (.NoWire = c))) p_NoWire_NoKey (all_cons (P := fun c => PySem.W.subIn K (.ref ((⟨A_NoBits, A_NoName, A_NoKey, A_NoFrame, A_NoPost, A_NoThing, A_NoStrip, A_NoRail, A_NoWire, A_NoRow, A_RailError⟩ : Eds).at .NoWire)) (.ref ((⟨A_NoBits, A_NoName, A_NoKey, A_NoFrame, A_NoPost, A_NoThing, A_NoStrip, A_NoRail, A_NoWire, A_NoRow, A_RailError⟩ : Eds).at c)) = some (decide (.NoWire = c))) p_NoWire_NoFrame (all_cons (P := fun c => PySem.W.subIn K (.ref ((⟨A_NoBits, A_NoName, A_NoKey, A_NoFrame, A_NoPost, A_NoThing, A_NoStrip, A_NoRail, A_NoWire, A_NoRow, A_RailError⟩ : Eds).at .NoWire)) (.ref ((⟨A_NoBits, A_NoName, A_NoKey, A_NoFrame, A_NoPost, A_NoThing, A_NoStrip, A_NoRail, A_NoWire, A_NoRow, A_RailError⟩ : Eds).at c)) = some (decide (.NoWire = c))) p_NoWire_NoPost (all_cons (P := fun c => PySem.W.subIn K (.ref ((⟨A_NoBits, A_NoName, A_NoKey, A_NoFrame, A_NoPost, A_NoThing, A_NoStrip, A_NoRail, A_NoWire, A_NoRow, A_RailError⟩ : Eds).at .NoWire)) (.ref ((⟨A_NoBits, A_NoName, A_NoKey, A_NoFrame, A_NoPost, A_NoThing, A_NoStrip, A_NoRail, A_NoWire, A_NoRow, A_RailError⟩ : Eds).at c)) = some (decide (.NoWire = c))) p_NoWire_NoThing (all_cons (P := fun c => PySem.W.subIn K (.ref ((⟨A_NoBits, A_NoName, A_NoKey, A_NoFrame, A_NoPost, A_NoThing, A_NoStrip, A_NoRail, A_NoWire, A_NoRow, A_RailError⟩ : Eds).at .NoWire)) (.ref ((⟨A_NoBits, A_NoName, A_NoKey, A_NoFrame, A_NoPost, A_NoThing, A_NoStrip, A_NoRail, A_NoWire, A_NoRow, A_RailError⟩ : Eds).at c)) = some (decide (.NoWire = c))) p_NoWire_NoStrip (all_cons (P := fun c => PySem.W.subIn K (.ref ((⟨A_NoBits, A_NoName, A_NoKey, A_NoFrame, A_NoPost, A_NoThing, A_NoStrip, A_NoRail, A_NoWire, A_NoRow, A_RailError⟩ : Eds).at .NoWire)) (.ref ((⟨A_NoBits, A_NoName, A_NoKey, A_NoFrame, A_NoPost, A_NoThing, A_NoStrip, A_NoRail, A_NoWire, A_NoRow, A_RailError⟩ : Eds).at c)) = some (decide (.NoWire = c))) p_NoWire_NoRail (all_cons (P := fun c => PySem.W.subIn K (.ref ((⟨A_NoBits, A_NoName, A_NoKey, A_NoFrame, A_NoPost, A_NoThing, A_NoStrip, A_NoRail, A_NoWire, A_NoRow, A_RailError⟩ : Eds).at .NoWire)) (.ref ((⟨A_NoBits, A_NoName, A_NoKey, A_NoFrame, A_NoPost, A_NoThing, A_NoStrip, A_NoRail, A_NoWire, A_NoRow, A_RailError⟩ : Eds).at c)) = some (decide (.NoWire = c))) p_NoWire_NoWire (all_cons (P := fun c => PySem.W.subIn K (.ref ((⟨A_NoBits, A_NoName, A_NoKey, A_NoFrame, A_NoPost, A_NoThing, A_NoStrip, A_NoRail, A_NoWire, A_NoRow, A_RailError⟩ : Eds).at .NoWire)) (.ref ((⟨A_NoBits, A_NoName, A_NoKey, A_NoFrame, A_NoPost, A_NoThing, A_NoStrip, A_NoRail, A_NoWire, A_NoRow, A_RailError⟩ : Eds).at c)) = some (decide (.NoWire = c))) p_NoWire_NoRow all_nil)))))))))) (all_cons (P := fun k => ∀ c ∈ ks, PySem.W.subIn K (.ref ((⟨A_NoBits, A_NoName, A_NoKey, A_NoFrame, A_NoPost, A_NoThing, A_NoStrip, A_NoRail, A_NoWire, A_NoRow, A_RailError⟩ : Eds).at k)) (.ref ((⟨A_NoBits, A_NoName, A_NoKey, A_NoFrame, A_NoPost, A_NoThing, A_NoStrip, A_NoRail, A_NoWire, A_NoRow, A_RailError⟩ : Eds).at c)) = some (decide (k = c))) (all_cons (P := fun c => PySem.W.subIn K (.ref ((⟨A_NoBits, A_NoName, A_NoKey, A_NoFrame, A_NoPost, A_NoThing, A_NoStrip, A_NoRail, A_NoWire, A_NoRow, A_RailError⟩ : Eds).at .NoRow)) (.ref ((⟨A_NoBits, A_NoName, A_NoKey, A_NoFrame, A_NoPost, A_NoThing, A_NoStrip, A_NoRail, A_NoWire, A_NoRow, A_RailError⟩ : Eds).at c)) = some (decide (.NoRow = c))) p_NoRow_NoBits (all_cons (P := fun c => PySem.W.subIn K (.ref ((⟨A_NoBits, A_NoName, A_NoKey, A_NoFrame, A_NoPost, A_NoThing, A_NoStrip, A_NoRail, A_NoWire, A_NoRow, A_RailError⟩ : Eds).at .NoRow)) (.ref ((⟨A_NoBits, A_NoName, A_NoKey, A_NoFrame, A_NoPost, A_NoThing, A_NoStrip, A_NoRail, A_NoWire, A_NoRow, A_RailError⟩ : Eds).at c)) = some (decide (.NoRow = c))) p_NoRow_NoName (all_cons (P := fun c => PySem.W.subIn K (.ref ((⟨A_NoBits, A_NoName, A_NoKey, A_NoFrame, A_NoPost, A_NoThing, A_NoStrip, A_NoRail, A_NoWire, A_NoRow, A_RailError⟩ : Eds).at .NoRow)) (.ref ((⟨A_NoBits, A_NoName, A_NoKey, A_NoFrame, A_NoPost, A_NoThing, A_NoStrip, A_NoRail, A_NoWire, A_NoRow, A_RailError⟩ : Eds).at c)) = some (decide (.NoRow = c))) p_NoRow_NoKey (all_cons (P := fun c => PySem.W.subIn K (.ref ((⟨A_NoBits, A_NoName, A_NoKey, A_NoFrame, A_NoPost, A_NoThing, A_NoStrip, A_NoRail, A_NoWire, A_NoRow, A_RailError⟩ : Eds).at .NoRow)) (.ref ((⟨A_NoBits, A_NoName, A_NoKey, A_NoFrame, A_NoPost, A_NoThing, A_NoStrip, A_NoRail, A_NoWire, A_NoRow, A_RailError⟩ : Eds).at c)) = some (decide (.NoRow = c))) p_NoRow_NoFrame (all_cons (P := fun c => PySem.W.subIn K (.ref ((⟨A_NoBits, A_NoName, A_NoKey, A_NoFrame, A_NoPost, A_NoThing, A_NoStrip, A_NoRail, A_NoWire, A_NoRow, A_RailError⟩ : Eds).at .NoRow)) (.ref ((⟨A_NoBits, A_NoName, A_NoKey, A_NoFrame, A_NoPost, A_NoThing, A_NoStrip, A_NoRail, A_NoWire, A_NoRow, A_RailError⟩ : Eds).at c)) = some (decide (.NoRow = c))) p_NoRow_NoPost (all_cons (P := fun c => PySem.W.subIn K (.ref ((⟨A_NoBits, A_NoName, A_NoKey, A_NoFrame, A_NoPost, A_NoThing, A_NoStrip, A_NoRail, A_NoWire, A_NoRow, A_RailError⟩ : Eds).at .NoRow)) (.ref ((⟨A_NoBits, A_NoName, A_NoKey, A_NoFrame, A_NoPost, A_NoThing, A_NoStrip, A_NoRail, A_NoWire, A_NoRow, A_RailError⟩ : Eds).at c)) = some (decide (.NoRow = c))) p_NoRow_NoThing (all_cons (P := fun c => PySem.W.subIn K (.ref ((⟨A_NoBits, A_NoName, A_NoKey, A_NoFrame, A_NoPost, A_NoThing, A_NoStrip, A_NoRail, A_NoWire, A_NoRow, A_RailError⟩ : Eds).at .NoRow)) (.ref ((⟨A_NoBits, A_NoName, A_NoKey, A_NoFrame, A_NoPost, A_NoThing, A_NoStrip, A_NoRail, A_NoWire, A_NoRow, A_RailError⟩ : Eds).at c)) = some (decide (.NoRow = c))) p_NoRow_NoStrip (all_cons (P := fun c => PySem.W.subIn K (.ref ((⟨A_NoBits, A_NoName, A_NoKey, A_NoFrame, A_NoPost, A_NoThing, A_NoStrip, A_NoRail, A_NoWire, A_NoRow, A_RailError⟩ : Eds).at .NoRow)) (.ref ((⟨A_NoBits, A_NoName, A_NoKey, A_NoFrame, A_NoPost, A_NoThing, A_NoStrip, A_NoRail, A_NoWire, A_NoRow, A_RailError⟩ : Eds).at c)) = some (decide (.NoRow = c))) p_NoRow_NoRail (all_cons (P := fun c => PySem.W.subIn K (.ref ((⟨A_NoBits, A_NoName, A_NoKey, A_NoFrame, A_NoPost, A_NoThing, A_NoStrip, A_NoRail, A_NoWire, A_NoRow, A_RailError⟩ : Eds).at .NoRow)) (.ref ((⟨A_NoBits, A_NoName, A_NoKey, A_NoFrame, A_NoPost, A_NoThing, A_NoStrip, A_NoRail, A_NoWire, A_NoRow, A_RailError⟩ : Eds).at c)) = some (decide (.NoRow = c))) p_NoRow_NoWire (all_cons (P := fun c => PySem.W.subIn K (.ref ((⟨A_NoBits, A_NoName, A_NoKey, A_NoFrame, A_NoPost, A_NoThing, A_NoStrip, A_NoRail, A_NoWire, A_NoRow, A_RailError⟩ : Eds).at .NoRow)) (.ref ((⟨A_NoBits, A_NoName, A_NoKey, A_NoFrame, A_NoPost, A_NoThing, A_NoStrip, A_NoRail, A_NoWire, A_NoRow, A_RailError⟩ : Eds).at c)) = some (decide (.NoRow = c))) p_NoRow_NoRow all_nil)))))))))) all_nil)))))))))) (all_cons (P := fun k => PySem.W.subIn K (.ref ((⟨A_NoBits, A_NoName, A_NoKey, A_NoFrame, A_NoPost, A_NoThing, A_NoStrip, A_NoRail, A_NoWire, A_NoRow, A_RailError⟩ : Eds).at k)) (.ref (⟨A_NoBits, A_NoName, A_NoKey, A_NoFrame, A_NoPost, A_NoThing, A_NoStrip, A_NoRail, A_NoWire, A_NoRow, A_RailError⟩ : Eds).RailError) = some true) r_NoBits (all_cons (P := fun k => PySem.W.subIn K (.ref ((⟨A_NoBits, A_NoName, A_NoKey, A_NoFrame, A_NoPost, A_NoThing, A_NoStrip, A_NoRail, A_NoWire, A_NoRow, A_RailError⟩ : Eds).at k)) (.ref (⟨A_NoBits, A_NoName, A_NoKey, A_NoFrame, A_NoPost, A_NoThing, A_NoStrip, A_NoRail, A_NoWire, A_NoRow, A_RailError⟩ : Eds).RailError) = some true) r_NoName (all_cons (P := fun k => PySem.W.subIn K (.ref ((⟨A_NoBits, A_NoName, A_NoKey, A_NoFrame, A_NoPost, A_NoThing, A_NoStrip, A_NoRail, A_NoWire, A_NoRow, A_RailError⟩ : Eds).at k)) (.ref (⟨A_NoBits, A_NoName, A_NoKey, A_NoFrame, A_NoPost, A_NoThing, A_NoStrip, A_NoRail, A_NoWire, A_NoRow, A_RailError⟩ : Eds).RailError) = some true) r_NoKey (all_cons (P := fun k => PySem.W.subIn K (.ref ((⟨A_NoBits, A_NoName, A_NoKey, A_NoFrame, A_NoPost, A_NoThing, A_NoStrip, A_NoRail, A_NoWire, A_NoRow, A_RailError⟩ : Eds).at k)) (.ref (⟨A_NoBits, A_NoName, A_NoKey, A_NoFrame, A_NoPost, A_NoThing, A_NoStrip, A_NoRail, A_NoWire, A_NoRow, A_RailError⟩ : Eds).RailError) = some true) r_NoFrame (all_cons (P := fun k => PySem.W.subIn K (.ref ((⟨A_NoBits, A_NoName, A_NoKey, A_NoFrame, A_NoPost, A_NoThing, A_NoStrip, A_NoRail, A_NoWire, A_NoRow, A_RailError⟩ : Eds).at k)) (.ref (⟨A_NoBits, A_NoName, A_NoKey, A_NoFrame, A_NoPost, A_NoThing, A_NoStrip, A_NoRail, A_NoWire, A_NoRow, A_RailError⟩ : Eds).RailError) = some true) r_NoPost (all_cons (P := fun k => PySem.W.subIn K (.ref ((⟨A_NoBits, A_NoName, A_NoKey, A_NoFrame, A_NoPost, A_NoThing, A_NoStrip, A_NoRail, A_NoWire, A_NoRow, A_RailError⟩ : Eds).at k)) (.ref (⟨A_NoBits, A_NoName, A_NoKey, A_NoFrame, A_NoPost, A_NoThing, A_NoStrip, A_NoRail, A_NoWire, A_NoRow, A_RailError⟩ : Eds).RailError) = some true) r_NoThing (all_cons (P := fun k => PySem.W.subIn K (.ref ((⟨A_NoBits, A_NoName, A_NoKey, A_NoFrame, A_NoPost, A_NoThing, A_NoStrip, A_NoRail, A_NoWire, A_NoRow, A_RailError⟩ : Eds).at k)) (.ref (⟨A_NoBits, A_NoName, A_NoKey, A_NoFrame, A_NoPost, A_NoThing, A_NoStrip, A_NoRail, A_NoWire, A_NoRow, A_RailError⟩ : Eds).RailError) = some true) r_NoStrip (all_cons (P := fun k => PySem.W.subIn K (.ref ((⟨A_NoBits, A_NoName, A_NoKey, A_NoFrame, A_NoPost, A_NoThing, A_NoStrip, A_NoRail, A_NoWire, A_NoRow, A_RailError⟩ : Eds).at k)) (.ref (⟨A_NoBits, A_NoName, A_NoKey, A_NoFrame, A_NoPost, A_NoThing, A_NoStrip, A_NoRail, A_NoWire, A_NoRow, A_RailError⟩ : Eds).RailError) = some true) r_NoRail (all_cons (P := fun k => PySem.W.subIn K (.ref ((⟨A_NoBits, A_NoName, A_NoKey, A_NoFrame, A_NoPost, A_NoThing, A_NoStrip, A_NoRail, A_NoWire, A_NoRow, A_RailError⟩ : Eds).at k)) (.ref (⟨A_NoBits, A_NoName, A_NoKey, A_NoFrame, A_NoPost, A_NoThing, A_NoStrip, A_NoRail, A_NoWire, A_NoRow, A_RailError⟩ : Eds).RailError) = some true) r_NoWire (all_cons (P := fun k => PySem.W.subIn K (.ref ((⟨A_NoBits, A_NoName, A_NoKey, A_NoFrame, A_NoPost, A_NoThing, A_NoStrip, A_NoRail, A_NoWire, A_NoRow, A_RailError⟩ : Eds).at k)) (.ref (⟨A_NoBits, A_NoName, A_NoKey, A_NoFrame, A_NoPost, A_NoThing, A_NoStrip, A_NoRail, A_NoWire, A_NoRow, A_RailError⟩ : Eds).RailError) = some true) r_NoRow all_nil)))))))))) q_RailError hn ht (by decide +kernel)⟩
end Bt

/-! Sums without carries, over Nat. -/
namespace Bt
open PySem L2
theorem bx (a b : Nat) : Builtin.bitXor (a : Int) (b : Int) = ((a ^^^ b : Nat) : Int) := Bits.bitXor_pp (Int.natCast_nonneg a) (Int.natCast_nonneg b)
theorem ba (a b : Nat) : Builtin.bitAnd (a : Int) (b : Int) = ((a &&& b : Nat) : Int) := PyProof.Rows.bitAnd_pp (Int.natCast_nonneg a) (Int.natCast_nonneg b)
theorem ba1 (a : Nat) : Builtin.bitAnd (a : Int) 1 = ((a % 2 : Nat) : Int) := by
  have h := ba a 1
  rw [Nat.and_one_is_mod] at h
  exact h
/-- the product without carries -/
def clm (a b : Nat) : Nat := if h : b = 0 then 0 else (if b % 2 = 1 then a else 0) ^^^ clm (2 * a) (b / 2)
termination_by b
decreasing_by omega
theorem clm_zero (a : Nat) : clm a 0 = 0 := by unfold clm; rfl
theorem clm_step (a b : Nat) : clm a b = (if b % 2 = 1 then a else 0) ^^^ clm (2 * a) (b / 2) := by
  by_cases h : b = 0
  · subst h
    rw [clm_zero]
    simp [clm_zero]
  · rw [clm]
    simp [h]
theorem xor4 (a b c d : Nat) : (a ^^^ b) ^^^ (c ^^^ d) = (a ^^^ c) ^^^ (b ^^^ d) := by
  rw [Nat.xor_assoc, Nat.xor_assoc, ← Nat.xor_assoc b c d, Nat.xor_comm b c, Nat.xor_assoc c b d]
theorem two_xor (a b : Nat) : 2 * (a ^^^ b) = (2 * a) ^^^ (2 * b) := by
  have h1 := Nat.xor_div_two (a := 2 * a) (b := 2 * b)
  have h2 := Nat.xor_mod_two_eq_one (a := 2 * a) (b := 2 * b)
  rw [show 2 * a / 2 = a from by omega, show 2 * b / 2 = b from by omega] at h1
  have h3 : ¬ (2 * a ^^^ 2 * b) % 2 = 1 := by rw [h2]; omega
  omega
theorem two_xor1 (k : Nat) : (2 * k) ^^^ 1 = 2 * k + 1 := by
  have h1 := Nat.xor_div_two (a := 2 * k) (b := 1)
  have h2 := Nat.xor_mod_two_eq_one (a := 2 * k) (b := 1)
  rw [show 2 * k / 2 = k from by omega, show 1 / 2 = 0 from rfl, Nat.xor_zero] at h1
  have h3 : (2 * k ^^^ 1) % 2 = 1 := by rw [h2]; omega
  omega
theorem clm_xor_right : ∀ (n : Nat) (a b c : Nat), b + c ≤ n → clm a (b ^^^ c) = clm a b ^^^ clm a c
  | 0, a, b, c, h => by
    obtain ⟨rfl, rfl⟩ : b = 0 ∧ c = 0 := by omega
    simp [clm_zero]
  | n + 1, a, b, c, h => by
    by_cases h0 : b = 0 ∧ c = 0
    · obtain ⟨rfl, rfl⟩ := h0
      simp [clm_zero]
    rw [clm_step a (b ^^^ c), clm_step a b, clm_step a c, Nat.xor_div_two, clm_xor_right n (2 * a) (b / 2) (c / 2) (by omega), xor4]
    congr 1
    have hm := Nat.xor_mod_two_eq_one (a := b) (b := c)
    by_cases h1 : b % 2 = 1 <;> by_cases h2 : c % 2 = 1
    · rw [if_neg (by rw [hm]; simp [h1, h2]), if_pos h1, if_pos h2, Nat.xor_self]
    · rw [if_pos (by rw [hm]; simp [h1, h2]), if_pos h1, if_neg h2, Nat.xor_zero]
    · rw [if_pos (by rw [hm]; simp [h1, h2]), if_neg h1, if_pos h2, Nat.zero_xor]
    · rw [if_neg (by rw [hm]; simp [h1, h2]), if_neg h1, if_neg h2, Nat.xor_zero]
theorem clm_xr (a b c : Nat) : clm a (b ^^^ c) = clm a b ^^^ clm a c := clm_xor_right _ a b c (Nat.le_refl _)
theorem clm_two : ∀ (n a b : Nat), b ≤ n → clm (2 * a) b = 2 * clm a b
  | 0, a, b, h => by
    obtain rfl : b = 0 := by omega
    rw [clm_zero, clm_zero]
  | n + 1, a, b, h => by
    by_cases h0 : b = 0
    · subst h0; rw [clm_zero, clm_zero]
    rw [clm_step (2 * a) b, clm_step a b, clm_two n (2 * a) (b / 2) (by omega), two_xor]
    congr 1
    by_cases h1 : b % 2 = 1
    · rw [if_pos h1, if_pos h1]
    · rw [if_neg h1, if_neg h1]
theorem clm_tl (a b : Nat) : clm (2 * a) b = 2 * clm a b := clm_two b a b (Nat.le_refl _)
theorem clm_xl : ∀ (n a b c : Nat), c ≤ n → clm (a ^^^ b) c = clm a c ^^^ clm b c
  | 0, a, b, c, h => by
    obtain rfl : c = 0 := by omega
    simp [clm_zero]
  | n + 1, a, b, c, h => by
    by_cases h0 : c = 0
    · subst h0; simp [clm_zero]
    rw [clm_step (a ^^^ b) c, clm_step a c, clm_step b c, two_xor, clm_xl n (2 * a) (2 * b) (c / 2) (by omega), xor4]
    congr 1
    by_cases h1 : c % 2 = 1
    · rw [if_pos h1, if_pos h1, if_pos h1]
    · rw [if_neg h1, if_neg h1, if_neg h1, Nat.xor_zero]
theorem clm_xl' (a b c : Nat) : clm (a ^^^ b) c = clm a c ^^^ clm b c := clm_xl c a b c (Nat.le_refl _)
theorem clm_tr (a b : Nat) : clm a (2 * b) = 2 * clm a b := by
  rw [clm_step a (2 * b), if_neg (by omega), Nat.zero_xor, show 2 * b / 2 = b from by omega, clm_tl]
theorem zero_clm : ∀ (n b : Nat), b ≤ n → clm 0 b = 0
  | 0, b, h => by
    obtain rfl : b = 0 := by omega
    exact clm_zero 0
  | n + 1, b, h => by
    by_cases h0 : b = 0
    · subst h0; exact clm_zero 0
    rw [clm_step, zero_clm n (b / 2) (by omega)]
    split <;> rfl
theorem clm_zl (b : Nat) : clm 0 b = 0 := zero_clm b b (Nat.le_refl _)
theorem one_clm : ∀ (n b : Nat), b ≤ n → clm 1 b = b
  | 0, b, h => by
    obtain rfl : b = 0 := by omega
    exact clm_zero 1
  | n + 1, b, h => by
    by_cases h0 : b = 0
    · subst h0; exact clm_zero 1
    rw [clm_step, clm_tl 1, one_clm n (b / 2) (by omega)]
    by_cases h1 : b % 2 = 1
    · rw [if_pos h1]
      rw [Nat.xor_comm, two_xor1]
      omega
    · rw [if_neg h1, Nat.zero_xor]
      omega
theorem clm_ol (b : Nat) : clm 1 b = b := one_clm b b (Nat.le_refl _)
theorem clm_or (a : Nat) : clm a 1 = a := by
  rw [clm_step, if_pos rfl, show 1 / 2 = 0 from rfl, clm_zero, Nat.xor_zero]
theorem split_bit (b : Nat) : b = (2 * (b / 2)) ^^^ (b % 2) := by
  rcases Nat.mod_two_eq_zero_or_one b with h | h
  · rw [h, Nat.xor_zero]; omega
  · rw [h, two_xor1]
    omega
theorem clm_cm : ∀ (n a b : Nat), b ≤ n → clm a b = clm b a
  | 0, a, b, h => by
    obtain rfl : b = 0 := by omega
    rw [clm_zero, clm_zl]
  | n + 1, a, b, h => by
    by_cases h0 : b = 0
    · subst h0; rw [clm_zero, clm_zl]
    have e := split_bit b
    have ih := clm_cm n a (b / 2) (by omega)
    have h1 : clm a b = 2 * clm a (b / 2) ^^^ clm a (b % 2) := by
      conv => lhs; rw [e]
      rw [clm_xr, clm_tr]
    have h2 : clm b a = 2 * clm (b / 2) a ^^^ clm (b % 2) a := by
      conv => lhs; rw [e]
      rw [clm_xl', clm_tl]
    rw [h1, h2, ih]
    congr 1
    rcases Nat.mod_two_eq_zero_or_one b with q | q
    · rw [q, clm_zero, clm_zl]
    · rw [q, clm_or, clm_ol]
theorem clm_comm (a b : Nat) : clm a b = clm b a := clm_cm b a b (Nat.le_refl _)
/-- the same, power by power -/
def pws (a b : Nat) : Nat → Nat
  | 0 => 0
  | n + 1 => pws a b n ^^^ (if b / 2 ^ n % 2 = 1 then a * 2 ^ n else 0)
theorem pws_shift (a b : Nat) : ∀ n : Nat, pws a b (n + 1) = (if b % 2 = 1 then a else 0) ^^^ pws (2 * a) (b / 2) n
  | 0 => by simp [pws]
  | n + 1 => by
    have ih := pws_shift a b n
    show pws a b (n + 1) ^^^ _ = _ ^^^ (pws (2 * a) (b / 2) n ^^^ _)
    rw [ih, Nat.xor_assoc]
    have e1 : b / 2 ^ (n + 1) = b / 2 / 2 ^ n := by rw [Nat.div_div_eq_div_mul, Nat.pow_succ, Nat.mul_comm]
    have e2 : a * 2 ^ (n + 1) = 2 * a * 2 ^ n := by rw [Nat.pow_succ]; ac_rfl
    rw [e1, e2]
theorem pws_clm : ∀ (n a b : Nat), b < 2 ^ n → pws a b n = clm a b
  | 0, a, b, h => by
    obtain rfl : b = 0 := by simp at h; omega
    rw [clm_zero]; rfl
  | n + 1, a, b, h => by
    rw [pws_shift, clm_step, pws_clm n (2 * a) (b / 2) (by rw [Nat.pow_succ] at h; omega)]
end Bt
namespace Bt
open PySem L2
theorem shrN (a k : Nat) : shrG (a : Int) (k : Int) = some ((a / 2 ^ k : Nat) : Int) := by
  rw [shrG_ok (by omega), Int.toNat_natCast, Int.natCast_ediv, Int.natCast_pow]; rfl
theorem shlN {a n : Nat} (k : Nat) (h : a < 2 ^ n) (hn : n + k ≤ 90000000) : shlG (a : Int) (k : Int) = some ((a * 2 ^ k : Nat) : Int) := by
  rw [shlG_ok (n := n) (by omega) (by omega) (by omega), Int.toNat_natCast, Int.natCast_mul, Int.natCast_pow]; rfl
theorem emod_nat {z m : Int} (hm : 0 < m) : ∃ n : Nat, z % m = (n : Int) ∧ (n : Int) < m := by
  obtain ⟨n, hn⟩ := Int.eq_ofNat_of_zero_le (Int.emod_nonneg z (by omega : m ≠ 0))
  exact ⟨n, hn, by rw [← hn]; exact Int.emod_lt_of_pos z hm⟩
theorem testBit_div (x k : Nat) : x.testBit k = decide (x / 2 ^ k % 2 = 1) := by
  rw [Nat.testBit_eq_decide_div_mod_eq]
end Bt

/-! The laws' own draw: the same text in all of them. -/
namespace Bt
open PySem L2
theorem draw_ok (ns : List Int) (k many : Int) (hk : 0 ≤ k) (hk2 : k ≤ 1000000000) (hm : 0 < many) : ∃ v, m__law_draw ns k many = some v ∧ 0 ≤ v ∧ v < many := by
  have hc : ∃ c, (ifB (decide ((0 : Int) < (List.length ns : Int))) (bnd (modG k (List.length ns : Int)) fun t => bnd (atI ns t) fun e => some e) (some (0 : Int))) = some c := by
    by_cases h : (0 : Int) < (List.length ns : Int)
    · rw [decide_eq_true h, ifB_t, modG_ok h, bnd_some]
      obtain ⟨x, hx, _⟩ := atI_mem (xs := ns) (i := k % (ns.length : Int)) (Int.emod_nonneg _ (by omega)) (Int.emod_lt_of_pos _ h)
      exact ⟨x, by rw [hx]; rfl⟩
    · rw [decide_eq_false h]
      exact ⟨0, rfl⟩
  obtain ⟨c, hc⟩ := hc
  refine ⟨(((c % 1000003 + 31 * k * k + 1) * 48271 % 999983) * 7919 % 524287) % many, ?_, Int.emod_nonneg _ (by omega), Int.emod_lt_of_pos _ hm⟩
  unfold m__law_draw
  rw [bnd_of hc, mulG_ok (a := 40) (b := 40) (by omega) (by omega) (by omega), bnd_some, ltv_eq, modG_ok hm, bnd_some]
end Bt

namespace Bt
open PySem L2
def Bits (xs : List Int) : Prop := ∀ b ∈ xs, b = 0 ∨ b = 1
theorem Bits.app {xs ys : List Int} (h : Bits xs) (k : Bits ys) : Bits (xs ++ ys) := fun b hb => by
  rcases List.mem_append.mp hb with q | q
  · exact h b q
  · exact k b q
theorem Bits.one {b : Int} (h : b = 0 ∨ b = 1) : Bits [b] := fun c hc => by rw [List.mem_singleton.mp hc]; exact h
theorem Bits.drop {xs : List Int} (h : Bits xs) (n : Nat) : Bits (xs.drop n) := fun b hb => h b (List.mem_of_mem_drop hb)
theorem Bits.rep {b : Int} (h : b = 0 ∨ b = 1) (n : Nat) : Bits (List.replicate n b) := fun c hc => by rw [List.eq_of_mem_replicate hc]; exact h
def ci (qs : List Nat) : List Int := qs.map fun (q : Nat) => (q : Int)
theorem ci_of : ∀ (l : List Int) (m : Nat), (∀ y ∈ l, ∃ n : Nat, y = (n : Int) ∧ n < m) → ∃ D, l = ci D ∧ ∀ d ∈ D, d < m
  | [], _, _ => ⟨[], rfl, fun _ h => (nomatch h)⟩
  | y :: r, m, h => by
    obtain ⟨n, rfl, hn⟩ := h y (List.Mem.head _)
    obtain ⟨D, rfl, hD⟩ := ci_of r m fun z hz => h z (List.Mem.tail _ hz)
    refine ⟨n :: D, rfl, fun d hd => ?_⟩
    rcases List.mem_cons.mp hd with rfl | hd
    · exact hn
    · exact hD d hd
theorem ci_len (D : List Nat) : (ci D).length = D.length := by simp [ci]
theorem ci_mem {D : List Nat} {x : Int} (h : x ∈ ci D) : ∃ d ∈ D, x = (d : Int) := by
  obtain ⟨d, hd, rfl⟩ := List.mem_map.mp h
  exact ⟨d, hd, rfl⟩
theorem cut_mem {α : Type} {xs : List α} {lo hi : Option Int} {x : α} (h : x ∈ cutL xs lo hi) : x ∈ xs := by
  unfold cutL at h
  exact List.mem_of_mem_drop (List.mem_of_mem_take h)
theorem cut_len {α : Type} (xs : List α) (lo hi : Option Int) : (cutL xs lo hi).length ≤ xs.length := by
  unfold cutL
  rw [List.length_take, List.length_drop]
  omega
theorem draw2 (ns : List Int) (k : Int) (hk : 0 ≤ k) (hk2 : k ≤ 1000000000) : ∃ v, m__law_draw ns k 2 = some v ∧ (v = 0 ∨ v = 1) := by
  obtain ⟨v, h1, h2, h3⟩ := draw_ok ns k 2 hk hk2 (by decide)
  exact ⟨v, h1, by omega⟩
end Bt

/-! Rests by a key, over Nat, and numbers of bits. -/
namespace Bt
open PySem L2
theorem xor_top {x y m : Nat} (h1 : 2 ^ m ≤ x) (h2 : x < 2 ^ (m + 1)) (h3 : y < 2 ^ m) : 2 ^ m ≤ x ^^^ y ∧ x ^^^ y < 2 ^ (m + 1) := by
  have e := Nat.xor_div_two_pow (a := x) (b := y) (n := m)
  rw [Nat.pow_succ] at h2 ⊢
  have hp : 0 < 2 ^ m := Nat.two_pow_pos m
  have e1 : x / 2 ^ m = 1 := by
    rw [Nat.div_eq_iff hp]; omega
  have e2 : y / 2 ^ m = 0 := Nat.div_eq_of_lt h3
  rw [e1, e2, Nat.xor_zero] at e
  have h4 := (Nat.div_eq_iff hp).mp e
  omega
theorem xor_cancel {x y m : Nat} (h1 : 2 ^ m ≤ x) (h2 : x < 2 ^ (m + 1)) (h3 : 2 ^ m ≤ y) (h4 : y < 2 ^ (m + 1)) : x ^^^ y < 2 ^ m := by
  have e := Nat.xor_div_two_pow (a := x) (b := y) (n := m)
  rw [Nat.pow_succ] at h2 h4
  have hp : 0 < 2 ^ m := Nat.two_pow_pos m
  have e1 : x / 2 ^ m = 1 := by
    rw [Nat.div_eq_iff hp]; omega
  have e2 : y / 2 ^ m = 1 := by
    rw [Nat.div_eq_iff hp]; omega
  rw [e1, e2, Nat.xor_self] at e
  exact (Nat.div_eq_zero_iff_lt hp).mp e
theorem clm_top : ∀ (t a b s : Nat), 2 ^ s ≤ a → a < 2 ^ (s + 1) → 2 ^ t ≤ b → b < 2 ^ (t + 1) → 2 ^ (s + t) ≤ clm a b ∧ clm a b < 2 ^ (s + t + 1)
  | 0, a, b, s, h1, h2, h3, h4 => by
    obtain rfl : b = 1 := by simp at h3 h4; omega
    rw [clm_or]
    exact ⟨h1, h2⟩
  | t + 1, a, b, s, h1, h2, h3, h4 => by
    have e := split_bit b
    have ih := clm_top t a (b / 2) s h1 h2 (by rw [Nat.pow_succ] at h3; omega) (by rw [Nat.pow_succ] at h4; omega)
    have h5 : clm a b = 2 * clm a (b / 2) ^^^ clm a (b % 2) := by
      conv => lhs; rw [e]
      rw [clm_xr, clm_tr]
    rw [h5]
    have h6 : clm a (b % 2) < 2 ^ (s + (t + 1)) := by
      have : 2 ^ (s + 1) ≤ 2 ^ (s + (t + 1)) := Nat.pow_le_pow_right (by decide) (by omega)
      rcases Nat.mod_two_eq_zero_or_one b with q | q
      · rw [q, clm_zero]; exact Nat.two_pow_pos _
      · rw [q, clm_or]; omega
    refine xor_top ?_ ?_ h6
    · rw [show s + (t + 1) = s + t + 1 from rfl, Nat.pow_succ]; omega
    · rw [show s + (t + 1) + 1 = s + t + 1 + 1 from rfl, Nat.pow_succ]; omega
theorem log_of {n : Nat} (h : n ≠ 0) : ∃ t, 2 ^ t ≤ n ∧ n < 2 ^ (t + 1) := ⟨n.log2, Nat.log2_self_le h, Nat.lt_log2_self⟩
theorem clm_small {a w s : Nat} (h1 : 2 ^ s ≤ a) (h2 : a < 2 ^ (s + 1)) (h3 : clm a w < 2 ^ s) : w = 0 := by
  by_cases h : w = 0
  · exact h
  · obtain ⟨t, h4, h5⟩ := log_of h
    have h6 := (clm_top t a w s h1 h2 h4 h5).1
    have : 2 ^ s ≤ 2 ^ (s + t) := Nat.pow_le_pow_right (by decide) (by omega)
    omega
theorem xor_zero_eq {a b : Nat} (h : a ^^^ b = 0) : a = b := by
  have h2 : a ^^^ b ^^^ b = b := by rw [h, Nat.zero_xor]
  rw [Nat.xor_assoc, Nat.xor_self, Nat.xor_zero] at h2
  exact h2
theorem xor_move {a b c d : Nat} (h : a ^^^ b = c ^^^ d) : a ^^^ c = b ^^^ d := by
  have : (a ^^^ b) ^^^ (c ^^^ d) = 0 := by rw [h, Nat.xor_self]
  rw [xor4] at this
  exact xor_zero_eq this
theorem rest_one {key s w r w' r' : Nat} (h1 : 2 ^ s ≤ key) (h2 : key < 2 ^ (s + 1)) (h3 : r < 2 ^ s) (h4 : r' < 2 ^ s) (h : clm key w ^^^ r = clm key w' ^^^ r') : w = w' ∧ r = r' := by
  have h5 := xor_move h
  rw [← clm_xr] at h5
  have h6 : clm key (w ^^^ w') < 2 ^ s := by rw [h5]; exact Nat.xor_lt_two_pow h3 h4
  have h7 := clm_small h1 h2 h6
  refine ⟨xor_zero_eq h7, xor_zero_eq ?_⟩
  rw [← h5, h7, clm_zero]
/-- r is the rest of n by the key of the checks -/
def IsR (n r : Nat) : Prop := r < 32768 ∧ ∃ w, n = clm 64647 w ^^^ r
theorem IsR.uniq {n r r' : Nat} (h : IsR n r) (k : IsR n r') : r = r' := by
  obtain ⟨h1, w, h2⟩ := h
  obtain ⟨h3, w', h4⟩ := k
  exact (rest_one (s := 15) (key := 64647) (by decide) (by decide) h1 h3 (h2.symm.trans h4)).2
theorem IsR.xor {n m r s : Nat} (h : IsR n r) (k : IsR m s) : IsR (n ^^^ m) (r ^^^ s) := by
  obtain ⟨h1, w, h2⟩ := h
  obtain ⟨h3, w', h4⟩ := k
  refine ⟨Nat.xor_lt_two_pow (n := 15) h1 h3, w ^^^ w', ?_⟩
  rw [h2, h4, clm_xr, xor4]
theorem IsR.small {r : Nat} (h : r < 32768) : IsR r r := ⟨h, 0, by rw [clm_zero, Nat.zero_xor]⟩
/-- one bit more behind -/
def hst (r b : Nat) : Nat := if 32768 ≤ 2 * r + b then (2 * r + b) ^^^ 64647 else 2 * r + b
theorem add_bit {a b : Nat} (h : b ≤ 1) : 2 * a + b = 2 * a ^^^ b := by
  rcases (show b = 0 ∨ b = 1 by omega) with rfl | rfl
  · rw [Nat.xor_zero]; rfl
  · rw [two_xor1]
theorem IsR.step {n r b : Nat} (h : IsR n r) (hb : b ≤ 1) : IsR (2 * n + b) (hst r b) := by
  obtain ⟨h1, w, h2⟩ := h
  have e : 2 * n + b = clm 64647 (2 * w) ^^^ (2 * r + b) := by
    rw [add_bit hb, add_bit hb, h2, two_xor, clm_tr, Nat.xor_assoc]
  unfold hst
  by_cases c : 32768 ≤ 2 * r + b
  · rw [if_pos c]
    refine ⟨xor_cancel (m := 15) c (by show _ < 65536; omega) (by decide) (by decide), 2 * w + 1, ?_⟩
    rw [e, add_bit (a := w) (by decide), clm_xr, clm_or, Nat.xor_comm (2 * r + b), Nat.xor_assoc, ← Nat.xor_assoc 64647 64647, Nat.xor_self, Nat.zero_xor]
  · rw [if_neg c]
    exact ⟨by omega, 2 * w, e⟩
/-- the number that bits write, behind a number -/
def hn (a : Nat) : List Int → Nat
  | [] => a
  | b :: r => hn (2 * a + b.toNat) r
def hr (a : Nat) : List Int → Nat
  | [] => a
  | b :: r => hr (hst a b.toNat) r
theorem bit_le {b : Int} (h : b = 0 ∨ b = 1) : b.toNat ≤ 1 := by omega
theorem Bits.hd {b : Int} {r : List Int} (h : Bits (b :: r)) : b = 0 ∨ b = 1 := h b (List.Mem.head _)
theorem Bits.tl {b : Int} {r : List Int} (h : Bits (b :: r)) : Bits r := fun c hc => h c (List.Mem.tail _ hc)
theorem hr_is : ∀ (xs : List Int) (a r : Nat), Bits xs → IsR a r → IsR (hn a xs) (hr r xs)
  | [], a, r, _, h => h
  | b :: xs, a, r, hb, h => hr_is xs (2 * a + b.toNat) (hst r b.toNat) hb.tl (h.step (bit_le hb.hd))
theorem hn_app : ∀ (xs ys : List Int) (a : Nat), hn a (xs ++ ys) = hn (hn a xs) ys
  | [], _, _ => rfl
  | b :: xs, ys, a => hn_app xs ys _
theorem hn_lt : ∀ (xs : List Int) (a n : Nat), Bits xs → a < 2 ^ n → hn a xs < 2 ^ (n + xs.length)
  | [], a, n, _, h => h
  | b :: xs, a, n, hb, h => by
    have := hn_lt xs (2 * a + b.toNat) (n + 1) hb.tl (by have := bit_le hb.hd; rw [Nat.pow_succ]; omega)
    rw [show n + (b :: xs).length = n + 1 + xs.length by simp only [List.length_cons]; omega]
    exact this
def zs (n : Nat) : List Int := List.replicate n 0
theorem zs_bits (n : Nat) : Bits (zs n) := Bits.rep (.inl rfl) n
theorem hn_xor : ∀ (ys : List Int) (a c : Nat), Bits ys → hn (a ^^^ c) ys = hn a (zs ys.length) ^^^ hn c ys
  | [], a, c, _ => rfl
  | b :: ys, a, c, hb => by
    show hn (2 * (a ^^^ c) + b.toNat) ys = hn (2 * a) (zs ys.length) ^^^ hn (2 * c + b.toNat) ys
    rw [← hn_xor ys (2 * a) (2 * c + b.toNat) hb.tl]
    congr 1
    have h := bit_le hb.hd
    rw [add_bit h, add_bit h, two_xor, Nat.xor_assoc]
theorem hn_tail (xs ys : List Int) (hy : Bits ys) : hn 0 (xs ++ ys) = hn 0 (xs ++ zs ys.length) ^^^ hn 0 ys := by
  rw [hn_app, hn_app, ← hn_xor ys (hn 0 xs) 0 hy, Nat.xor_zero]
/-- the bits of a number -/
def bl (c n : Nat) : List Int := (List.range n).map fun k => ((c / 2 ^ (n - 1 - k) % 2 : Nat) : Int)
theorem bl_len (c n : Nat) : (bl c n).length = n := by simp [bl]
theorem bl_bits (c n : Nat) : Bits (bl c n) := fun b hb => by
  obtain ⟨k, _, rfl⟩ := List.mem_map.mp hb
  omega
theorem bl_succ (c n : Nat) : bl c (n + 1) = bl (c / 2) n ++ [((c % 2 : Nat) : Int)] := by
  unfold bl
  rw [List.range_succ, List.map_append]
  congr 1
  · refine List.map_congr_left fun k hk => ?_
    have := List.mem_range.mp hk
    rw [Nat.div_div_eq_div_mul, show n + 1 - 1 - k = (n - 1 - k) + 1 by omega, Nat.pow_succ, Nat.mul_comm]
  · simp
theorem hn_bl : ∀ (n c a : Nat), hn a (bl c n) = a * 2 ^ n + c % 2 ^ n
  | 0, c, a => by simp [bl, hn, Nat.mod_one]
  | n + 1, c, a => by
    rw [bl_succ, hn_app, hn_bl n (c / 2) a]
    show 2 * (a * 2 ^ n + c / 2 % 2 ^ n) + (((c % 2 : Nat) : Int)).toNat = _
    rw [Int.toNat_natCast, Nat.pow_succ, Nat.mul_comm (2 ^ n) 2, Nat.mod_mul]
    have : a * (2 * 2 ^ n) = 2 * (a * 2 ^ n) := by ac_rfl
    omega
theorem hn_bl0 {n c : Nat} (h : c < 2 ^ n) : hn 0 (bl c n) = c := by
  rw [hn_bl, Nat.zero_mul, Nat.zero_add, Nat.mod_eq_of_lt h]
theorem nb_small {a t : Nat} (h : a < 2 ^ t) : Builtin.Int.intBits (a : Int) ≤ t := bits_le (by omega)
theorem nb_big {a t : Nat} (h : 2 ^ t ≤ a) : t < Builtin.Int.intBits (a : Int) := by
  have hp : 0 < 2 ^ t := Nat.two_pow_pos t
  unfold Builtin.Int.intBits
  split
  · rename_i h0
    simp at h0
    omega
  · rename_i h0
    have h1 : a ≠ 0 := by omega
    have h2 : ¬ a.log2 < t := fun q => by
      have := (Nat.log2_lt h1).mp q
      omega
    rw [Int.natAbs_natCast]
    omega
theorem nb_eq {a t : Nat} (h1 : 2 ^ t ≤ a) (h2 : a < 2 ^ (t + 1)) : Builtin.Int.intBits (a : Int) = t + 1 := by
  have := nb_small h2
  have := nb_big h1
  omega
theorem nb_lt {a t : Nat} : Builtin.Int.intBits (a : Int) ≤ t → a < 2 ^ t := fun h => by
  by_cases q : a < 2 ^ t
  · exact q
  · have := nb_big (Nat.le_of_not_lt q)
    omega
end Bt

/-! The program's own number_of. -/
namespace Bt
open PySem L2
theorem bor1 {b : Nat} (a : Nat) (h : b ≤ 1) : Builtin.bitOr ((2 * a : Nat) : Int) (b : Int) = ((2 * a + b : Nat) : Int) := by
  rw [PyProof.Rows.bitOr_and, ba]
  have e : 2 * a &&& b = 0 := by
    rcases (show b = 0 ∨ b = 1 by omega) with rfl | rfl
    · exact Nat.and_zero _
    · rw [Nat.and_one_is_mod]; omega
  rw [e]
  omega
theorem number_loop : ∀ (xs : List Int) (a n : Nat), Bits xs → a < 2 ^ n → n + xs.length ≤ 1000000 → loopM (fun b s => m_number_of_L0 b s) xs (a : Int) = some ((hn a xs : Nat) : Int)
  | [], a, n, _, _, _ => rfl
  | b :: xs, a, n, hb, ha, hz => by
    simp only [List.length_cons] at hz
    have h1 := bit_le hb.hd
    have hf : m_number_of_L0 b a = some ((2 * a + b.toNat : Nat) : Int) := by
      unfold m_number_of_L0
      rw [shlG_ok (n := n) (by omega) (by decide) (by omega), bnd_some]
      have e : (a : Int) * 2 ^ (1 : Int).toNat = ((2 * a : Nat) : Int) := by
        rw [show (2 : Int) ^ (1 : Int).toNat = 2 from rfl]; omega
      have e2 : b = ((b.toNat : Nat) : Int) := by have := hb.hd; omega
      rw [e]
      conv => lhs; rw [e2]
      rw [bor1 a h1]
    rw [loopM_go hf]
    exact number_loop xs (2 * a + b.toNat) (n + 1) hb.tl (by rw [Nat.pow_succ]; omega) (by omega)
theorem number_ok (xs : List Int) (hb : Bits xs) (hz : xs.length ≤ 900000) : m_number_of xs = some ((hn 0 xs : Nat) : Int) := by
  unfold m_number_of
  rw [show (0 : Int) = ((0 : Nat) : Int) from rfl, number_loop xs 0 0 hb (by decide) (by omega), bnd_some]
end Bt

/-! The program's own bits_of. -/
namespace Bt
open PySem L2
theorem bits_of_ok {c n : Nat} (h : c < 2 ^ n) (hn : n ≤ 100000) : m_bits_of c n = some (.ok (bl c n)) := by
  unfold m_bits_of
  have := nb_small h
  rw [decide_eq_false (show ¬ (c : Int) < 0 by omega), decide_eq_false (show ¬ (n : Int) < (Builtin.Int.intBits (c : Int) : Int) by omega), Bool.or_false, ifB_f, rng1_ok (by omega) (by omega), bnd_some]
  have e : compM (m_bits_of_C0 c n) (rangeI 0 n) [] = some ([] ++ (rangeI 0 n).map fun k => ((c / 2 ^ (n - 1 - k.toNat) % 2 : Nat) : Int)) := by
    refine compM_ok _ _ (fun k hk => ?_) (by rw [rangeI_length]; simp; omega)
    have := mem_rangeI hk
    unfold m_bits_of_C0
    have e : (n : Int) - 1 - k = ((n - 1 - k.toNat : Nat) : Int) := by omega
    rw [e, shrN, bnd_some, ba1]
  rw [e, bnd_some]
  congr 2
  unfold bl rangeI
  rw [List.nil_append, List.map_map, show ((n : Int) - 0).toNat = n by omega]
  refine List.map_congr_left fun k _ => ?_
  simp only [Function.comp]
  rw [show ((0 : Int) + (k : Int)).toNat = k by omega]
end Bt

/-! The program's own divided. -/
namespace Bt
open PySem L2
theorem clm_pow (a : Nat) : ∀ t : Nat, clm a (2 ^ t) = a * 2 ^ t
  | 0 => by rw [Nat.pow_zero, clm_or, Nat.mul_one]
  | t + 1 => by rw [Nat.pow_succ, Nat.mul_comm (2 ^ t) 2, clm_tr, clm_pow a t]; ac_rfl
theorem div_loop {key s : Nat} (h1 : 2 ^ s ≤ key) (h2 : key < 2 ^ (s + 1)) (hs : s ≤ 10000) : ∀ (N n w fuel : Nat), n < 2 ^ N → N < fuel → N ≤ 1000000 →
    ∃ n' w' : Nat, whileM (fun s' => m_divided_W0c (key : Int) ((s + 1 : Nat) : Int) s'.1 s'.2) (fun s' => m_divided_W0 (key : Int) ((s + 1 : Nat) : Int) s'.1 s'.2) fuel ((n : Int), (w : Int)) = some ((n' : Int), (w' : Int)) ∧ n' < 2 ^ s ∧ n' ^^^ clm key w' = n ^^^ clm key w
  | _, _, _, 0, _, h, _ => absurd h (Nat.not_lt_zero _)
  | N, n, w, fuel + 1, hn, hf, hN => by
    by_cases c : n < 2 ^ s
    · have := nb_small c
      rw [whileM_stop (by show m_divided_W0c _ _ (n : Int) (w : Int) = some false; unfold m_divided_W0c; rw [decide_eq_false (by omega)])]
      exact ⟨n, w, rfl, c, rfl⟩
    · cases N with
      | zero =>
        have := Nat.two_pow_pos s
        simp at hn
        omega
      | succ N =>
        by_cases d : n < 2 ^ N
        · exact div_loop h1 h2 hs N n w (fuel + 1) d (by omega) (by omega)
        · have hsN : s ≤ N := by
            by_cases q : s ≤ N
            · exact q
            · have : 2 ^ (N + 1) ≤ 2 ^ s := Nat.pow_le_pow_right (by decide) (by omega)
              omega
          have hb := nb_eq (Nat.le_of_not_lt d) hn
          have hw : m_divided_W0 (key : Int) ((s + 1 : Nat) : Int) (n : Int) (w : Int) = some (((n ^^^ key * 2 ^ (N - s) : Nat) : Int), ((w ^^^ 2 ^ (N - s) : Nat) : Int)) := by
            unfold m_divided_W0
            have e : ((Builtin.Int.intBits (n : Int) : Int) - ((s + 1 : Nat) : Int)) = ((N - s : Nat) : Int) := by omega
            rw [ltv_eq, e, show (1 : Int) = ((1 : Nat) : Int) from rfl, shlN (n := 1) (N - s) (by decide) (by omega), bnd_some, ltv_eq, shlN (n := s + 1) (N - s) h2 (by omega), bnd_some, bx, bx, Nat.one_mul]
          rw [whileM_go (s' := (((n ^^^ key * 2 ^ (N - s) : Nat) : Int), ((w ^^^ 2 ^ (N - s) : Nat) : Int))) (by show m_divided_W0c _ _ (n : Int) (w : Int) = some true; unfold m_divided_W0c; rw [decide_eq_true (by omega)]) hw]
          have e3 : 2 ^ s * 2 ^ (N - s) = 2 ^ N := by rw [← Nat.pow_add, show s + (N - s) = N by omega]
          have e4 : 2 ^ (s + 1) * 2 ^ (N - s) = 2 ^ (N + 1) := by rw [← Nat.pow_add, show s + 1 + (N - s) = N + 1 by omega]
          have hp : 0 < 2 ^ (N - s) := Nat.two_pow_pos _
          have k1 : 2 ^ N ≤ key * 2 ^ (N - s) := by rw [← e3]; exact Nat.mul_le_mul_right _ h1
          have k2 : key * 2 ^ (N - s) < 2 ^ (N + 1) := by rw [← e4]; exact Nat.mul_lt_mul_of_pos_right h2 hp
          have h5 := xor_cancel (Nat.le_of_not_lt d) hn k1 k2
          obtain ⟨n', w', e5, e6, e7⟩ := div_loop h1 h2 hs N (n ^^^ key * 2 ^ (N - s)) (w ^^^ 2 ^ (N - s)) fuel h5 (by omega) (by omega)
          refine ⟨n', w', e5, e6, ?_⟩
          rw [e7, clm_xr, clm_pow, Nat.xor_comm (clm key w), Nat.xor_assoc, ← Nat.xor_assoc (key * 2 ^ (N - s)), Nat.xor_self, Nat.zero_xor]
termination_by N n w fuel => (fuel, N)
theorem divided_ok {key s n N : Nat} (h1 : 2 ^ s ≤ key) (h2 : key < 2 ^ (s + 1)) (hs : s ≤ 10000) (hn : n < 2 ^ N) (hN : N < 90000) :
    ∃ w r : Nat, m_divided n key = some (.ok ((w : Int), (r : Int))) ∧ r < 2 ^ s ∧ n = clm key w ^^^ r := by
  obtain ⟨r, w, e1, e2, e3⟩ := div_loop h1 h2 hs N n 0 FUEL hn (by unfold FUEL; omega) (by omega)
  have hp := Nat.two_pow_pos s
  refine ⟨w, r, ?_, e2, ?_⟩
  · unfold m_divided
    rw [decide_eq_false (by omega), ifB_f, ltv_eq, nb_eq h1 h2, show (0 : Int) = ((0 : Nat) : Int) from rfl, e1, bnd_some]
  · rw [clm_zero, Nat.xor_zero] at e3
    rw [← e3, Nat.xor_comm]
end Bt

/-! The program's own rest_of. -/
namespace Bt
open PySem L2
theorem rest_of_ok (xs : List Int) (hb : Bits xs) (hz : xs.length ≤ 80000) : m_rest_of xs = some ((hr 0 xs : Nat) : Int) := by
  have hl := hn_lt xs 0 0 hb (by decide)
  rw [Nat.zero_add] at hl
  obtain ⟨w, r, e1, e2, e3⟩ := divided_ok (key := 64647) (s := 15) (n := hn 0 xs) (N := xs.length) (by decide) (by decide) (by decide) hl (by omega)
  have hi := hr_is xs 0 0 hb (IsR.small (by decide))
  have e4 : r = hr 0 xs := IsR.uniq (n := hn 0 xs) ⟨e2, w, e3⟩ hi
  unfold m_rest_of
  rw [number_ok xs hb (by omega), bnd_some, show (64647 : Int) = ((64647 : Nat) : Int) from rfl, e1]
  show some (r : Int) = _
  rw [e4]
end Bt

/-! The program's own check_of. -/
namespace Bt
open PySem L2
/-- the check as a number -/
def ck (xs : List Int) : Nat := hr 0 (xs ++ zs 15)
theorem ck_is (xs : List Int) (hb : Bits xs) : IsR (hn 0 (xs ++ zs 15)) (ck xs) := hr_is _ 0 0 (hb.app (zs_bits 15)) (IsR.small (by decide))
theorem ck_lt (xs : List Int) (hb : Bits xs) : ck xs < 32768 := (ck_is xs hb).1
theorem check_of_ok (xs : List Int) (hb : Bits xs) (hz : xs.length ≤ 70000) : m_check_of xs = some (bl (ck xs) 15) := by
  unfold m_check_of
  rw [repG_ok (by decide) (by decide) (by decide), bnd_some]
  have e : (List.replicate (15 : Int).toNat [(0 : Int)]).flatten = zs 15 := by decide
  rw [e, catG_ok (by simp [zs]; omega), bnd_some, rest_of_ok _ (hb.app (zs_bits 15)) (by simp [zs]; omega), bnd_some]
  show bndO (m_bits_of (ck xs : Int) ((15 : Nat) : Int)) _ = _
  rw [bits_of_ok (ck_lt xs hb) (by decide)]
  rfl
/-- the rest of bits with fifteen others behind -/
theorem hr_with (xs : List Int) (hb : Bits xs) {c : Nat} (hc : c < 32768) : hr 0 (xs ++ bl c 15) = ck xs ^^^ c := by
  have h1 := hr_is (xs ++ bl c 15) 0 0 (hb.app (bl_bits c 15)) (IsR.small (by decide))
  have h2 := hn_tail xs (bl c 15) (bl_bits c 15)
  rw [bl_len, hn_bl0 (n := 15) hc] at h2
  rw [h2] at h1
  exact IsR.uniq h1 ((ck_is xs hb).xor (IsR.small hc))
theorem hr_lt (xs : List Int) (hb : Bits xs) : hr 0 xs < 32768 := (hr_is xs 0 0 hb (IsR.small (by decide))).1
end Bt

/-! The program's own frame_bits. -/
set_option maxRecDepth 100000
namespace Bt
open PySem L2
def bs (D : List Nat) : List Int := (D.map fun d => bl d 8).flatten
theorem bs_bits (D : List Nat) : Bits (bs D) := fun b hb => by
  obtain ⟨l, hl, hb⟩ := List.mem_flatten.mp hb
  obtain ⟨d, _, rfl⟩ := List.mem_map.mp hl
  exact bl_bits _ _ b hb
theorem bs_len : ∀ D : List Nat, (bs D).length = 8 * D.length
  | [] => rfl
  | d :: r => by
    show (bl d 8 ++ bs r).length = _
    rw [List.length_append, bl_len, bs_len r, List.length_cons]
    omega
def hd (name : Nat) (D : List Nat) : List Int := [0] ++ bl name 8 ++ bl D.length 3 ++ bs D
theorem hd_bits (name : Nat) (D : List Nat) : Bits (hd name D) := (((Bits.one (.inl rfl)).app (bl_bits _ _)).app (bl_bits _ _)).app (bs_bits D)
theorem hd_len (name : Nat) (D : List Nat) : (hd name D).length = 12 + 8 * D.length := by
  unfold hd
  rw [List.length_append, List.length_append, List.length_append, bl_len, bl_len, bs_len]
  simp only [List.length_cons, List.length_nil]
def fb (name : Nat) (D : List Nat) : List Int := hd name D ++ bl (ck (hd name D)) 15
theorem fb_bits (name : Nat) (D : List Nat) : Bits (fb name D) := (hd_bits name D).app (bl_bits _ _)
theorem fb_len (name : Nat) (D : List Nat) : (fb name D).length = 27 + 8 * D.length := by
  unfold fb
  rw [List.length_append, hd_len, bl_len]
  omega
theorem fb_rest (name : Nat) (D : List Nat) : hr 0 (fb name D) = 0 := by
  unfold fb
  rw [hr_with _ (hd_bits name D) (ck_lt _ (hd_bits name D)), Nat.xor_self]
theorem frame_step {b : Nat} (hb : b < 256) (bits : List Int) (hz : bits.length ≤ 10000) : m_frame_bits_L0 b bits = some (.nx (bits ++ bl b 8)) := by
  unfold m_frame_bits_L0
  rw [decide_eq_false (show ¬ (b : Int) < 0 by omega), decide_eq_false (show ¬ (255 : Int) < (b : Int) by omega), Bool.or_false, ifB_f]
  have e := bits_of_ok (n := 8) hb (by decide)
  rw [show (8 : Int) = ((8 : Nat) : Int) from rfl, e]
  show bnd (catG bits (bl b 8)) _ = _
  rw [catG_ok (by rw [bl_len]; omega), bnd_some]
theorem frame_loop : ∀ (D : List Nat) (bits : List Int), (∀ d ∈ D, d < 256) → bits.length + 8 * D.length ≤ 10000 → loopF (fun b s => m_frame_bits_L0 b s) (ci D) bits = some (.nx (bits ++ bs D))
  | [], bits, _, _ => by rw [show bs [] = [] from rfl, List.append_nil]; rfl
  | d :: r, bits, h, hz => by
    simp only [List.length_cons] at hz
    show loopF _ ((d : Int) :: ci r) _ = _
    rw [loopF_go (frame_step (h d (List.Mem.head _)) bits (by omega)), frame_loop r (bits ++ bl d 8) (fun z hz => h z (List.Mem.tail _ hz)) (by rw [List.length_append, bl_len]; omega), List.append_assoc]
    rfl
theorem frame_start {name n : Nat} (hn : name < 256) (hl : n < 8) {β : Type} (f : List Int → Option (Rs β)) :
    (bndR (m_bits_of (name : Int) (8 : Int)) fun a => bnd (catG [(0 : Int)] a) fun b => bndR (m_bits_of (n : Int) (3 : Int)) fun c => bnd (catG b c) f) = f ([0] ++ bl name 8 ++ bl n 3) := by
  have e1 := bits_of_ok (n := 8) hn (by decide)
  have e2 := bits_of_ok (n := 3) (c := n) (by omega) (by decide)
  rw [show (8 : Int) = ((8 : Nat) : Int) from rfl, e1, show (3 : Int) = ((3 : Nat) : Int) from rfl, e2, bndR_ok, catG_ok (by rw [bl_len]; decide), bnd_some, bndR_ok, catG_ok (by rw [List.length_append, bl_len, bl_len]; decide), bnd_some]
theorem frame_ok (name : Nat) (D : List Nat) (hn : name < 256) (hD : ∀ d ∈ D, d < 256) (hl : D.length ≤ 7) : m_frame_bits name (ci D) = some (.ok (fb name D)) := by
  unfold m_frame_bits m_is_name
  rw [bnd_some, decide_eq_true (show (0 : Int) ≤ (name : Int) by omega), decide_eq_true (show (name : Int) ≤ 255 by omega), ci_len, decide_eq_false (show ¬ (7 : Int) < (D.length : Int) by omega)]
  show (bndR _ _) = _
  rw [frame_start hn (by omega), frame_loop D _ hD (by simp [bl_len]; omega), fin_nx]
  show bnd (m_check_of (hd name D)) _ = _
  have hz := hd_len name D
  rw [check_of_ok _ (hd_bits name D) (by omega), bnd_some, catG_ok (by unfold hd at hz; rw [bl_len]; omega), bnd_some]
  rfl
theorem no_name {x : Int} (h : x < 0 ∨ 255 < x) (xs : List Int) : m_frame_bits x xs = some (.er .NoFrame) := by
  unfold m_frame_bits m_is_name
  have e : (decide ((0 : Int) ≤ x) && decide (x ≤ (255 : Int))) = false := by
    rw [Bool.and_eq_false_iff, decide_eq_false_iff_not, decide_eq_false_iff_not]
    omega
  rw [bnd_some, e]
  rfl
theorem too_many (x : Int) {xs : List Int} (h : 7 < xs.length) : m_frame_bits x xs = some (.er .NoFrame) := by
  unfold m_frame_bits m_is_name
  rw [bnd_some, decide_eq_true (show (7 : Int) < (xs.length : Int) by omega), Bool.or_true, ifB_t]
theorem bad_loop {x : Int} (h : x < 0 ∨ 255 < x) (post : List Int) : ∀ (D : List Nat) (bits : List Int), (∀ d ∈ D, d < 256) → bits.length + 8 * D.length ≤ 10000 → loopF (fun b s => m_frame_bits_L0 b s) (ci D ++ (x :: post)) bits = some (.rt (.er .NoFrame))
  | [], bits, _, _ => by
    show bnd (m_frame_bits_L0 x bits) (contF _) = _
    have e : m_frame_bits_L0 x bits = some (.rt (.er .NoFrame)) := by
      unfold m_frame_bits_L0
      have e : (decide (x < (0 : Int)) || decide ((255 : Int) < x)) = true := by
        rw [Bool.or_eq_true, decide_eq_true_eq, decide_eq_true_eq]
        exact h
      rw [e, ifB_t]
    rw [e]
    rfl
  | d :: r, bits, hd, hz => by
    simp only [List.length_cons] at hz
    show loopF _ ((d : Int) :: (ci r ++ (x :: post))) _ = _
    rw [loopF_go (frame_step (hd d (List.Mem.head _)) bits (by omega))]
    exact bad_loop h post r (bits ++ bl d 8) (fun z hz => hd z (List.Mem.tail _ hz)) (by rw [List.length_append, bl_len]; omega)
theorem bad_byte (name : Nat) (hn : name < 256) {x : Int} (h : x < 0 ∨ 255 < x) (D : List Nat) (post : List Int) (hD : ∀ d ∈ D, d < 256) (hl : D.length + post.length ≤ 6) : m_frame_bits name (ci D ++ (x :: post)) = some (.er .NoFrame) := by
  have hz : (ci D ++ (x :: post)).length = D.length + post.length + 1 := by rw [List.length_append, ci_len, List.length_cons]; omega
  unfold m_frame_bits m_is_name
  rw [bnd_some, decide_eq_true (show (0 : Int) ≤ (name : Int) by omega), decide_eq_true (show (name : Int) ≤ 255 by omega), hz, decide_eq_false (show ¬ (7 : Int) < ((D.length + post.length + 1 : Nat) : Int) by omega)]
  show (bndR _ _) = _
  rw [frame_start hn (by omega), bad_loop h post D _ hD (by simp [bl_len]; omega)]
  rfl
end Bt

namespace Bt
open PySem L2
theorem dn_ok (ns : List Int) (k : Int) (many : Nat) (hk : 0 ≤ k) (hk2 : k ≤ 1000000000) (hm : 0 < many) : ∃ n : Nat, m__law_draw ns k many = some (n : Int) ∧ n < many := by
  obtain ⟨v, h1, h2, h3⟩ := draw_ok ns k many hk hk2 (by omega)
  exact ⟨v.toNat, by rw [h1]; congr 1; omega, by omega⟩
end Bt

/-! The laws' own _law_frames_alike. -/
set_option maxRecDepth 100000
namespace Bt
open PySem L2
theorem alike_ok (xs : List (Int × List Int)) (h : xs.length ≤ 10) (hd : ∀ f ∈ xs, f.2.length ≤ 1000) : m__law_frames_alike xs xs = some true := by
  unfold m__law_frames_alike
  rw [decide_eq_true rfl, show (!true || !true) = false from rfl, ifB_f, rng1_ok (by omega) (by omega), bnd_some]
  have : loopF (fun k_25 (_ : Unit) => m__law_frames_alike_L0 xs xs k_25) (rangeI 0 (xs.length : Int)) () = some (.nx ()) := loopF_unit (f := fun k_25 (_ : Unit) => m__law_frames_alike_L0 xs xs k_25) fun i hi => by
    have hi := mem_rangeI hi
    obtain ⟨f, hf, hm⟩ := atI_mem (xs := xs) hi.1 hi.2
    have hl := hd f hm
    show m__law_frames_alike_L0 xs xs i = _
    unfold m__law_frames_alike_L0
    rw [hf, bnd_some, decide_eq_true (show ((2 : Nat) : Int) = 2 from rfl), show ((!true) || ((!true) || (!true))) = false from rfl, ifB_f, catG_ok (by simp; omega), bnd_some]
    rw [loopF_unit (f := fun number_67 (_ : Unit) => m__law_frames_alike_L1 number_67) (fun x _ => rfl)]
    rw [show ∀ (r : Unit → Option (Fl Unit Bool)), flo (some (.nx ())) r = r () from fun r => rfl, bnd_some, decide_eq_true (show f.1 = f.1 from rfl), show (!true) = false from rfl, ifB_f, bnd_some, decide_eq_true (show f.2 = f.2 from rfl)]
    rfl
  rw [this, fin_nx]
end Bt

set_option maxRecDepth 100000
namespace Bt
open PySem L2
theorem far_ok (ns : List Int) (k : Int) (h0 : 0 ≤ k) (h1 : k ≤ 1000) : ∃ x : Int, m__law_far ns k = some x ∧ (x < 0 ∨ 255 < x) := by
  unfold m__law_far
  have hc : ∃ c, (ifB (decide ((0 : Int) < (List.length ns : Int))) (bnd (modG k (List.length ns : Int)) fun t => bnd (atI ns t) fun e => some e) (some (0 : Int))) = some c := by
    by_cases h : (0 : Int) < (List.length ns : Int)
    · rw [decide_eq_true h, ifB_t, modG_ok h, bnd_some]
      obtain ⟨x, hx, _⟩ := atI_mem (xs := ns) (i := k % (ns.length : Int)) (Int.emod_nonneg _ (by omega)) (Int.emod_lt_of_pos _ h)
      exact ⟨x, by rw [hx]; rfl⟩
    · rw [decide_eq_false h]
      exact ⟨0, rfl⟩
  obtain ⟨c, hc⟩ := hc
  have e8 : powG 10 18 = some (10 ^ (18 : Int).toNat) := grd_of (by decide)
  obtain ⟨d, e2, d0, d1⟩ := draw_ok ns (k + 1) 4 (by omega) (by omega) (by decide)
  rw [bnd_of hc, e8, bnd_some, modG_ok (by decide), bnd_some, bnd_some, modG_ok (by decide), bnd_some, e2, bnd_some]
  have hM : 0 ≤ c % (10 : Int) ^ (18 : Int).toNat := Int.emod_nonneg _ (by decide)
  generalize c % (10 : Int) ^ (18 : Int).toNat = M at hM
  have hw : d = 0 ∨ d = 1 ∨ d = 2 ∨ d = 3 := by omega
  rcases hw with rfl | rfl | rfl | rfl
  · exact ⟨-1, rfl, by omega⟩
  · exact ⟨256, rfl, by omega⟩
  · exact ⟨256 + M, rfl, by omega⟩
  · exact ⟨-1 - M, rfl, by omega⟩
def P40 (a b v : Int) (Q : List (Int × List Int)) : S_Post := ⟨⟨(a, b), v, Q, [], ⟨0⟩⟩, ⟨0⟩⟩
theorem bad_post {a b v : Int} (h : ¬ v ∈ [(1 : Int), 3, 5] ∨ ¬ (0 ≤ a ∧ a ≤ 255) ∨ ¬ (0 ≤ b ∧ b ≤ 255)) : m__law_no_post (a, b) v = some true := by
  have e : m_Post_init (a, b) v = some (.er .NoPost) := by
    unfold m_Post_init m_is_name
    dsimp only
    by_cases hv : v ∈ [(1 : Int), 3, 5]
    · rw [decide_eq_true hv, show (!true) = false from rfl, ifB_f, bnd_some]
      by_cases ha : 0 ≤ a ∧ a ≤ 255
      · have hb : ¬ (0 ≤ b ∧ b ≤ 255) := by
          rcases h with h | h | h
          · exact absurd hv h
          · exact absurd ha h
          · exact h
        have : (decide (0 ≤ b) && decide (b ≤ 255)) = false := by
          rw [Bool.and_eq_false_iff, decide_eq_false_iff_not, decide_eq_false_iff_not]
          omega
        rw [decide_eq_true ha.1, decide_eq_true ha.2, bnd_some, this]
        rfl
      · have : (decide (0 ≤ a) && decide (a ≤ 255)) = false := by
          rw [Bool.and_eq_false_iff, decide_eq_false_iff_not, decide_eq_false_iff_not]
          omega
        rw [this]
        rfl
    · rw [decide_eq_false hv]
      rfl
  unfold m__law_no_post
  rw [e, bnd_some]
  rfl
theorem good_post {a b v : Int} (hv : v ∈ [(1 : Int), 3, 5]) (ha : 0 ≤ a ∧ a ≤ 255) (hb : 0 ≤ b ∧ b ≤ 255) : m_Post_init (a, b) v = some (.ok (P40 a b v [])) := by
  unfold m_Post_init m_is_name
  dsimp only
  rw [decide_eq_true hv, decide_eq_true ha.1, decide_eq_true ha.2, decide_eq_true hb.1, decide_eq_true hb.2]
  rfl
theorem ok_free : okD (dqT2 dqS (De.q deI)).d (("free" : Str), (0 : Int)) = some () := grd_of (by decide +kernel)
theorem new_post (a b v : Int) : m__law_new (P40 a b v []) = some true := by
  unfold m__law_new
  rw [show m_Post_stance (P40 a b v []) = some (("free" : Str), (0 : Int)) from rfl, bnd_some, ok_free]
  rfl
theorem w40 {a b v : Int} {Q : List (Int × List Int)} (h : Q.length ≤ 100) : m_Post_waits (P40 a b v Q) = some Q := by
  unfold m_Post_waits
  rw [compM_ok (f := m_Post_waits_C0) (g := fun x => x) _ _ (fun x _ => rfl) (by show ([] : List (Int × List Int)).length + Q.length ≤ _; simp; omega), bnd_some]
  show some ([] ++ Q.map fun x => x) = _
  simp
theorem bad_frame {a b v x : Int} {Q : List (Int × List Int)} {xs : List Int} (h : m_frame_bits x xs = some (.er .NoFrame)) : m__law_no_frame (P40 a b v Q) x xs = some (P40 a b v Q, true) := by
  have e : m_Post_hand (P40 a b v Q) x xs = some (.er .NoFrame) := by
    unfold m_Post_hand
    rw [h, bndR_er]
  unfold m__law_no_frame
  rw [e, bnd_some]
  rfl
theorem data_ok (ns : List Int) (base : Int) (h0 : 0 ≤ base) (h1 : base ≤ 10000) : ∃ D : List Nat, m__law_data ns base = some (ci D) ∧ D.length ≤ 7 ∧ ∀ d ∈ D, d < 256 := by
  unfold m__law_data
  obtain ⟨m, e1, hm⟩ := dn_ok ns base 8 h0 (by omega) (by decide)
  rw [show ((8 : Nat) : Int) = 8 from rfl] at e1
  rw [e1, bnd_some, rng1_ok (by omega) (by omega), bnd_some]
  obtain ⟨ys, e2, e3, e4⟩ := compM_all (f := m__law_data_C0 ns base) (P := fun y => ∃ n : Nat, y = (n : Int) ∧ n < 256) (rangeI 0 (m : Int)) [] (fun k hk => by
    have := mem_rangeI hk
    obtain ⟨n, g1, g2⟩ := dn_ok ns (base + 1 + k) 256 (by omega) (by omega) (by decide)
    rw [show ((256 : Nat) : Int) = 256 from rfl] at g1
    unfold m__law_data_C0
    rw [g1]
    exact ⟨_, rfl, n, rfl, g2⟩) (by rw [rangeI_length]; simp; omega) (fun _ h => nomatch h)
  obtain ⟨D, rfl, hD⟩ := ci_of ys 256 e4
  rw [ci_len, rangeI_length] at e3
  rw [e2, bnd_some]
  exact ⟨D, rfl, by simp at e3; omega, hD⟩
theorem take_nat {α : Type} (xs : List α) (n : Nat) : cutL xs none (some (n : Int)) = xs.take n := by
  unfold cutL
  rw [show HT.sIx xs.length 0 none = 0 from rfl, HT.sIx_nat, List.drop_zero, Nat.sub_zero]
  by_cases h : n ≤ xs.length
  · rw [Nat.min_eq_left h]
  · rw [Nat.min_eq_right (by omega), List.take_of_length_le (Nat.le_refl _), List.take_of_length_le (by omega)]
theorem spoiled_ok (ns : List Int) (a b v base : Int) (Q : List (Int × List Int)) (n : Nat) (D : List Nat) (h0 : 0 ≤ base) (h1 : base ≤ 900) (hn : n < 256) (hD : ∀ d ∈ D, d < 256) : m__law_spoiled ns (P40 a b v Q) base ((n : Int), ci D) = some (P40 a b v Q, true) := by
  unfold m__law_spoiled
  obtain ⟨w, e1, hw⟩ := dn_ok ns base 3 h0 (by omega) (by decide)
  rw [show ((3 : Nat) : Int) = 3 from rfl] at e1
  rw [e1, bnd_some]
  dsimp only
  by_cases c0 : w = 0
  · obtain ⟨x, e2, hx⟩ := far_ok ns (base + 1) (by omega) (by omega)
    rw [decide_eq_true (show (w : Int) = 0 by omega), ifB_t, e2, bnd_some, bad_frame (no_name hx _), bnd_some]
  · rw [decide_eq_false (show ¬ (w : Int) = 0 by omega), ifB_f]
    by_cases c1 : w = 1
    · rw [decide_eq_true (show (w : Int) = 1 by omega), ifB_t, rng1_ok (by omega) (by omega), bnd_some]
      obtain ⟨ys, g2, g3, _⟩ := compM_all (f := m__law_spoiled_C0 ns base) (P := fun _ => True) (rangeI 0 (8 + base % 5)) [] (fun k hk => by
        have := mem_rangeI hk
        obtain ⟨x, g1, _⟩ := dn_ok ns (base + k) 256 (by omega) (by omega) (by decide)
        rw [show ((256 : Nat) : Int) = 256 from rfl] at g1
        unfold m__law_spoiled_C0
        rw [g1]
        exact ⟨_, rfl, trivial⟩) (by rw [rangeI_length]; simp; omega) (fun _ h => nomatch h)
      rw [rangeI_length] at g3
      rw [g2, bnd_some, bad_frame (too_many _ (by rw [g3]; simp; omega)), bnd_some]
    · rw [decide_eq_false (show ¬ (w : Int) = 1 by omega), ifB_f]
      rw [show (6 : Int) = ((6 : Nat) : Int) from rfl, take_nat]
      have ht : (ci D).take 6 = ci (D.take 6) := by simp [ci, List.map_take]
      rw [ht]
      have hF : ∀ d ∈ D.take 6, d < 256 := fun d hd => hD d (List.mem_of_mem_take hd)
      have hlF : (D.take 6).length ≤ 6 := by rw [List.length_take]; omega
      generalize D.take 6 = F at hF hlF
      obtain ⟨i, g1, hi⟩ := dn_ok ns (base + 3) (F.length + 1) (by omega) (by omega) (by omega)
      obtain ⟨y, g2, hy⟩ := far_ok ns (base + 4) (by omega) (by omega)
      rw [show ((F.length + 1 : Nat) : Int) = ((ci F).length : Int) + 1 by rw [ci_len]; omega] at g1
      have g3 : insG (ci F) (i : Int) y = some ((ci F).take i ++ [y] ++ (ci F).drop i) := grd_of ⟨by rw [ci_len]; show _ < 16777216; omega, by omega, by omega⟩
      have e9 : (ci F).take i ++ [y] ++ (ci F).drop i = ci (F.take i) ++ (y :: (ci F).drop i) := by
        rw [List.append_assoc]
        simp [ci, List.map_take]
      rw [g1, bnd_some, g2, bnd_some, g3, bnd_some, e9, bad_frame (bad_byte n hn hy (F.take i) _ (fun d hd => hF d (List.mem_of_mem_take hd)) (by rw [List.length_take, List.length_drop, ci_len]; omega)), bnd_some]
theorem law_true (ns : List Int) (hn : ns.length ≤ 63) : m_law ns = some true := by
  unfold m_law
  obtain ⟨a, e1, a0, a1⟩ := draw_ok ns 0 256 (by decide) (by decide) (by decide)
  obtain ⟨b, e2, b0, b1⟩ := draw_ok ns 1 256 (by decide) (by decide) (by decide)
  obtain ⟨c, e3, c0, c1⟩ := draw_ok ns 2 3 (by decide) (by decide) (by decide)
  obtain ⟨v, e4, hv⟩ := atI_mem (xs := [(1 : Int), 3, 5]) c0 c1
  obtain ⟨x, e5, hx⟩ := far_ok ns 3 (by decide) (by decide)
  obtain ⟨y, e6, hy⟩ := far_ok ns 5 (by decide) (by decide)
  obtain ⟨z, e7, hz⟩ := far_ok ns 7 (by decide) (by decide)
  obtain ⟨d, e8, d0, d1⟩ := draw_ok ns 9 5 (by decide) (by decide) (by decide)
  obtain ⟨u, e9, hu⟩ : ∃ u, atI ([(0 : Int), (2 : Int), (4 : Int), (6 : Int), z]) d = some u ∧ ¬ u ∈ [(1 : Int), 3, 5] := by
    have : d = 0 ∨ d = 1 ∨ d = 2 ∨ d = 3 ∨ d = 4 := by omega
    rcases this with rfl | rfl | rfl | rfl | rfl
    · exact ⟨0, rfl, by decide⟩
    · exact ⟨2, rfl, by decide⟩
    · exact ⟨4, rfl, by decide⟩
    · exact ⟨6, rfl, by decide⟩
    · exact ⟨z, rfl, by simp; omega⟩
  rw [e1, bnd_some, e2, bnd_some, e3, bnd_some, e4, bnd_some, e5, bnd_some, bad_post (.inr (.inl (by omega))), bnd_some, show (!true) = false from rfl, ifB_f, e6, bnd_some, bad_post (.inr (.inr (by omega))), bnd_some, show (!true) = false from rfl, ifB_f, e7, bnd_some, e8, bnd_some, e9, bnd_some, bad_post (.inl hu), bnd_some, show (!true) = false from rfl, ifB_f]
  rw [good_post hv ⟨a0, by omega⟩ ⟨b0, by omega⟩, bndO_ok, new_post, bnd_some, show (!true) = false from rfl, ifB_f, rng1_ok (by decide) (by decide), bnd_some]
  obtain ⟨s, f1, Q, hs, hQl, hQd⟩ := loopF_rng (f := fun k_72 (s : S_Post × List (Int × List Int)) => m_law_L0 ns k_72 s.1 s.2) (hi := (3 : Int)) (fun i s => ∃ Q : List (Int × List Int), s = (P40 a b v Q, Q) ∧ (Q.length : Int) = i ∧ ∀ f ∈ Q, f.2.length ≤ 1000) (by
    rintro i s hi ⟨Q, rfl, hl, hd⟩
    dsimp only
    unfold m_law_L0
    obtain ⟨n, g1, hn'⟩ := dn_ok ns (20 + i) 256 (by omega) (by omega) (by decide)
    rw [show ((256 : Nat) : Int) = 256 from rfl] at g1
    obtain ⟨D, g2, hDl, hD⟩ := data_ok ns (30 + 10 * i) (by omega) (by omega)
    have hd2 : ∀ f ∈ Q ++ [((n : Int), ci D)], f.2.length ≤ 1000 := fun f hf => by
      rcases List.mem_append.mp hf with h | h
      · exact hd f h
      · rw [List.mem_singleton.mp h]; show (ci D).length ≤ 1000; rw [ci_len]; omega
    have hci : (ci D).length ≤ 7 := by rw [ci_len]; exact hDl
    have hhand : m_Post_hand (P40 a b v Q) (n : Int) (ci D) = some (.ok (P40 a b v (Q ++ [((n : Int), ci D)]))) := by
      unfold m_Post_hand
      rw [frame_ok n D hn' hD hDl, bndR_ok, appG_ok (by show Q.length < 16777216; omega), bnd_some]
      rfl
    have hsay : m_Post_says (P40 a b v (Q ++ [((n : Int), ci D)])) = some 0 := by
      unfold m_Post_says m_Free_says
      rw [show (P40 a b v (Q ++ [((n : Int), ci D)])).keep.queue = Q ++ [((n : Int), ci D)] from rfl, decide_eq_false (by simp; omega)]
      rfl
    have hat : atI (Q ++ [((n : Int), ci D)]) i = some ((n : Int), ci D) := by
      rw [atI_ok (by omega) (by rw [List.length_append, List.length_singleton]; omega), List.getElem?_append_right (by omega), show i.toNat - Q.length = 0 by omega]
      rfl
    obtain ⟨p1, p2, hpop⟩ : ∃ p1 p2, popA (Q ++ [((n : Int), ci D)]) (0 : Int) = some (p1, p2) := by
      cases hQ : Q ++ [((n : Int), ci D)] with
      | nil => simp at hQ
      | cons q r =>
        refine ⟨q, r, ?_⟩
        have hlr : (q :: r).length ≤ 10 := by rw [← hQ, List.length_append, List.length_singleton]; omega
        unfold popA grd
        rw [if_pos (by omega), bnd_some, show ixN (q :: r).length (0 : Int) = some 0 by unfold ixN; rw [if_pos (Int.le_refl _), if_pos (by rw [List.length_cons]; omega)]; rfl, bnd_some]
        rfl
    rw [g1, bnd_some, g2, bnd_some, spoiled_ok ns a b v (60 + 11 * i) Q n D (by omega) (by omega) hn' hD, bnd_some]
    dsimp only
    rw [show (!true) = false from rfl, ifB_f, w40 (by omega), bnd_some, alike_ok Q (by omega) hd, bnd_some, bnd_some, show (!true) = false from rfl, ifB_f, hhand, bndO_ok, decide_eq_true (show ci D = ci D from rfl), show (!true) = false from rfl, ifB_f, appG_ok (by omega), bnd_some, appG_ok (by omega), bnd_some, w40 (by rw [List.length_append, List.length_singleton]; omega), bnd_some, alike_ok _ (by rw [List.length_append, List.length_singleton]; omega) hd2, bnd_some, show (!true) = false from rfl, ifB_f, hsay, bnd_some, show (decide ((0 : Int) = 0)) = true from rfl, show (!true) = false from rfl, ifB_f]
    rw [show m_Post_stance (P40 a b v (Q ++ [((n : Int), ci D)])) = some (("free" : Str), (0 : Int)) from rfl, bnd_some, ok_free, bnd_some, bnd_some, decide_eq_true (show ((("free" : Str), (0 : Int)) : Str × Int) = (("free" : Str), (0 : Int)) from rfl), show (!true) = false from rfl, bnd_some, bnd_some, ifB_f, hat, bnd_some]
    dsimp only
    rw [appG_ok (by omega), bnd_some, hpop, bnd_some]
    exact ⟨_, rfl, Q ++ [((n : Int), ci D)], rfl, by rw [List.length_append, List.length_singleton]; omega, hd2⟩) 3 0 (P40 a b v [], ([] : List (Int × List Int))) (by decide) (by decide) ⟨[], rfl, rfl, (fun _ h => nomatch h)⟩
  subst hs
  rw [f1, fin_nx]
  dsimp only
  rw [w40 (by omega), bnd_some, alike_ok Q (by omega) hQd, bnd_some, ifB_t, bndO_ok, new_post, bnd_some, ifB_t]
  rfl
end Bt

open PySem PySem.W PyProof.Rows in
set_option maxRecDepth 100000 in
set_option maxHeartbeats 0 in
theorem PySem.Challenge.cw_bitrail_k40_posts_and_frames_refused_holds : PySem.Challenge.rw_bitrail_k40_posts_and_frames_refused.Holds := by
  w_on; o_law; k_head; (case hw => w_witness2)
  k_fill
  refine Bt.walk Bt.law_true (l := PySem.Challenge.rw_bitrail_k40_posts_and_frames_refused) rfl rfl (fun w h Y => PySem.W.kIn_of Y) ?F
  case F =>
    intro w mg fa h KX G hmg
    obtain ⟨f_is_name, fd_is_name, F_is_name, g_is_name⟩ : ∃ f fd, L2.Fun _ "is_name" "is_name" Bt.s_is_name f fd ∧ mg "is_name" = some (.ref f) := by
      refine' Bt.def_mk KX G ?a ?l ?c ?k
      (case a => k_is)
      (case l => k_is)
      (case c => k_is)
      (case k => k_is)
    obtain ⟨f__law_draw, fd__law_draw, F__law_draw, g__law_draw⟩ : ∃ f fd, L2.Fun _ "_law_draw" "_law_draw" Bt.s__law_draw f fd ∧ mg "_law_draw" = some (.ref f) := by
      refine' Bt.def_mk KX G ?a ?l ?c ?k
      (case a => k_is)
      (case l => k_is)
      (case c => k_is)
      (case k => k_is)
    obtain ⟨f__law_is_other, fd__law_is_other, F__law_is_other, g__law_is_other⟩ : ∃ f fd, L2.Fun _ "_law_is_other" "_law_is_other" Bt.s__law_is_other f fd ∧ mg "_law_is_other" = some (.ref f) := by
      refine' Bt.def_mk KX G ?a ?l ?c ?k
      (case a => k_is)
      (case l => k_is)
      (case c => k_is)
      (case k => k_is)
    obtain ⟨f__law_no_post, fd__law_no_post, F__law_no_post, g__law_no_post⟩ : ∃ f fd, L2.Fun _ "_law_no_post" "_law_no_post" Bt.s__law_no_post f fd ∧ mg "_law_no_post" = some (.ref f) := by
      refine' Bt.def_mk KX G ?a ?l ?c ?k
      (case a => k_is)
      (case l => k_is)
      (case c => k_is)
      (case k => k_is)
    obtain ⟨f__law_new, fd__law_new, F__law_new, g__law_new⟩ : ∃ f fd, L2.Fun _ "_law_new" "_law_new" Bt.s__law_new f fd ∧ mg "_law_new" = some (.ref f) := by
      refine' Bt.def_mk KX G ?a ?l ?c ?k
      (case a => k_is)
      (case l => k_is)
      (case c => k_is)
      (case k => k_is)
    obtain ⟨f_bits_of, fd_bits_of, F_bits_of, g_bits_of⟩ : ∃ f fd, L2.Fun _ "bits_of" "bits_of" Bt.s_bits_of f fd ∧ mg "bits_of" = some (.ref f) := by
      refine' Bt.def_mk KX G ?a ?l ?c ?k
      (case a => k_is)
      (case l => k_is)
      (case c => k_is)
      (case k => k_is)
    obtain ⟨f_divided, fd_divided, F_divided, g_divided⟩ : ∃ f fd, L2.Fun _ "divided" "divided" Bt.s_divided f fd ∧ mg "divided" = some (.ref f) := by
      refine' Bt.def_mk KX G ?a ?l ?c ?k
      (case a => k_is)
      (case l => k_is)
      (case c => k_is)
      (case k => k_is)
    obtain ⟨f_number_of, fd_number_of, F_number_of, g_number_of⟩ : ∃ f fd, L2.Fun _ "number_of" "number_of" Bt.s_number_of f fd ∧ mg "number_of" = some (.ref f) := by
      refine' Bt.def_mk KX G ?a ?l ?c ?k
      (case a => k_is)
      (case l => k_is)
      (case c => k_is)
      (case k => k_is)
    obtain ⟨f_rest_of, fd_rest_of, F_rest_of, g_rest_of⟩ : ∃ f fd, L2.Fun _ "rest_of" "rest_of" Bt.s_rest_of f fd ∧ mg "rest_of" = some (.ref f) := by
      refine' Bt.def_mk KX G ?a ?l ?c ?k
      (case a => k_is)
      (case l => k_is)
      (case c => k_is)
      (case k => k_is)
    obtain ⟨f_check_of, fd_check_of, F_check_of, g_check_of⟩ : ∃ f fd, L2.Fun _ "check_of" "check_of" Bt.s_check_of f fd ∧ mg "check_of" = some (.ref f) := by
      refine' Bt.def_mk KX G ?a ?l ?c ?k
      (case a => k_is)
      (case l => k_is)
      (case c => k_is)
      (case k => k_is)
    obtain ⟨f_frame_bits, fd_frame_bits, F_frame_bits, g_frame_bits⟩ : ∃ f fd, L2.Fun _ "frame_bits" "frame_bits" Bt.s_frame_bits f fd ∧ mg "frame_bits" = some (.ref f) := by
      refine' Bt.def_mk KX G ?a ?l ?c ?k
      (case a => k_is)
      (case l => k_is)
      (case c => k_is)
      (case k => k_is)
    obtain ⟨f__law_frames_alike, fd__law_frames_alike, F__law_frames_alike, g__law_frames_alike⟩ : ∃ f fd, L2.Fun _ "_law_frames_alike" "_law_frames_alike" Bt.s__law_frames_alike f fd ∧ mg "_law_frames_alike" = some (.ref f) := by
      refine' Bt.def_mk KX G ?a ?l ?c ?k
      (case a => k_is)
      (case l => k_is)
      (case c => k_is)
      (case k => k_is)
    obtain ⟨f__law_far, fd__law_far, F__law_far, g__law_far⟩ : ∃ f fd, L2.Fun _ "_law_far" "_law_far" Bt.s__law_far f fd ∧ mg "_law_far" = some (.ref f) := by
      refine' Bt.def_mk KX G ?a ?l ?c ?k
      (case a => k_is)
      (case l => k_is)
      (case c => k_is)
      (case k => k_is)
    obtain ⟨f__law_data, fd__law_data, F__law_data, g__law_data⟩ : ∃ f fd, L2.Fun _ "_law_data" "_law_data" Bt.s__law_data f fd ∧ mg "_law_data" = some (.ref f) := by
      refine' Bt.def_mk KX G ?a ?l ?c ?k
      (case a => k_is)
      (case l => k_is)
      (case c => k_is)
      (case k => k_is)
    obtain ⟨f__law_no_frame, fd__law_no_frame, F__law_no_frame, g__law_no_frame⟩ : ∃ f fd, L2.Fun _ "_law_no_frame" "_law_no_frame" Bt.s__law_no_frame f fd ∧ mg "_law_no_frame" = some (.ref f) := by
      refine' Bt.def_mk KX G ?a ?l ?c ?k
      (case a => k_is)
      (case l => k_is)
      (case c => k_is)
      (case k => k_is)
    obtain ⟨f__law_spoiled, fd__law_spoiled, F__law_spoiled, g__law_spoiled⟩ : ∃ f fd, L2.Fun _ "_law_spoiled" "_law_spoiled" Bt.s__law_spoiled f fd ∧ mg "_law_spoiled" = some (.ref f) := by
      refine' Bt.def_mk KX G ?a ?l ?c ?k
      (case a => k_is)
      (case l => k_is)
      (case c => k_is)
      (case k => k_is)
    obtain ⟨f_law, fd_law, F_law, g_law⟩ : ∃ f fd, L2.Fun _ "law" "law" Bt.s_law f fd ∧ mg "law" = some (.ref f) := by
      refine' Bt.def_mk KX G ?a ?l ?c ?k
      (case a => k_is)
      (case l => k_is)
      (case c => k_is)
      (case k => k_is)
    have z_ValueError : mg "ValueError" = none := PySem.W.mg_none_of KX G (by k_is)
    have z_bool : mg "bool" = none := PySem.W.mg_none_of KX G (by k_is)
    have z_int : mg "int" = none := PySem.W.mg_none_of KX G (by k_is)
    have z_isinstance : mg "isinstance" = none := PySem.W.mg_none_of KX G (by k_is)
    have z_len : mg "len" = none := PySem.W.mg_none_of KX G (by k_is)
    have z_list : mg "list" = none := PySem.W.mg_none_of KX G (by k_is)
    have z_range : mg "range" = none := PySem.W.mg_none_of KX G (by k_is)
    have z_tuple : mg "tuple" = none := PySem.W.mg_none_of KX G (by k_is)
    obtain ⟨k_VOTES, g_VOTES, q_VOTES⟩ : ∃ a, Bt.Gv mg "VOTES" (.ref a) ∧ ∀ H, L2.SqT _ H a (([1, 3, 5] : List Int).map L2.V.int) := by
      refine' Bt.gv_tup KX G ?a ?l ?s ?v
      (case a => k_is)
      (case l => k_is)
      (case s => decide +kernel)
      (case v => exact .cons ⟨_, rfl⟩ (.cons ⟨_, rfl⟩ (.cons ⟨_, rfl⟩ (.nil))))
    have g_KEY : Bt.Gv mg "KEY" (.int 64647) := by
      refine' Bt.gv_int KX G ?a
      (case a => k_is)
    have g_OFF : Bt.Gv mg "OFF" (.int 18) := by
      refine' Bt.gv_int KX G ?a
      (case a => k_is)
    have g_PATIENCE : Bt.Gv mg "PATIENCE" (.int 8) := by
      refine' Bt.gv_int KX G ?a
      (case a => k_is)
    have g_QUIET : Bt.Gv mg "QUIET" (.int 12) := by
      refine' Bt.gv_int KX G ?a
      (case a => k_is)
    have g_WIDE : Bt.Gv mg "WIDE" (.int 15) := by
      refine' Bt.gv_int KX G ?a
      (case a => k_is)
    obtain ⟨c_Count, c_Keep, c_Free, c_Post, f_Count_init, f_Keep_init, f_Free_init, f_Post_init, f_Count_number, f_Post_faults, f_Free_called, f_Post_stance, f_Post_waits, f_Post_got, f_Count_is_quiet, f_Free_says, f_Post_says, f_Post_is_quiet, f_Count_is_off, f_Post_is_off, f_Post_hand, fd_Count_init, fd_Keep_init, fd_Free_init, fd_Post_init, fd_Count_number, fd_Post_faults, fd_Free_called, fd_Post_stance, fd_Post_waits, fd_Post_got, fd_Count_is_quiet, fd_Free_says, fd_Post_says, fd_Post_is_quiet, fd_Count_is_off, fd_Post_is_off, fd_Post_hand, C_Count, C_Keep, C_Free, C_Post, N_Count_tally, N_Free_keep, N_Free_many, N_Keep_choice, N_Keep_count, N_Keep_handed_up, N_Keep_queue, N_Keep_votes, N_Post_keep, N_Post_now, F_Count_init, F_Keep_init, F_Free_init, F_Post_init, F_Count_number, F_Post_faults, F_Free_called, F_Post_stance, F_Post_waits, F_Post_got, F_Count_is_quiet, F_Free_says, F_Post_says, F_Post_is_quiet, F_Count_is_off, F_Post_is_off, F_Post_hand, M_Count_is_off, M_Count_is_quiet, M_Count_number, M_Free_called, M_Free_says, M_Post_faults, M_Post_got, M_Post_hand, M_Post_is_off, M_Post_is_quiet, M_Post_says, M_Post_stance, M_Post_waits, K_Count, k_Count, K_Free, k_Free, K_Keep, k_Keep, K_Post, k_Post⟩ : ∃ (c_Count c_Keep c_Free c_Post f_Count_init f_Keep_init f_Free_init f_Post_init f_Count_number f_Post_faults f_Free_called f_Post_stance f_Post_waits f_Post_got f_Count_is_quiet f_Free_says f_Post_says f_Post_is_quiet f_Count_is_off f_Post_is_off f_Post_hand : Addr) (fd_Count_init fd_Keep_init fd_Free_init fd_Post_init fd_Count_number fd_Post_faults fd_Free_called fd_Post_stance fd_Post_waits fd_Post_got fd_Count_is_quiet fd_Free_says fd_Post_says fd_Post_is_quiet fd_Count_is_off fd_Post_is_off fd_Post_hand : FuncData), L2.Cls _ c_Count ∧ L2.Cls _ c_Keep ∧ L2.Cls _ c_Free ∧ L2.Cls _ c_Post ∧ L2.NoAttr _ c_Count "tally" ∧ L2.NoAttr _ c_Free "keep" ∧ L2.NoAttr _ c_Free "many" ∧ L2.NoAttr _ c_Keep "choice" ∧ L2.NoAttr _ c_Keep "count" ∧ L2.NoAttr _ c_Keep "handed_up" ∧ L2.NoAttr _ c_Keep "queue" ∧ L2.NoAttr _ c_Keep "votes" ∧ L2.NoAttr _ c_Post "keep" ∧ L2.NoAttr _ c_Post "now" ∧ L2.Fun _ "__init__" "Count.__init__" Bt.s_Count_init f_Count_init fd_Count_init ∧ L2.Fun _ "__init__" "Keep.__init__" Bt.s_Keep_init f_Keep_init fd_Keep_init ∧ L2.Fun _ "__init__" "Stance.__init__" Bt.s_Free_init f_Free_init fd_Free_init ∧ L2.Fun _ "__init__" "Post.__init__" Bt.s_Post_init f_Post_init fd_Post_init ∧ L2.Fun _ "number" "Count.number" Bt.s_Count_number f_Count_number fd_Count_number ∧ L2.Fun _ "faults" "Post.faults" Bt.s_Post_faults f_Post_faults fd_Post_faults ∧ L2.Fun _ "called" "Stance.called" Bt.s_Free_called f_Free_called fd_Free_called ∧ L2.Fun _ "stance" "Post.stance" Bt.s_Post_stance f_Post_stance fd_Post_stance ∧ L2.Fun _ "waits" "Post.waits" Bt.s_Post_waits f_Post_waits fd_Post_waits ∧ L2.Fun _ "got" "Post.got" Bt.s_Post_got f_Post_got fd_Post_got ∧ L2.Fun _ "is_quiet" "Count.is_quiet" Bt.s_Count_is_quiet f_Count_is_quiet fd_Count_is_quiet ∧ L2.Fun _ "says" "Free.says" Bt.s_Free_says f_Free_says fd_Free_says ∧ L2.Fun _ "says" "Post.says" Bt.s_Post_says f_Post_says fd_Post_says ∧ L2.Fun _ "is_quiet" "Post.is_quiet" Bt.s_Post_is_quiet f_Post_is_quiet fd_Post_is_quiet ∧ L2.Fun _ "is_off" "Count.is_off" Bt.s_Count_is_off f_Count_is_off fd_Count_is_off ∧ L2.Fun _ "is_off" "Post.is_off" Bt.s_Post_is_off f_Post_is_off fd_Post_is_off ∧ L2.Fun _ "hand" "Post.hand" Bt.s_Post_hand f_Post_hand fd_Post_hand ∧ L2.Meth _ c_Count "is_off" f_Count_is_off ∧ L2.Meth _ c_Count "is_quiet" f_Count_is_quiet ∧ L2.Meth _ c_Count "number" f_Count_number ∧ L2.Meth _ c_Free "called" f_Free_called ∧ L2.Meth _ c_Free "says" f_Free_says ∧ L2.Meth _ c_Post "faults" f_Post_faults ∧ L2.Meth _ c_Post "got" f_Post_got ∧ L2.Meth _ c_Post "hand" f_Post_hand ∧ L2.Meth _ c_Post "is_off" f_Post_is_off ∧ L2.Meth _ c_Post "is_quiet" f_Post_is_quiet ∧ L2.Meth _ c_Post "says" f_Post_says ∧ L2.Meth _ c_Post "stance" f_Post_stance ∧ L2.Meth _ c_Post "waits" f_Post_waits ∧ L2.Mk _ c_Count f_Count_init ∧ mg "Count" = some (.ref c_Count) ∧ L2.Mk _ c_Free f_Free_init ∧ mg "Free" = some (.ref c_Free) ∧ L2.Mk _ c_Keep f_Keep_init ∧ mg "Keep" = some (.ref c_Keep) ∧ L2.Mk _ c_Post f_Post_init ∧ mg "Post" = some (.ref c_Post) := by
      refine' Bt.packc KX G ?a_Count ?pg_Count ?hd_Count ?po_Count ?sa_Count ?a_Keep ?pg_Keep ?hd_Keep ?po_Keep ?sa_Keep ?a_Free ?pg_Free ?hd_Free ?po_Free ?sa_Free ?a_Post ?pg_Post ?hd_Post ?po_Post ?sa_Post ?n_Count_tally ?n_Free_keep ?n_Free_many ?n_Keep_choice ?n_Keep_count ?n_Keep_handed_up ?n_Keep_queue ?n_Keep_votes ?n_Post_keep ?n_Post_now ?mf_0 ?mf_1 ?mf_2 ?mf_3 ?mf_4 ?mf_5 ?mf_6 ?mf_7 ?mf_8 ?mf_9 ?mf_10 ?mf_11 ?mf_12 ?mf_13 ?mf_14 ?mf_15 ?mf_16 ?mk_Count ?kc_Count ?mk_Free ?kc_Free ?mk_Keep ?kc_Keep ?mk_Post ?kc_Post
      (case a_Count => k_is)
      (case pg_Count => k_is)
      (case hd_Count => k_is)
      (case po_Count => k_is)
      (case sa_Count => k_is)
      (case a_Keep => k_is)
      (case pg_Keep => k_is)
      (case hd_Keep => k_is)
      (case po_Keep => k_is)
      (case sa_Keep => k_is)
      (case a_Free => k_is)
      (case pg_Free => k_is)
      (case hd_Free => k_is)
      (case po_Free => k_is)
      (case sa_Free => k_is)
      (case a_Post => k_is)
      (case pg_Post => k_is)
      (case hd_Post => k_is)
      (case po_Post => k_is)
      (case sa_Post => k_is)
      (case n_Count_tally => k_is)
      (case n_Free_keep => k_is)
      (case n_Free_many => k_is)
      (case n_Keep_choice => k_is)
      (case n_Keep_count => k_is)
      (case n_Keep_handed_up => k_is)
      (case n_Keep_queue => k_is)
      (case n_Keep_votes => k_is)
      (case n_Post_keep => k_is)
      (case n_Post_now => k_is)
      (case mf_0 => exact ⟨by k_is, by k_is, ⟨_, _, _, _, _, _, _, _, _, by k_is, by k_is⟩, by k_is⟩)
      (case mf_1 => exact ⟨by k_is, by k_is, ⟨_, _, _, _, _, _, _, _, _, by k_is, by k_is⟩, by k_is⟩)
      (case mf_2 => exact ⟨by k_is, by k_is, ⟨_, _, _, _, _, _, _, _, _, by k_is, by k_is⟩, by k_is⟩)
      (case mf_3 => exact ⟨by k_is, by k_is, ⟨_, _, _, _, _, _, _, _, _, by k_is, by k_is⟩, by k_is⟩)
      (case mf_4 => exact ⟨by k_is, by k_is, ⟨_, _, _, _, _, _, _, _, _, by k_is, by k_is⟩, by k_is⟩)
      (case mf_5 => exact ⟨by k_is, by k_is, ⟨_, _, _, _, _, _, _, _, _, by k_is, by k_is⟩, by k_is⟩)
      (case mf_6 => exact ⟨by k_is, by k_is, ⟨_, _, _, _, _, _, _, _, _, by k_is, by k_is⟩, by k_is⟩)
      (case mf_7 => exact ⟨by k_is, by k_is, ⟨_, _, _, _, _, _, _, _, _, by k_is, by k_is⟩, by k_is⟩)
      (case mf_8 => exact ⟨by k_is, by k_is, ⟨_, _, _, _, _, _, _, _, _, by k_is, by k_is⟩, by k_is⟩)
      (case mf_9 => exact ⟨by k_is, by k_is, ⟨_, _, _, _, _, _, _, _, _, by k_is, by k_is⟩, by k_is⟩)
      (case mf_10 => exact ⟨by k_is, by k_is, ⟨_, _, _, _, _, _, _, _, _, by k_is, by k_is⟩, by k_is⟩)
      (case mf_11 => exact ⟨by k_is, by k_is, ⟨_, _, _, _, _, _, _, _, _, by k_is, by k_is⟩, by k_is⟩)
      (case mf_12 => exact ⟨by k_is, by k_is, ⟨_, _, _, _, _, _, _, _, _, by k_is, by k_is⟩, by k_is⟩)
      (case mf_13 => exact ⟨by k_is, by k_is, ⟨_, _, _, _, _, _, _, _, _, by k_is, by k_is⟩, by k_is⟩)
      (case mf_14 => exact ⟨by k_is, by k_is, ⟨_, _, _, _, _, _, _, _, _, by k_is, by k_is⟩, by k_is⟩)
      (case mf_15 => exact ⟨by k_is, by k_is, ⟨_, _, _, _, _, _, _, _, _, by k_is, by k_is⟩, by k_is⟩)
      (case mf_16 => exact ⟨by k_is, by k_is, ⟨_, _, _, _, _, _, _, _, _, by k_is, by k_is⟩, by k_is⟩)
      (case mk_Count => k_is)
      (case kc_Count => k_is)
      (case mk_Free => k_is)
      (case kc_Free => k_is)
      (case mk_Keep => k_is)
      (case kc_Keep => k_is)
      (case mk_Post => k_is)
      (case kc_Post => k_is)
    obtain ⟨es, n_NoBits, n_NoFrame, n_NoKey, n_NoName, n_NoPost, n_NoRail, n_NoRow, n_NoStrip, n_NoThing, n_NoWire, n_RailError, e_NoBits, e_NoFrame, e_NoKey, e_NoPost, EC⟩ : ∃ (es : Bt.Eds), mg "NoBits" = some (.ref es.NoBits) ∧ mg "NoFrame" = some (.ref es.NoFrame) ∧ mg "NoKey" = some (.ref es.NoKey) ∧ mg "NoName" = some (.ref es.NoName) ∧ mg "NoPost" = some (.ref es.NoPost) ∧ mg "NoRail" = some (.ref es.NoRail) ∧ mg "NoRow" = some (.ref es.NoRow) ∧ mg "NoStrip" = some (.ref es.NoStrip) ∧ mg "NoThing" = some (.ref es.NoThing) ∧ mg "NoWire" = some (.ref es.NoWire) ∧ mg "RailError" = some (.ref es.RailError) ∧ Bt.ErrC _ mg "NoBits" es.NoBits ∧ Bt.ErrC _ mg "NoFrame" es.NoFrame ∧ Bt.ErrC _ mg "NoKey" es.NoKey ∧ Bt.ErrC _ mg "NoPost" es.NoPost ∧ Bt.EcF _ es Bt.ks := by
      refine' Bt.pack KX G ?a_NoBits ?a_NoFrame ?a_NoKey ?a_NoName ?a_NoPost ?a_NoRail ?a_NoRow ?a_NoStrip ?a_NoThing ?a_NoWire ?a_RailError ?e_NoBits ?k_NoBits ?s_NoBits ?t_NoBits ?e_NoFrame ?k_NoFrame ?s_NoFrame ?t_NoFrame ?e_NoKey ?k_NoKey ?s_NoKey ?t_NoKey ?e_NoPost ?k_NoPost ?s_NoPost ?t_NoPost ?q_NoBits ?q_NoName ?q_NoKey ?q_NoFrame ?q_NoPost ?q_NoThing ?q_NoStrip ?q_NoRail ?q_NoWire ?q_NoRow ?q_RailError ?r_NoBits ?p_NoBits_NoBits ?p_NoBits_NoName ?p_NoBits_NoKey ?p_NoBits_NoFrame ?p_NoBits_NoPost ?p_NoBits_NoThing ?p_NoBits_NoStrip ?p_NoBits_NoRail ?p_NoBits_NoWire ?p_NoBits_NoRow ?r_NoName ?p_NoName_NoBits ?p_NoName_NoName ?p_NoName_NoKey ?p_NoName_NoFrame ?p_NoName_NoPost ?p_NoName_NoThing ?p_NoName_NoStrip ?p_NoName_NoRail ?p_NoName_NoWire ?p_NoName_NoRow ?r_NoKey ?p_NoKey_NoBits ?p_NoKey_NoName ?p_NoKey_NoKey ?p_NoKey_NoFrame ?p_NoKey_NoPost ?p_NoKey_NoThing ?p_NoKey_NoStrip ?p_NoKey_NoRail ?p_NoKey_NoWire ?p_NoKey_NoRow ?r_NoFrame ?p_NoFrame_NoBits ?p_NoFrame_NoName ?p_NoFrame_NoKey ?p_NoFrame_NoFrame ?p_NoFrame_NoPost ?p_NoFrame_NoThing ?p_NoFrame_NoStrip ?p_NoFrame_NoRail ?p_NoFrame_NoWire ?p_NoFrame_NoRow ?r_NoPost ?p_NoPost_NoBits ?p_NoPost_NoName ?p_NoPost_NoKey ?p_NoPost_NoFrame ?p_NoPost_NoPost ?p_NoPost_NoThing ?p_NoPost_NoStrip ?p_NoPost_NoRail ?p_NoPost_NoWire ?p_NoPost_NoRow ?r_NoThing ?p_NoThing_NoBits ?p_NoThing_NoName ?p_NoThing_NoKey ?p_NoThing_NoFrame ?p_NoThing_NoPost ?p_NoThing_NoThing ?p_NoThing_NoStrip ?p_NoThing_NoRail ?p_NoThing_NoWire ?p_NoThing_NoRow ?r_NoStrip ?p_NoStrip_NoBits ?p_NoStrip_NoName ?p_NoStrip_NoKey ?p_NoStrip_NoFrame ?p_NoStrip_NoPost ?p_NoStrip_NoThing ?p_NoStrip_NoStrip ?p_NoStrip_NoRail ?p_NoStrip_NoWire ?p_NoStrip_NoRow ?r_NoRail ?p_NoRail_NoBits ?p_NoRail_NoName ?p_NoRail_NoKey ?p_NoRail_NoFrame ?p_NoRail_NoPost ?p_NoRail_NoThing ?p_NoRail_NoStrip ?p_NoRail_NoRail ?p_NoRail_NoWire ?p_NoRail_NoRow ?r_NoWire ?p_NoWire_NoBits ?p_NoWire_NoName ?p_NoWire_NoKey ?p_NoWire_NoFrame ?p_NoWire_NoPost ?p_NoWire_NoThing ?p_NoWire_NoStrip ?p_NoWire_NoRail ?p_NoWire_NoWire ?p_NoWire_NoRow ?r_NoRow ?p_NoRow_NoBits ?p_NoRow_NoName ?p_NoRow_NoKey ?p_NoRow_NoFrame ?p_NoRow_NoPost ?p_NoRow_NoThing ?p_NoRow_NoStrip ?p_NoRow_NoRail ?p_NoRow_NoWire ?p_NoRow_NoRow ?hn ?ht
      (case a_NoBits => k_is)
      (case a_NoFrame => k_is)
      (case a_NoKey => k_is)
      (case a_NoName => k_is)
      (case a_NoPost => k_is)
      (case a_NoRail => k_is)
      (case a_NoRow => k_is)
      (case a_NoStrip => k_is)
      (case a_NoThing => k_is)
      (case a_NoWire => k_is)
      (case a_RailError => k_is)
      (case e_NoBits => first | k_exc | k_is | decide +kernel)
      (case k_NoBits => k_is)
      (case s_NoBits => k_is)
      (case t_NoBits => k_is)
      (case e_NoFrame => first | k_exc | k_is | decide +kernel)
      (case k_NoFrame => k_is)
      (case s_NoFrame => k_is)
      (case t_NoFrame => k_is)
      (case e_NoKey => first | k_exc | k_is | decide +kernel)
      (case k_NoKey => k_is)
      (case s_NoKey => k_is)
      (case t_NoKey => k_is)
      (case e_NoPost => first | k_exc | k_is | decide +kernel)
      (case k_NoPost => k_is)
      (case s_NoPost => k_is)
      (case t_NoPost => k_is)
      (case q_NoBits => exact ⟨by k_is, by k_is, by k_is, by k_is, by k_is, by k_is, by k_is, by k_is⟩)
      (case q_NoName => exact ⟨by k_is, by k_is, by k_is, by k_is, by k_is, by k_is, by k_is, by k_is⟩)
      (case q_NoKey => exact ⟨by k_is, by k_is, by k_is, by k_is, by k_is, by k_is, by k_is, by k_is⟩)
      (case q_NoFrame => exact ⟨by k_is, by k_is, by k_is, by k_is, by k_is, by k_is, by k_is, by k_is⟩)
      (case q_NoPost => exact ⟨by k_is, by k_is, by k_is, by k_is, by k_is, by k_is, by k_is, by k_is⟩)
      (case q_NoThing => exact ⟨by k_is, by k_is, by k_is, by k_is, by k_is, by k_is, by k_is, by k_is⟩)
      (case q_NoStrip => exact ⟨by k_is, by k_is, by k_is, by k_is, by k_is, by k_is, by k_is, by k_is⟩)
      (case q_NoRail => exact ⟨by k_is, by k_is, by k_is, by k_is, by k_is, by k_is, by k_is, by k_is⟩)
      (case q_NoWire => exact ⟨by k_is, by k_is, by k_is, by k_is, by k_is, by k_is, by k_is, by k_is⟩)
      (case q_NoRow => exact ⟨by k_is, by k_is, by k_is, by k_is, by k_is, by k_is, by k_is, by k_is⟩)
      (case q_RailError => exact ⟨by k_is, by k_is, by k_is, by k_is, by k_is, by k_is, by k_is, by k_is⟩)
      (case r_NoBits => k_is)
      (case p_NoBits_NoBits => k_is)
      (case p_NoBits_NoName => k_is)
      (case p_NoBits_NoKey => k_is)
      (case p_NoBits_NoFrame => k_is)
      (case p_NoBits_NoPost => k_is)
      (case p_NoBits_NoThing => k_is)
      (case p_NoBits_NoStrip => k_is)
      (case p_NoBits_NoRail => k_is)
      (case p_NoBits_NoWire => k_is)
      (case p_NoBits_NoRow => k_is)
      (case r_NoName => k_is)
      (case p_NoName_NoBits => k_is)
      (case p_NoName_NoName => k_is)
      (case p_NoName_NoKey => k_is)
      (case p_NoName_NoFrame => k_is)
      (case p_NoName_NoPost => k_is)
      (case p_NoName_NoThing => k_is)
      (case p_NoName_NoStrip => k_is)
      (case p_NoName_NoRail => k_is)
      (case p_NoName_NoWire => k_is)
      (case p_NoName_NoRow => k_is)
      (case r_NoKey => k_is)
      (case p_NoKey_NoBits => k_is)
      (case p_NoKey_NoName => k_is)
      (case p_NoKey_NoKey => k_is)
      (case p_NoKey_NoFrame => k_is)
      (case p_NoKey_NoPost => k_is)
      (case p_NoKey_NoThing => k_is)
      (case p_NoKey_NoStrip => k_is)
      (case p_NoKey_NoRail => k_is)
      (case p_NoKey_NoWire => k_is)
      (case p_NoKey_NoRow => k_is)
      (case r_NoFrame => k_is)
      (case p_NoFrame_NoBits => k_is)
      (case p_NoFrame_NoName => k_is)
      (case p_NoFrame_NoKey => k_is)
      (case p_NoFrame_NoFrame => k_is)
      (case p_NoFrame_NoPost => k_is)
      (case p_NoFrame_NoThing => k_is)
      (case p_NoFrame_NoStrip => k_is)
      (case p_NoFrame_NoRail => k_is)
      (case p_NoFrame_NoWire => k_is)
      (case p_NoFrame_NoRow => k_is)
      (case r_NoPost => k_is)
      (case p_NoPost_NoBits => k_is)
      (case p_NoPost_NoName => k_is)
      (case p_NoPost_NoKey => k_is)
      (case p_NoPost_NoFrame => k_is)
      (case p_NoPost_NoPost => k_is)
      (case p_NoPost_NoThing => k_is)
      (case p_NoPost_NoStrip => k_is)
      (case p_NoPost_NoRail => k_is)
      (case p_NoPost_NoWire => k_is)
      (case p_NoPost_NoRow => k_is)
      (case r_NoThing => k_is)
      (case p_NoThing_NoBits => k_is)
      (case p_NoThing_NoName => k_is)
      (case p_NoThing_NoKey => k_is)
      (case p_NoThing_NoFrame => k_is)
      (case p_NoThing_NoPost => k_is)
      (case p_NoThing_NoThing => k_is)
      (case p_NoThing_NoStrip => k_is)
      (case p_NoThing_NoRail => k_is)
      (case p_NoThing_NoWire => k_is)
      (case p_NoThing_NoRow => k_is)
      (case r_NoStrip => k_is)
      (case p_NoStrip_NoBits => k_is)
      (case p_NoStrip_NoName => k_is)
      (case p_NoStrip_NoKey => k_is)
      (case p_NoStrip_NoFrame => k_is)
      (case p_NoStrip_NoPost => k_is)
      (case p_NoStrip_NoThing => k_is)
      (case p_NoStrip_NoStrip => k_is)
      (case p_NoStrip_NoRail => k_is)
      (case p_NoStrip_NoWire => k_is)
      (case p_NoStrip_NoRow => k_is)
      (case r_NoRail => k_is)
      (case p_NoRail_NoBits => k_is)
      (case p_NoRail_NoName => k_is)
      (case p_NoRail_NoKey => k_is)
      (case p_NoRail_NoFrame => k_is)
      (case p_NoRail_NoPost => k_is)
      (case p_NoRail_NoThing => k_is)
      (case p_NoRail_NoStrip => k_is)
      (case p_NoRail_NoRail => k_is)
      (case p_NoRail_NoWire => k_is)
      (case p_NoRail_NoRow => k_is)
      (case r_NoWire => k_is)
      (case p_NoWire_NoBits => k_is)
      (case p_NoWire_NoName => k_is)
      (case p_NoWire_NoKey => k_is)
      (case p_NoWire_NoFrame => k_is)
      (case p_NoWire_NoPost => k_is)
      (case p_NoWire_NoThing => k_is)
      (case p_NoWire_NoStrip => k_is)
      (case p_NoWire_NoRail => k_is)
      (case p_NoWire_NoWire => k_is)
      (case p_NoWire_NoRow => k_is)
      (case r_NoRow => k_is)
      (case p_NoRow_NoBits => k_is)
      (case p_NoRow_NoName => k_is)
      (case p_NoRow_NoKey => k_is)
      (case p_NoRow_NoFrame => k_is)
      (case p_NoRow_NoPost => k_is)
      (case p_NoRow_NoThing => k_is)
      (case p_NoRow_NoStrip => k_is)
      (case p_NoRow_NoRail => k_is)
      (case p_NoRow_NoWire => k_is)
      (case p_NoRow_NoRow => k_is)
      (case hn => k_is)
      (case ht => k_is)
    cases hmg.symm.trans g_law
    refine ⟨fd_law, ?_, fun base _ _ => Bt.ok_law (ad := ⟨f_Count_init, fd_Count_init, f_Keep_init, fd_Keep_init, f_Free_init, fd_Free_init, f_is_name, fd_is_name, f_Post_init, fd_Post_init, f__law_draw, fd__law_draw, f__law_is_other, fd__law_is_other, f__law_no_post, fd__law_no_post, f_Count_number, fd_Count_number, f_Post_faults, fd_Post_faults, f_Free_called, fd_Free_called, f_Post_stance, fd_Post_stance, f_Post_waits, fd_Post_waits, f_Post_got, fd_Post_got, f_Count_is_quiet, fd_Count_is_quiet, f_Free_says, fd_Free_says, f_Post_says, fd_Post_says, f_Post_is_quiet, fd_Post_is_quiet, f_Count_is_off, fd_Count_is_off, f_Post_is_off, fd_Post_is_off, f__law_new, fd__law_new, f_bits_of, fd_bits_of, f_divided, fd_divided, f_number_of, fd_number_of, f_rest_of, fd_rest_of, f_check_of, fd_check_of, f_frame_bits, fd_frame_bits, f_Post_hand, fd_Post_hand, f__law_frames_alike, fd__law_frames_alike, f__law_far, fd__law_far, f__law_data, fd__law_data, f__law_no_frame, fd__law_no_frame, f__law_spoiled, fd__law_spoiled, fa, fd_law, c_Count, c_Keep, c_Free, c_Post, k_VOTES, es⟩) ⟨F_Count_init, F_Count_init.binds (ps := ["self"]) fun _ _ _ _ _ _ us hl => match us, hl with | [_], _ => rfl, F_Keep_init, F_Keep_init.binds (ps := ["self", "choice", "votes"]) fun _ _ _ _ _ _ us hl => match us, hl with | [_, _, _], _ => rfl, F_Free_init, F_Free_init.binds (ps := ["self", "keep", "many"]) fun _ _ _ _ _ _ us hl => match us, hl with | [_, _, _], _ => rfl, F_is_name, g_is_name, F_is_name.binds (ps := ["number"]) fun _ _ _ _ _ _ us hl => match us, hl with | [_], _ => rfl, F_Post_init, F_Post_init.binds (ps := ["self", "choice", "votes"]) fun _ _ _ _ _ _ us hl => match us, hl with | [_, _, _], _ => rfl, F__law_draw, g__law_draw, F__law_draw.binds (ps := ["script", "k", "many"]) fun _ _ _ _ _ _ us hl => match us, hl with | [_, _, _], _ => rfl, F__law_is_other, g__law_is_other, F__law_is_other.binds (ps := ["e"]) fun _ _ _ _ _ _ us hl => match us, hl with | [_], _ => rfl, F__law_no_post, g__law_no_post, F__law_no_post.binds (ps := ["choice", "votes"]) fun _ _ _ _ _ _ us hl => match us, hl with | [_, _], _ => rfl, F_Count_number, F_Count_number.binds (ps := ["self"]) fun _ _ _ _ _ _ us hl => match us, hl with | [_], _ => rfl, F_Post_faults, F_Post_faults.binds (ps := ["self"]) fun _ _ _ _ _ _ us hl => match us, hl with | [_], _ => rfl, F_Free_called, F_Free_called.binds (ps := ["self"]) fun _ _ _ _ _ _ us hl => match us, hl with | [_], _ => rfl, F_Post_stance, F_Post_stance.binds (ps := ["self"]) fun _ _ _ _ _ _ us hl => match us, hl with | [_], _ => rfl, F_Post_waits, F_Post_waits.binds (ps := ["self"]) fun _ _ _ _ _ _ us hl => match us, hl with | [_], _ => rfl, F_Post_got, F_Post_got.binds (ps := ["self"]) fun _ _ _ _ _ _ us hl => match us, hl with | [_], _ => rfl, F_Count_is_quiet, F_Count_is_quiet.binds (ps := ["self"]) fun _ _ _ _ _ _ us hl => match us, hl with | [_], _ => rfl, F_Free_says, F_Free_says.binds (ps := ["self"]) fun _ _ _ _ _ _ us hl => match us, hl with | [_], _ => rfl, F_Post_says, F_Post_says.binds (ps := ["self"]) fun _ _ _ _ _ _ us hl => match us, hl with | [_], _ => rfl, F_Post_is_quiet, F_Post_is_quiet.binds (ps := ["self"]) fun _ _ _ _ _ _ us hl => match us, hl with | [_], _ => rfl, F_Count_is_off, F_Count_is_off.binds (ps := ["self"]) fun _ _ _ _ _ _ us hl => match us, hl with | [_], _ => rfl, F_Post_is_off, F_Post_is_off.binds (ps := ["self"]) fun _ _ _ _ _ _ us hl => match us, hl with | [_], _ => rfl, F__law_new, g__law_new, F__law_new.binds (ps := ["post"]) fun _ _ _ _ _ _ us hl => match us, hl with | [_], _ => rfl, F_bits_of, g_bits_of, F_bits_of.binds (ps := ["number", "many"]) fun _ _ _ _ _ _ us hl => match us, hl with | [_, _], _ => rfl, F_divided, g_divided, F_divided.binds (ps := ["number", "key"]) fun _ _ _ _ _ _ us hl => match us, hl with | [_, _], _ => rfl, F_number_of, g_number_of, F_number_of.binds (ps := ["bits"]) fun _ _ _ _ _ _ us hl => match us, hl with | [_], _ => rfl, F_rest_of, g_rest_of, F_rest_of.binds (ps := ["bits"]) fun _ _ _ _ _ _ us hl => match us, hl with | [_], _ => rfl, F_check_of, g_check_of, F_check_of.binds (ps := ["bits"]) fun _ _ _ _ _ _ us hl => match us, hl with | [_], _ => rfl, F_frame_bits, g_frame_bits, F_frame_bits.binds (ps := ["name", "data"]) fun _ _ _ _ _ _ us hl => match us, hl with | [_, _], _ => rfl, F_Post_hand, F_Post_hand.binds (ps := ["self", "name", "data"]) fun _ _ _ _ _ _ us hl => match us, hl with | [_, _, _], _ => rfl, F__law_frames_alike, g__law_frames_alike, F__law_frames_alike.binds (ps := ["found", "due"]) fun _ _ _ _ _ _ us hl => match us, hl with | [_, _], _ => rfl, F__law_far, g__law_far, F__law_far.binds (ps := ["script", "k"]) fun _ _ _ _ _ _ us hl => match us, hl with | [_, _], _ => rfl, F__law_data, g__law_data, F__law_data.binds (ps := ["script", "base"]) fun _ _ _ _ _ _ us hl => match us, hl with | [_, _], _ => rfl, F__law_no_frame, g__law_no_frame, F__law_no_frame.binds (ps := ["post", "name", "data"]) fun _ _ _ _ _ _ us hl => match us, hl with | [_, _, _], _ => rfl, F__law_spoiled, g__law_spoiled, F__law_spoiled.binds (ps := ["script", "post", "base", "frame"]) fun _ _ _ _ _ _ us hl => match us, hl with | [_, _, _, _], _ => rfl, F_law, g_law, F_law.binds (ps := ["script"]) fun _ _ _ _ _ _ us hl => match us, hl with | [_], _ => rfl, z_ValueError, z_bool, z_int, z_isinstance, z_len, z_list, z_range, z_tuple, g_KEY, g_OFF, g_PATIENCE, g_QUIET, g_VOTES, q_VOTES, g_WIDE, e_NoBits, e_NoFrame, e_NoKey, e_NoPost, n_NoBits, n_NoFrame, n_NoKey, n_NoName, n_NoPost, n_NoRail, n_NoRow, n_NoStrip, n_NoThing, n_NoWire, n_RailError, C_Count, C_Keep, C_Free, C_Post, N_Count_tally, N_Free_keep, N_Free_many, N_Keep_choice, N_Keep_count, N_Keep_handed_up, N_Keep_queue, N_Keep_votes, N_Post_keep, N_Post_now, M_Count_is_off, M_Count_is_quiet, M_Count_number, M_Free_called, M_Free_says, M_Post_faults, M_Post_got, M_Post_hand, M_Post_is_off, M_Post_is_quiet, M_Post_says, M_Post_stance, M_Post_waits, K_Count, k_Count, K_Free, k_Free, K_Keep, k_Keep, K_Post, k_Post, EC⟩⟩
    obtain ⟨oc, od, kV, doc, pm, an, cdv, ct, osl, rfl, lk, hcd⟩ := F_law.ex
    exact fun s u => .of_eq rfl
