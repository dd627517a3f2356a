import PyProof.Rows.All
import Wide.All
import OpenK.AllK
import Wide.FinOn
import HandS.ForMost
import HandS.Exc
import HandS.TryOnly
import HandS.ExcOwn
import HandS.WordsExc
import HandS.IsInst
import HandS.Wide
import HandS.WideBits
import HandS.Flow
import HandS.Evl
import HandS.TryMany
import HandS.Style
import HandS.SortKw
import KE.DatumOrd
import HandS.ExcIs
import HandS.HotCalls
import KE.KExcIs
import HandS.ExcInit
import HandS.ExcField
import HandS.Deep
import HandS.Iter
import HandS.Text
import HandS.Codes
import HandS.StrMore
import HandS.Replace
import HandS.Zip
import HandS.SortInts
import KE.DataCmp
import PyProof.ListOps
import HandS.More
import PySem.Challenge.RW_bitrail_k64_whole_votes_that_part
set_option Elab.async false
set_option linter.all false
set_option maxRecDepth 100000
set_option maxHeartbeats 4000000
/-! The base of all proofs over bitrail: owned cells over a frame, and the readings' steps, one a construct. -/
namespace Bt
open PySem L2

/-! ### owned cells -/
abbrev Cell := Addr × HO
abbrev Ex (H H' : Hp) : Prop := ∀ a o, H a = some o → H' a = some o
theorem Ex.refl (H : Hp) : Ex H H := fun _ _ h => h
theorem Ex.trans {H H1 H2 : Hp} (a : Ex H H1) (b : Ex H1 H2) : Ex H H2 := fun x o h => b x o (a x o h)
theorem Ex.new {H : Hp} {p : Addr} {o : HO} (h : H p = none) : Ex H (upd H p o) := fun a u e => by
  rw [upd_ne (ne_of_none e h)]
  exact e
theorem Ex.back {H H' : Hp} {p : Addr} (e : Ex H H') (h : H' p = none) : H p = none := by
  cases h1 : H p with
  | none => rfl
  | some o =>
    rw [e p o h1] at h
    cases h
theorem Ex.rd {H H' : Hp} {a : Addr} {u : HO} (e : Ex H H') (h : Rd H a u) : Rd H' a u := by
  rcases h with h | ⟨o, h⟩
  · exact Or.inl (e a _ h)
  · exact Or.inr ⟨o, e a _ h⟩
theorem Ex.l {K : PySem.W.Frag} {H H' : Hp} {a : Addr} {xs : List V} (e : Ex H H') (h : SqL K H a xs) : SqL K H' a xs := by
  rcases h with h | h
  · exact Or.inl (e.rd h)
  · exact Or.inr h
theorem Ex.t {K : PySem.W.Frag} {H H' : Hp} {a : Addr} {xs : List V} (e : Ex H H') (h : SqT K H a xs) : SqT K H' a xs := by
  rcases h with h | h
  · exact Or.inl (e.rd h)
  · exact Or.inr h

/-- H holds the frame R, and beside it the cells L, at unlike places that R does not know -/
structure Own (R H : Hp) (L : List Cell) : Prop where
  ex : Ex R H
  at_ : ∀ c ∈ L, H c.1 = some c.2
  fr : ∀ c ∈ L, R c.1 = none
  nd : (L.map (·.1)).Nodup

section
variable {R H H' : Hp} {L L' A B C : List Cell} {a p q : Addr} {o o' : HO}
theorem Own.start (H : Hp) : Own H H [] := ⟨Ex.refl H, fun _ h => (nomatch h), fun _ h => (nomatch h), List.Pairwise.nil⟩
theorem Own.mem (O : Own R H L) (h : (a, o) ∈ L) : H a = some o := O.at_ _ h
theorem Own.g0 {c1 : Cell} (O : Own R H (c1 :: L)) : H c1.1 = some c1.2 := O.at_ _ (List.Mem.head _)
theorem Own.tl {c1 : Cell} (O : Own R H (c1 :: L)) : Own R H L :=
  ⟨O.ex, fun c h => O.at_ c (List.Mem.tail _ h), fun c h => O.fr c (List.Mem.tail _ h), (List.nodup_cons.mp O.nd).2⟩
theorem Own.ext (O : Own R H L) (e : Ex H H') : Own R H' L := ⟨O.ex.trans e, fun c h => e _ _ (O.at_ c h), O.fr, O.nd⟩
theorem Own.notin (O : Own R H L) (h : H p = none) : p ∉ L.map (·.1) := fun m => by
  obtain ⟨c, hc, e⟩ := List.mem_map.mp m
  have := O.at_ c hc
  rw [e, h] at this
  cases this
theorem Own.ext1 (O : Own R H L) (e : Ex H H') (h : H p = none) (h' : H' p = some o) : Own R H' ((p, o) :: L) :=
  ⟨O.ex.trans e, fun c hc => by
    rcases List.mem_cons.mp hc with rfl | hc
    · exact h'
    · exact e _ _ (O.at_ c hc), fun c hc => by
    rcases List.mem_cons.mp hc with rfl | hc
    · exact O.ex.back h
    · exact O.fr c hc, List.nodup_cons.mpr ⟨O.notin h, O.nd⟩⟩
theorem Own.new (O : Own R H L) (h : H p = none) : Own R (upd H p o) ((p, o) :: L) := O.ext1 (Ex.new h) h upd_same
/-- more cells, owned over H -/
theorem Own.app (O : Own R H L) (N : Own H H' A) : Own R H' (A ++ L) :=
  ⟨O.ex.trans N.ex, fun c hc => by
    rcases List.mem_append.mp hc with hc | hc
    · exact N.at_ c hc
    · exact N.ex _ _ (O.at_ c hc), fun c hc => by
    rcases List.mem_append.mp hc with hc | hc
    · exact O.ex.back (N.fr c hc)
    · exact O.fr c hc, by
    rw [List.map_append]
    refine List.nodup_append.mpr ⟨N.nd, O.nd, fun x hx y hy e => ?_⟩
    subst e
    obtain ⟨c, hc, e⟩ := List.mem_map.mp hx
    have := N.fr c hc
    rw [e] at this
    exact O.notin this hy⟩
theorem Own.put (O : Own R H (A ++ (p, o) :: B)) : Own R (upd H p o') (A ++ (p, o') :: B) := by
  have nd := O.nd
  rw [List.map_append, List.map_cons] at nd
  have nA : p ∉ A.map (·.1) := fun m => by
    have := (List.nodup_append.mp nd).2.2
    exact this _ m p (List.Mem.head _) rfl
  have nB : p ∉ B.map (·.1) := (List.nodup_cons.mp (List.nodup_append.mp nd).2.1).1
  have hp : R p = none := O.fr (p, o) (by simp)
  refine ⟨fun b u e => ?_, fun c hc => ?_, fun c hc => ?_, by rw [List.map_append, List.map_cons]; exact nd⟩
  · rw [upd_ne (ne_of_none e hp)]
    exact O.ex _ _ e
  · rcases List.mem_append.mp hc with hA | hc
    · rw [upd_ne (fun e : c.1 = p => nA (by rw [← e]; exact List.mem_map_of_mem hA))]
      exact O.at_ c (List.mem_append.mpr (Or.inl hA))
    · rcases List.mem_cons.mp hc with rfl | hB
      · exact upd_same
      · rw [upd_ne (fun e : c.1 = p => nB (by rw [← e]; exact List.mem_map_of_mem hB))]
        exact O.at_ c (List.mem_append.mpr (Or.inr (List.mem_cons_of_mem _ hB)))
  · rcases List.mem_append.mp hc with hA | hc
    · exact O.fr c (List.mem_append.mpr (Or.inl hA))
    · rcases List.mem_cons.mp hc with rfl | hB
      · exact hp
      · exact O.fr c (List.mem_append.mpr (Or.inr (List.mem_cons_of_mem _ hB)))
theorem Own.put0 (O : Own R H ((p, o) :: B)) : Own R (upd H p o') ((p, o') :: B) := Own.put (A := []) O
theorem Own.put1 {c1 : Cell} (O : Own R H (c1 :: (p, o) :: B)) : Own R (upd H p o') (c1 :: (p, o') :: B) := Own.put (A := [c1]) O
theorem Own.put2 {c1 c2 : Cell} (O : Own R H (c1 :: c2 :: (p, o) :: B)) : Own R (upd H p o') (c1 :: c2 :: (p, o') :: B) := Own.put (A := [c1, c2]) O
theorem Own.put3 {c1 c2 c3 : Cell} (O : Own R H (c1 :: c2 :: c3 :: (p, o) :: B)) : Own R (upd H p o') (c1 :: c2 :: c3 :: (p, o') :: B) := Own.put (A := [c1, c2, c3]) O
theorem Own.put4 {c1 c2 c3 c4 : Cell} (O : Own R H (c1 :: c2 :: c3 :: c4 :: (p, o) :: B)) : Own R (upd H p o') (c1 :: c2 :: c3 :: c4 :: (p, o') :: B) := Own.put (A := [c1, c2, c3, c4]) O
theorem Own.put5 {c1 c2 c3 c4 c5 : Cell} (O : Own R H (c1 :: c2 :: c3 :: c4 :: c5 :: (p, o) :: B)) : Own R (upd H p o') (c1 :: c2 :: c3 :: c4 :: c5 :: (p, o') :: B) := Own.put (A := [c1, c2, c3, c4, c5]) O
theorem Own.put6 {c1 c2 c3 c4 c5 c6 : Cell} (O : Own R H (c1 :: c2 :: c3 :: c4 :: c5 :: c6 :: (p, o) :: B)) : Own R (upd H p o') (c1 :: c2 :: c3 :: c4 :: c5 :: c6 :: (p, o') :: B) := Own.put (A := [c1, c2, c3, c4, c5, c6]) O
theorem Own.perm (O : Own R H L) (e : L.Perm L') : Own R H L' :=
  ⟨O.ex, fun c h => O.at_ c (e.mem_iff.mpr h), fun c h => O.fr c (e.mem_iff.mpr h), (e.map _).nodup_iff.mp O.nd⟩
/-- fewer cells -/
theorem Own.sub (O : Own R H L) (e : L'.Sublist L) : Own R H L' :=
  ⟨O.ex, fun c h => O.at_ c (e.subset h), fun c h => O.fr c (e.subset h), List.Nodup.sublist (e.map _) O.nd⟩
/-- THE FRAME: what is done to some of the cells, the others being its frame -/
theorem Own.focus (O : Own R H (A ++ B)) : ∃ R', Own R' H A ∧ Ex R R' ∧ (∀ c ∈ B, R' c.1 = some c.2) ∧ ∀ H' A', Own R' H' A' → Own R H' (A' ++ B) := by
  have nd := O.nd
  rw [List.map_append] at nd
  obtain ⟨ndA, ndB, dis⟩ := List.nodup_append.mp nd
  refine ⟨fun b => if b ∈ A.map (·.1) then none else H b, ⟨fun b u e => ?_, fun c h => O.at_ c (List.mem_append.mpr (Or.inl h)), fun c h => if_pos (List.mem_map_of_mem h), ndA⟩, fun b u e => ?_, fun c hc => ?_, fun H' A' O' => ?_⟩
  · by_cases hb : b ∈ A.map (·.1)
    · rw [if_pos hb] at e; cases e
    · rw [if_neg hb] at e; exact e
  · have hb : b ∉ A.map (·.1) := fun m => by
      obtain ⟨c, hc, e1⟩ := List.mem_map.mp m
      have := O.fr c (List.mem_append.mpr (Or.inl hc))
      rw [e1, e] at this
      cases this
    show (if b ∈ A.map (·.1) then none else H b) = some u
    rw [if_neg hb]
    exact O.ex _ _ e
  · have hb : c.1 ∉ A.map (·.1) := fun m => dis _ m _ (List.mem_map_of_mem hc) rfl
    show (if c.1 ∈ A.map (·.1) then none else H c.1) = some c.2
    rw [if_neg hb]
    exact O.at_ c (List.mem_append.mpr (Or.inr hc))
  · have hB : ∀ c ∈ B, (if c.1 ∈ A.map (·.1) then none else H c.1) = some c.2 := fun c hc => by
      have hb : c.1 ∉ A.map (·.1) := fun m => dis _ m _ (List.mem_map_of_mem hc) rfl
      rw [if_neg hb]
      exact O.at_ c (List.mem_append.mpr (Or.inr hc))
    have hR : ∀ b u, R b = some u → (if b ∈ A.map (·.1) then none else H b) = some u := fun b u e => by
      have hb : b ∉ A.map (·.1) := fun m => by
        obtain ⟨c, hc, e1⟩ := List.mem_map.mp m
        have := O.fr c (List.mem_append.mpr (Or.inl hc))
        rw [e1, e] at this
        cases this
      rw [if_neg hb]
      exact O.ex _ _ e
    refine ⟨fun b u e => O'.ex _ _ (hR b u e), fun c hc => ?_, fun c hc => ?_, ?_⟩
    · rcases List.mem_append.mp hc with hc | hc
      · exact O'.at_ c hc
      · exact O'.ex _ _ (hB c hc)
    · rcases List.mem_append.mp hc with hc | hc
      · cases e : R c.1 with
        | none => rfl
        | some u =>
          have := O'.fr c hc
          rw [hR _ _ e] at this
          cases this
      · exact O.fr c (List.mem_append.mpr (Or.inr hc))
    · rw [List.map_append]
      refine List.nodup_append.mpr ⟨O'.nd, ndB, fun x hx y hy e => ?_⟩
      subst e
      obtain ⟨c, hc, e⟩ := List.mem_map.mp hx
      obtain ⟨d, hd, e2⟩ := List.mem_map.mp hy
      have h1 := O'.fr c hc
      have h2 := hB d hd
      rw [e2, ← e, h1] at h2
      cases h2
/-- the frame may be what is there now: all else is kept -/
theorem Own.over (O : Own R H L) : Own H H [] := Own.start H
end

/-! ### what a call hands back: a value; a new list; a new tuple -/
def RetV (v : V) (H : Hp) (Q : VK) : Prop := ∀ H', Ex H H' → Q v H'
def RetL (xs : List V) (H : Hp) (Q : VK) : Prop := ∀ p H', H p = none → Ex H H' → H' p = some (.lst xs) → Q (.ref p) H'
def RetT (xs : List V) (H : Hp) (Q : VK) : Prop := ∀ p H', H p = none → Ex H H' → H' p = some (.tup xs) → Q (.ref p) H'
/-- any new cells, as D says -/
def RetN (D : V → List Cell → Prop) (H : Hp) (Q : VK) : Prop := ∀ v H' L, Own H H' L → D v L → Q v H'
section
variable {R H : Hp} {L : List Cell} {Q : VK} {v : V} {xs : List V}
theorem Own.retV (O : Own R H L) (k : ∀ H', Own R H' L → Q v H') : RetV v H Q := fun H' e => k H' (O.ext e)
theorem Own.retL (O : Own R H L) (k : ∀ p H', Own R H' ((p, .lst xs) :: L) → Q (.ref p) H') : RetL xs H Q := fun p H' h e h' => k p H' (O.ext1 e h h')
theorem Own.retT (O : Own R H L) (k : ∀ p H', Own R H' ((p, .tup xs) :: L) → Q (.ref p) H') : RetT xs H Q := fun p H' h e h' => k p H' (O.ext1 e h h')
theorem Own.retN {D : V → List Cell → Prop} (O : Own R H L) (k : ∀ v H' N, Own R H' (N ++ L) → D v N → Q v H') : RetN D H Q := fun v H' N o d => k v H' N (O.app o) d
/-- the end of a def that started at H: what it hands back is new -/
theorem RetV.go {H0 H : Hp} {L : List Cell} {v : V} {Q : VK} (k : RetV v H0 Q) (O : Own H0 H L) : Q v H := k H O.ex
theorem RetL.go {H0 H : Hp} {L : List Cell} {xs : List V} {Q : VK} {p : Addr} (k : RetL xs H0 Q) (O : Own H0 H L) (h : (p, HO.lst xs) ∈ L) : Q (.ref p) H := k p H (O.fr _ h) O.ex (O.at_ _ h)
theorem RetT.go {H0 H : Hp} {L : List Cell} {xs : List V} {Q : VK} {p : Addr} (k : RetT xs H0 Q) (O : Own H0 H L) (h : (p, HO.tup xs) ∈ L) : Q (.ref p) H := k p H (O.fr _ h) O.ex (O.at_ _ h)
theorem RetN.go {H0 H : Hp} {L N : List Cell} {D : V → List Cell → Prop} {Q : VK} {v : V} (k : RetN D H0 Q) (O : Own H0 H L) (e : N.Sublist L) (d : D v N) : Q v H := k v H N (O.sub e) d
end

end Bt

set_option Elab.async false
set_option linter.all false
set_option maxRecDepth 100000
set_option maxHeartbeats 4000000
/-! The mirror's words (partial functions: none where the program would stop), and the steps that join a reading with its mirror. -/
namespace Bt
open PySem L2

/-! ### the mirror's words -/
section
variable {α β γ S R T : Type}
def ltv (a : α) (f : α → Option β) : Option β := f a
theorem ltvE {a : α} {f : α → Option β} {r : β} (h : ltv a f = some r) : ∃ x, a = x ∧ f x = some r := ⟨a, rfl, h⟩
def bnd (a : Option α) (f : α → Option β) : Option β := match a with
  | some x => f x
  | none => none
theorem bndE {a : Option α} {f : α → Option β} {r : β} (h : bnd a f = some r) : ∃ x, a = some x ∧ f x = some r := by
  cases a with
  | none => cases h
  | some x => exact ⟨x, rfl, h⟩
def ifB (c : Bool) (a b : α) : α := match c with
  | true => a
  | false => b
theorem ifT {c : Bool} {a b r : α} (h : ifB c a b = r) (hc : c = true) : a = r := by subst hc; exact h
theorem ifF {c : Bool} {a b r : α} (h : ifB c a b = r) (hc : c = false) : b = r := by subst hc; exact h
inductive Fl (S R : Type) where
  | nx (s : S)
  | rt (r : R)
  | bk (s : S)
def finK (rest : S → Option R) : Fl S R → Option R
  | .nx s => rest s
  | .rt r => some r
  | .bk _ => none
def fin (a : Option (Fl S R)) (rest : S → Option R) : Option R := bnd a (finK rest)
def floK (rest : S → Option (Fl T R)) : Fl S R → Option (Fl T R)
  | .nx s => rest s
  | .rt r => some (.rt r)
  | .bk _ => none
def flo (a : Option (Fl S R)) (rest : S → Option (Fl T R)) : Option (Fl T R) := bnd a (floK rest)
theorem finRt {rest : S → Option R} {v r : R} (h : finK rest (.rt v) = some r) : v = r := Option.some.inj h
theorem floRt {rest : S → Option (Fl T R)} {v : R} {fl : Fl T R} (h : floK rest (.rt v) = some fl) : Fl.rt v = fl := Option.some.inj h
def loopM (f : α → S → Option S) : List α → S → Option S
  | [], s => some s
  | x :: r, s => bnd (f x s) (loopM f r)
theorem loopM_nil {f : α → S → Option S} {s out : S} (h : loopM f [] s = some out) : out = s := (Option.some.inj h).symm
theorem loopM_cons {f : α → S → Option S} {x : α} {r : List α} {s out : S} (h : loopM f (x :: r) s = some out) : ∃ s', f x s = some s' ∧ loopM f r s' = some out := bndE h
def contF (go : S → Option (Fl S R)) : Fl S R → Option (Fl S R)
  | .nx s => go s
  | .rt r => some (.rt r)
  | .bk s => some (.nx s)
def loopF (f : α → S → Option (Fl S R)) : List α → S → Option (Fl S R)
  | [], s => some (.nx s)
  | x :: r, s => bnd (f x s) (contF (loopF f r))
theorem loopF_nil {f : α → S → Option (Fl S R)} {s : S} {out : Fl S R} (h : loopF f [] s = some out) : Fl.nx s = out := Option.some.inj h
theorem loopF_cons {f : α → S → Option (Fl S R)} {x : α} {r : List α} {s : S} {out : Fl S R} (h : loopF f (x :: r) s = some out) : ∃ fl, f x s = some fl ∧ contF (loopF f r) fl = some out := bndE h
theorem contRt {go : S → Option (Fl S R)} {v : R} {out : Fl S R} (h : contF go (.rt v) = some out) : Fl.rt v = out := Option.some.inj h
theorem contBk {go : S → Option (Fl S R)} {s : S} {out : Fl S R} (h : contF go (.bk s) = some out) : Fl.nx s = out := Option.some.inj h
def whileM (c : S → Option Bool) (f : S → Option S) : Nat → S → Option S
  | 0, _ => none
  | n + 1, s => bnd (c s) fun b => ifB b (bnd (f s) (whileM c f n)) (some s)
theorem whileM_zero {c : S → Option Bool} {f : S → Option S} {s out : S} (h : whileM c f 0 s = some out) : False := nomatch h
theorem whileM_succ {c : S → Option Bool} {f : S → Option S} {n : Nat} {s out : S} (h : whileM c f (n + 1) s = some out) : ∃ b, c s = some b ∧ ifB b (bnd (f s) (whileM c f n)) (some s) = some out := bndE h
def whileF (c : S → Option Bool) (f : S → Option (Fl S R)) : Nat → S → Option (Fl S R)
  | 0, _ => none
  | n + 1, s => bnd (c s) fun b => ifB b (bnd (f s) (contF (whileF c f n))) (some (.nx s))
theorem whileF_succ {c : S → Option Bool} {f : S → Option (Fl S R)} {n : Nat} {s : S} {out : Fl S R} (h : whileF c f (n + 1) s = some out) : ∃ b, c s = some b ∧ ifB b (bnd (f s) (contF (whileF c f n))) (some (.nx s)) = some out := bndE h
/-- a comprehension: what is kept, in order -/
def compM (f : α → Option β) : List α → List β → Option (List β)
  | [], acc => some acc
  | x :: r, acc => bnd (f x) fun y => if acc.length < 16777216 then compM f r (acc ++ [y]) else none
theorem compM_cons {f : α → Option β} {x : α} {r : List α} {acc out : List β} (h : compM f (x :: r) acc = some out) : ∃ y, f x = some y ∧ acc.length < 16777216 ∧ compM f r (acc ++ [y]) = some out := by
  obtain ⟨y, h1, h2⟩ := bndE (show bnd (f x) (fun y => if acc.length < 16777216 then compM f r (acc ++ [y]) else none) = some out from h)
  by_cases c : acc.length < 16777216
  · rw [if_pos c] at h2
    exact ⟨y, h1, c, h2⟩
  · rw [if_neg c] at h2
    cases h2
theorem compM_nil {f : α → Option β} {acc out : List β} (h : compM f [] acc = some out) : out = acc := (Option.some.inj h).symm
/-- .. with a test -/
def compT (c : α → Option Bool) (f : α → Option β) : List α → List β → Option (List β)
  | [], acc => some acc
  | x :: r, acc => bnd (c x) fun b => ifB b (bnd (f x) fun y => if acc.length < 16777216 then compT c f r (acc ++ [y]) else none) (compT c f r acc)
theorem compT_nil {c : α → Option Bool} {f : α → Option β} {acc out : List β} (h : compT c f [] acc = some out) : out = acc := (Option.some.inj h).symm
theorem compT_cons {c : α → Option Bool} {f : α → Option β} {x : α} {r : List α} {acc out : List β} (h : compT c f (x :: r) acc = some out) :
    ∃ b, c x = some b ∧ ifB b (bnd (f x) fun y => if acc.length < 16777216 then compT c f r (acc ++ [y]) else none) (compT c f r acc) = some out := bndE h
theorem compT_yes {c : α → Option Bool} {f : α → Option β} {x : α} {r : List α} {acc out : List β} (h : (bnd (f x) fun y => if acc.length < 16777216 then compT c f r (acc ++ [y]) else none) = some out) :
    ∃ y, f x = some y ∧ acc.length < 16777216 ∧ compT c f r (acc ++ [y]) = some out := by
  obtain ⟨y, h1, h2⟩ := bndE h
  by_cases c : acc.length < 16777216
  · rw [if_pos c] at h2
    exact ⟨y, h1, c, h2⟩
  · rw [if_neg c] at h2
    cases h2
end
section
variable {α : Type}
def grd (c : Prop) [Decidable c] (a : α) : Option α := if c then some a else none
theorem grdE {c : Prop} [Decidable c] {a r : α} (h : grd c a = some r) : c ∧ a = r := by
  unfold grd at h
  by_cases hc : c
  · rw [if_pos hc] at h
    exact ⟨hc, Option.some.inj h⟩
  · rw [if_neg hc] at h
    cases h
theorem grd_of {c : Prop} [Decidable c] {a : α} (h : c) : grd c a = some a := if_pos h
def appG (xs : List α) (y : α) : Option (List α) := grd (xs.length < 16777216) (xs ++ [y])
def catG (xs ys : List α) : Option (List α) := grd (xs.length + ys.length ≤ 16777216) (xs ++ ys)
def repL (xs : List α) : Nat → List α
  | 0 => []
  | n + 1 => xs ++ repL xs n
def repG (xs : List α) (k : Int) : Option (List α) := grd (-(2 ^ 63) ≤ k ∧ k < 2 ^ 63 ∧ xs.length * k.toNat ≤ 16777216) (List.flatten (List.replicate k.toNat xs))
def setG (xs : List α) (i : Int) (y : α) : Option (List α) := match ixN xs.length i with
  | some j => some (xs.set j y)
  | none => none
def cutL (xs : List α) (lo hi : Option Int) : List α := (xs.drop (HT.sIx xs.length 0 lo)).take (HT.sIx xs.length xs.length hi - HT.sIx xs.length 0 lo)
def rangeI (lo hi : Int) : List Int := (List.range (hi - lo).toNat).map fun (i : Nat) => lo + (i : Int)
def rng1 (hi : Int) : Option (List Int) := grd (-(2 ^ 62) ≤ hi ∧ hi < 2 ^ 62) (rangeI 0 hi)
def rng2 (lo hi : Int) : Option (List Int) := grd (-(2 ^ 62) ≤ lo ∧ lo < 2 ^ 62 ∧ -(2 ^ 62) ≤ hi ∧ hi < 2 ^ 62) (rangeI lo hi)
end
def modG (i j : Int) : Option Int := grd (0 < j) (i % j)
def fdivG (i j : Int) : Option Int := grd (0 < j ∧ j.natAbs.log2 < 9000) (i / j)
def mulG (i j : Int) : Option Int := grd (i.natAbs.log2 + j.natAbs.log2 < 1000000) (i * j)
def shlG (i j : Int) : Option Int := grd (0 ≤ j ∧ (Builtin.Int.intBits i : Int) + j ≤ 2 ^ 27) (i * 2 ^ j.toNat)
def shrG (i j : Int) : Option Int := grd (0 ≤ j) (i / 2 ^ j.toNat)
def powG (i j : Int) : Option Int := grd (0 ≤ j ∧ j ≤ 1000000 ∧ i.natAbs < 2 ^ 64) (i ^ j.toNat)

/-! ### the steps -/
section
variable {K : PySem.W.Frag} {σ : St} {H R : Hp} {L : List Cell} {Q : VK} {i j t : Int} {x y z v : V} {a b p q : Addr} {α : Type} {f : α → V} {xs ys zs : List α} {xs' ys' : List Int}
theorem k_mul (h : mulG i j = some t) (k : Q (.int t) H) : rI CMulW (fun i j => .int (i * j)) (.int i) (.int j) H Q := by
  obtain ⟨c, rfl⟩ := grdE h
  exact ⟨_, _, rfl, rfl, c, k⟩
theorem k_mod (h : modG i j = some t) (k : Q (.int t) H) : rI (fun _ j => 0 < j) (fun i j => .int (i % j)) (.int i) (.int j) H Q := by
  obtain ⟨c, rfl⟩ := grdE h
  exact ⟨_, _, rfl, rfl, c, k⟩
theorem k_fdiv (h : fdivG i j = some t) (k : Q (.int t) H) : rI CDivW (fun i j => .int (i / j)) (.int i) (.int j) H Q := by
  obtain ⟨c, rfl⟩ := grdE h
  exact ⟨_, _, rfl, rfl, c, k⟩
theorem k_shl (h : shlG i j = some t) (k : Q (.int t) H) : rI CShl (fun i j => .int (i * 2 ^ j.toNat)) (.int i) (.int j) H Q := by
  obtain ⟨c, rfl⟩ := grdE h
  exact ⟨_, _, rfl, rfl, c, k⟩
theorem k_shr (h : shrG i j = some t) (k : Q (.int t) H) : rI (fun _ j => 0 ≤ j) (fun i j => .int (i / 2 ^ j.toNat)) (.int i) (.int j) H Q := by
  obtain ⟨c, rfl⟩ := grdE h
  exact ⟨_, _, rfl, rfl, c, k⟩
theorem k_pow (h : powG i j = some t) (k : Q (.int t) H) : rI CPow (fun i j => .int (i ^ j.toNat)) (.int i) (.int j) H Q := by
  obtain ⟨c, rfl⟩ := grdE h
  exact ⟨_, _, rfl, rfl, c, k⟩
theorem dec_int (i j : Int) : decide (V.int i = V.int j) = decide (i = j) := by
  by_cases h : i = j
  · subst h; simp
  · have : ¬ V.int i = V.int j := fun e => h (V.int.inj e)
    simp [h, this]
theorem dec_bl (i j : Bool) : decide (V.bl i = V.bl j) = decide (i = j) := by
  by_cases h : i = j
  · subst h; simp
  · have : ¬ V.bl i = V.bl j := fun e => h (V.bl.inj e)
    simp [h, this]
theorem dec_str (i j : Str) : decide (V.str i = V.str j) = decide (i = j) := by
  by_cases h : i = j
  · subst h; simp
  · have : ¬ V.str i = V.str j := fun e => h (V.str.inj e)
    simp [h, this]
theorem k_eqI (k : Q (.bl (decide (i = j))) H) : rEq (.int i) (.int j) H Q := ⟨rfl, by rw [dec_int]; exact k⟩
theorem k_neI (k : Q (.bl (!decide (i = j))) H) : rNe (.int i) (.int j) H Q := ⟨rfl, by rw [dec_int]; exact k⟩
theorem k_eqB {c d : Bool} (k : Q (.bl (decide (c = d))) H) : rEq (.bl c) (.bl d) H Q := ⟨rfl, by rw [dec_bl]; exact k⟩
theorem k_neB {c d : Bool} (k : Q (.bl (!decide (c = d))) H) : rNe (.bl c) (.bl d) H Q := ⟨rfl, by rw [dec_bl]; exact k⟩
theorem k_eqS {c d : Str} (k : Q (.bl (decide (c = d))) H) : rEq (.str c) (.str d) H Q := ⟨rfl, by rw [dec_str]; exact k⟩
theorem k_neS {c d : Str} (k : Q (.bl (!decide (c = d))) H) : rNe (.str c) (.str d) H Q := ⟨rfl, by rw [dec_str]; exact k⟩
/-! deep == of flat lists -/
theorem dpI : ∀ (ns : List Int), DpAll K H (ns.map V.int) (ns.map PyData.int)
  | [] => .nil
  | n :: r => .cons (.int n) (dpI r)
theorem dpB : ∀ (ns : List Bool), DpAll K H (ns.map V.bl) (ns.map PyData.bool)
  | [] => .nil
  | n :: r => .cons (.bl n) (dpB r)
theorem dpS : ∀ (ns : List Str), DpAll K H (ns.map V.str) (ns.map PyData.str)
  | [] => .nil
  | n :: r => .cons (.str n) (dpS r)

theorem sh_I (ns : List Int) : SeqAt.shaped (.list (ns.map PyData.int)) = true := by
  have h1 : ∀ ns : List Int, PyData.canLayAll0 (ns.map PyData.int) = true := fun ns => by
    induction ns with
    | nil => rfl
    | cons n r ih => simpa [PyData.canLayAll0, PyData.canLay0] using ih
  have h2 : ∀ ns : List Int, PyData.depthAll (ns.map PyData.int) = 0 := fun ns => by
    induction ns with
    | nil => rfl
    | cons n r ih => simpa [PyData.depthAll, PyData.depth] using ih
  simp [SeqAt.shaped, PyData.canLay0, h1, PyData.depth, h2]
theorem sh_B (ns : List Bool) : SeqAt.shaped (.list (ns.map PyData.bool)) = true := by
  have h1 : ∀ ns : List Bool, PyData.canLayAll0 (ns.map PyData.bool) = true := fun ns => by
    induction ns with
    | nil => rfl
    | cons n r ih => simpa [PyData.canLayAll0, PyData.canLay0] using ih
  have h2 : ∀ ns : List Bool, PyData.depthAll (ns.map PyData.bool) = 0 := fun ns => by
    induction ns with
    | nil => rfl
    | cons n r ih => simpa [PyData.depthAll, PyData.depth] using ih
  simp [SeqAt.shaped, PyData.canLay0, h1, PyData.depth, h2]
theorem ev_I : ∀ (ns ms : List Int), PyData.eqv (.list (ns.map PyData.int)) (.list (ms.map PyData.int)) = decide (ns = ms) := by
  have h : ∀ (ns ms : List Int), PyData.eqvAll (ns.map PyData.int) (ms.map PyData.int) = decide (ns = ms) := fun ns => by
    induction ns with
    | nil => intro ms; cases ms <;> simp [PyData.eqvAll]
    | cons n r ih =>
      intro ms
      cases ms with
      | nil => simp [PyData.eqvAll]
      | cons m s =>
        simp only [List.map_cons, PyData.eqvAll, PyData.eqv, ih, List.cons.injEq, Bool.decide_and]
        rw [Bool.beq_eq_decide_eq]
  exact fun ns ms => by simpa only [PyData.eqv] using h ns ms
theorem k_eqLI (ha : SqL K H a (xs'.map V.int)) (hb : SqL K H b (ys'.map V.int)) (k : Q (.bl (decide (xs' = ys'))) H) : rEqD K (.ref a) (.ref b) H Q :=
  ⟨_, _, .lst ha (dpI _), .lst hb (dpI _), sh_I _, sh_I _, by rw [ev_I]; exact k⟩
theorem k_neLI (ha : SqL K H a (xs'.map V.int)) (hb : SqL K H b (ys'.map V.int)) (k : Q (.bl (!decide (xs' = ys'))) H) : rNeD K (.ref a) (.ref b) H Q :=
  ⟨_, _, .lst ha (dpI _), .lst hb (dpI _), sh_I _, sh_I _, by rw [ev_I]; exact k⟩
/-! lists -/
theorem k_len (h : SqL K H a (xs.map f)) (k : Q (.int (xs.length : Int)) H) : ∃ p ys, [V.ref a] = [V.ref p] ∧ (SqL K H p ys ∨ SqT K H p ys) ∧ Q (.int ys.length) H :=
  ⟨a, _, rfl, .inl h, by rw [List.length_map]; exact k⟩
theorem k_list (O : Own R H L) {ys : List V} (h : SqL K H a ys) (k : ∀ p H', Own R H' ((p, .lst ys) :: L) → Q (.ref p) H') : ∃ p ys, [V.ref a] = [V.ref p] ∧ (SqL K H p ys ∨ SqT K H p ys) ∧ ∀ l, H l = none → Q (.ref l) (upd H l (.lst ys)) :=
  ⟨a, _, rfl, .inl h, fun l hl => k l _ (O.new hl)⟩
theorem k_sum (h : SqL K H a (xs'.map V.int)) (k : Q (.int xs'.sum) H) : rSum K [.ref a] H Q := ⟨a, _, rfl, h, k⟩
theorem k_new {zs : List V} (O : Own R H L) (k : ∀ p H', Own R H' ((p, .lst zs) :: L) → Q (.ref p) H') : ∀ p, H p = none → Q (.ref p) (upd H p (.lst zs)) := fun p hp => k p _ (O.new hp)
theorem k_newT {zs : List V} (O : Own R H L) (k : ∀ p H', Own R H' ((p, .tup zs) :: L) → Q (.ref p) H') : ∀ p, H p = none → Q (.ref p) (upd H p (.tup zs)) := fun p hp => k p _ (O.new hp)
theorem at_map {xs : List α} {i : Int} {x : α} (h : atI xs i = some x) (f : α → V) : atI (xs.map f) i = some (f x) := by
  unfold atI at h ⊢
  rw [List.length_map]
  cases e : ixN xs.length i with
  | none => rw [e] at h; cases h
  | some j =>
    rw [e] at h
    show (xs.map f)[j]? = some (f x)
    rw [List.getElem?_map, (show xs[j]? = some x from h)]
    rfl
theorem k_ixL {x : α} (hs : SqL K H a (xs.map f)) (h : atI xs i = some x) (k : Q (f x) H) : rIxL K (.ref a) (.int i) H Q := ⟨a, _, i, _, rfl, rfl, hs, at_map h f, k⟩
theorem map_snoc (xs : List α) (x : α) (f : α → V) : xs.map f ++ [f x] = (xs ++ [x]).map f := by rw [List.map_append]; rfl
theorem k_app {x : α} {g : HO → List Cell} (hl : H a = some (.lst (xs.map f))) (hp : ∀ o', Own R (upd H a o') (g o')) (h : appG xs x = some ys) (k : ∀ H', Own R H' (g (.lst (ys.map f))) → Q .non H') : rAppend (.ref a) [f x] H Q := by
  obtain ⟨c, rfl⟩ := grdE h
  refine ⟨a, _, _, rfl, rfl, hl, by rw [List.length_map]; exact c, ?_⟩
  rw [map_snoc]
  exact k _ (hp _)
theorem map_cut (xs : List α) (lo hi : Option Int) (f : α → V) : cutV (xs.map f) lo hi = (cutL xs lo hi).map f := by
  unfold cutV cutL
  rw [List.length_map, ← List.map_drop, ← List.map_take]
theorem k_cut {lo hi : Option Int} (O : Own R H L) (hs : SqL K H a (xs.map f)) (k : ∀ p H', Own R H' ((p, .lst ((cutL xs lo hi).map f)) :: L) → Q (.ref p) H') : rSlL K (.ref a) lo hi H Q :=
  ⟨a, _, rfl, hs, fun p hp => by rw [map_cut]; exact k p _ (O.new hp)⟩
theorem k_cat {ys zs : List α} (O : Own R H L) (h1 : H a = some (.lst (xs.map f))) (h2 : H b = some (.lst (ys.map f))) (h : catG xs ys = some zs) (k : ∀ p H', Own R H' ((p, .lst (zs.map f)) :: L) → Q (.ref p) H') : rCat (.ref a) (.ref b) H Q := by
  obtain ⟨c, rfl⟩ := grdE h
  exact ⟨a, b, _, _, rfl, rfl, h1, h2, by rw [List.length_map, List.length_map]; exact c, fun p hp => by rw [← List.map_append]; exact k p _ (O.new hp)⟩
theorem k_setL {x : α} {g : HO → List Cell} {QH : Hp → Prop} (hl : H a = some (.lst (xs.map f))) (hp : ∀ o', Own R (upd H a o') (g o')) (h : setG xs i x = some ys) (k : ∀ H', Own R H' (g (.lst (ys.map f))) → QH H') : rSetL (.ref a) (.int i) (f x) H QH := by
  unfold setG at h
  cases e : ixN xs.length i with
  | none => rw [e] at h; cases h
  | some j =>
    rw [e] at h
    cases h
    refine ⟨a, _, i, j, rfl, rfl, hl, by rw [List.length_map]; exact e, ?_⟩
    have e2 : (xs.map f).set j (f x) = (xs.set j x).map f := by rw [List.map_set]
    rw [e2]
    exact k _ (hp _)
/-! tests with two sides: what the one is asked for, the other is not seen -/
theorem x_and {c d e : Bool} {tt uu : TT} {QB : Bool → Hp → Prop} (O : Own R H L) (h1 : ∀ Q1 : Bool → Hp → Prop, (∀ H', Own R H' L → Q1 c H') → tt σ H Q1) (h2 : c = true → e = d ∧ ∀ H', Own R H' L → ∀ Q2 : Bool → Hp → Prop, (∀ H'', Own R H'' L → Q2 e H'') → uu σ H' Q2)
    (h3 : c = false → false = d) (k : ∀ H', Own R H' L → QB d H') : tAnd tt uu σ H QB := by
  refine h1 _ fun H' O' => ?_
  cases c with
  | true =>
    obtain ⟨e1, g2⟩ := h2 rfl
    subst e1
    exact g2 H' O' QB k
  | false =>
    rw [← h3 rfl] at k
    exact k H' O'
theorem x_or {c d e : Bool} {tt uu : TT} {QB : Bool → Hp → Prop} (O : Own R H L) (h1 : ∀ Q1 : Bool → Hp → Prop, (∀ H', Own R H' L → Q1 c H') → tt σ H Q1) (h2 : c = false → e = d ∧ ∀ H', Own R H' L → ∀ Q2 : Bool → Hp → Prop, (∀ H'', Own R H'' L → Q2 e H'') → uu σ H' Q2)
    (h3 : c = true → true = d) (k : ∀ H', Own R H' L → QB d H') : tOr tt uu σ H QB := by
  refine h1 _ fun H' O' => ?_
  cases c with
  | false =>
    obtain ⟨e1, g2⟩ := h2 rfl
    subst e1
    exact g2 H' O' QB k
  | true =>
    rw [← h3 rfl] at k
    exact k H' O'
theorem x_andV {c d e : Bool} {tt uu : TE} (O : Own R H L) (h1 : ∀ Q1 : VK, (∀ H', Own R H' L → Q1 (.bl c) H') → tt σ H Q1) (h2 : c = true → e = d ∧ ∀ H', Own R H' L → ∀ Q2 : VK, (∀ H'', Own R H'' L → Q2 (.bl e) H'') → uu σ H' Q2)
    (h3 : c = false → false = d) (k : ∀ H', Own R H' L → Q (.bl d) H') : tAndV tt uu σ H Q := by
  refine h1 _ fun H' O' => ⟨_, rfl, ?_⟩
  cases c with
  | true =>
    obtain ⟨e1, g2⟩ := h2 rfl
    subst e1
    exact g2 H' O' Q k
  | false =>
    rw [← h3 rfl] at k
    exact k H' O'
theorem x_orV {c d e : Bool} {tt uu : TE} (O : Own R H L) (h1 : ∀ Q1 : VK, (∀ H', Own R H' L → Q1 (.bl c) H') → tt σ H Q1) (h2 : c = false → e = d ∧ ∀ H', Own R H' L → ∀ Q2 : VK, (∀ H'', Own R H'' L → Q2 (.bl e) H'') → uu σ H' Q2)
    (h3 : c = true → true = d) (k : ∀ H', Own R H' L → Q (.bl d) H') : tOrV tt uu σ H Q := by
  refine h1 _ fun H' O' => ⟨_, rfl, ?_⟩
  cases c with
  | false =>
    obtain ⟨e1, g2⟩ := h2 rfl
    subst e1
    exact g2 H' O' Q k
  | true =>
    rw [← h3 rfl] at k
    exact k H' O'
/-- a < b < c -/
theorem x_chain {r r' : R2} {c d e : Bool} {ta tb tc : TE} (O : Own R H L) (h1 : ∀ Q1 : VK, (∀ H', Own R H' L → Q1 x H') → ta σ H Q1) (h2 : ∀ H', Own R H' L → ∀ Q1 : VK, (∀ H', Own R H' L → Q1 y H') → tb σ H' Q1) (h3 : ∀ H' (Q1 : VK), Q1 (.bl c) H' → r x y H' Q1)
    (h4 : c = true → e = d ∧ ∀ H', Own R H' L → ∀ Q1 : VK, (∀ H', Own R H' L → Q1 z H') → tc σ H' Q1) (h5 : ∀ H' (Q1 : VK), Q1 (.bl e) H' → r' y z H' Q1) (h6 : c = false → false = d) (k : ∀ H', Own R H' L → Q (.bl d) H') : tChain r r' ta tb tc σ H Q := by
  refine h1 _ fun H1 O1 => h2 H1 O1 _ fun H2 O2 => h3 H2 _ ⟨c, rfl, ?_⟩
  cases c with
  | true =>
    obtain ⟨e1, g4⟩ := h4 rfl
    subst e1
    exact g4 H2 O2 _ fun H3 O3 => h5 H3 _ (k H3 O3)
  | false =>
    rw [← h6 rfl] at k
    exact k H2 O2
/-- a if c else b, a value -/
theorem x_if {c : Bool} {tt : TT} {ta tb : TE} (O : Own R H L) (h1 : ∀ Q1 : Bool → Hp → Prop, (∀ H', Own R H' L → Q1 c H') → tt σ H Q1) (h2 : c = true → x = v ∧ ∀ H', Own R H' L → ∀ Q2 : VK, (∀ H'', Own R H'' L → Q2 x H'') → ta σ H' Q2)
    (h3 : c = false → y = v ∧ ∀ H', Own R H' L → ∀ Q2 : VK, (∀ H'', Own R H'' L → Q2 y H'') → tb σ H' Q2) (k : ∀ H', Own R H' L → Q v H') : tIf tt ta tb σ H Q := by
  refine h1 _ fun H' O' => ?_
  cases c with
  | true =>
    obtain ⟨e1, g2⟩ := h2 rfl
    subst e1
    exact g2 H' O' Q k
  | false =>
    obtain ⟨e1, g3⟩ := h3 rfl
    subst e1
    exact g3 H' O' Q k
theorem iteS {c : Bool} {A B : Prop} (h1 : c = true → A) (h2 : c = false → B) : if c = true then A else B := by
  cases c with
  | true => rw [if_pos rfl]; exact h1 rfl
  | false => rw [if_neg Bool.false_ne_true]; exact h2 rfl
/-! loops -/
theorem k_forL {g : TG} {tb : TS} {D : Ends} (J : List α → St → Hp → Prop) (h0 : J xs σ H) (hl : ∀ r σ H, J r σ H → SqL K H a (xs.map f))
    (hs : ∀ x r σ H, J (x :: r) σ H → g (f x) σ H fun σ2 H2 => tb { D with nx := J r, ct := J r, bk := D.nx } σ2 H2) (hd : ∀ σ H, J [] σ H → D.nx σ H) :
    ∃ W : Nat → Nat → St → Hp → Prop, (∃ m, W 0 m σ H) ∧ ∀ i m σ H, W i m σ H →
      ((Itl K a).stop i H ∧ D.nx σ H) ∨ ((Itl K a).go i H ∧ ∃ N : St → Hp → Prop, (∀ σ' H', N σ' H' → ∃ m', m' < m ∧ W (i + 1) m' σ' H') ∧ ∀ x H', (Itl K a).yld i H x H' → g x σ H' fun σ2 H2 => tb { D with nx := N, ct := N, bk := D.nx } σ2 H2) := by
  refine for_list (xs := xs.map f) (fun i σ H => J (xs.drop i) σ H) h0 (fun i σ H _ => hl _ σ H) (fun i x σ H hi hJ => ?_) fun σ H hJ => ?_
  · rw [List.getElem?_map] at hi
    cases e : xs[i]? with
    | none => rw [e] at hi; cases hi
    | some y =>
      rw [e] at hi
      cases hi
      have e2 : xs.drop i = y :: xs.drop (i + 1) := by
        obtain ⟨h1, h2⟩ := List.getElem?_eq_some_iff.mp e
        rw [← h2]
        exact List.drop_eq_getElem_cons h1
      rw [e2] at hJ
      exact hs y _ σ H hJ
  · rw [List.length_map, List.drop_length] at hJ
    exact hd σ H hJ
theorem k_forR {lo : Int} {n : Nat} {g : TG} {tb : TS} {D : Ends} (J : List Int → St → Hp → Prop) (h0 : J ((List.range n).map fun (i : Nat) => lo + (i : Int)) σ H)
    (hs : ∀ x r σ H, J (x :: r) σ H → g (.int x) σ H fun σ2 H2 => tb { D with nx := J r, ct := J r, bk := D.nx } σ2 H2) (hd : ∀ σ H, J [] σ H → D.nx σ H) :
    ∃ W : Nat → Nat → St → Hp → Prop, (∃ m, W 0 m σ H) ∧ ∀ i m σ H, W i m σ H →
      ((Itr lo n).stop i H ∧ D.nx σ H) ∨ ((Itr lo n).go i H ∧ ∃ N : St → Hp → Prop, (∀ σ' H', N σ' H' → ∃ m', m' < m ∧ W (i + 1) m' σ' H') ∧ ∀ x H', (Itr lo n).yld i H x H' → g x σ H' fun σ2 H2 => tb { D with nx := N, ct := N, bk := D.nx } σ2 H2) := by
  refine for_range (fun i σ H => J (((List.range n).map fun (i : Nat) => lo + (i : Int)).drop i) σ H) h0 (fun i σ H hi hJ => ?_) fun σ H hJ => ?_
  · have e2 : ((List.range n).map fun (i : Nat) => lo + (i : Int)).drop i = (lo + (i : Int)) :: ((List.range n).map fun (i : Nat) => lo + (i : Int)).drop (i + 1) := by
      have h1 : i < ((List.range n).map fun (i : Nat) => lo + (i : Int)).length := by simpa using hi
      rw [List.drop_eq_getElem_cons h1]
      simp
    rw [e2] at hJ
    exact hs _ _ σ H hJ
  · have e : ((List.range n).map fun (i : Nat) => lo + (i : Int)).drop n = [] := List.drop_eq_nil_of_le (by simp)
    rw [e] at hJ
    exact hd σ H hJ
theorem k_rng1 {RJ : It → Hp → Prop} (h : rng1 j = some xs') (k : xs' = ((List.range j.toNat).map fun (i : Nat) => (0 : Int) + (i : Int)) → RJ (Itr 0 j.toNat) H) : ∃ j' : Int, [V.int j] = [V.int j'] ∧ -(2 ^ 62) ≤ j' ∧ j' < 2 ^ 62 ∧ RJ (Itr 0 j'.toNat) H := by
  obtain ⟨⟨c1, c2⟩, rfl⟩ := grdE h
  exact ⟨j, rfl, c1, c2, k (by unfold rangeI; rw [Int.sub_zero])⟩
theorem k_rng2 {RJ : It → Hp → Prop} (h : rng2 i j = some xs') (k : xs' = ((List.range (j - i).toNat).map fun (n : Nat) => i + (n : Int)) → RJ (Itr i (j - i).toNat) H) :
    ∃ i' j' : Int, [V.int i, V.int j] = [V.int i', V.int j'] ∧ (-(2 ^ 62) ≤ i' ∧ i' < 2 ^ 62 ∧ -(2 ^ 62) ≤ j' ∧ j' < 2 ^ 62) ∧ RJ (Itr i' (j' - i').toNat) H := by
  obtain ⟨c, rfl⟩ := grdE h
  exact ⟨i, j, rfl, c, k rfl⟩
/-- while: J, by the turns that the mirror still has -/
theorem k_while {tc : TT} {tb : TS} {D : Ends} (J : Nat → St → Hp → Prop) (n : Nat) (h0 : J n σ H)
    (hs : ∀ n σ H, J n σ H → tc σ H fun b H1 => if b = true then ∃ N : St → Hp → Prop, (∀ σ' H', N σ' H' → ∃ m', m' < n ∧ J m' σ' H') ∧ tb { D with nx := N, ct := N, bk := D.nx } σ H1 else D.nx σ H1) : tWhile tc tb D σ H :=
  ⟨J, ⟨n, h0⟩, hs⟩
/-! comprehensions -/
theorem k_lcL {g : TG} {te : TE} {vs : List Nat} {D : Addr} {Qd : Hp → Prop} (J : List α → Hp → Prop) (h0 : J xs (upd H D (.lst []))) (hl : ∀ r H, J r H → SqL K H a (xs.map f))
    (hs : ∀ x r H, J (x :: r) H → g (f x) (wipe σ vs) H fun σ2 H2 => wipe σ2 vs = wipe σ vs ∧ te σ2 H2 fun y H4 => ∃ acc, H4 D = some (.lst acc) ∧ acc.length < sizeLine ∧ J r (upd H4 D (.lst (acc ++ [y])))) (hd : ∀ H, J [] H → Qd H) :
    ∃ W : Nat → Nat → Hp → Prop, (∃ m, W 0 m (upd H D (.lst []))) ∧ ∀ i m H, W i m H →
      ((Itl K a).stop i H ∧ Qd H) ∨ ((Itl K a).go i H ∧ ∃ Nx : Hp → Prop, (∀ H', Nx H' → ∃ m', m' < m ∧ W (i + 1) m' H') ∧ ∀ x H', (Itl K a).yld i H x H' → g x (wipe σ vs) H' fun σ2 H2 => wipe σ2 vs = wipe σ vs ∧ tYes σ2 H2 fun b H3 =>
        if b = true then te σ2 H3 fun y H4 => ∃ acc, H4 D = some (.lst acc) ∧ acc.length < sizeLine ∧ Nx (upd H4 D (.lst (acc ++ [y]))) else Nx H3) := by
  refine lc_list (xs := xs.map f) (fun i H => J (xs.drop i) H) h0 (fun i H _ => hl _ H) (fun i x H hi hJ => ?_) fun H hJ => ?_
  · rw [List.getElem?_map] at hi
    cases e : xs[i]? with
    | none => rw [e] at hi; cases hi
    | some y =>
      rw [e] at hi
      cases hi
      have e2 : xs.drop i = y :: xs.drop (i + 1) := by
        obtain ⟨h1, h2⟩ := List.getElem?_eq_some_iff.mp e
        rw [← h2]
        exact List.drop_eq_getElem_cons h1
      rw [e2] at hJ
      exact hs y _ H hJ
  · rw [List.length_map, List.drop_length] at hJ
    exact hd H hJ
theorem k_lcR {lo : Int} {n : Nat} {g : TG} {te : TE} {vs : List Nat} {D : Addr} {Qd : Hp → Prop} (J : List Int → Hp → Prop) (h0 : J ((List.range n).map fun (i : Nat) => lo + (i : Int)) (upd H D (.lst [])))
    (hs : ∀ x r H, J (x :: r) H → g (.int x) (wipe σ vs) H fun σ2 H2 => wipe σ2 vs = wipe σ vs ∧ te σ2 H2 fun y H4 => ∃ acc, H4 D = some (.lst acc) ∧ acc.length < sizeLine ∧ J r (upd H4 D (.lst (acc ++ [y])))) (hd : ∀ H, J [] H → Qd H) :
    ∃ W : Nat → Nat → Hp → Prop, (∃ m, W 0 m (upd H D (.lst []))) ∧ ∀ i m H, W i m H →
      ((Itr lo n).stop i H ∧ Qd H) ∨ ((Itr lo n).go i H ∧ ∃ Nx : Hp → Prop, (∀ H', Nx H' → ∃ m', m' < m ∧ W (i + 1) m' H') ∧ ∀ x H', (Itr lo n).yld i H x H' → g x (wipe σ vs) H' fun σ2 H2 => wipe σ2 vs = wipe σ vs ∧ tYes σ2 H2 fun b H3 =>
        if b = true then te σ2 H3 fun y H4 => ∃ acc, H4 D = some (.lst acc) ∧ acc.length < sizeLine ∧ Nx (upd H4 D (.lst (acc ++ [y]))) else Nx H3) := by
  refine lc_range (fun i H => J (((List.range n).map fun (i : Nat) => lo + (i : Int)).drop i) H) h0 (fun i H hi hJ => ?_) fun H hJ => ?_
  · have e2 : ((List.range n).map fun (i : Nat) => lo + (i : Int)).drop i = (lo + (i : Int)) :: ((List.range n).map fun (i : Nat) => lo + (i : Int)).drop (i + 1) := by
      have h1 : i < ((List.range n).map fun (i : Nat) => lo + (i : Int)).length := by simpa using hi
      rw [List.drop_eq_getElem_cons h1]
      simp
    rw [e2] at hJ
    exact hs _ _ H hJ
  · have e : ((List.range n).map fun (i : Nat) => lo + (i : Int)).drop n = [] := List.drop_eq_nil_of_le (by simp)
    rw [e] at hJ
    exact hd H hJ
end
end Bt

set_option Elab.async false
set_option linter.all false
set_option maxRecDepth 100000
set_option maxHeartbeats 4000000
/-! More steps. -/
namespace Bt
open PySem L2
/-- a name of the module that holds a value -/
def Gv (mg : Str → Option Value) (x : Str) (v : V) : Prop := ∃ u, mg x = some u ∧ RelV v u
theorem pe_gv {X : Cx} {x : Str} {v : V} {pos : Pos} (hg : Gl X x) (h : Gv X.mg x v) (hd : (x == ("__debug__" : Str)) = false := by decide) : PE X (.Name x pos) (tC v) := by
  obtain ⟨u, h1, h2⟩ := h
  exact pe_glob hg h1 h2 hd
section
variable {α S T R' : Type}
theorem finNx {rest : S → Option R'} {s : S} {r : R'} (h : finK rest (.nx s) = some r) : rest s = some r := h
theorem floNx {rest : S → Option (Fl T R')} {s : S} {fl : Fl T R'} (h : floK rest (.nx s) = some fl) : rest s = some fl := h
end
section
variable {K : PySem.W.Frag} {σ : St} {H R : Hp} {L L' : List Cell} {Q : VK} {a b p : Addr} {α : Type} {f : α → V} {xs ys zs : List α}
/-- some of the cells, by their places -/
theorem Own.sel (O : Own R H L) (is : List Nat) (hd : is.Nodup) (e : is.map (fun i => L[i]?) = L'.map some) : Own R H L' := by
  have hm : ∀ c ∈ L', c ∈ L := fun c hc => by
    have h1 : some c ∈ is.map (fun i => L[i]?) := by rw [e]; exact List.mem_map_of_mem hc
    obtain ⟨i, _, h2⟩ := List.mem_map.mp h1
    exact List.mem_of_getElem? h2
  refine ⟨O.ex, fun c h => O.at_ c (hm c h), fun c h => O.fr c (hm c h), ?_⟩
  clear hm
  induction is generalizing L' with
  | nil =>
    cases L' with
    | nil => exact List.Pairwise.nil
    | cons c r => simp at e
  | cons i is ih =>
    cases L' with
    | nil => simp at e
    | cons c r =>
      simp only [List.map_cons, List.cons.injEq] at e
      obtain ⟨e1, e2⟩ := e
      obtain ⟨n1, n2⟩ := List.nodup_cons.mp hd
      refine List.nodup_cons.mpr ⟨fun m => ?_, ih n2 e2⟩
      obtain ⟨d, hdm, ed⟩ := List.mem_map.mp m
      have h1 : some d ∈ is.map (fun i => L[i]?) := by rw [e2]; exact List.mem_map_of_mem hdm
      obtain ⟨j, hj, h2⟩ := List.mem_map.mp h1
      have g1 : (L.map (·.1))[i]? = some c.1 := by rw [List.getElem?_map, e1]; rfl
      have g2 : (L.map (·.1))[j]? = some c.1 := by
        rw [List.getElem?_map, h2]
        exact congrArg some ed
      have : i = j := nd_ix O.nd g1 g2
      subst this
      exact n1 hj
theorem a_set {v v' : V} {nx : St → Hp → Prop} {i : Nat} (e : v = v') (k : nx (σ.set i (some v')) H) : nx (σ.set i (some v)) H := by rw [e]; exact k
theorem k_newM {zs : List V} (O : Own R H L) (e : xs.map f = zs) (k : ∀ p H', Own R H' ((p, .lst (xs.map f)) :: L) → Q (.ref p) H') : ∀ p, H p = none → Q (.ref p) (upd H p (.lst zs)) := by
  subst e
  exact fun p hp => k p _ (O.new hp)
theorem k_rep {k : Int} (O : Own R H L) (h1 : H a = some (.lst (xs.map f))) (h : repG xs k = some zs) (q : ∀ p H', Own R H' ((p, .lst (zs.map f)) :: L) → Q (.ref p) H') : rRep (.ref a) (.int k) H Q := by
  obtain ⟨⟨c1, c2, c3⟩, rfl⟩ := grdE h
  refine ⟨a, k, _, rfl, rfl, h1, c1, c2, by rw [List.length_map]; exact c3, fun p hp => ?_⟩
  have e : ∀ n : Nat, (List.replicate n (xs.map f)).flatten = (List.replicate n xs).flatten.map f := fun n => by
    induction n with
    | zero => rfl
    | succ n ih => rw [List.replicate_succ, List.flatten_cons, ih, List.replicate_succ, List.flatten_cons, List.map_append]
  first
    | (rw [e]; exact q p _ (O.new hp))
    | (show Q (.ref p) _; simpa only [e] using q p _ (O.new hp))
end
end Bt
namespace Bt
open PySem L2
/-! readings under a name of their own, so that what follows stands as an argument -/
@[irreducible] def rNewL (xs : List V) (H : Hp) (Q : VK) : Prop := xs.length ≤ sizeLine ∧ ∀ p, H p = none → Q (.ref p) (upd H p (.lst xs))
@[irreducible] def rNewT (xs : List V) (H : Hp) (Q : VK) : Prop := xs.length ≤ sizeLine ∧ ∀ p, H p = none → Q (.ref p) (upd H p (.tup xs))
@[irreducible] def rLenQ (K : PySem.W.Frag) (xs : List V) (H : Hp) (Q : VK) : Prop := ∃ p ys, xs = [V.ref p] ∧ (SqL K H p ys ∨ SqT K H p ys) ∧ Q (.int ys.length) H
@[irreducible] def rListQ (K : PySem.W.Frag) (xs : List V) (H : Hp) (Q : VK) : Prop := ∃ p ys, xs = [V.ref p] ∧ (SqL K H p ys ∨ SqT K H p ys) ∧ ∀ l, H l = none → Q (.ref l) (upd H l (.lst ys))
section
variable {X : Cx}
theorem pe_lstQ {es : List Expr} {t : TA} {pos : Pos} (h : PE X (.List es pos) (tLst t)) : PE X (.List es pos) (fun σ H Q => t σ H fun xs H1 => rNewL xs H1 Q) := by
  unfold rNewL
  exact h
theorem pe_tupQ {es : List Expr} {k : Nat} {t : TA} {pos : Pos} (h : PE X (.Tuple es k pos) (tTup t)) : PE X (.Tuple es k pos) (fun σ H Q => t σ H fun xs H1 => rNewT xs H1 Q) := by
  unfold rNewT
  exact h
theorem call_lenQ : CallR X (.builtin "len") (rLenQ X.K) := by
  have e : rLenQ X.K = fun xs H Q => ∃ p ys, xs = [V.ref p] ∧ (SqL X.K H p ys ∨ SqT X.K H p ys) ∧ Q (.int ys.length) H := by
    funext xs H Q
    unfold rLenQ
    rfl
  rw [e]
  exact call_len_seq
theorem call_listQ : CallR X (.type "list") (rListQ X.K) := by
  have e : rListQ X.K = fun xs H Q => ∃ p ys, xs = [V.ref p] ∧ (SqL X.K H p ys ∨ SqT X.K H p ys) ∧ ∀ l, H l = none → Q (.ref l) (upd H l (.lst ys)) := by
    funext xs H Q
    unfold rListQ
    rfl
  rw [e]
  exact call_list_of
end
section
variable {K : PySem.W.Frag} {σ : St} {H R : Hp} {L L' : List Cell} {Q : VK} {a b p : Addr} {α : Type} {f : α → V} {xs ys zs : List α}
theorem x_nil {QA : List V → Hp → Prop} (h : QA [] H) : tNil σ H QA := h
theorem x_np {QO : Option Int → Hp → Prop} (h : QO none H) : tNoPart σ H QO := h
theorem n_lst {zs : List V} (O : Own R H L) (e : xs.map f = zs) (hz : zs.length ≤ sizeLine) (k : ∀ p H', Own R H' ((p, .lst (xs.map f)) :: L) → Q (.ref p) H') : rNewL zs H Q := by
  subst e
  unfold rNewL
  exact ⟨hz, fun p hp => k p _ (O.new hp)⟩
theorem n_lenT {K : PySem.W.Frag} {H : Hp} {Q : VK} {a : Addr} {ys : List V} {n : Nat} (hs : SqT K H a ys) (hn : ys.length = n) (q : Q (.int (n : Int)) H) : rLenQ K [.ref a] H Q := by
  unfold rLenQ
  exact ⟨a, ys, rfl, .inr hs, by rw [hn]; exact q⟩
theorem n_len (h : SqL K H a (xs.map f)) (k : Q (.int (xs.length : Int)) H) : rLenQ K [.ref a] H Q := by
  unfold rLenQ
  exact ⟨a, _, rfl, .inl h, by rw [List.length_map]; exact k⟩
theorem n_list {ys : List V} (O : Own R H L) (h : SqL K H a ys) (k : ∀ p H', Own R H' ((p, .lst ys) :: L) → Q (.ref p) H') : rListQ K [.ref a] H Q := by
  unfold rListQ
  exact ⟨a, _, rfl, .inl h, fun l hl => k l _ (O.new hl)⟩
theorem rng1E {j : Int} {xs : List Int} (h : rng1 j = some xs) : -(2 ^ 62) ≤ j ∧ j < 2 ^ 62 ∧ ((List.range j.toNat).map fun (i : Nat) => (0 : Int) + (i : Int)) = xs := by
  obtain ⟨⟨c1, c2⟩, rfl⟩ := grdE h
  exact ⟨c1, c2, by unfold rangeI; rw [Int.sub_zero]⟩
theorem rng2E {i j : Int} {xs : List Int} (h : rng2 i j = some xs) : (-(2 ^ 62) ≤ i ∧ i < 2 ^ 62 ∧ -(2 ^ 62) ≤ j ∧ j < 2 ^ 62) ∧ ((List.range (j - i).toNat).map fun (n : Nat) => i + (n : Int)) = xs := by
  obtain ⟨c, rfl⟩ := grdE h
  exact ⟨c, rfl⟩
end
end Bt
namespace Bt
open PySem L2
/-! a reading opened by one step, by its head -/
section
variable {K : PySem.W.Frag} {σ : St} {H : Hp} {Q : VK} {D : Ends} {t u ts : TS} {te ta tb tl : TE} {tr : TA} {c : TT} {v : V} {i : Nat} {r : R2} {QB : Bool → Hp → Prop} {QA : List V → Hp → Prop} {QO : Option Int → Hp → Prop} {R : It → Hp → Prop}
theorem o_seq {n b k : St → Hp → Prop} {w : VK} (h : t (Ends.mk (u (Ends.mk n w b k)) w b k) σ H) : tSeq t u (Ends.mk n w b k) σ H := h
theorem o_asg {n b k : St → Hp → Prop} {w : VK} (h : te σ H fun x H1 => n (σ.set i (some x)) H1) : tAsg te (gName i) (Ends.mk n w b k) σ H := h
theorem o_drop {n b k : St → Hp → Prop} {w : VK} (h : te σ H fun _ H1 => n σ H1) : tDrop te (Ends.mk n w b k) σ H := h
theorem o_ret {n b k : St → Hp → Prop} {w : VK} (h : te σ H w) : tRet te (Ends.mk n w b k) σ H := h
theorem o_ifs {n b k : St → Hp → Prop} {w : VK} (h : c σ H fun z H1 => if z = true then t (Ends.mk n w b k) σ H1 else u (Ends.mk n w b k) σ H1) : tIfS c t u (Ends.mk n w b k) σ H := h
theorem o_next {n b k : St → Hp → Prop} {w : VK} (h : n σ H) : tNext (Ends.mk n w b k) σ H := h
theorem o_brk {n b k : St → Hp → Prop} {w : VK} (h : b σ H) : tBreak (Ends.mk n w b k) σ H := h
theorem o_cont {n b k : St → Hp → Prop} {w : VK} (h : k σ H) : tCont (Ends.mk n w b k) σ H := h
theorem o_retN {n b k : St → Hp → Prop} {w : VK} (h : w .non H) : tRetN (Ends.mk n w b k) σ H := h
theorem o_cut {n b k : St → Hp → Prop} {w : VK} (Mid : St → Hp → Prop) (h1 : t (Ends.mk Mid w b k) σ H) (h2 : ∀ σ' H', Mid σ' H' → u (Ends.mk n w b k) σ' H') : Evl.tCut t u (Ends.mk n w b k) σ H := ⟨Mid, h1, h2⟩
theorem o_op (h : ta σ H fun x H1 => tb σ H1 fun y H2 => r x y H2 Q) : tOp r ta tb σ H Q := h
theorem o_un {r : V → Hp → VK → Prop} (h : ta σ H fun x H1 => r x H1 Q) : tUn r ta σ H Q := h
theorem o_c (h : Q v H) : tC v σ H Q := h
theorem o_test (h : te σ H fun x H' => ∃ k, x = .bl k ∧ QB k H') : tTest te σ H QB := h
theorem o_B (h : te σ H fun x H' => ∃ k, x = .bl k ∧ QB k H') : tB te σ H QB := h
theorem o_not (h : c σ H fun b H1 => QB (!b) H1) : tNot c σ H QB := h
theorem o_notV (h : te σ H fun x H1 => ∃ c, x = .bl c ∧ Q (.bl (!c)) H1) : tNotV te σ H Q := h
theorem o_cons (h : ta σ H fun x H1 => tr σ H1 fun xs H2 => QA (x :: xs) H2) : tCons ta tr σ H QA := h
theorem o_cb {r : List V → Hp → VK → Prop} (h : tr σ H fun vs H1 => r vs H1 Q) : tCB r tr σ H Q := h
theorem o_call {sp : Sp} {dvs : List V} {E : XK} (h : tr σ H fun vs H1 => sp (vs ++ dvs) H1 Q E) : tCall sp dvs E tr σ H Q := h
theorem o_bm {T : String} {r : V → List V → Hp → VK → Prop} (h : te σ H fun x H1 => tyV K T x H1 ∧ tr σ H1 fun xs H2 => r x xs H2 Q) : tBM K T r te tr σ H Q := h
theorem o_bm0 {T : String} {r : V → List V → Hp → VK → Prop} (h : te σ H fun x H1 => tyV K T x H1 ∧ r x [] H1 Q) : tBM0 K T r te σ H Q := h
theorem o_sl {r : V → Option Int → Option Int → Hp → VK → Prop} {t1 t2 : TO} (h : te σ H fun x H1 => t1 σ H1 fun l H2 => t2 σ H2 fun u H3 => r x l u H3 Q) : tSl r te t1 t2 σ H Q := h
theorem o_part (h : te σ H fun x H1 => ∃ i, x = .int i ∧ QO (some i) H1) : tPart te σ H QO := h
theorem o_for {wi : TI} {g : TG} {n b k : St → Hp → Prop} {w : VK} (h : wi σ H fun J H1 => ∃ W : Nat → Nat → St → Hp → Prop, (∃ m, W 0 m σ H1) ∧ ∀ i m σ H, W i m σ H →
    (J.stop i H ∧ n σ H) ∨ (J.go i H ∧ ∃ N : St → Hp → Prop, (∀ σ' H', N σ' H' → ∃ m', m' < m ∧ W (i + 1) m' σ' H') ∧ ∀ x H', J.yld i H x H' → g x σ H' fun σ2 H2 => ts (Ends.mk N w n N) σ2 H2)) : tFor wi g ts (Ends.mk n w b k) σ H := h
theorem o_il (h : tl σ H fun x H1 => ∃ a, x = .ref a ∧ (∃ xs, SqL K H1 a xs) ∧ R (Itl K a) H1) : iList K tl σ H R := h
theorem o_ir1 (h : tr σ H fun vs H1 => ∃ j : Int, vs = [.int j] ∧ -(2 ^ 62) ≤ j ∧ j < 2 ^ 62 ∧ R (Itr 0 j.toNat) H1) : iRng1 tr σ H R := h
theorem o_ir2 (h : tr σ H fun vs H1 => ∃ i j : Int, vs = [.int i, .int j] ∧ (-(2 ^ 62) ≤ i ∧ i < 2 ^ 62 ∧ -(2 ^ 62) ≤ j ∧ j < 2 ^ 62) ∧ R (Itr i (j - i).toNat) H1) : iRng2 tr σ H R := h
theorem o_sub {to ti : TE} {tset : TSet} {n b k : St → Hp → Prop} {w : VK} (h : te σ H fun x H1 => to σ H1 fun o H2 => ti σ H2 fun i H3 => tset o i x H3 fun H4 => n σ H4) : tAsg te (gSub to ti tset) (Ends.mk n w b k) σ H := h
/-! the loops once more, their ends apart -/
variable {α : Type} {f : α → V} {xs : List α} {a : Addr} {g : TG} {n b k : St → Hp → Prop} {w : VK}
theorem q_forL {j : Nat} (J : List α → St → Hp → Prop) (h0 : J xs σ H) (hl : ∀ r σ H, J r σ H → SqL K H a (xs.map f))
    (hs : ∀ x r σ H, J (x :: r) σ H → ts (Ends.mk (J r) w n (J r)) (σ.set j (some (f x))) H) (hd : ∀ σ H, J [] σ H → n σ H) :
    ∃ W : Nat → Nat → St → Hp → Prop, (∃ m, W 0 m σ H) ∧ ∀ i m σ H, W i m σ H →
      ((Itl K a).stop i H ∧ n σ H) ∨ ((Itl K a).go i H ∧ ∃ N : St → Hp → Prop, (∀ σ' H', N σ' H' → ∃ m', m' < m ∧ W (i + 1) m' σ' H') ∧ ∀ x H', (Itl K a).yld i H x H' → gName j x σ H' fun σ2 H2 => ts (Ends.mk N w n N) σ2 H2) :=
  k_forL (D := Ends.mk n w (fun _ _ => False) fun _ _ => False) (g := gName j) (tb := ts) J h0 hl hs hd
theorem q_forR {j : Nat} {lo : Int} {m : Nat} (J : List Int → St → Hp → Prop) (h0 : J ((List.range m).map fun (i : Nat) => lo + (i : Int)) σ H)
    (hs : ∀ x r σ H, J (x :: r) σ H → ts (Ends.mk (J r) w n (J r)) (σ.set j (some (.int x))) H) (hd : ∀ σ H, J [] σ H → n σ H) :
    ∃ W : Nat → Nat → St → Hp → Prop, (∃ m, W 0 m σ H) ∧ ∀ i m' σ H, W i m' σ H →
      ((Itr lo m).stop i H ∧ n σ H) ∨ ((Itr lo m).go i H ∧ ∃ N : St → Hp → Prop, (∀ σ' H', N σ' H' → ∃ m'', m'' < m' ∧ W (i + 1) m'' σ' H') ∧ ∀ x H', (Itr lo m).yld i H x H' → gName j x σ H' fun σ2 H2 => ts (Ends.mk N w n N) σ2 H2) :=
  k_forR (D := Ends.mk n w (fun _ _ => False) fun _ _ => False) (g := gName j) (tb := ts) J h0 hs hd
end
end Bt
namespace Bt
open PySem L2
/-! what the head tells of a def -/
theorem def_mk {K : PySem.W.Frag} {h : Heap} {mg : Str → Option Value} {name qual : Str} {st : Stmt} {f : Addr} {od an : Option Addr} {sl : Array (Option Value)} {oc kV dc pm cd ct : Value} (X : K.In h) (G : h.Ns mainGlobals mg)
    (a : PySem.W.nsIn K mainGlobals name = some (some (.ref f))) (l : K.lookup f = some ⟨oc, od, .func (PySem.W.fnOf name qual (defArgs st) (defBody st) (defScope st) .none kV dc pm an cd ct), sl⟩) (c : PySem.W.codeIn K cd qual = true) (k : PySem.W.keepIn K (.ref f) = true) :
    ∃ f fd, Fun K name qual st f fd ∧ mg name = some (.ref f) := ⟨f, _, fun_mk l c k, PySem.W.mg_of X G a⟩
theorem gv_int {K : PySem.W.Frag} {h : Heap} {mg : Str → Option Value} {x : Str} {i : Int} {t : Tok} (X : K.In h) (G : h.Ns mainGlobals mg) (a : PySem.W.nsIn K mainGlobals x = some (some (.int i t))) : Gv mg x (.int i) := ⟨_, PySem.W.mg_of X G a, _, rfl⟩
end Bt
namespace Bt
open PySem L2
section
variable {K : PySem.W.Frag} {σ : St} {H R : Hp} {L : List Cell} {Q : VK} {a p : Addr} {i : Int} {x v : V} {S R' : Type}
def FUEL : Nat := 100000
theorem whileM_end {c : Bool} {s out : S} {f : Option S} (h : ifB c f (some s) = some out) (hc : c = false) : out = s := (Option.some.inj (ifF h hc)).symm
theorem whileF_end {c : Bool} {s : S} {out : Fl S R'} {f : Option (Fl S R')} (h : ifB c f (some (.nx s)) = some out) (hc : c = false) : Fl.nx s = out := Option.some.inj (ifF h hc)
/-- while: J, by the turns that the mirror still has -/
theorem q_while {tc : TT} {ts : TS} {n b k : St → Hp → Prop} {w : VK} (J : Nat → St → Hp → Prop) (m : Nat) (h0 : J m σ H) (hz : ∀ σ H, J 0 σ H → False)
    (hs : ∀ m σ H, J (m + 1) σ H → tc σ H fun z H1 => if z = true then ts (Ends.mk (J m) w n (J m)) σ H1 else n σ H1) (mono : ∀ σ H (Q Q' : Bool → Hp → Prop), (∀ z H1, Q z H1 → Q' z H1) → tc σ H Q → tc σ H Q') : tWhile tc ts (Ends.mk n w b k) σ H := by
  refine ⟨J, ⟨m, h0⟩, fun m σ H hJ => ?_⟩
  cases m with
  | zero => exact (hz σ H hJ).elim
  | succ m =>
    refine mono σ H _ _ (fun z H1 q => ?_) (hs m σ H hJ)
    cases z with
    | true =>
      rw [if_pos rfl] at q ⊢
      exact ⟨J m, fun σ' H' hJ' => ⟨m, Nat.lt_succ_self m, hJ'⟩, q⟩
    | false =>
      rw [if_neg Bool.false_ne_true] at q ⊢
      exact q
theorem o_while {tc : TT} {ts : TS} {n b k : St → Hp → Prop} {w : VK} (J : Nat → St → Hp → Prop) (m : Nat) (h0 : J m σ H) (hz : ∀ σ H, J 0 σ H → False)
    (hs : ∀ m σ H, J (m + 1) σ H → tc σ H fun z H1 => if z = true then ∃ N : St → Hp → Prop, (∀ σ' H', N σ' H' → ∃ m', m' < m + 1 ∧ J m' σ' H') ∧ ts (Ends.mk N w n N) σ H1 else n σ H1) : tWhile tc ts (Ends.mk n w b k) σ H := by
  refine ⟨J, ⟨m, h0⟩, fun m σ H hJ => ?_⟩
  cases m with
  | zero => exact (hz σ H hJ).elim
  | succ m => exact hs m σ H hJ
theorem o_turn {J : Nat → St → Hp → Prop} {m : Nat} {ts : TS} {n : St → Hp → Prop} {w : VK} (h : ts (Ends.mk (J m) w n (J m)) σ H) :
    ∃ N : St → Hp → Prop, (∀ σ' H', N σ' H' → ∃ m', m' < m + 1 ∧ J m' σ' H') ∧ ts (Ends.mk N w n N) σ H := ⟨J m, fun _ _ hJ => ⟨m, Nat.lt_succ_self m, hJ⟩, h⟩
theorem n_tup {zs : List V} (O : Own R H L) (hz : zs.length ≤ sizeLine) (k : ∀ p H', Own R H' ((p, .tup zs) :: L) → Q (.ref p) H') : rNewT zs H Q := by
  unfold rNewT
  exact ⟨hz, fun p hp => k p _ (O.new hp)⟩
theorem k_ixT {xs : List V} (hs : SqT K H a xs) (h : atI xs i = some v) (k : Q v H) : rIxT K (.ref a) (.int i) H Q := ⟨a, xs, i, v, rfl, rfl, hs, h, k⟩
end
end Bt
namespace Bt
open PySem L2
section
variable {K : PySem.W.Frag} {σ : St} {H R : Hp} {L : List Cell} {Q : VK} {a p : Addr} {i : Int} {x v : V} {α : Type} {f : α → V} {xs : List α}
theorem inV_int (i : Int) : ∀ xs : List Int, inV (.int i) (xs.map V.int) = decide (i ∈ xs)
  | [] => rfl
  | y :: r => by
    have ih := inV_int i r
    have e : inV (.int i) ((y :: r).map V.int) = (eqV (.int y) (.int i) || inV (.int i) (r.map V.int)) := rfl
    rw [e, ih]
    have e2 : eqV (.int y) (.int i) = decide (i = y) := by
      by_cases h : i = y
      · subst h; simp [eqV]
      · have : ¬ y = i := fun q => h q.symm
        simp [eqV, h, this]
    rw [e2]
    simp
theorem flat_int : ∀ xs : List Int, (xs.map V.int).all flatV = true
  | [] => rfl
  | y :: r => by
    have ih := flat_int r
    show (flatV (.int y) && (r.map V.int).all flatV) = true
    rw [ih]
    rfl
theorem k_inL {ns : List Int} (hs : SqL K H a (ns.map V.int)) (k : Q (.bl (decide (i ∈ ns))) H) : rIn K false (.int i) (.ref a) H Q :=
  ⟨a, _, rfl, .inl hs, rfl, flat_int _, by rw [inV_int]; exact k⟩
theorem k_niL {ns : List Int} (hs : SqL K H a (ns.map V.int)) (k : Q (.bl (!decide (i ∈ ns))) H) : rIn K true (.int i) (.ref a) H Q :=
  ⟨a, _, rfl, .inl hs, rfl, flat_int _, by rw [inV_int]; exact k⟩
theorem k_inT {ns : List Int} (hs : SqT K H a (ns.map V.int)) (k : Q (.bl (decide (i ∈ ns))) H) : rIn K false (.int i) (.ref a) H Q :=
  ⟨a, _, rfl, .inr hs, rfl, flat_int _, by rw [inV_int]; exact k⟩
theorem k_niT {ns : List Int} (hs : SqT K H a (ns.map V.int)) (k : Q (.bl (!decide (i ∈ ns))) H) : rIn K true (.int i) (.ref a) H Q :=
  ⟨a, _, rfl, .inr hs, rfl, flat_int _, by rw [inV_int]; exact k⟩
/-! comprehensions with a test -/
theorem k_lcLt {g : TG} {tt : TT} {te : TE} {vs : List Nat} {D : Addr} {Qd : Hp → Prop} (J : List α → Hp → Prop) (h0 : J xs (upd H D (.lst []))) (hl : ∀ r H, J r H → SqL K H a (xs.map f))
    (hs : ∀ x r H, J (x :: r) H → g (f x) (wipe σ vs) H fun σ2 H2 => wipe σ2 vs = wipe σ vs ∧ tt σ2 H2 fun b H3 => if b = true then te σ2 H3 fun y H4 => ∃ acc, H4 D = some (.lst acc) ∧ acc.length < sizeLine ∧ J r (upd H4 D (.lst (acc ++ [y]))) else J r H3) (hd : ∀ H, J [] H → Qd H) :
    ∃ W : Nat → Nat → Hp → Prop, (∃ m, W 0 m (upd H D (.lst []))) ∧ ∀ i m H, W i m H →
      ((Itl K a).stop i H ∧ Qd H) ∨ ((Itl K a).go i H ∧ ∃ Nx : Hp → Prop, (∀ H', Nx H' → ∃ m', m' < m ∧ W (i + 1) m' H') ∧ ∀ x H', (Itl K a).yld i H x H' → g x (wipe σ vs) H' fun σ2 H2 => wipe σ2 vs = wipe σ vs ∧ tt σ2 H2 fun b H3 =>
        if b = true then te σ2 H3 fun y H4 => ∃ acc, H4 D = some (.lst acc) ∧ acc.length < sizeLine ∧ Nx (upd H4 D (.lst (acc ++ [y]))) else Nx H3) := by
  refine lc_list (xs := xs.map f) (fun i H => J (xs.drop i) H) h0 (fun i H _ => hl _ H) (fun i x H hi hJ => ?_) fun H hJ => ?_
  · rw [List.getElem?_map] at hi
    cases e : xs[i]? with
    | none => rw [e] at hi; cases hi
    | some y =>
      rw [e] at hi
      cases hi
      have e2 : xs.drop i = y :: xs.drop (i + 1) := by
        obtain ⟨h1, h2⟩ := List.getElem?_eq_some_iff.mp e
        rw [← h2]
        exact List.drop_eq_getElem_cons h1
      rw [e2] at hJ
      exact hs y _ H hJ
  · rw [List.length_map, List.drop_length] at hJ
    exact hd H hJ
theorem k_lcRt {lo : Int} {n : Nat} {g : TG} {tt : TT} {te : TE} {vs : List Nat} {D : Addr} {Qd : Hp → Prop} (J : List Int → Hp → Prop) (h0 : J ((List.range n).map fun (i : Nat) => lo + (i : Int)) (upd H D (.lst [])))
    (hs : ∀ x r H, J (x :: r) H → g (.int x) (wipe σ vs) H fun σ2 H2 => wipe σ2 vs = wipe σ vs ∧ tt σ2 H2 fun b H3 => if b = true then te σ2 H3 fun y H4 => ∃ acc, H4 D = some (.lst acc) ∧ acc.length < sizeLine ∧ J r (upd H4 D (.lst (acc ++ [y]))) else J r H3) (hd : ∀ H, J [] H → Qd H) :
    ∃ W : Nat → Nat → Hp → Prop, (∃ m, W 0 m (upd H D (.lst []))) ∧ ∀ i m H, W i m H →
      ((Itr lo n).stop i H ∧ Qd H) ∨ ((Itr lo n).go i H ∧ ∃ Nx : Hp → Prop, (∀ H', Nx H' → ∃ m', m' < m ∧ W (i + 1) m' H') ∧ ∀ x H', (Itr lo n).yld i H x H' → g x (wipe σ vs) H' fun σ2 H2 => wipe σ2 vs = wipe σ vs ∧ tt σ2 H2 fun b H3 =>
        if b = true then te σ2 H3 fun y H4 => ∃ acc, H4 D = some (.lst acc) ∧ acc.length < sizeLine ∧ Nx (upd H4 D (.lst (acc ++ [y]))) else Nx H3) := by
  refine lc_range (fun i H => J (((List.range n).map fun (i : Nat) => lo + (i : Int)).drop i) H) h0 (fun i H hi hJ => ?_) fun H hJ => ?_
  · have e2 : ((List.range n).map fun (i : Nat) => lo + (i : Int)).drop i = (lo + (i : Int)) :: ((List.range n).map fun (i : Nat) => lo + (i : Int)).drop (i + 1) := by
      have h1 : i < ((List.range n).map fun (i : Nat) => lo + (i : Int)).length := by simpa using hi
      rw [List.drop_eq_getElem_cons h1]
      simp
    rw [e2] at hJ
    exact hs _ _ H hJ
  · have e : ((List.range n).map fun (i : Nat) => lo + (i : Int)).drop n = [] := List.drop_eq_nil_of_le (by simp)
    rw [e] at hJ
    exact hd H hJ
/-! for i, x in enumerate(xs) -/
def enumI {α : Type} : Nat → List α → List (Int × α)
  | _, [] => []
  | n, x :: r => ((n : Int), x) :: enumI (n + 1) r
theorem enumI_drop {α : Type} : ∀ (xs : List α) (n i : Nat) (x : α), xs[i]? = some x → (enumI n xs).drop i = (((n + i : Nat) : Int), x) :: (enumI n xs).drop (i + 1)
  | [], _, _, _, h => by simp at h
  | y :: r, n, 0, x, h => by
    cases (Option.some.inj h)
    rfl
  | y :: r, n, i + 1, x, h => by
    have ih := enumI_drop r (n + 1) i x (by simpa using h)
    show (enumI (n + 1) r).drop i = _ :: (enumI (n + 1) r).drop (i + 1)
    rw [ih]
    have : n + 1 + i = n + (i + 1) := by omega
    rw [this]
theorem enumI_len {α : Type} : ∀ (xs : List α) (n : Nat), (enumI n xs).length = xs.length
  | [], _ => rfl
  | x :: r, n => by show (enumI (n + 1) r).length + 1 = r.length + 1; rw [enumI_len r]
theorem q_forE {i1 i2 : Nat} {ts : TS} {n b k : St → Hp → Prop} {w : VK} {KK : PySem.W.Frag} (J : List (Int × α) → St → Hp → Prop) (h0 : J (enumI 0 xs) σ H) (hl : ∀ r σ H, J r σ H → SqL K H a (xs.map f)) (hx : ∀ r σ H H', J r σ H → Ex H H' → J r σ H')
    (hs : ∀ j x r σ H, J ((j, x) :: r) σ H → ts (Ends.mk (J r) w n (J r)) ((σ.set i1 (some (.int j))).set i2 (some (f x))) H) (hd : ∀ σ H, J [] σ H → n σ H) :
    ∃ W : Nat → Nat → St → Hp → Prop, (∃ m, W 0 m σ H) ∧ ∀ i m σ H, W i m σ H →
      ((Ite K a).stop i H ∧ n σ H) ∨ ((Ite K a).go i H ∧ ∃ N : St → Hp → Prop, (∀ σ' H', N σ' H' → ∃ m', m' < m ∧ W (i + 1) m' σ' H') ∧ ∀ x H', (Ite K a).yld i H x H' → gTup KK 2 (gCons (gName i1) (gCons (gName i2) gNil)) x σ H' fun σ2 H2 => ts (Ends.mk N w n N) σ2 H2) := by
  refine ⟨fun i m σ H => m = xs.length - i ∧ i ≤ xs.length ∧ J ((enumI 0 xs).drop i) σ H, ⟨xs.length, by simp, Nat.zero_le _, h0⟩, ?_⟩
  rintro i m σ H ⟨rfl, hi, hJ⟩
  have hS := hl _ σ H hJ
  by_cases hlt : i < xs.length
  · have e : xs[i]? = some xs[i] := List.getElem?_eq_getElem hlt
    have e1 : (xs.map f)[i]? = some (f xs[i]) := by rw [List.getElem?_map, e]; rfl
    have e2 := enumI_drop xs 0 i xs[i] e
    rw [e2] at hJ
    refine .inr ⟨⟨_, _, hS, e1⟩, J ((enumI 0 xs).drop (i + 1)), fun σ' H' hJ' => ⟨_, by omega, rfl, hlt, hJ'⟩, fun y H' hy => ?_⟩
    obtain ⟨T, x, rfl, hT, rfl, hq⟩ := hy
    have hxx := hq _ hS
    rw [e1] at hxx
    cases hxx
    refine ⟨T, _, rfl, SqT.of upd_same, rfl, _, _, rfl, _, _, rfl, rfl, ?_⟩
    have hJ2 := hx _ _ _ (upd H T (.tup [.int ((i : Nat) : Int), f xs[i]])) hJ (Ex.new hT)
    have e3 : ((0 + i : Nat) : Int) = (i : Int) := by omega
    rw [e3] at hJ2
    exact hs _ _ _ _ _ hJ2
  · have e : (enumI 0 xs).drop i = [] := List.drop_eq_nil_of_le (by rw [enumI_len]; omega)
    rw [e] at hJ
    exact .inl ⟨⟨_, hS, by rw [List.length_map]; omega⟩, hd σ H hJ⟩
end
end Bt
namespace Bt
open PySem L2
/-! what is refused -/
inductive Er where
  | NoBits | NoName | NoKey | NoFrame | NoPost | NoThing | NoStrip | NoRail
  | NoWire (i : Int) | NoRow (i : Int)
  deriving DecidableEq
structure Eds where
  NoBits : Addr
  NoName : Addr
  NoKey : Addr
  NoFrame : Addr
  NoPost : Addr
  NoThing : Addr
  NoStrip : Addr
  NoRail : Addr
  NoWire : Addr
  NoRow : Addr
  RailError : Addr
def Eds.of (d : Eds) : Er → Addr
  | .NoBits => d.NoBits
  | .NoName => d.NoName
  | .NoKey => d.NoKey
  | .NoFrame => d.NoFrame
  | .NoPost => d.NoPost
  | .NoThing => d.NoThing
  | .NoStrip => d.NoStrip
  | .NoRail => d.NoRail
  | .NoWire _ => d.NoWire
  | .NoRow _ => d.NoRow
inductive Rs (R : Type) where
  | ok (r : R)
  | er (e : Er)
def RetE (d : Eds) (e : Er) (H : Hp) (E : XK) : Prop := match e with
  | .NoWire i => ∀ H' a, H a = none → Ex H H' → H' a = some (.xd [(("at" : Str), .int i)]) → E (.ref d.NoWire) (some a) H'
  | .NoRow i => ∀ H' a, H a = none → Ex H H' → H' a = some (.xd [(("word" : Str), .int i)]) → E (.ref d.NoRow) (some a) H'
  | e => ∀ H', Ex H H' → E (.ref (d.of e)) none H'
def RetR {R : Type} (P : R → Prop) (d : Eds) (r : Rs R) (H : Hp) (E : XK) : Prop := match r with
  | .ok r => P r
  | .er e => RetE d e H E
section
variable {α β S R' : Type} {d : Eds} {H H0 : Hp} {E : XK} {L : List Cell}
theorem RetE.go {e : Er} (k : RetE d e H0 E) (O : Own H0 H L) : RetE d e H E := by
  cases e <;> first
    | exact fun H' h => k H' (O.ex.trans h)
    | exact fun H' a ha h => k H' a (O.ex.back ha) (O.ex.trans h)
theorem RetR.ok {P : α → Prop} {y : α} (h : P y) : RetR P d (.ok y) H E := h
theorem RetR.split {P : α → Prop} {x : Rs α} (h2 : ∀ e, x = .er e → RetE d e H E) (h1 : ∀ y, x = .ok y → P y) : RetR P d x H E := by
  cases x with
  | ok y => exact h1 y rfl
  | er e => exact h2 e rfl
def contR (f : α → Option (Rs β)) : Rs α → Option (Rs β)
  | .ok x => f x
  | .er e => some (.er e)
def bndR (a : Option (Rs α)) (f : α → Option (Rs β)) : Option (Rs β) := bnd a (contR f)
def contRF (f : α → Option (Fl S (Rs β))) : Rs α → Option (Fl S (Rs β))
  | .ok x => f x
  | .er e => some (.rt (.er e))
def bndRF (a : Option (Rs α)) (f : α → Option (Fl S (Rs β))) : Option (Fl S (Rs β)) := bnd a (contRF f)
def contO (f : α → Option β) : Rs α → Option β
  | .ok x => f x
  | .er _ => none
def bndO (a : Option (Rs α)) (f : α → Option β) : Option β := bnd a (contO f)
theorem bndRE {a : Option (Rs α)} {f : α → Option (Rs β)} {r : Rs β} (h : bndR a f = some r) : ∃ x, a = some x ∧ contR f x = some r := bndE h
theorem bndRFE {a : Option (Rs α)} {f : α → Option (Fl S (Rs β))} {r : Fl S (Rs β)} (h : bndRF a f = some r) : ∃ x, a = some x ∧ contRF f x = some r := bndE h
theorem okR {f : α → Option (Rs β)} {y : α} {r : Rs β} (h : contR f (.ok y) = some r) : f y = some r := h
theorem okRF {f : α → Option (Fl S (Rs β))} {y : α} {r : Fl S (Rs β)} (h : contRF f (.ok y) = some r) : f y = some r := h
theorem erR {f : α → Option (Rs β)} {e : Er} {r : Rs β} (h : contR f (.er e) = some r) : Rs.er e = r := Option.some.inj h
theorem erRF {f : α → Option (Fl S (Rs β))} {e : Er} {r : Fl S (Rs β)} (h : contRF f (.er e) = some r) : Fl.rt (Rs.er e) = r := Option.some.inj h
theorem bndOE {a : Option (Rs α)} {f : α → Option β} {r : β} (h : bndO a f = some r) : ∃ y, a = some (.ok y) ∧ f y = some r := by
  obtain ⟨x, h1, h2⟩ := bndE h
  cases x with
  | ok y => exact ⟨y, h1, h2⟩
  | er e => cases h2
end
/-- a class of refusals, as the top has made it -/
structure ErrC (K : PySem.W.Frag) (mg : Str → Option Value) (x : Str) (C : Addr) : Prop where
  g : mg x = some (.ref C)
  ex : PySem.W.excIn K C [.type "ValueError", .type "Exception", .type "BaseException", .type "object"] "ValueError.__new__" = true
  kp : PySem.W.keepIn K (.ref C) = true
  b : PySem.W.subIn K (.ref C) (.type "BaseException") = some true
  t : PySem.W.typeIn K (.ref C) = some (.type "type")
theorem ps_err {X : Cx} {W : WX} {x m : Str} {j : Nat} {p p2 pos pos' : Pos} {C : Addr} (e : ErrC X.K X.mg x C) (tk : Takes X W) (hc : X.calm = true) (hg : Gl X x) (hdb : (x == ("__debug__" : Str)) = false := by decide) :
    PS X (.Raise (some (.Call (.Name x p) [.Constant (.str m) j p2] [] pos)) none pos') (fun _ σ H => W (.ref C) none σ H) :=
  ps_raise hc tk (pmk_own PySem.F.excBase_ValueError e.ex e.g e.kp (raises_own e.b e.t) hg hdb)
end Bt
namespace Bt
open PySem L2
theorem err_mk {K : PySem.W.Frag} {h : Heap} {mg : Str → Option Value} {x : Str} {C : Addr} (X : K.In h) (G : h.Ns mainGlobals mg) (a : PySem.W.nsIn K mainGlobals x = some (some (.ref C)))
    (e : PySem.W.excIn K C [.type "ValueError", .type "Exception", .type "BaseException", .type "object"] "ValueError.__new__" = true) (k : PySem.W.keepIn K (.ref C) = true) (b : PySem.W.subIn K (.ref C) (.type "BaseException") = some true) (t : PySem.W.typeIn K (.ref C) = some (.type "type")) :
    ∃ C, ErrC K mg x C := ⟨C, PySem.W.mg_of X G a, e, k, b, t⟩
end Bt
namespace Bt
open PySem L2
inductive Ek where
  | NoBits | NoName | NoKey | NoFrame | NoPost | NoThing | NoStrip | NoRail | NoWire | NoRow
  deriving DecidableEq
def Er.k : Er → Ek
  | .NoBits => .NoBits
  | .NoName => .NoName
  | .NoKey => .NoKey
  | .NoFrame => .NoFrame
  | .NoPost => .NoPost
  | .NoThing => .NoThing
  | .NoStrip => .NoStrip
  | .NoRail => .NoRail
  | .NoWire _ => .NoWire
  | .NoRow _ => .NoRow
def tryR {α β : Type} (x : Rs α) (f : α → β) (g : Er → β) : β := match x with
  | .ok y => f y
  | .er e => g e
theorem tryOk {α β : Type} {y : α} {f : α → β} {g : Er → β} {r : β} (h : tryR (.ok y) f g = r) : f y = r := h
theorem tryEr {α β : Type} {e : Er} {f : α → β} {g : Er → β} {r : β} (h : tryR (.er e) f g = r) : g e = r := h
theorem exm_mk {K : PySem.W.Frag} {C S : Addr} {r : Bool} (h1 : PySem.W.subIn K (.ref S) (.type "BaseException") = some true) (h2 : (PySem.W.clsIn K S).isSome = true) (h3 : PySem.W.typeIn K (.ref S) = some (.type "type")) (h4 : PySem.W.subIn K (.ref C) (.ref S) = some r) :
    PySem.W.exmOne K (.ref C) (.ref S) = some r := by
  have e1 : (PySem.W.subIn K (.ref S) (.type "BaseException") == some true) = true := by rw [h1] <;> rfl
  have e2 : ((PySem.W.clsIn K S).isSome && PySem.W.typeIn K (.ref S) == some (.type "type")) = true := by
    rw [h2, h3] <;> rfl
  unfold PySem.W.exmOne
  rw [if_pos e1]
  unfold PySem.W.kitCls
  dsimp only
  rw [if_pos e2]
  exact h4
end Bt
namespace Bt
open PySem L2
theorem o_callS {sp : Sp} {E : L2.St → XK} {tr : TA} {σ : L2.St} {H : Hp} {Q : VK} (h : tr σ H fun vs H1 => sp vs H1 Q (E σ)) : tCallS sp E tr σ H Q := h
end Bt
namespace Bt
open PySem L2
section
variable {α : Type} {R H : Hp} {Q : VK} {a : Addr} {xs ys : List α} {y : α} {f : α → V}
def popL (xs : List α) : Option (α × List α) := match xs[xs.length - 1]? with
  | some y => some (y, xs.dropLast)
  | none => none
theorem popE (h : popL xs = some (y, ys)) : xs[xs.length - 1]? = some y ∧ xs.dropLast = ys := by
  unfold popL at h
  split at h
  · rename_i e
    cases h
    exact ⟨e, rfl⟩
  · cases h
theorem popL_ok {xs : List α} {y : α} : popL (xs ++ [y]) = some (y, xs) := by
  unfold popL
  rw [List.length_append, List.length_singleton, Nat.add_sub_cancel, List.getElem?_append_right (Nat.le_refl _), Nat.sub_self]
  simp
theorem k_clr {g : HO → List Cell} (hl : H a = some (.lst (xs.map f))) (hp : ∀ o', Own R (upd H a o') (g o')) (k : ∀ H', Own R H' (g (.lst (([] : List α).map f))) → Q .non H') : rClear (.ref a) [] H Q :=
  ⟨a, _, rfl, rfl, hl, k _ (hp _)⟩
theorem k_pop {g : HO → List Cell} (hl : H a = some (.lst (xs.map f))) (hp : ∀ o', Own R (upd H a o') (g o')) (h : popL xs = some (y, ys)) (k : ∀ H', Own R H' (g (.lst (ys.map f))) → Q (f y) H') : rPop (.ref a) [] H Q := by
  obtain ⟨e, rfl⟩ := popE h
  refine ⟨a, _, f y, rfl, rfl, hl, ?_, ?_⟩
  · rw [List.length_map, List.getElem?_map, e]; rfl
  · rw [← List.map_dropLast]
    exact k _ (hp _)
theorem k_ext {b : Addr} {zs : List α} {g : HO → List Cell} (hl : H a = some (.lst (xs.map f))) (hb : H b = some (.lst (zs.map f))) (hp : ∀ o', Own R (upd H a o') (g o')) (h : catG xs zs = some ys) (k : ∀ H', Own R H' (g (.lst (ys.map f))) → Q .non H') : rExtend (.ref a) [.ref b] H Q := by
  obtain ⟨c, rfl⟩ := grdE h
  refine ⟨a, b, _, _, rfl, rfl, hl, hb, ?_, ?_⟩
  · rw [List.length_map, List.length_map]; exact c
  · rw [← List.map_append]
    exact k _ (hp _)
end
end Bt

set_option Elab.async false
set_option linter.all false
set_option maxRecDepth 100000
set_option maxHeartbeats 4000000
/-! Built-ins that the kit's rules do not name. -/
namespace Bt
open PySem L2 PyProof.Rows
section
variable {X : Cx}
def maxL (d : Int) : List Int → Int
  | [] => d
  | n :: ns => ns.foldl (fun a y => if a < y then y else a) n
def rMaxD (K : PySem.W.Frag) : List V → List V → Hp → VK → Prop := fun xs zs H Q => ∃ a ns d, xs = [.ref a] ∧ zs = [.int d] ∧ SqL K H a (ns.map V.int) ∧ Q (.int (maxL d ns)) H
theorem maxOf_int (x : Int) (xs : List Int) : PySem.W.maxOf x xs = xs.foldl (fun a y => if a < y then y else a) x := by
  unfold PySem.W.maxOf
  congr 1
  funext a y
  show (if decide (a < y) = true then y else a) = _
  by_cases h : a < y
  · rw [if_pos (decide_eq_true h), if_pos h]
  · rw [if_neg (by simpa using h), if_neg h]
theorem cr_maxD (hc : X.calm = true) (hu : X.A.units + 64 < cLine) : CallRK X (.builtin "max") [Str.ofString "default"] (rMaxD X.K) := by
  intro pins s σ H xs zs us ws Q I r1 r2 h
  obtain ⟨a, ns, d, rfl, rfl, hs, q⟩ := h
  obtain ⟨its, rv, hl, _⟩ := I.list hs
  rw [Vals.ref1 r1]
  obtain ⟨w, rfl, t, rfl⟩ := r2.one
  refine PySem.W.max_list_datum_default (α := Int) (I.ok.hd hc) hl.isList (PySem.W.HoldAll.of_ints rv.ints) (by show X.A.units + 1 + 0 < cLine; omega) (fun e h' tk k => ?_) fun y ys i v h' tk e _ hv k => ?_
  · subst e
    exact ⟨.int d, H, I.kept k, ⟨_, rfl⟩, q⟩
  · subst e
    obtain ⟨bs, hv⟩ := hv
    rw [maxOf_int] at hv
    cases hv
    exact ⟨.int _, H, I.kept k, ⟨_, rfl⟩, q⟩
variable {K : PySem.W.Frag} {H : Hp} {Q : VK} {a : Addr} {ns : List Int} {d : Int} {t tk : TA} {r : List V → List V → Hp → VK → Prop} {σ : L2.St}
theorem o_kw (h : t σ H fun vs H1 => tk σ H1 fun zs H2 => r vs zs H2 Q) : tCKw r t tk σ H Q := h
theorem k_maxD (hs : SqL K H a (ns.map V.int)) (q : Q (.int (maxL d ns)) H) : rMaxD K [.ref a] [.int d] H Q := ⟨a, ns, d, rfl, rfl, hs, q⟩
theorem o_en {ta : TA} {R : It → Hp → Prop} (h : ta σ H fun vs H1 => ∃ a xs, vs = [.ref a] ∧ SqL K H1 a xs ∧ R (Ite K a) H1) : iEnum K ta σ H R := h
end
end Bt

set_option Elab.async false
set_option linter.all false
set_option maxRecDepth 100000
set_option maxHeartbeats 4000000
/-! Data in data: what stands in a heap that only grows. -/
namespace Bt
open PySem L2
inductive All2 {α β : Type} (P : α → β → Prop) : List α → List β → Prop
  | nil : All2 P [] []
  | cons {a : α} {b : β} {as : List α} {bs : List β} : P a b → All2 P as bs → All2 P (a :: as) (b :: bs)
section
variable {α β : Type} {P Q : α → β → Prop} {as cs : List α} {bs ds : List β} {a : α} {b : β}
theorem All2.mp (f : ∀ a b, P a b → Q a b) (h : All2 P as bs) : All2 Q as bs := by
  induction h with
  | nil => exact .nil
  | cons h _ ih => exact .cons (f _ _ h) ih
theorem All2.app (h : All2 P as bs) (k : All2 P cs ds) : All2 P (as ++ cs) (bs ++ ds) := by
  induction h with
  | nil => exact k
  | cons h _ ih => exact .cons h ih
theorem All2.snoc (h : All2 P as bs) (k : P a b) : All2 P (as ++ [a]) (bs ++ [b]) := h.app (.cons k .nil)
theorem All2.len (h : All2 P as bs) : as.length = bs.length := by
  induction h with
  | nil => rfl
  | cons _ _ ih => simp [ih]
theorem All2.get (h : All2 P as bs) : ∀ {i : Nat} {b : β}, bs[i]? = some b → ∃ a, as[i]? = some a ∧ P a b := by
  induction h with
  | nil => intro i b e; simp at e
  | cons h _ ih =>
    intro i b e
    cases i with
    | zero => cases Option.some.inj e; exact ⟨_, rfl, h⟩
    | succ i => exact ih (by simpa using e)
theorem All2.drop (h : All2 P as bs) : ∀ n, All2 P (as.drop n) (bs.drop n) := by
  induction h with
  | nil => intro n; simp; exact .nil
  | cons h t ih =>
    intro n
    cases n with
    | zero => exact .cons h t
    | succ n => exact ih n
theorem All2.take (h : All2 P as bs) : ∀ n, All2 P (as.take n) (bs.take n) := by
  induction h with
  | nil => intro n; simp; exact .nil
  | cons h t ih =>
    intro n
    cases n with
    | zero => exact .nil
    | succ n => exact .cons h (ih n)
theorem All2.set (h : All2 P as bs) (k : P a b) : ∀ n, All2 P (as.set n a) (bs.set n b) := by
  induction h with
  | nil => intro n; exact .nil
  | cons h t ih =>
    intro n
    cases n with
    | zero => exact .cons k t
    | succ n => exact .cons h (ih n)
end
/-- what a value stands for, in a heap -/
abbrev Rp (α : Type) := Hp → V → α → Prop
def Mono {α : Type} (P : Rp α) : Prop := ∀ F F' v x, Ex F F' → P F v x → P F' v x
def rI : Rp Int := fun _ v a => v = .int a
def rB : Rp Bool := fun _ v a => v = .bl a
def rS : Rp Str := fun _ v a => v = .str a
def rL {α : Type} (P : Rp α) : Rp (List α) := fun F v xs => ∃ p vs, v = .ref p ∧ F p = some (.lst vs) ∧ All2 (P F) vs xs
def rT2 {α β : Type} (P : Rp α) (Q : Rp β) : Rp (α × β) := fun F v x => ∃ p a b, v = .ref p ∧ F p = some (.tup [a, b]) ∧ P F a x.1 ∧ Q F b x.2
def rT3 {α β γ : Type} (P : Rp α) (Q : Rp β) (R : Rp γ) : Rp (α × β × γ) := fun F v x => ∃ p a b c, v = .ref p ∧ F p = some (.tup [a, b, c]) ∧ P F a x.1 ∧ Q F b x.2.1 ∧ R F c x.2.2
def rT4 {α β γ δ : Type} (P : Rp α) (Q : Rp β) (R : Rp γ) (S : Rp δ) : Rp (α × β × γ × δ) := fun F v x => ∃ p a b c d, v = .ref p ∧ F p = some (.tup [a, b, c, d]) ∧ P F a x.1 ∧ Q F b x.2.1 ∧ R F c x.2.2.1 ∧ S F d x.2.2.2
def rO {α : Type} (P : Rp α) : Rp (Option α) := fun F v x => match x with
  | none => v = .non
  | some y => P F v y
theorem mI : Mono rI := fun _ _ _ _ _ h => h
theorem mB : Mono rB := fun _ _ _ _ _ h => h
theorem mS : Mono rS := fun _ _ _ _ _ h => h
theorem mL {α : Type} {P : Rp α} (m : Mono P) : Mono (rL P) := fun F F' v x e ⟨p, vs, h1, h2, h3⟩ => ⟨p, vs, h1, e _ _ h2, h3.mp fun a b h => m F F' a b e h⟩
theorem mA {α : Type} {P : Rp α} (m : Mono P) {F F' : Hp} {vs : List V} {xs : List α} (e : Ex F F') (h : All2 (P F) vs xs) : All2 (P F') vs xs := h.mp fun a b h => m F F' a b e h
theorem mT2 {α β : Type} {P : Rp α} {Q : Rp β} (m : Mono P) (n : Mono Q) : Mono (rT2 P Q) := fun F F' v x e ⟨p, a, b, h1, h2, h3, h4⟩ => ⟨p, a, b, h1, e _ _ h2, m _ _ _ _ e h3, n _ _ _ _ e h4⟩
theorem mT3 {α β γ : Type} {P : Rp α} {Q : Rp β} {R : Rp γ} (m : Mono P) (n : Mono Q) (o : Mono R) : Mono (rT3 P Q R) := fun F F' v x e ⟨p, a, b, c, h1, h2, h3, h4, h5⟩ => ⟨p, a, b, c, h1, e _ _ h2, m _ _ _ _ e h3, n _ _ _ _ e h4, o _ _ _ _ e h5⟩
theorem mT4 {α β γ δ : Type} {P : Rp α} {Q : Rp β} {R : Rp γ} {S : Rp δ} (m : Mono P) (n : Mono Q) (o : Mono R) (q : Mono S) : Mono (rT4 P Q R S) := fun F F' v x e ⟨p, a, b, c, d, h1, h2, h3, h4, h5, h6⟩ => ⟨p, a, b, c, d, h1, e _ _ h2, m _ _ _ _ e h3, n _ _ _ _ e h4, o _ _ _ _ e h5, q _ _ _ _ e h6⟩
theorem mO {α : Type} {P : Rp α} (m : Mono P) : Mono (rO P) := fun F F' v x e h => by
  cases x with
  | none => exact h
  | some y => exact m _ _ _ _ e h
/-! flat lists in a heap -/
theorem aI {F : Hp} : ∀ {vs : List V} {xs : List Int}, All2 (rI F) vs xs → vs = xs.map V.int
  | _, _, .nil => rfl
  | _, _, .cons h t => by rw [show _ = _ from h, aI t]; rfl
theorem aB {F : Hp} : ∀ {vs : List V} {xs : List Bool}, All2 (rB F) vs xs → vs = xs.map V.bl
  | _, _, .nil => rfl
  | _, _, .cons h t => by rw [show _ = _ from h, aB t]; rfl
theorem aS {F : Hp} : ∀ {vs : List V} {xs : List Str}, All2 (rS F) vs xs → vs = xs.map V.str
  | _, _, .nil => rfl
  | _, _, .cons h t => by rw [show _ = _ from h, aS t]; rfl
theorem iA {F : Hp} : ∀ (xs : List Int), All2 (rI F) (xs.map V.int) xs
  | [] => .nil
  | x :: r => .cons rfl (iA r)
theorem bA {F : Hp} : ∀ (xs : List Bool), All2 (rB F) (xs.map V.bl) xs
  | [] => .nil
  | x :: r => .cons rfl (bA r)
theorem sA {F : Hp} : ∀ (xs : List Str), All2 (rS F) (xs.map V.str) xs
  | [] => .nil
  | x :: r => .cons rfl (sA r)
theorem fI {F : Hp} {v : V} {xs : List Int} (h : rL rI F v xs) : ∃ p, v = .ref p ∧ F p = some (.lst (xs.map V.int)) := by
  obtain ⟨p, vs, h1, h2, h3⟩ := h
  rw [aI h3] at h2
  exact ⟨p, h1, h2⟩
theorem fB {F : Hp} {v : V} {xs : List Bool} (h : rL rB F v xs) : ∃ p, v = .ref p ∧ F p = some (.lst (xs.map V.bl)) := by
  obtain ⟨p, vs, h1, h2, h3⟩ := h
  rw [aB h3] at h2
  exact ⟨p, h1, h2⟩
theorem fS {F : Hp} {v : V} {xs : List Str} (h : rL rS F v xs) : ∃ p, v = .ref p ∧ F p = some (.lst (xs.map V.str)) := by
  obtain ⟨p, vs, h1, h2, h3⟩ := h
  rw [aS h3] at h2
  exact ⟨p, h1, h2⟩
theorem gI {F : Hp} {p : Addr} {xs : List Int} (h : F p = some (.lst (xs.map V.int))) : rL rI F (.ref p) xs := ⟨p, _, rfl, h, iA xs⟩
theorem gB {F : Hp} {p : Addr} {xs : List Bool} (h : F p = some (.lst (xs.map V.bl))) : rL rB F (.ref p) xs := ⟨p, _, rfl, h, bA xs⟩
theorem gS {F : Hp} {p : Addr} {xs : List Str} (h : F p = some (.lst (xs.map V.str))) : rL rS F (.ref p) xs := ⟨p, _, rfl, h, sA xs⟩
/-! the frame grows -/
/-- of X what R knows, or what H does not -/
def ovr (R H X : Hp) : Hp := fun a => if R a ≠ none ∨ H a = none then X a else none
theorem ovr_some {R H X : Hp} {a : Addr} {u : HO} (h : ovr R H X a = some u) : (R a ≠ none ∨ H a = none) ∧ X a = some u := by
  unfold ovr at h
  split at h
  · exact ⟨by assumption, h⟩
  · cases h
theorem ovr_mk {R H X : Hp} {a : Addr} {u : HO} (h : R a ≠ none ∨ H a = none) (k : X a = some u) : ovr R H X a = some u := by
  unfold ovr
  rw [if_pos h]
  exact k
theorem ovr_ex {R H X : Hp} : Ex (ovr R H X) X := fun a o h => by
  unfold ovr at h
  split at h
  · exact h
  · cases h
theorem ovr_mono {R H X Y : Hp} (e : Ex X Y) : Ex (ovr R H X) (ovr R H Y) := fun a o h => by
  unfold ovr at h ⊢
  split at h
  · rename_i c
    rw [if_pos c]
    exact e _ _ h
  · cases h
theorem ovr_start {R H : Hp} (e : Ex R H) : Ex R (ovr R H H) := fun a o h => by
  unfold ovr
  rw [if_pos (.inl (by rw [h]; simp))]
  exact e _ _ h
section
variable {R H H' F H0 R0 : Hp} {L : List Cell} {p : Addr} {o : HO}
theorem Own.freeze (O : Own R H ((p, o) :: L)) : Own (upd R p o) H L :=
  ⟨fun a u h => by
    by_cases e : a = p
    · subst e
      rw [upd_same] at h
      cases h
      exact O.at_ _ (List.Mem.head _)
    · rw [upd_ne e] at h
      exact O.ex _ _ h, fun c h => O.at_ c (List.Mem.tail _ h), fun c h => by
    have hne : c.1 ≠ p := fun e => (List.nodup_cons.mp O.nd).1 (by rw [← e]; exact List.mem_map_of_mem (f := (·.1)) h)
    rw [upd_ne hne]
    exact O.fr c (List.Mem.tail _ h), (List.nodup_cons.mp O.nd).2⟩
/-- R grows by a cell; what was known of it stays, the new cell is known -/
theorem Own.frz (O : Own R H ((p, o) :: L)) : ∃ R', Own R' H L ∧ Ex R R' ∧ R' p = some o := ⟨_, O.freeze, Ex.new (O.fr _ (List.Mem.head _)), upd_same⟩
theorem Own.frzO (O : Own R H ((p, o) :: L)) (e0 : Ex H0 R) : ∃ R', Own R' H L ∧ Ex R R' ∧ ovr R0 H0 R' p = some o := ⟨_, O.freeze, Ex.new (O.fr _ (List.Mem.head _)), by
  unfold ovr
  rw [if_pos (.inr (e0.back (O.fr _ (List.Mem.head _))))]
  exact upd_same⟩
/-- R grows by all that is new -/
theorem Own.grow (O : Own R H L) (e : Ex H H') : ∃ R', Own R' H' L ∧ Ex R R' ∧ ∀ F, Ex F R → Ex (ovr F H H') R' := by
  refine ⟨fun a => if H a = none then H' a else R a, ⟨fun a u h => ?_, fun c h => e _ _ (O.at_ c h), fun c h => ?_, O.nd⟩, fun a u h => ?_, fun F hF a u h => ?_⟩
  · by_cases c : H a = none
    · rw [if_pos c] at h; exact h
    · rw [if_neg c] at h; exact e _ _ (O.ex _ _ h)
  · rw [if_neg (by rw [O.at_ c h]; simp)]
    exact O.fr c h
  · show (if H a = none then H' a else R a) = some u
    rw [if_neg (by rw [O.ex _ _ h]; simp)]
    exact h
  · unfold ovr at h
    split at h
    · rename_i q
      rcases q with q | q
      · cases hf : F a with
        | none => exact absurd hf q
        | some w =>
          have h1 := O.ex _ _ (hF _ _ hf)
          have h2 := e _ _ h1
          rw [h] at h2
          cases h2
          show (if H a = none then H' a else R a) = some u
          rw [if_neg (by rw [h1]; simp)]
          exact hF _ _ hf
      · show (if H a = none then H' a else R a) = some u
        rw [if_pos q]
        exact h
    · cases h
theorem Own.growO (O : Own R H L) (e : Ex H H') (e0 : Ex H0 R) : ∃ R', Own R' H' L ∧ Ex R R' ∧ Ex (ovr (ovr R0 H0 R) H H') (ovr R0 H0 R') := by
  obtain ⟨R', O', e1, e2⟩ := O.grow e
  refine ⟨R', O', e1, fun a u h => ?_⟩
  have h1 := e2 (ovr R0 H0 R) ovr_ex _ _ h
  obtain ⟨q, _⟩ := ovr_some h
  refine ovr_mk ?_ h1
  rcases q with q | q
  · cases hq : ovr R0 H0 R a with
    | none => exact absurd hq q
    | some w => exact (ovr_some hq).1
  · exact .inr (Ex.back (e0.trans O.ex) q)
end
/-- a new thing is handed back, in what R knows or what is new -/
def RetG {α : Type} (P : Rp α) (R : Hp) (r : α) (H : Hp) (Q : VK) : Prop := ∀ v H', Ex H H' → P (ovr R H H') v r → Q v H'
section
variable {α : Type} {P : Rp α} {R H F H0 R0 : Hp} {L : List Cell} {r : α} {Q : VK} {v : V}
theorem Own.retG (O : Own R H L) (m : Mono P) (k : ∀ v H' R', Own R' H' L → Ex R R' → P R' v r → Q v H') : RetG P R r H Q := fun v H' e h => by
  obtain ⟨R', O', e1, e2⟩ := O.grow e
  exact k v H' R' O' e1 (m _ _ _ _ (e2 R (Ex.refl R)) h)
theorem Own.retGO (O : Own R H L) (m : Mono P) (e0 : Ex H0 R) (k : ∀ v H' R', Own R' H' L → Ex R R' → P (ovr R0 H0 R') v r → Q v H') : RetG P (ovr R0 H0 R) r H Q := fun v H' e h => by
  obtain ⟨R', O', e1, e2⟩ := O.growO (R0 := R0) e e0
  exact k v H' R' O' e1 (m _ _ _ _ e2 h)
theorem RetG.go (k : RetG P R0 r H0 Q) (m : Mono P) (O : Own R H L) (e0 : Ex H0 R) (h : P (ovr R0 H0 R) v r) : Q v H := k v H (e0.trans O.ex) (m _ _ _ _ (ovr_mono O.ex) h)
theorem RetV.goR {v : V} (k : RetV v H0 Q) (O : Own R H L) (e0 : Ex H0 R) : Q v H := k H (e0.trans O.ex)
theorem RetL.goR {xs : List V} {p : Addr} (k : RetL xs H0 Q) (O : Own R H L) (e0 : Ex H0 R) (h : (p, HO.lst xs) ∈ L) : Q (.ref p) H := k p H (e0.back (O.fr _ h)) (e0.trans O.ex) (O.at_ _ h)
theorem RetT.goR {xs : List V} {p : Addr} (k : RetT xs H0 Q) (O : Own R H L) (e0 : Ex H0 R) (h : (p, HO.tup xs) ∈ L) : Q (.ref p) H := k p H (e0.back (O.fr _ h)) (e0.trans O.ex) (O.at_ _ h)
end
/-! == of such data -/
structure De {α : Type} [DecidableEq α] (P : Rp α) where
  d : α → PyData
  dp : ∀ (K : PySem.W.Frag) F v a, P F v a → Dp K F v (d a)
  ok : ∀ a, PyData.canLay0 (d a) = true
  n : Nat
  dep : ∀ a, PyData.depth (d a) ≤ n
  eq : ∀ a b, PyData.eqv (d a) (d b) = decide (a = b)
def deI : De rI where
  d := PyData.int
  dp := fun K F v a h => by rw [show v = V.int a from h]; exact .int a
  ok := fun _ => rfl
  n := 0
  dep := fun _ => Nat.le_refl _
  eq := fun a b => by simp only [PyData.eqv]; rw [Bool.beq_eq_decide_eq]
def deB : De rB where
  d := PyData.bool
  dp := fun K F v a h => by rw [show v = V.bl a from h]; exact .bl a
  ok := fun _ => rfl
  n := 0
  dep := fun _ => Nat.le_refl _
  eq := fun a b => by simp only [PyData.eqv]; rw [Bool.beq_eq_decide_eq]
section
variable {α β γ : Type} [DecidableEq α] [DecidableEq β] [DecidableEq γ]
theorem de_all {P : Rp α} (e : De P) {K : PySem.W.Frag} {F : Hp} : ∀ {vs : List V} {xs : List α}, All2 (P F) vs xs → DpAll K F vs (xs.map e.d)
  | _, _, .nil => .nil
  | _, _, .cons h t => .cons (e.dp K F _ _ h) (de_all e t)
theorem ok_all {P : Rp α} (e : De P) : ∀ xs : List α, PyData.canLayAll0 (xs.map e.d) = true
  | [] => rfl
  | x :: r => by simp only [List.map_cons, PyData.canLayAll0, e.ok x, ok_all e r, Bool.and_self]
theorem dep_all {P : Rp α} (e : De P) : ∀ xs : List α, PyData.depthAll (xs.map e.d) ≤ e.n
  | [] => by simp [PyData.depthAll]
  | x :: r => by
    have h1 := e.dep x
    have h2 := dep_all e r
    simp only [List.map_cons, PyData.depthAll]
    omega
theorem eq_all {P : Rp α} (e : De P) : ∀ xs ys : List α, PyData.eqvAll (xs.map e.d) (ys.map e.d) = decide (xs = ys)
  | [], [] => by simp [PyData.eqvAll]
  | [], y :: s => by simp [PyData.eqvAll]
  | x :: r, [] => by simp [PyData.eqvAll]
  | x :: r, y :: s => by simp only [List.map_cons, PyData.eqvAll, e.eq x y, eq_all e r s, List.cons.injEq, Bool.decide_and]
def deL {P : Rp α} (e : De P) : De (rL P) where
  d := fun xs => .list (xs.map e.d)
  dp := fun K F v xs ⟨p, vs, h1, h2, h3⟩ => by
    subst h1
    exact .lst (SqL.of h2) (de_all e h3)
  ok := fun xs => by simp only [PyData.canLay0]; exact ok_all e xs
  n := e.n + 1
  dep := fun xs => by
    have := dep_all e xs
    simp only [PyData.depth]
    omega
  eq := fun xs ys => by simp only [PyData.eqv]; exact eq_all e xs ys
def deT2 {P : Rp α} {Q : Rp β} (e : De P) (f : De Q) : De (rT2 P Q) where
  d := fun x => .tuple [e.d x.1, f.d x.2]
  dp := fun K F v x ⟨p, a, b, h1, h2, h3, h4⟩ => by
    subst h1
    exact .tup (SqT.of h2) (.cons (e.dp K F _ _ h3) (.cons (f.dp K F _ _ h4) .nil))
  ok := fun x => by simp only [PyData.canLay0, PyData.canLayAll0, e.ok, f.ok, Bool.and_self]
  n := max e.n f.n + 1
  dep := fun x => by
    have h1 := e.dep x.1
    have h2 := f.dep x.2
    simp only [PyData.depth, PyData.depthAll]
    omega
  eq := fun x y => by
    obtain ⟨x1, x2⟩ := x
    obtain ⟨y1, y2⟩ := y
    simp only [PyData.eqv, PyData.eqvAll, e.eq, f.eq, Prod.mk.injEq, Bool.decide_and, Bool.and_true]
def deT3 {P : Rp α} {Q : Rp β} {R : Rp γ} (e : De P) (f : De Q) (g : De R) : De (rT3 P Q R) where
  d := fun x => .tuple [e.d x.1, f.d x.2.1, g.d x.2.2]
  dp := fun K F v x ⟨p, a, b, c, h1, h2, h3, h4, h5⟩ => by
    subst h1
    exact .tup (SqT.of h2) (.cons (e.dp K F _ _ h3) (.cons (f.dp K F _ _ h4) (.cons (g.dp K F _ _ h5) .nil)))
  ok := fun x => by simp only [PyData.canLay0, PyData.canLayAll0, e.ok, f.ok, g.ok, Bool.and_self]
  n := max e.n (max f.n g.n) + 1
  dep := fun x => by
    have h1 := e.dep x.1
    have h2 := f.dep x.2.1
    have h3 := g.dep x.2.2
    simp only [PyData.depth, PyData.depthAll]
    omega
  eq := fun x y => by
    obtain ⟨x1, x2, x3⟩ := x
    obtain ⟨y1, y2, y3⟩ := y
    simp only [PyData.eqv, PyData.eqvAll, e.eq, f.eq, g.eq, Prod.mk.injEq, Bool.decide_and, Bool.and_true, Bool.and_assoc]
end
section
variable {α : Type} [DecidableEq α] {P : Rp α} {K : PySem.W.Frag} {F F' H : Hp} {v w : V} {x y : α} {Q : VK}
theorem sh_de (e : De P) (h : e.n ≤ 64) (x : α) : SeqAt.shaped (e.d x) = true := by
  have h1 := e.dep x
  simp only [SeqAt.shaped, e.ok, Bool.true_and]
  exact decide_eq_true (by omega)
theorem k_eqN (e : De P) (m : Mono P) (h : e.n ≤ 64) (h1 : P F v x) (e1 : Ex F H) (h2 : P F' w y) (e2 : Ex F' H) (k : Q (.bl (decide (x = y))) H) : rEqD K v w H Q :=
  ⟨_, _, e.dp K H _ _ (m _ _ _ _ e1 h1), e.dp K H _ _ (m _ _ _ _ e2 h2), sh_de e h x, sh_de e h y, by rw [e.eq]; exact k⟩
theorem k_neN (e : De P) (m : Mono P) (h : e.n ≤ 64) (h1 : P F v x) (e1 : Ex F H) (h2 : P F' w y) (e2 : Ex F' H) (k : Q (.bl (!decide (x = y))) H) : rNeD K v w H Q :=
  ⟨_, _, e.dp K H _ _ (m _ _ _ _ e1 h1), e.dp K H _ _ (m _ _ _ _ e2 h2), sh_de e h x, sh_de e h y, by rw [e.eq]; exact k⟩
end
section
variable {α : Type} {P : Rp α} {K : PySem.W.Frag} {F H R : Hp} {L : List Cell} {p a : Addr} {i : Int} {xs : List α} {y : α} {Q : VK} {vs : List V} {σ : L2.St}
theorem All2.at {β : Type} {P : α → β → Prop} {as : List α} {bs : List β} (h : All2 P as bs) {i : Int} {b : β} (e : atI bs i = some b) : ∃ a, atI as i = some a ∧ P a b := by
  unfold atI at e ⊢
  rw [h.len]
  cases hj : ixN bs.length i with
  | none => rw [hj] at e; cases e
  | some j =>
    rw [hj] at e
    obtain ⟨a, h1, h2⟩ := h.get e
    exact ⟨a, h1, h2⟩
theorem k_ixN (hn : rL P F (.ref p) xs) (e : Ex F H) (h : atI xs i = some y) (k : ∀ v, P F v y → Q v H) : rIxL K (.ref p) (.int i) H Q := by
  obtain ⟨q, vs, h1, h2, h3⟩ := hn
  cases h1
  obtain ⟨v, e1, hv⟩ := h3.at h
  exact ⟨p, vs, i, v, rfl, rfl, SqL.of (e _ _ h2), e1, k v hv⟩
theorem n_lenN (hn : rL P F (.ref p) xs) (e : Ex F H) (k : Q (.int (xs.length : Int)) H) : rLenQ K [.ref p] H Q := by
  obtain ⟨q, vs, h1, h2, h3⟩ := hn
  cases h1
  unfold rLenQ
  exact ⟨p, vs, rfl, .inl (SqL.of (e _ _ h2)), by rw [h3.len]; exact k⟩
theorem n_lstV (O : Own R H L) (hz : vs.length ≤ sizeLine) (k : ∀ p H', Own R H' ((p, .lst vs) :: L) → Q (.ref p) H') : rNewL vs H Q := by
  unfold rNewL
  exact ⟨hz, fun p hp => k p _ (O.new hp)⟩
end
end Bt

set_option Elab.async false
set_option linter.all false
set_option maxRecDepth 100000
set_option maxHeartbeats 4000000
/-! What is refused, caught by a name, asked of its class. -/
namespace Bt
open PySem L2 PyProof.Rows
theorem passN {X : Cx} : Passes (L2N.CX X.prog X.w) X E0 := fun _ _ _ _ _ _ _ h => by
  obtain ⟨_, _, _, _, _, _, _, _, _, _, _, _, z⟩ := h
  exact z.elim
theorem takesN0 {X : Cx} : L2N.Takes X (fun _ _ _ _ => False) := fun _ _ x => by
  obtain ⟨_, _, _, _, _, _, _, _, _, _, _, _, _, _, _, _, z⟩ := x
  exact z.elim
theorem okN {P : Program} {w : World} {K : PySem.W.Frag} {mg : Str → Option Value} {base : Heap} {x qual : Str} {st : Stmt} {f : Addr} {fd : FuncData} {N ps : List Str} {k : Nat} {sp : Sp} (F : Fun K x qual st f fd) (S : FnScope N ps (defScope st)) (len : ∀ vs H Q E, sp vs H Q E → vs.length = ps.length)
    (hbody : ∀ (cdv : Value) (A : Around) (outer : List Env) (s : Shared) (H : Hp) (vs : List V) (Q : VK) (E : XK), Room k (A.deeper (envOfC qual (defScope st) s.heap.objs.size f cdv)) → sp vs H Q E →
      ∃ t, PSs (cxOf (L2N.CX P w) P w K mg base N qual (defScope st) f cdv A outer s H E) (defBody st) t ∧ t { nx := fun _ H' => Q .non H', rt := Q } (start N vs) H) : FnOk P w K mg base (L2N.CX P w) (k + 1) f fd ps sp := by
  obtain ⟨oc, od, kV, doc, pm, an, cdv, ct, osl, rfl, lk, hcd⟩ := F.ex
  exact fn_of lk hcd S len fun A outer s H vs Q E hr hsp => hbody cdv A outer s H vs Q E hr hsp
theorem ps_errN {X : Cx} {W : WX} {x m : Str} {j : Nat} {p p2 pos pos' : Pos} {C : Addr} (e : ErrC X.K X.mg x C) (tk : L2N.Takes X W) (hc : X.calm = true) (hg : Gl X x) (hdb : (x == ("__debug__" : Str)) = false := by decide) :
    PS X (.Raise (some (.Call (.Name x p) [.Constant (.str m) j p2] [] pos)) none pos') (fun _ σ H => W (.ref C) none σ H) :=
  L2N.ps_raise hc tk (L2N.pmk_own PySem.F.excBase_ValueError e.ex e.g e.kp (raises_own e.b e.t) hg hdb)
/-! classes by their letters -/
def Eds.at (d : Eds) : Ek → Addr
  | .NoBits => d.NoBits
  | .NoName => d.NoName
  | .NoKey => d.NoKey
  | .NoFrame => d.NoFrame
  | .NoPost => d.NoPost
  | .NoThing => d.NoThing
  | .NoStrip => d.NoStrip
  | .NoRail => d.NoRail
  | .NoWire => d.NoWire
  | .NoRow => d.NoRow
/-- what the walk knows of the classes ks -/
structure EcF (K : PySem.W.Frag) (d : Eds) (ks : List Ek) : Prop where
  ec : ∀ k ∈ ks, ExcC K (d.at k)
  kt : ∀ k ∈ ks, ∀ c ∈ ks, PySem.W.kitOne K (.ref (d.at k)) (.ref (d.at c)) = some (decide (k = c))
  kv : ∀ k ∈ ks, PySem.W.kitOne K (.ref (d.at k)) (.type "ValueError") = some true
  kr : ∀ k ∈ ks, PySem.W.kitOne K (.ref (d.at k)) (.ref d.RailError) = some true
  xr : ∀ k ∈ ks, PySem.W.exmOne K (.ref (d.at k)) (.ref d.RailError) = some true
  xx : ∀ k ∈ ks, ∀ c ∈ ks, PySem.W.exmOne K (.ref (d.at k)) (.ref (d.at c)) = some (decide (k = c))
/-- what an exception's own dict holds -/
def XFl (e : Er) (d : Option Addr) (H : Hp) : Prop := match e with
  | .NoWire i => ∃ x, d = some x ∧ H x = some (.xd [(("at" : Str), .int i)])
  | .NoRow i => ∃ x, d = some x ∧ H x = some (.xd [(("word" : Str), .int i)])
  | _ => d = none
theorem XFl.ext {e : Er} {d : Option Addr} {H H' : Hp} (h : XFl e d H) (x : Ex H H') : XFl e d H' := by
  cases e <;> first
    | exact h
    | (obtain ⟨a, h1, h2⟩ := h; exact ⟨a, h1, x _ _ h2⟩)
theorem RetE.by {d : Eds} {e : Er} {H : Hp} {E : XK} (h : ∀ H' dd, Ex H H' → XFl e dd H' → E (.ref (d.at e.k)) dd H') : RetE d e H E := by
  cases e <;> first
    | exact fun H' x => h H' none x rfl
    | exact fun H' a _ x q => h H' (some a) x ⟨a, rfl, q⟩
/-! isinstance of the exception in hand -/
section
variable {X : Cx} {p : Addr × Obj} {D : Addr} {ex : Er}
theorem inst_pin {pins : List (Addr × Obj)} {σ : L2.St} {H : Hp} {s : Shared} (I : Inv X pins σ H s) (hp : p ∈ X.pn) (hz : p.2.cls = .ref D) (hd : XFl ex p.2.dict H) (hf : ∃ vs, p.2.data = .fields vs) : ∃ od, PySem.W.InstAt s.heap p.1 p.2 D od := by
  obtain ⟨hget, _⟩ := I.pin p (List.mem_append.mpr (.inl hp))
  obtain ⟨a, oc, od, oda, osl⟩ := p
  obtain ⟨vs, hv⟩ := hf
  dsimp only at hz hd hv hget
  subst hz hv
  have hk : od = none ∨ ∃ x fs, od = some x ∧ H x = some (.xd fs) := by
    cases ex <;> first
      | exact .inl hd
      | (obtain ⟨x, h1, h2⟩ := hd; exact .inr ⟨x, _, h1, h2⟩)
  rcases hk with rfl | ⟨x, fs, rfl, hx⟩
  · exact ⟨none, hget, rfl, rfl, trivial⟩
  · obtain ⟨_, ⟨o, _, _, e, _⟩, _⟩ := (show ∃ mA, s.heap.Ns1 x mA ∧ ∀ f, RelO (fs.lookup f) (mA f) from I.hok x _ hx)
    exact ⟨some _, hget, rfl, rfl, e⟩
theorem exc_cls {K : PySem.W.Frag} {D : Addr} (C : ExcC K D) : (PySem.W.clsIn K D).isSome = true := by
  obtain ⟨cd, hc, _⟩ := PySem.W.any_some C.hd
  rw [hc]; rfl
/-- isinstance(e, c), e the exception in hand -/
def rIsX (K : PySem.W.Frag) (D a : Addr) (ex : Er) (d : Option Addr) : List V → Hp → VK → Prop := fun xs H Q => ∃ (c : V) (cv : Value) (b : Bool), xs = [.ref a, c] ∧ ClsV c cv ∧ XFl ex d H ∧ PySem.W.kitOne K (.ref D) cv = some b ∧ Q (.bl b) H
theorem call_isP (hp : p ∈ X.pn) (C : ExcC X.K D) (hz : p.2.cls = .ref D) {d : Option Addr} (hdd : p.2.dict = d) (hf : ∃ vs, p.2.data = .fields vs) : CallR X (.builtin "isinstance") (rIsX X.K D p.1 ex d) := by
  subst hdd
  intro pins s σ H xs us Q I r h
  obtain ⟨c, cv, b, rfl, hcv, hd, e, q⟩ := h
  obtain ⟨u1, u2, rfl, r1, r2⟩ := vals2 r
  cases (show u1 = Value.ref p.1 from r1)
  have ec := hcv.eq r2
  subst ec
  obtain ⟨od, J⟩ := inst_pin I hp hz hd hf
  exact PySem.W.kia_one (PySem.W.kitx_exc (exc_cls C) C.hg C.hk C.hs C.ha C.hn C.ht C.hm) I.kIn J e (fun z => nomatch z) fun tk => ⟨.bl b, H, I.kept (t' := tk) fun _ _ z => z, rfl, q⟩
/-- .. and of a row of classes -/
def rIsXt (K : PySem.W.Frag) (D a : Addr) (ex : Er) (d : Option Addr) : List V → Hp → VK → Prop := fun xs H Q => ∃ (tp : Addr) (cs : List V) (us : List Value) (b : Bool), xs = [.ref a, .ref tp] ∧ H tp = some (.tup cs) ∧ Paired ClsV cs us ∧ XFl ex d H ∧ PySem.W.kitAny K (.ref D) us = some b ∧ Q (.bl b) H
theorem call_isPt (hp : p ∈ X.pn) (C : ExcC X.K D) (hz : p.2.cls = .ref D) {d : Option Addr} (hdd : p.2.dict = d) (hf : ∃ vs, p.2.data = .fields vs) : CallR X (.builtin "isinstance") (rIsXt X.K D p.1 ex d) := by
  subst hdd
  intro pins s σ H xs us Q I r h
  obtain ⟨tp, cs, ws, b, rfl, hT, k, hd, e, q⟩ := h
  obtain ⟨u1, u2, rfl, r1, r2⟩ := vals2 r
  cases (show u1 = Value.ref p.1 from r1)
  cases (show u2 = Value.ref tp from r2)
  obtain ⟨_, its, rv, o, h1, h2, n, h3⟩ := (show ObjOk X.prog X.w H s.heap tp (.tup cs) from I.hok tp _ hT)
  have e3 := ClsV.all k rv
  subst e3
  obtain ⟨oc, od, dt, sl⟩ := o
  simp only at h2 h3
  subst h2 h3
  obtain ⟨od, J⟩ := inst_pin I hp hz hd hf
  exact PySem.W.kia_tup (PySem.W.kitx_exc (exc_cls C) C.hg C.hk C.hs C.ha C.hn C.ht C.hm) I.kIn J h1 e (fun z => nomatch z) fun tk => ⟨.bl b, H, I.kept (t' := tk) fun _ _ z => z, rfl, q⟩
end
/-- the classes of a row, asked -/
def inKs (k : Ek) : List Ek → Bool
  | [] => false
  | c :: r => decide (k = c) || inKs k r
theorem kit_any {K : PySem.W.Frag} {d : Eds} {ks : List Ek} (T : EcF K d ks) {k : Ek} (hk : k ∈ ks) : ∀ (cs : List Ek), (∀ c ∈ cs, c ∈ ks) → PySem.W.kitAny K (.ref (d.at k)) (cs.map fun c => .ref (d.at c)) = some (inKs k cs)
  | [], _ => rfl
  | c :: r, h => by
    refine kitAny_cons (T.kt k hk c (h c (List.Mem.head _))) (fun e => ?_) fun e => ?_
    · rw [kit_any T hk r fun z hz => h z (List.Mem.tail _ hz)]
      show some (inKs k r) = some (decide (k = c) || inKs k r)
      rw [e, Bool.false_or]
    · show (decide (k = c) || inKs k r) = true
      rw [e, Bool.true_or]
/-! a def of the exception in hand, called in the suite -/
structure FnE (P : Program) (w : World) (K : PySem.W.Frag) (mg : Str → Option Value) (base : Heap) (k : Nat) (f : Addr) (fd : FuncData) (x : Str) (D : Addr) (ex : Er) (R : Bool) : Prop where
  run : ∀ (A : Around) (outer : List Env) (s : Shared) (H : Hp) (args : Args) (p : Addr × Obj) (Q : VK), L2H.RoomH k A → L2H.Hot1 A p → L2H.PinOk outer H s p → p.2.cls = .ref D → XFl ex p.2.dict H → Env0 P w K mg base A outer s H → BindsTo s fd args ([x].zip [.ref p.1]) → RetV (.bl R) H Q →
    codeAny (model P w) A (.call (.ref f) args) (CR CX0 outer P w H s Q E0) s
theorem fnE_of {P : Program} {w : World} {K : PySem.W.Frag} {mg : Str → Option Value} {base : Heap} {x qual : Str} {st : Stmt} {f : Addr} {fd : FuncData} {N : List Str} {y : Str} {k : Nat} {D : Addr} {ex : Er} {R : Bool} (F : Fun K x qual st f fd) (S : FnScope N [y] (defScope st))
    (hbody : ∀ (cdv : Value) (A : Around) (outer : List Env) (s : Shared) (H : Hp) (p : Addr × Obj) (Q : VK), A.units + 64 < cLine → p.2.cls = .ref D → XFl ex p.2.dict H → (∃ vs, p.2.data = .fields vs) → RetV (.bl R) H Q →
      ∃ t, PSs (L2H.cxH CX0 P w K mg base N qual (defScope st) f cdv A outer s H E0 p) (defBody st) t ∧ t { nx := fun _ H' => Q .non H', rt := Q } (start N [.ref p.1]) H) : FnE P w K mg base (k + 1) f fd y D ex R := by
  obtain ⟨oc, od, kV, doc, pm, an, cdv, ct, osl, rfl, lk, hcd⟩ := F.ex
  refine ⟨fun A outer s H args p Q hr hot hpin hz hd e0 hb hq => ?_⟩
  have KX : K.In s.heap := e0.mod.kin.keeps fun b o e => (e0.bs b o e).1
  have lim : s.heap.NoLimit := e0.mod.nolimit.keeps fun b o e => (e0.bs b o e).1
  have hkind : ∀ z ∈ [y].zip [Value.ref p.1], (defScope st).names.lookup z.1 = some .local ∨ ((defScope st).names.lookup z.1 = some .cell ∧ ((cellsFrom (s.heap.objs.size + 1) (defScope st).names []).lookup z.1).isSome = true) := fun ⟨n, v⟩ hy =>
    (S.par n (List.of_mem_zip hy).1).imp id fun q => ⟨q, PySem.W.cellsFrom_some _ _ _ (.inl q)⟩
  refine codeAny_call_function hr.depth (KX _ _ lk) rfl S.co S.gen rfl (PySem.W.codeRec_of KX hcd) (hb _ _ _ _ (wpAny_newFunctionEnv_cells S.kind hkind fun env he s1 hx => ?_))
  subst he
  refine ⟨lim.keeps hx.toInCall.keep, codeAny_func ?_⟩
  obtain ⟨h1, vs, h2, _⟩ := hot
  obtain ⟨t, ht, h3⟩ := hbody cdv A outer s H p Q (by have := hr.un; omega) hz hd ⟨vs, h2⟩ hq
  have rv : Vals [V.ref p.1] [Value.ref p.1] := .cons rfl .nil
  have I := L2H.inv_startH (CX := CX0) (qual := qual) (f := f) (cd := cdv) (E := E0) S hpin e0 rfl rv hx
  refine wpAny_mono (ht.run [] s1 _ H _ I h3) (fun fl s' hs => ?_) fun e s' hs => hs
  cases fl with
  | ret u =>
    obtain ⟨v, σ', H', J, r, q⟩ := hs
    exact ⟨v, H', J.os, J.bare, J.base, J.hok, r, q⟩
  | next =>
    obtain ⟨σ', H', J, q⟩ := hs
    exact ⟨V.non, H', J.os, J.bare, J.base, J.hok, rfl, q⟩
  | brk =>
    obtain ⟨_, _, _, q⟩ := hs
    exact q.elim
  | cont =>
    obtain ⟨_, _, _, q⟩ := hs
    exact q.elim
def tCallE (a : Addr) (ex : Er) (d : Option Addr) (R : Bool) (t : TA) : TE := fun σ H Q => t σ H fun vs H1 => vs = [.ref a] ∧ XFl ex d H1 ∧ RetV (.bl R) H1 Q
theorem pe_callE {X : Cx} {k : Nat} {f : Addr} {fd : FuncData} {x y : Str} {q pos : Pos} {e : Expr} {t : TA} {D : Addr} {ex : Er} {R : Bool} {p : Addr × Obj} (F : FnE X.prog X.w X.K X.mg X.base k f fd y D ex R) (hp : p ∈ X.pn) (hot : L2H.Hot1 X.A p) (hz : p.2.cls = .ref D) {d : Option Addr} (hdd : p.2.dict = d)
    (hr : L2H.RoomH k X.A) (hg : Gl X x) (hm : X.mg x = some (.ref f)) (hk : PySem.W.keepIn X.K (.ref f) = true) (hb : Binds X.K fd [y] []) (ha : PA X [e] t) (hdb : (x == ("__debug__" : Str)) = false := by decide)
    (he : starEach [e] X.env = (false, eval e X.env) :: starEach [] X.env := by rfl) (hpl : (backTo pos (starEach [] X.env)).any (·.1) = false := by rfl) : PE X (.Call (.Name x q) [e] [] pos) (tCallE p.1 ex d R t) := by
  subst hdd
  refine ⟨fun pins s σ H Q I h => ?_⟩
  refine wpAny_Call_Name_kw (ld_glob I hg hm ?_ hdb)
  refine PySem.W.callWith_K (h₀ := X.base) I.ok.mod.kin hk (thn (ha.run pos pins s σ H _ I h) fun us s1 ⟨vs, H1, I1, r, e1, hd, hq⟩ => ⟨I1.kIn, ?_⟩) he hpl
  subst e1
  obtain ⟨u, rfl, r1⟩ := r.one
  cases (show u = Value.ref p.1 from r1)
  have b := hb s1 [.ref p.1] I1.kIn (by rw [List.append_nil]; rfl)
  rw [List.append_nil] at b
  obtain ⟨p1, p2, p3, p4, p5⟩ := I1.pin p (List.mem_append_left _ hp)
  have hpin : L2H.PinOk X.stack H1 s1 p := ⟨p1, p2, fun hm => (List.mem_cons.mp (I1.stkSub p.1 hm)).elim p3 p4, p5⟩
  refine wpAny_call (codeAny_mono (F.run X.A X.stack s1 H1 ⟨[.ref p.1], []⟩ p Q hr hot hpin hz hd I1.env0 b hq) fun r s' hq => ?_)
  cases r with
  | error e => exact (show False from hq).elim
  | ok fl =>
    cases fl with
    | ret u => exact I1.after hq
    | next => exact False.elim hq
    | brk => exact False.elim hq
    | cont => exact False.elim hq
/-! all of it, class by class -/
structure EcP (K : PySem.W.Frag) (C : Addr) : Prop where
  hg : PySem.W.findIn K (.ref C) "__getattribute__" = some (some (.builtin "BaseException.__getattribute__"))
  hk : PySem.W.findIn K (.ref C) "__getattr__" = some none
  hs : PySem.W.subIn K (.ref C) (.type "BaseException") = some true
  hd : PySem.W.hasDictIn K C = true
  ha : PySem.W.findIn K (.ref C) "__class__" = some (some (.builtin "object.__class__"))
  hm : PySem.W.mroIn K C (.type "object") = some true
  ct : PySem.W.typeIn K (.ref C) = some (.type "type")
  sv : PySem.W.subIn K (.ref C) (.type "ValueError") = some true
theorem all_nil {α : Type} {P : α → Prop} : ∀ x ∈ ([] : List α), P x := fun _ h => (nomatch h)
theorem all_cons {α : Type} {P : α → Prop} {a : α} {l : List α} (h : P a) (t : ∀ x ∈ l, P x) : ∀ x ∈ a :: l, P x := fun x hx => by
  rcases List.mem_cons.mp hx with rfl | hx
  · exact h
  · exact t x hx
theorem ecf_mk {K : PySem.W.Frag} {d : Eds} {ks : List Ek} (h : ∀ k ∈ ks, EcP K (d.at k)) (hp : ∀ k ∈ ks, ∀ c ∈ ks, PySem.W.subIn K (.ref (d.at k)) (.ref (d.at c)) = some (decide (k = c)))
    (hr : ∀ k ∈ ks, PySem.W.subIn K (.ref (d.at k)) (.ref d.RailError) = some true) (rr : EcP K d.RailError)
    (hn : PySem.W.specialIn K (.builtin "object.__class__") "__get__" = some (some (.builtin "getset_descriptor.__get__"))) (ht : PySem.W.takesIn K (.builtin "object.__class__") = some true) (hv : PySem.W.kitMeta "ValueError" = true) : EcF K d ks := by
  have ec : ∀ k ∈ ks, ExcC K (d.at k) := fun k hk => by
    obtain ⟨h1, h2, h3, h4, h5, h6, h7, h8⟩ := h k hk
    exact ⟨h1, h2, h3, h4, h5, hn, ht, h6⟩
  have cl : ∀ {C : Addr}, EcP K C → (PySem.W.clsIn K C).isSome = true := fun q => by
    obtain ⟨cd, hc, _⟩ := PySem.W.any_some q.hd
    rw [hc]; rfl
  have ko : ∀ {a b : Addr} {r : Bool}, EcP K b → PySem.W.subIn K (.ref a) (.ref b) = some r → (a = b → r = true) → PySem.W.kitOne K (.ref a) (.ref b) = some r := fun {a b r} q e1 e2 => by
    unfold PySem.W.kitOne
    by_cases e : a = b
    · subst e
      rw [if_pos (by simp), e2 rfl]
    · rw [if_neg (by simp [e])]
      unfold PySem.W.kitCls
      dsimp only
      rw [if_pos (by rw [cl q, q.ct]; rfl)]
      exact e1
  refine ⟨ec, fun k hk c hc => ko (h c hc) (hp k hk c hc) (fun e => ?_), fun k hk => ?_, fun k hk => ko rr (hr k hk) fun _ => rfl, fun k hk => exm_mk rr.hs (cl rr) rr.ct (hr k hk), fun k hk c hc => exm_mk (h c hc).hs (cl (h c hc)) (h c hc).ct (hp k hk c hc)⟩
  · have e1 := hp k hk c hc
    have e2 := hp c hc c hc
    rw [e] at e1
    rw [e2] at e1
    rw [decide_eq_true (rfl : c = c)] at e1
    exact (Option.some.inj e1).symm
  · unfold PySem.W.kitOne
    rw [if_neg (by simp)]
    unfold PySem.W.kitCls
    dsimp only
    rw [if_pos hv]
    exact (h k hk).sv
theorem gv_ref {K : PySem.W.Frag} {h : Heap} {mg : Str → Option Value} {x : Str} {C : Addr} (X : K.In h) (G : h.Ns mainGlobals mg) (a : PySem.W.nsIn K mainGlobals x = some (some (.ref C))) : Gv mg x (.ref C) := ⟨_, PySem.W.mg_of X G a, rfl⟩
theorem err_at {K : PySem.W.Frag} {h : Heap} {mg : Str → Option Value} {x : Str} {C : Addr} (X : K.In h) (G : h.Ns mainGlobals mg) (a : PySem.W.nsIn K mainGlobals x = some (some (.ref C)))
    (e : PySem.W.excIn K C [.type "ValueError", .type "Exception", .type "BaseException", .type "object"] "ValueError.__new__" = true) (k : PySem.W.keepIn K (.ref C) = true) (b : PySem.W.subIn K (.ref C) (.type "BaseException") = some true) (t : PySem.W.typeIn K (.ref C) = some (.type "type")) : ErrC K mg x C :=
  ⟨PySem.W.mg_of X G a, e, k, b, t⟩
def Er.plain : Er → Bool
  | .NoWire _ => false
  | .NoRow _ => false
  | _ => true
theorem XFl.of {e : Er} {H : Hp} (h : e.plain = true) : XFl e none H := by
  cases e <;> first
    | rfl
    | cases h
theorem RetE.byP {d : Eds} {e : Er} {H : Hp} {E : XK} (hp : e.plain = true) (h : ∀ H', Ex H H' → E (.ref (d.at e.k)) none H') : RetE d e H E := by
  cases e <;> first
    | exact fun H' x => h H' x
    | cases hp
theorem Ek.all (k : Ek) : k ∈ [Ek.NoBits, .NoName, .NoKey, .NoFrame, .NoPost, .NoThing, .NoStrip, .NoRail, .NoWire, .NoRow] := by
  cases k <;> decide
/-! the suite, its exception known -/
theorem pss_exc {X : Cx} {ss : List Stmt} {es : Eds} {ks : List Ek} {cls : Value} {t : Er → TS} (h : ∀ e, e.k ∈ ks → cls = .ref (es.at e.k) → PSs X ss (t e)) :
    PSs X ss (fun D σ H => ∃ e : Er, e.k ∈ ks ∧ cls = .ref (es.at e.k) ∧ t e D σ H) :=
  ⟨fun pins s σ H D I ⟨e, h1, h2, q⟩ => (h e h1 h2).run pins s σ H D I q⟩
theorem hot_suite {X : Cx} {a : Addr} {oe : Obj} {pn : List (Addr × Obj)} {cls : Value} {d : Option Addr} (hz : L2N.Zn cls d oe) (hf : ∃ vs, oe.data = .fields vs) : L2H.Hot1 (X.suite a ((a, oe) :: pn)).A (a, oe) := by
  obtain ⟨vs, hv⟩ := hf
  exact ⟨rfl, vs, hv, hz.2.2 vs hv⟩
theorem roomE {X : Cx} {k : Nat} {v : Option Value} (hr : Room k X.A) : L2H.RoomH k (X.A.mark v) := ⟨hr.dp, hr.un⟩
def Er.num : Er → Int
  | .NoWire i => i
  | .NoRow i => i
  | _ => 0
end Bt
namespace Bt
open PySem L2 PyProof.Rows
def okE (ks : List Ek) (e : Er) : Bool := e.plain && decide (e.k ∈ ks)
theorem okE_iff {ks : List Ek} {e : Er} (h : okE ks e = true) : e.plain = true ∧ e.k ∈ ks := by
  unfold okE at h
  rw [Bool.and_eq_true, decide_eq_true_eq] at h
  exact h
theorem ifN {α : Type} {c : Bool} {a : Option α} {r : α} (h : ifB c a none = some r) : c = true ∧ a = some r := by
  cases c with
  | true => exact ⟨rfl, h⟩
  | false => cases h
theorem o_cE {a : Addr} {ex : Er} {d : Option Addr} {R : Bool} {t : TA} {σ : L2.St} {H : Hp} {Q : VK} (h : t σ H fun vs H1 => vs = [.ref a] ∧ XFl ex d H1 ∧ RetV (.bl R) H1 Q) : tCallE a ex d R t σ H Q := h
end Bt
namespace Bt
open PySem L2 PyProof.Rows
theorem pe_gr {X : Cx} {x : Str} {C : Addr} {pos : Pos} (hg : Gl X x) (h : X.mg x = some (.ref C)) (hd : (x == ("__debug__" : Str)) = false := by decide) : PE X (.Name x pos) (tC (.ref C)) := pe_gv hg ⟨_, h, rfl⟩ hd
end Bt
namespace Bt
open PySem L2 PyProof.Rows
theorem pe_callEs {X : Cx} {a : Addr} {oe : Obj} {pn : List (Addr × Obj)} {cls : Value} {k : Nat} {f : Addr} {fd : FuncData} {x y : Str} {q pos : Pos} {e : Expr} {t : TA} {D : Addr} {ex : Er} {R : Bool} {d : Option Addr} (F : FnE X.prog X.w X.K X.mg X.base k f fd y D ex R) (hz : L2N.Zn cls d oe) (hf : ∃ vs, oe.data = .fields vs) (hc : cls = .ref D)
    (hr : Room k X.A) (hg : Gl X x) (hm : X.mg x = some (.ref f)) (hk : PySem.W.keepIn X.K (.ref f) = true) (hb : Binds X.K fd [y] []) (ha : PA (X.suite a ((a, oe) :: pn)) [e] t) (hdb : (x == ("__debug__" : Str)) = false := by decide)
    (he : starEach [e] X.env = (false, eval e X.env) :: starEach [] X.env := by rfl) (hpl : (backTo pos (starEach [] X.env)).any (·.1) = false := by rfl) : PE (X.suite a ((a, oe) :: pn)) (.Call (.Name x q) [e] [] pos) (tCallE a ex d R t) :=
  pe_callE (X := X.suite a ((a, oe) :: pn)) (p := (a, oe)) F (List.Mem.head _) (hot_suite hz hf) (hz.1.trans hc) hz.2.1 (roomE hr) hg hm hk hb ha hdb he hpl
end Bt
namespace Bt
open PySem L2
theorem o_dn {n b k : L2.St → Hp → Prop} {w : VK} {σ : L2.St} {H : Hp} (h : n σ H) : (Ends.mk n w b k).nx σ H := h
end Bt
namespace Bt
open PySem L2
theorem RetE.up {d : Eds} {e : Er} {H H' : Hp} {E : XK} (k : RetE d e H E) (x : Ex H H') : RetE d e H' E := by
  cases e <;> first
    | exact fun H2 h => k H2 (x.trans h)
    | exact fun H2 a ha h => k H2 a (x.back ha) (x.trans h)
end Bt
namespace Bt
open PySem L2
/-! a refusal with its own dict, caught: the dict is laid in the frame -/
theorem RetE.byX {d : Eds} {e : Er} {H : Hp} {E : XK} (h : ∀ H' dd, Ex H H' → XFl e dd H' → (∀ x, dd = some x → H x = none) → E (.ref (d.at e.k)) dd H') : RetE d e H E := by
  cases e <;> first
    | exact fun H' x => h H' none x rfl (fun _ z => nomatch z)
    | exact fun H' a ha x q => h H' (some a) x ⟨a, rfl, q⟩ (fun y z => by cases z; exact ha)
theorem Own.growX {R H H' : Hp} {L : List Cell} {e : Er} {dd : Option Addr} (O : Own R H L) (x : Ex H H') (hX : XFl e dd H') (hn : ∀ y, dd = some y → H y = none) : ∃ R', Own R' H' L ∧ Ex R R' ∧ XFl e dd R' := by
  obtain ⟨R', O', e1, e2⟩ := O.grow x
  refine ⟨R', O', e1, ?_⟩
  cases e <;> first
    | exact hX
    | (obtain ⟨a, h1, h2⟩ := hX
       exact ⟨a, h1, e2 R (Ex.refl R) _ _ (ovr_mk (.inr (hn a h1)) h2)⟩)
end Bt

set_option Elab.async false
set_option linter.all false
set_option maxRecDepth 100000
set_option maxHeartbeats 4000000
/-! Refusals that are made of a whole number: their own __init__, raised where nothing is handled. -/
namespace Bt
open PySem L2 PyProof.Rows
/-- R.__init__(self, ..), R an own class that takes it from ValueError -/
theorem pe_rinit {X : Cx} {x : Str} {R : Addr} {e : Expr} {es : List Expr} {ta : TA} {p1 p2 pos : Pos} {pl : Sem Bool} (hg : Gl X x) (hm : X.mg x = some (.ref R))
    (ga : PySem.W.specialIn X.K (.ref R) "__getattribute__" = some (some (.builtin "type.__getattribute__"))) (rd : PySem.W.readsIn X.K R (.type "type") = true)
    (vV : PySem.W.findCls X.K (.ref R) (.type "type") "__init__" = some (.val (.builtin "ValueError.__init__"))) (ha : PA X (e :: es) ta)
    (hc : eval (.Call (.Attribute (.Name x p1) "__init__" p2) (e :: es) [] pos) X.env = (do
      let ov ← eval (.Name x p1) X.env
      standAt p2.atName
      let (f, first) ← holding [ov] (getMethod ov "__init__" pl)
      callWith pos f first (backTo pos (starEach (e :: es) X.env)) (backToKw pos (keywordEach [] X.env))) := by rfl)
    (hdb : (x == ("__debug__" : Str)) = false := by decide)
    (he : starEach (e :: es) X.env = (false, eval e X.env) :: starEach es X.env := by rfl) (hpl : (backTo pos (starEach es X.env)).any (·.1) = false := by rfl) :
    PE X (.Call (.Attribute (.Name x p1) "__init__" p2) (e :: es) [] pos) (tVeI X.K ta) := by
  refine ⟨fun pins s σ H Q I h => ?_⟩
  refine PySem.W.methodCall_KW (ld_glob I hg hm ?_ hdb) hc
  refine PySem.W.method_cls I.kIn ga (PySem.W.cls_value I.kIn rd vV (by decide +kernel) ?_)
  refine PyProof.Rows.callWith_method1 (thn (ha.run pos pins _ σ H _ (I.tok _) h) fun us s1 ⟨vs, H1, I1, r1, a, C, ws, ev, hl, T, ea, q⟩ => ?_) he hpl
  subst ev
  cases r1 with
  | @cons _ u0 _ ur ra rw' =>
    obtain rfl : u0 = Value.ref a := ra
    have hlen : ur.length ≤ sizeLine := by
      rw [← Paired.length rw', sizeLine_eq]
      omega
    exact oinit_ok T I1 ea hlen fun s' J => ⟨.non, H1, J, rfl, q⟩
/-- C(e, ..) where nothing is handled, its context None -/
theorem pmk_initN {X : Cx} {CX : CXT} {x : Str} {e : Expr} {es : List Expr} {ta : TA} {p pos : Pos} {C fI : Addr} {k : Nat} {fd : FuncData} {ps : List Str} {sp : Sp} (T : OexC X.K C) (iC : PySem.W.findIn X.K (.ref C) "__init__" = some (some (.ref fI))) (tI : PySem.W.typeIn X.K (.ref fI) = some (.type "function"))
    (F1 : FnOk X.prog X.w X.K X.mg X.base CX k fI fd ps sp) (hr : Room (k + 1) X.A) (hb : Binds X.K fd ps []) (hx : Passes CX X (fun _ _ _ => False)) (hg : Gl X x) (hm : X.mg x = some (.ref C)) (ha : PA X (e :: es) ta)
    (hdb : (x == ("__debug__" : Str)) = false := by decide) (he : starEach (e :: es) X.env = (false, eval e X.env) :: starEach es X.env := by rfl) (hpl : (backTo pos (starEach es X.env)).any (·.1) = false := by rfl) :
    L2N.PMk X (.Call (.Name x p) (e :: es) [] pos) (tMkO C sp [] ta) := by
  intro pins s σ H Q I h
  obtain ⟨nm, q, N, bs, bm, sn, sub, ab, col, dd, k0, k1, k2, k3, k5, hC, hbm⟩ := T.cls
  refine wpAny_Call_Name_kw (ld_glob I hg hm ?_ hdb)
  refine PySem.W.callWith_K (h₀ := X.base) I.ok.mod.kin T.kC (thn (ha.run pos pins s σ H _ I h) fun us s1 ⟨vs, H1, I1, r1, hz, q1⟩ => ⟨I1.kIn, ?_⟩) he hpl
  obtain ⟨hp, g, dr, tk, os⟩ := s1
  have hsz : hp.objs.size ≤ hp.objs.size + 1 := Nat.le_succ _
  have hq := q1 (hp.objs.size + 1) (I1.hok.fresh hsz)
  rw [List.append_nil] at hq
  have kk : ∀ b o, hp.get? b = some o → ((hp.push (PySem.W.kdv_tup us)).push (PySem.HandSPX.excO C hp.objs.size)).get? b = some o := fun b o z => Heap.get?_push_of_some _ (Heap.get?_push_of_some _ z)
  have I2 : Inv X pins σ (upd H1 (hp.objs.size + 1) (exo (hp.objs.size + 1) C none)) ⟨(hp.push (PySem.W.kdv_tup us)).push (PySem.HandSPX.excO C hp.objs.size), g, dr, tk, os⟩ :=
    I1.laid (t' := tk) (a := hp.objs.size + 1) (o := exo (hp.objs.size + 1) C none) (h' := (hp.push (PySem.W.kdv_tup us)).push (PySem.HandSPX.excO C hp.objs.size)) kk hsz (exo_ok (by heap_get))
  have r2 : Vals (V.ref (hp.objs.size + 1) :: vs) (Value.ref (hp.objs.size + 1) :: us) := .cons rfl r1
  have hl : (Value.ref (hp.objs.size + 1) :: us ++ []).length = ps.length := by
    have z := r2.length
    rw [F1.len _ _ _ _ hq] at z
    rw [List.append_nil]
    exact z.symm
  have hus : us.length ≤ sizeLine := by
    rw [← Paired.length r1, sizeLine_eq]
    omega
  have b2 := hb _ (Value.ref (hp.objs.size + 1) :: us) I2.kIn hl
  rw [List.append_nil] at b2
  refine wpAny_call (PySem.HandSPX.call_own PySem.F.excBase_ValueError (fun Y => PySem.HandSPX.refsVE_contains Y bm hbm) (I1.kIn _ _ hC) (PySem.W.looks_findIn I1.kIn iC) (fun self => PySem.W.bind_fn I1.kIn self tI) hus
    (codeAny_mono (F1.run _ X.stack _ _ ⟨Value.ref (hp.objs.size + 1) :: us, []⟩ (Value.ref (hp.objs.size + 1) :: us) _ _ (fun _ _ _ => False) (hr.make C us []) (I2.env0.make C us []) b2 r2 hq) fun r s' hq' => ?_))
  cases r with
  | error er => exact hx pins σ _ _ er s' I2 hq'
  | ok fl =>
    cases fl with
    | ret u =>
      obtain ⟨v, H2, os2, bare2, un2, hok2, rv, ev, d, fs, ea, ed, hd1, q2⟩ := hq'
      subst ev
      obtain ⟨h2, g2, d2, t2, os'⟩ := s'
      obtain ⟨t0, G, J, kG, ge, hoe, na⟩ := mk_end0 (d2 := d2) (t2 := t2) I1 hsz kk un2 hok2 os2 bare2 ea ed hd1
      exact ⟨rv, _, _, _, ⟨G, g2, d2, t2, os'⟩, _, .ref C, some d, rfl, J, kG, ge, hoe, ⟨rfl, rfl, fun vs z => by cases z; rfl⟩, rfl, rfl, na, rfl, bare2, raises_own T.exC T.tyC, q2⟩
    | next => exact False.elim hq'
    | brk => exact False.elim hq'
    | cont => exact False.elim hq'
/-- what such an __init__ promises: the field laid -/
def spI (C : Addr) (fld : Str) : Sp := fun vs H Q _ => ∃ (a : Addr) (i : Int), vs = [.ref a, .int i] ∧ H a = some (exo a C none) ∧ ∀ dx, H dx = none → dx ≠ a → Q .non (upd (upd H dx (exd dx [(fld, .int i)])) a (exo a C (some dx)))
def rMkI (C : Addr) (fld : Str) (vs : List V) (H1 : Hp) (Q : XK) : Prop := vs.length ≤ 1000 ∧ ∀ a, H1 a = none → spI C fld (.ref a :: (vs ++ [])) (upd H1 a (exo a C none))
  (fun v H2 => v = .non ∧ ∃ (d : Addr) (fs : List (Str × V)), H2 a = some (exo a C (some d)) ∧ H2 d = some (exd d fs) ∧ H1 d = none ∧ Q (.ref C) (some d) (upd (del H2 a) d (.xd fs))) (fun _ _ _ => False)
theorem o_mkI {C : Addr} {fld : Str} {t : TA} {σ : L2.St} {H : Hp} {Q : XK} (h : t σ H fun vs H1 => rMkI C fld vs H1 Q) : tMkO C (spI C fld) [] t σ H Q := h
theorem k_mkI {C : Addr} {fld : Str} {H1 : Hp} {Q : XK} {i : Int} (k : ∀ H' dx, H1 dx = none → Ex H1 H' → H' dx = some (.xd [(fld, .int i)]) → Q (.ref C) (some dx) H') : rMkI C fld [.int i] H1 Q := by
  refine ⟨by show 1 ≤ 1000; decide, fun a ha => ⟨a, i, rfl, upd_same, fun dx h1 h2 => ?_⟩⟩
  rw [upd_ne h2] at h1
  refine ⟨rfl, dx, _, upd_same, ?_, h1, k _ dx h1 (fun b o hb => ?_) upd_same⟩
  · rw [upd_ne h2, upd_same]
  · have hba : b ≠ a := fun z => by rw [z, ha] at hb; cases hb
    have hbd : b ≠ dx := fun z => by rw [z, h1] at hb; cases hb
    rw [upd_ne hbd, del_ne hba, upd_ne hba, upd_ne hbd, upd_ne hba]
    exact hb
/-- the facts of such a class -/
structure InF (K : PySem.W.Frag) (mg : Str → Option Value) (C R f : Addr) (fld : Str) : Prop where
  o : OexC K C
  i : PySem.W.findIn K (.ref C) "__init__" = some (some (.ref f))
  t : PySem.W.typeIn K (.ref f) = some (.type "function")
  n : PySem.W.findIn K (.ref C) fld = some none
  ga : PySem.W.specialIn K (.ref R) "__getattribute__" = some (some (.builtin "type.__getattribute__"))
  rd : PySem.W.readsIn K R (.type "type") = true
  v : PySem.W.findCls K (.ref R) (.type "type") "__init__" = some (.val (.builtin "ValueError.__init__"))
  mr : mg "RailError" = some (.ref R)
end Bt
namespace Bt
open PySem
/-- the statements of a class -/
def clsB (s : Stmt) : List Stmt := match s with
  | .ClassDef _ _ _ b _ _ _ _ _ _ _ => b
  | _ => []
end Bt

set_option linter.all false
set_option maxRecDepth 100000
set_option maxHeartbeats 1000000
/-! Plain facts about the mirror's words. -/
namespace Bt
open PySem L2
section
variable {α β S R : Type}
theorem bnd_some {a : α} {f : α → Option β} : bnd (some a) f = f a := rfl
theorem bnd_of {a : Option α} {x : α} {f : α → Option β} (h : a = some x) : bnd a f = f x := by rw [h]; rfl
theorem ltv_eq {a : α} {f : α → Option β} : ltv a f = f a := rfl
theorem ifB_t {a b : α} : ifB true a b = a := rfl
theorem ifB_f {a b : α} : ifB false a b = b := rfl
theorem ifB_dec {c : Prop} [Decidable c] {a b : α} : ifB (decide c) a b = if c then a else b := by
  by_cases h : c
  · rw [if_pos h, decide_eq_true h]; rfl
  · rw [if_neg h, decide_eq_false h]; rfl
theorem ifB_ite {c : Bool} {a b : α} : ifB c a b = if c = true then a else b := by cases c <;> rfl
theorem fin_nx {s : S} {rest : S → Option R} : fin (some (.nx s)) rest = rest s := rfl
theorem fin_rt {r : R} {rest : S → Option R} : fin (some (.rt r)) rest = some r := rfl
theorem loopM_ok {f : α → S → Option S} (I : List α → S → Prop) (hs : ∀ x r s, I (x :: r) s → ∃ s', f x s = some s' ∧ I r s') : ∀ (xs : List α) (s : S), I xs s → ∃ out, loopM f xs s = some out ∧ I [] out
  | [], s, h => ⟨s, rfl, h⟩
  | x :: r, s, h => by
    obtain ⟨s', h1, h2⟩ := hs x r s h
    obtain ⟨out, h3, h4⟩ := loopM_ok I hs r s' h2
    exact ⟨out, by show bnd (f x s) (loopM f r) = some out; rw [h1]; exact h3, h4⟩
theorem loopF_ok {f : α → S → Option (Fl S R)} (I : List α → S → Prop) (hs : ∀ x r s, I (x :: r) s → ∃ s', f x s = some (.nx s') ∧ I r s') : ∀ (xs : List α) (s : S), I xs s → ∃ out, loopF f xs s = some (.nx out) ∧ I [] out
  | [], s, h => ⟨s, rfl, h⟩
  | x :: r, s, h => by
    obtain ⟨s', h1, h2⟩ := hs x r s h
    obtain ⟨out, h3, h4⟩ := loopF_ok I hs r s' h2
    exact ⟨out, by show bnd (f x s) (contF (loopF f r)) = some (.nx out); rw [h1]; exact h3, h4⟩
/-- a search that finds nothing -/
theorem loopF_unit {f : α → Unit → Option (Fl Unit R)} {xs : List α} (h : ∀ x ∈ xs, f x () = some (.nx ())) : loopF f xs () = some (.nx ()) := by
  induction xs with
  | nil => rfl
  | cons x r ih =>
    show bnd (f x ()) (contF (loopF f r)) = some (.nx ())
    rw [h x (List.Mem.head _)]
    exact ih fun y hy => h y (List.Mem.tail _ hy)
theorem compM_ok {f : α → Option β} {g : α → β} : ∀ (xs : List α) (acc : List β), (∀ x ∈ xs, f x = some (g x)) → acc.length + xs.length ≤ 16777216 → compM f xs acc = some (acc ++ xs.map g)
  | [], acc, _, _ => by simp [compM]
  | x :: r, acc, h, hz => by
    have hl : acc.length < 16777216 := by simp only [List.length_cons] at hz; omega
    have ih := compM_ok r (acc ++ [g x]) (fun y hy => h y (List.Mem.tail _ hy)) (by simp only [List.length_append, List.length_cons, List.length_nil] at hz ⊢; omega)
    show bnd (f x) (fun y => if acc.length < 16777216 then compM f r (acc ++ [y]) else none) = _
    rw [h x (List.Mem.head _), bnd_some, if_pos hl, ih]
    simp
/-- the elements' property alone -/
theorem compM_all {f : α → Option β} {P : β → Prop} : ∀ (xs : List α) (acc : List β), (∀ x ∈ xs, ∃ y, f x = some y ∧ P y) → acc.length + xs.length ≤ 16777216 → (∀ y ∈ acc, P y) → ∃ out, compM f xs acc = some out ∧ out.length = acc.length + xs.length ∧ ∀ y ∈ out, P y
  | [], acc, _, _, ha => ⟨acc, rfl, by simp, ha⟩
  | x :: r, acc, h, hz, ha => by
    obtain ⟨y, h1, h2⟩ := h x (List.Mem.head _)
    have hl : acc.length < 16777216 := by simp only [List.length_cons] at hz; omega
    obtain ⟨out, h3, h4, h5⟩ := compM_all r (acc ++ [y]) (fun y hy => h y (List.Mem.tail _ hy)) (by simp only [List.length_append, List.length_cons, List.length_nil] at hz ⊢; omega) (fun z hz => by
      rcases List.mem_append.mp hz with q | q
      · exact ha z q
      · rw [List.mem_singleton.mp q]; exact h2)
    refine ⟨out, ?_, by rw [h4]; simp only [List.length_append, List.length_cons, List.length_nil]; omega, h5⟩
    show bnd (f x) (fun y => if acc.length < 16777216 then compM f r (acc ++ [y]) else none) = _
    rw [h1, bnd_some, if_pos hl, h3]
theorem appG_ok {xs : List α} {y : α} (h : xs.length < 16777216) : appG xs y = some (xs ++ [y]) := grd_of h
theorem catG_ok {xs ys : List α} (h : xs.length + ys.length ≤ 16777216) : catG xs ys = some (xs ++ ys) := grd_of h
theorem ixN_nat' {n : Nat} {i : Int} (h0 : 0 ≤ i) (h1 : i < n) : ixN n i = some i.toNat := by
  unfold ixN
  rw [if_pos h0, if_pos h1]
theorem atI_ok {xs : List α} {i : Int} (h0 : 0 ≤ i) (h1 : i < xs.length) : atI xs i = xs[i.toNat]? := by
  unfold atI
  rw [ixN_nat' h0 h1]
  rfl
theorem atI_mem {xs : List α} {i : Int} (h0 : 0 ≤ i) (h1 : i < xs.length) : ∃ x, atI xs i = some x ∧ x ∈ xs := by
  have hn : i.toNat < xs.length := by omega
  exact ⟨xs[i.toNat], by rw [atI_ok h0 h1]; exact List.getElem?_eq_getElem hn, List.getElem_mem hn⟩
theorem setG_ok {xs : List α} {i : Int} {y : α} (h0 : 0 ≤ i) (h1 : i < xs.length) : setG xs i y = some (xs.set i.toNat y) := by
  unfold setG
  rw [ixN_nat' h0 h1]
theorem repG_ok {xs : List α} {k : Int} (h0 : 0 ≤ k) (h1 : k ≤ 1000000) (h2 : xs.length * k.toNat ≤ 16777216) : repG xs k = some (List.replicate k.toNat xs).flatten := grd_of ⟨by omega, by omega, h2⟩
end
theorem modG_ok {i j : Int} (h : 0 < j) : modG i j = some (i % j) := grd_of h
theorem log2_small {n k : Nat} (h : n < 2 ^ k) : n.log2 ≤ k := by
  by_cases h0 : n = 0
  · subst h0; rw [show Nat.log2 0 = 0 from by decide]; exact Nat.zero_le _
  · exact Nat.le_of_lt ((Nat.log2_lt h0).mpr h)
theorem mulG_ok {i j : Int} {a b : Nat} (h1 : i.natAbs < 2 ^ a) (h2 : j.natAbs < 2 ^ b) (h : a + b < 1000000) : mulG i j = some (i * j) := by
  refine grd_of ?_
  have := log2_small h1
  have := log2_small h2
  omega
theorem fdivG_ok {i j : Int} {b : Nat} (h : 0 < j) (h2 : j.natAbs < 2 ^ b) (hb : b < 9000) : fdivG i j = some (i / j) := by
  refine grd_of ⟨h, ?_⟩
  have := log2_small h2
  omega
theorem shrG_ok {i j : Int} (h : 0 ≤ j) : shrG i j = some (i / 2 ^ j.toNat) := grd_of h
theorem rng1_ok {j : Int} (h : j ≤ 1000000) (h0 : -1000000 ≤ j) : rng1 j = some (rangeI 0 j) := grd_of ⟨by omega, by omega⟩
theorem rng2_ok {i j : Int} (h : j ≤ 1000000) (h0 : -1000000 ≤ j) (h1 : -1000000 ≤ i) (h2 : i ≤ 1000000) : rng2 i j = some (rangeI i j) := grd_of ⟨by omega, by omega, by omega, by omega⟩
theorem mem_rangeI {i j x : Int} (h : x ∈ rangeI i j) : i ≤ x ∧ x < j := by
  unfold rangeI at h
  obtain ⟨n, hn, rfl⟩ := List.mem_map.mp h
  have := List.mem_range.mp hn
  omega
theorem rangeI_length (i j : Int) : (rangeI i j).length = (j - i).toNat := by simp [rangeI]
theorem rangeI_cons {i j : Int} (h : i < j) : rangeI i j = i :: rangeI (i + 1) j := by
  unfold rangeI
  have e : (j - i).toNat = (j - (i + 1)).toNat + 1 := by omega
  rw [e, List.range_succ_eq_map]
  simp only [List.map_cons, List.map_map]
  congr 1
  · simp
  · refine List.map_congr_left fun n _ => ?_
    simp only [Function.comp]
    omega
theorem rangeI_nil {i j : Int} (h : j ≤ i) : rangeI i j = [] := by
  unfold rangeI
  rw [show (j - i).toNat = 0 from by omega]
  rfl
/-- a loop over a range: the invariant by the number ahead -/
theorem loopM_rng {S : Type} {f : Int → S → Option S} (I : Int → S → Prop) {hi : Int} (hs : ∀ i s, i < hi → I i s → ∃ s', f i s = some s' ∧ I (i + 1) s') : ∀ (n : Nat) (lo : Int) (s : S), (hi - lo).toNat = n → lo ≤ hi → I lo s → ∃ out, loopM f (rangeI lo hi) s = some out ∧ I hi out
  | 0, lo, s, e, h, h0 => by
    have : lo = hi := by omega
    subst this
    rw [rangeI_nil (Int.le_refl _)]
    exact ⟨s, rfl, h0⟩
  | n + 1, lo, s, e, h, h0 => by
    rw [rangeI_cons (by omega)]
    obtain ⟨s', h1, h2⟩ := hs lo s (by omega) h0
    obtain ⟨out, h3, h4⟩ := loopM_rng I hs n (lo + 1) s' (by omega) (by omega) h2
    exact ⟨out, by show bnd (f lo s) _ = _; rw [h1]; exact h3, h4⟩
theorem loopF_rng {S R : Type} {f : Int → S → Option (Fl S R)} (I : Int → S → Prop) {hi : Int} (hs : ∀ i s, i < hi → I i s → ∃ s', f i s = some (.nx s') ∧ I (i + 1) s') : ∀ (n : Nat) (lo : Int) (s : S), (hi - lo).toNat = n → lo ≤ hi → I lo s → ∃ out, loopF f (rangeI lo hi) s = some (.nx out) ∧ I hi out
  | 0, lo, s, e, h, h0 => by
    have : lo = hi := by omega
    subst this
    rw [rangeI_nil (Int.le_refl _)]
    exact ⟨s, rfl, h0⟩
  | n + 1, lo, s, e, h, h0 => by
    rw [rangeI_cons (by omega)]
    obtain ⟨s', h1, h2⟩ := hs lo s (by omega) h0
    obtain ⟨out, h3, h4⟩ := loopF_rng I hs n (lo + 1) s' (by omega) (by omega) h2
    exact ⟨out, by show bnd (f lo s) _ = _; rw [h1]; exact h3, h4⟩
end Bt
namespace Bt
open PySem L2
theorem bits_le {i : Int} {n : Nat} (h : i.natAbs < 2 ^ n) : Builtin.Int.intBits i ≤ n := by
  unfold Builtin.Int.intBits
  split
  · exact Nat.zero_le _
  · rename_i h0
    have h1 : i.natAbs ≠ 0 := by simpa using h0
    have := (Nat.log2_lt h1).mpr h
    omega
theorem shlG_ok {i j : Int} {n : Nat} (h : i.natAbs < 2 ^ n) (h0 : 0 ≤ j) (h1 : (n : Int) + j ≤ 100000000) : shlG i j = some (i * 2 ^ j.toNat) := by
  refine grd_of ⟨h0, ?_⟩
  have := bits_le h
  omega
end Bt
namespace Bt
open PySem L2
theorem whileM_go {S : Type} {c : S → Option Bool} {f : S → Option S} {n : Nat} {s s' : S} (h1 : c s = some true) (h2 : f s = some s') : whileM c f (n + 1) s = whileM c f n s' := by
  show bnd (c s) (fun b => ifB b (bnd (f s) (whileM c f n)) (some s)) = _
  rw [h1, bnd_some, ifB_t, h2, bnd_some]
theorem whileM_stop {S : Type} {c : S → Option Bool} {f : S → Option S} {n : Nat} {s : S} (h1 : c s = some false) : whileM c f (n + 1) s = some s := by
  show bnd (c s) (fun b => ifB b (bnd (f s) (whileM c f n)) (some s)) = _
  rw [h1, bnd_some, ifB_f]
theorem loopM_go {α S : Type} {f : α → S → Option S} {x : α} {r : List α} {s s' : S} (h : f x s = some s') : loopM f (x :: r) s = loopM f r s' := by
  show bnd (f x s) (loopM f r) = _
  rw [h, bnd_some]
theorem loopF_go {α S R : Type} {f : α → S → Option (Fl S R)} {x : α} {r : List α} {s s' : S} (h : f x s = some (.nx s')) : loopF f (x :: r) s = loopF f r s' := by
  show bnd (f x s) (contF (loopF f r)) = _
  rw [h, bnd_some]
  rfl
end Bt
namespace Bt
open PySem L2
theorem compT_ok {α β : Type} {c : α → Option Bool} {f : α → Option β} {p : α → Bool} {g : α → β} : ∀ (xs : List α) (acc : List β), (∀ x ∈ xs, c x = some (p x)) → (∀ x ∈ xs, f x = some (g x)) → acc.length + xs.length ≤ 16777216 → compT c f xs acc = some (acc ++ (xs.filter p).map g)
  | [], acc, _, _, _ => by simp [compT]
  | x :: r, acc, h, k, hz => by
    simp only [List.length_cons] at hz
    show bnd (c x) (fun b => ifB b (bnd (f x) fun y => if acc.length < 16777216 then compT c f r (acc ++ [y]) else none) (compT c f r acc)) = _
    rw [h x (List.Mem.head _), bnd_some]
    cases e : p x with
    | true =>
      rw [ifB_t, k x (List.Mem.head _), bnd_some, if_pos (by omega), compT_ok r (acc ++ [g x]) (fun y hy => h y (List.Mem.tail _ hy)) (fun y hy => k y (List.Mem.tail _ hy)) (by simp; omega)]
      simp [e]
    | false =>
      rw [ifB_f, compT_ok r acc (fun y hy => h y (List.Mem.tail _ hy)) (fun y hy => k y (List.Mem.tail _ hy)) (by omega)]
      simp [e]
end Bt
namespace Bt
theorem bndO_ok {α β : Type} {y : α} {f : α → Option β} : bndO (some (.ok y)) f = f y := rfl
theorem bndR_ok {α β : Type} {y : α} {f : α → Option (Rs β)} : bndR (some (.ok y)) f = f y := rfl
theorem bndR_er {α β : Type} {e : Er} {f : α → Option (Rs β)} : bndR (some (.er e)) f = some (.er e) := rfl
theorem tryR_ok {α β : Type} {y : α} {f : α → β} {g : Er → β} : tryR (.ok y) f g = f y := rfl
theorem tryR_er {α β : Type} {e : Er} {f : α → β} {g : Er → β} : tryR (.er e) f g = g e := rfl
end Bt

set_option Elab.async false
set_option linter.all false
set_option maxRecDepth 100000
set_option maxHeartbeats 4000000
/-! Objects: what a def is handed to change, and gives back. -/
namespace Bt
open PySem L2
section
variable {R R' H H' H0 R0 Hb F : Hp} {L L' A B C : List Cell} {Bs Bs' Cs : List (List Cell)} {a p q : Addr} {o o' : HO} {Q : VK} {v : V} {D : Hp → V → List Cell → Prop} {α : Type}
/-- some of the blocks, by their places -/
theorem flat_mem {i : Nat} {b : List Cell} (h : Bs[i]? = some b) {c : Cell} (hc : c ∈ b) : c ∈ Bs.flatten := List.mem_flatten.mpr ⟨b, List.mem_of_getElem? h, hc⟩
theorem flat_nd : ∀ {Bs : List (List Cell)}, (Bs.flatten.map (·.1)).Nodup → ∀ {i j : Nat} {b b' : List Cell}, Bs[i]? = some b → Bs[j]? = some b' → i ≠ j → ∀ c ∈ b, ∀ d ∈ b', c.1 ≠ d.1
  | [], _, i, j, b, b', h, _, _ => by simp at h
  | x :: r, nd, i, j, b, b', h, h', n => by
    rw [List.flatten_cons, List.map_append] at nd
    obtain ⟨_, n2, n3⟩ := List.nodup_append.mp nd
    intro c hc d hd e
    cases i with
    | zero =>
      cases j with
      | zero => exact n rfl
      | succ j =>
        cases Option.some.inj h
        exact n3 _ (List.mem_map_of_mem (f := (·.1)) hc) _ (List.mem_map_of_mem (f := (·.1)) (flat_mem (by simpa using h') hd)) e
    | succ i =>
      cases j with
      | zero =>
        cases Option.some.inj h'
        exact n3 _ (List.mem_map_of_mem (f := (·.1)) hd) _ (List.mem_map_of_mem (f := (·.1)) (flat_mem (by simpa using h) hc)) e.symm
      | succ j => exact flat_nd n2 (by simpa using h) (by simpa using h') (fun z => n (by rw [z])) c hc d hd e
theorem flat_nd1 : ∀ {Bs : List (List Cell)}, (Bs.flatten.map (·.1)).Nodup → ∀ {i : Nat} {b : List Cell}, Bs[i]? = some b → (b.map (·.1)).Nodup
  | [], _, i, b, h => by simp at h
  | x :: r, nd, i, b, h => by
    rw [List.flatten_cons, List.map_append] at nd
    obtain ⟨n1, n2, _⟩ := List.nodup_append.mp nd
    cases i with
    | zero => cases Option.some.inj h; exact n1
    | succ i => exact flat_nd1 n2 (by simpa using h)
theorem Own.selB (O : Own R H Bs.flatten) (is : List Nat) (hd : is.Nodup) (e : is.map (fun i => Bs[i]?) = Bs'.map some) : Own R H Bs'.flatten := by
  have hm : ∀ c ∈ Bs'.flatten, c ∈ Bs.flatten := fun c hc => by
    obtain ⟨b, hb, hc⟩ := List.mem_flatten.mp hc
    have h1 : some b ∈ is.map (fun i => Bs[i]?) := by rw [e]; exact List.mem_map_of_mem hb
    obtain ⟨i, _, h2⟩ := List.mem_map.mp h1
    exact flat_mem h2 hc
  refine ⟨O.ex, fun c h => O.at_ c (hm c h), fun c h => O.fr c (hm c h), ?_⟩
  clear hm
  induction is generalizing Bs' with
  | nil =>
    cases Bs' with
    | nil => exact List.Pairwise.nil
    | cons c r => simp at e
  | cons i is ih =>
    cases Bs' with
    | nil => simp at e
    | cons b r =>
      simp only [List.map_cons, List.cons.injEq] at e
      obtain ⟨e1, e2⟩ := e
      obtain ⟨n1, n2⟩ := List.nodup_cons.mp hd
      rw [List.flatten_cons, List.map_append]
      refine List.nodup_append.mpr ⟨flat_nd1 O.nd e1, ih n2 e2, fun x hx y hy exy => ?_⟩
      obtain ⟨c, hc, rfl⟩ := List.mem_map.mp hx
      obtain ⟨d, hd', rfl⟩ := List.mem_map.mp hy
      obtain ⟨b', hb', hd'⟩ := List.mem_flatten.mp hd'
      have h1 : some b' ∈ is.map (fun i => Bs[i]?) := by rw [e2]; exact List.mem_map_of_mem hb'
      obtain ⟨j, hj, h2⟩ := List.mem_map.mp h1
      exact flat_nd O.nd e1 h2 (fun z => n1 (by rw [z]; exact hj)) c hc d hd' exy
theorem Own.split (O : Own R H (Bs ++ Cs).flatten) : Own R H (Bs.flatten ++ Cs.flatten) := by
  rw [List.flatten_append] at O
  exact O
/-- blocks to the front, apart -/
theorem Own.cutB (O : Own R H Bs.flatten) (is : List Nat) (hd : is.Nodup) (e : is.map (fun i => Bs[i]?) = (Bs' ++ Cs).map some) : Own R H (Bs'.flatten ++ Cs.flatten) := (O.selB is hd e).split
theorem Own.asc (O : Own R H ((A ++ B) ++ C)) : Own R H (A ++ (B ++ C)) := by
  rw [List.append_assoc] at O
  exact O
/-- H without the cells -/
def hsub (H : Hp) (L : List Cell) : Hp := fun a => if a ∈ L.map (·.1) then none else H a
theorem hsub_nil : hsub H [] = H := rfl
theorem hsub_in {c : Cell} (h : c ∈ L) : hsub H L c.1 = none := by
  unfold hsub
  exact if_pos (List.mem_map_of_mem (f := (·.1)) h)
theorem hsub_ex : Ex (hsub H L) H := fun a u e => by
  unfold hsub at e
  split at e
  · cases e
  · exact e
theorem Own.subR (O : Own R H L) : Ex R (hsub H L) := fun a u e => by
  unfold hsub
  rw [if_neg (fun m => by
    obtain ⟨c, hc, e1⟩ := List.mem_map.mp m
    have := O.fr c hc
    rw [e1, e] at this
    cases this)]
  exact O.ex _ _ e
theorem Own.startX (O : Own R H L) : Own (hsub H L) H L := ⟨hsub_ex, O.at_, fun c h => hsub_in h, O.nd⟩
theorem Own.shrink (O : Own R H L) (e : Ex R' R) : Own R' H L := ⟨e.trans O.ex, O.at_, fun c h => e.back (O.fr c h), O.nd⟩
theorem Own.left (O : Own R H (A ++ B)) : Own R H A := O.sub (List.sublist_append_left A B)
theorem Own.right (O : Own R H (A ++ B)) : Own R H B := O.sub (List.sublist_append_right A B)
/-- what a def that changes things hands back: in what R0 knows or what is new; the cells L are its own to give back -/
def RetX (R0 Hb : Hp) (D : Hp → V → List Cell → Prop) (Q : VK) : Prop := ∀ v H' R' L', Ex Hb R' → Own R' H' L' → D (ovr R0 Hb R') v L' → Q v H'
abbrev DT := Hp → V → List Cell → Prop
def MonoD (D : DT) : Prop := ∀ F F' v L, Ex F F' → D F v L → D F' v L
/-- back from the call: the other cells are still there -/
theorem Own.back (O : Own R H (B ++ C)) (e : Ex (hsub H B) R') (O' : Own R' H' L') : ∃ R'', Own R'' H' (L' ++ C) ∧ Ex R R'' ∧ ∀ F, Ex F R → Ex (ovr F (hsub H B) R') R'' := by
  have nd := O.nd
  rw [List.map_append] at nd
  obtain ⟨ndB, ndC, dis⟩ := List.nodup_append.mp nd
  have hC : ∀ c ∈ C, R' c.1 = some c.2 := fun c hc => e _ _ (by
    unfold hsub
    rw [if_neg (fun m => dis _ m _ (List.mem_map_of_mem (f := (·.1)) hc) rfl)]
    exact O.at_ c (List.mem_append.mpr (.inr hc)))
  have hR : ∀ b u, R b = some u → R' b = some u := fun b u h => e _ _ (O.left.subR b u h)
  refine ⟨hsub R' C, ⟨hsub_ex.trans O'.ex, fun c hc => ?_, fun c hc => ?_, ?_⟩, fun b u h => ?_, fun F hF b u h => ?_⟩
  · rcases List.mem_append.mp hc with hc | hc
    · exact O'.at_ c hc
    · exact O'.ex _ _ (hC c hc)
  · rcases List.mem_append.mp hc with hc | hc
    · exact hsub_ex.back (O'.fr c hc)
    · exact hsub_in hc
  · rw [List.map_append]
    refine List.nodup_append.mpr ⟨O'.nd, ndC, fun x hx y hy exy => ?_⟩
    subst exy
    obtain ⟨c, hc, e1⟩ := List.mem_map.mp hx
    obtain ⟨d, hd, e2⟩ := List.mem_map.mp hy
    have h1 := O'.fr c hc
    have h2 := hC d hd
    rw [e2, ← e1, h1] at h2
    cases h2
  · unfold hsub
    rw [if_neg (fun m => by
      obtain ⟨c, hc, e1⟩ := List.mem_map.mp m
      have := O.fr c (List.mem_append.mpr (.inr hc))
      rw [e1, h] at this
      cases this)]
    exact hR b u h
  · obtain ⟨hq, h1⟩ := ovr_some h
    unfold hsub
    rw [if_neg (fun m => ?_)]
    · exact h1
    · obtain ⟨c, hc, e1⟩ := List.mem_map.mp m
      rcases hq with hq | hq
      · cases hf : F b with
        | none => exact hq hf
        | some w =>
          have := O.fr c (List.mem_append.mpr (.inr hc))
          rw [e1, hF _ _ hf] at this
          cases this
      · have : hsub H B c.1 = some c.2 := by
          unfold hsub
          rw [if_neg (fun m => dis _ m _ (List.mem_map_of_mem (f := (·.1)) hc) rfl)]
          exact O.at_ c (List.mem_append.mpr (.inr hc))
        rw [e1, hq] at this
        cases this
theorem Own.retX (O : Own R H (B ++ C)) (m : MonoD D) (k : ∀ v H' R' L', Own R' H' (L' ++ C) → Ex R R' → D R' v L' → Q v H') : RetX R (hsub H B) D Q := fun v H' R' L' e O' d => by
  obtain ⟨R'', O'', e1, e2⟩ := O.back e O'
  exact k v H' R'' L' O'' e1 (m _ _ _ _ (e2 R (Ex.refl R)) d)
theorem Own.retXO (O : Own R H (B ++ C)) (m : MonoD D) (e0 : Ex H0 R) (k : ∀ v H' R' L', Own R' H' (L' ++ C) → Ex R R' → D (ovr R0 H0 R') v L' → Q v H') : RetX (ovr R0 H0 R) (hsub H B) D Q := fun v H' R' L' e O' d => by
  obtain ⟨R'', O'', e1, e2⟩ := O.back e O'
  refine k v H' R'' L' O'' e1 (m _ _ _ _ (fun b u h => ?_) d)
  have h1 := e2 (ovr R0 H0 R) ovr_ex _ _ h
  obtain ⟨hq, _⟩ := ovr_some h
  refine ovr_mk ?_ h1
  rcases hq with hq | hq
  · cases hz : ovr R0 H0 R b with
    | none => exact absurd hz hq
    | some w => exact (ovr_some hz).1
  · refine .inr ?_
    cases hz : H0 b with
    | none => rfl
    | some w =>
      have h3 := O.left.subR _ _ (e0 _ _ hz)
      rw [hq] at h3
      cases h3
theorem Own.inC {B C : List Cell} {c : Cell} (O : Own R H (B ++ C)) (h : c ∈ C) : hsub H B c.1 = some c.2 := by
  have nd := O.nd
  rw [List.map_append] at nd
  unfold hsub
  rw [if_neg (fun m => (List.nodup_append.mp nd).2.2 _ m _ (List.mem_map_of_mem (f := (·.1)) h) rfl)]
  exact O.at_ c (List.mem_append_right _ h)
/-! what is handed back -/
abbrev Ob (α : Type) := Hp → Addr → List Cell → α → Prop
def MonoO {α : Type} (B : Ob α) : Prop := ∀ F F' a L x, Ex F F' → B F a L x → B F' a L x
def dV (w : V) : DT := fun _ v L => L = [] ∧ v = w
def dLs (xs : List V) : DT := fun _ v L => ∃ p, v = .ref p ∧ L = [(p, .lst xs)]
def dTp (xs : List V) : DT := fun _ v L => ∃ p, v = .ref p ∧ L = [(p, .tup xs)]
def dP {α : Type} (P : Rp α) (x : α) : DT := fun F v L => L = [] ∧ P F v x
def dOb {α : Type} (B : Ob α) (x : α) : DT := fun F v L => ∃ a, v = .ref a ∧ B F a L x
def dX {α : Type} (B : Ob α) (a : Addr) (x : α) (D : DT) : DT := fun F v L => ∃ L1 L2, L = L1 ++ L2 ∧ B F a L1 x ∧ D F v L2
def dI {α : Type} (B : Ob α) (a : Addr) (x : α) : DT := fun F v L => v = .non ∧ B F a L x
theorem mdI {α : Type} {B : Ob α} {a : Addr} {x : α} (m : MonoO B) : MonoD (dI B a x) := fun _ _ _ _ e h => ⟨h.1, m _ _ _ _ _ e h.2⟩
def dK (L : List Cell) (D : DT) : DT := fun F v L' => ∃ L2, L' = L ++ L2 ∧ D F v L2
theorem mdK {L : List Cell} {D : DT} (n : MonoD D) : MonoD (dK L D) := fun _ _ _ _ e ⟨L2, h1, h3⟩ => ⟨L2, h1, n _ _ _ _ e h3⟩
theorem Own.whole {R0 Hs Hb H0 H : Hp} {L X : List Cell} (O0 : Own R0 Hs L) (hb : Hb = hsub Hs L) (eB : Ex Hb H0) (O : Own H0 H (L ++ X)) : Ex Hs H := fun a u h => by
  by_cases c : a ∈ L.map (·.1)
  · obtain ⟨d, hd, e⟩ := List.mem_map.mp c
    have h1 := O0.at_ d hd
    have h2 := O.at_ d (List.mem_append_left _ hd)
    subst e
    rw [h1] at h
    rw [h2, ← h]
  · refine O.ex _ _ (eB _ _ ?_)
    rw [hb]
    unfold hsub
    rw [if_neg c]
    exact h
theorem mdV {w : V} : MonoD (dV w) := fun _ _ _ _ _ h => h
theorem mdLs {xs : List V} : MonoD (dLs xs) := fun _ _ _ _ _ h => h
theorem mdTp {xs : List V} : MonoD (dTp xs) := fun _ _ _ _ _ h => h
theorem mdP {α : Type} {P : Rp α} {x : α} (m : Mono P) : MonoD (dP P x) := fun _ _ _ _ e h => ⟨h.1, m _ _ _ _ e h.2⟩
theorem mdOb {α : Type} {B : Ob α} {x : α} (m : MonoO B) : MonoD (dOb B x) := fun _ _ _ _ e ⟨a, h1, h2⟩ => ⟨a, h1, m _ _ _ _ _ e h2⟩
theorem mdX {α : Type} {B : Ob α} {a : Addr} {x : α} {D : DT} (m : MonoO B) (n : MonoD D) : MonoD (dX B a x D) := fun _ _ _ _ e ⟨L1, L2, h1, h2, h3⟩ => ⟨L1, L2, h1, m _ _ _ _ _ e h2, n _ _ _ _ e h3⟩
/-! a list of such -/
inductive All3 {α β γ : Type} (P : α → β → γ → Prop) : List α → List β → List γ → Prop
  | nil : All3 P [] [] []
  | cons {a : α} {b : β} {c : γ} {as : List α} {bs : List β} {cs : List γ} : P a b c → All3 P as bs cs → All3 P (a :: as) (b :: bs) (c :: cs)
theorem All3.mp {α β γ : Type} {P P' : α → β → γ → Prop} {as : List α} {bs : List β} {cs : List γ} (f : ∀ a b c, P a b c → P' a b c) (h : All3 P as bs cs) : All3 P' as bs cs := by
  induction h with
  | nil => exact .nil
  | cons h _ ih => exact .cons (f _ _ _ h) ih
theorem All3.len {α β γ : Type} {P : α → β → γ → Prop} {as : List α} {bs : List β} {cs : List γ} (h : All3 P as bs cs) : as.length = cs.length := by
  induction h with
  | nil => rfl
  | cons _ _ ih => simp [ih]
/-- the j-th of them, apart -/
theorem All3.at {α γ : Type} {P : α → List Cell → γ → Prop} {as : List α} {bs : List (List Cell)} {cs : List γ} (h : All3 P as bs cs) : ∀ {j : Nat} {c : γ}, cs[j]? = some c → ∃ a b bs1 bs2, as[j]? = some a ∧ P a b c ∧ bs = bs1 ++ b :: bs2 ∧ ∀ (P' : α → List Cell → γ → Prop) (b' : List Cell) (c' : γ), (∀ a b c, P a b c → P' a b c) → P' a b' c' → All3 P' as (bs1 ++ b' :: bs2) (cs.set j c') := by
  induction h with
  | nil => intro j c e; simp at e
  | @cons a b c as bs cs h t ih =>
    intro j d e
    cases j with
    | zero =>
      cases Option.some.inj e
      exact ⟨a, b, [], bs, rfl, h, rfl, fun P' b' c' m k => .cons k (t.mp m)⟩
    | succ j =>
      obtain ⟨a1, b1, bs1, bs2, h1, h2, h3, h4⟩ := ih (by simpa using e)
      exact ⟨a1, b1, b :: bs1, bs2, by simpa using h1, h2, by rw [h3]; rfl, fun P' b' c' m k => .cons (m _ _ _ h) (h4 P' b' c' m k)⟩
def oLs {α : Type} (B : Ob α) : Ob (List α) := fun F a L xs => ∃ as Ls, L.Perm ((a, HO.lst (as.map V.ref)) :: Ls.flatten) ∧ All3 (B F) as Ls xs
theorem moLs {α : Type} {B : Ob α} (m : MonoO B) : MonoO (oLs B) := fun _ _ _ _ _ e ⟨as, Ls, h1, h2⟩ => ⟨as, Ls, h1, h2.mp fun _ _ _ h => m _ _ _ _ _ e h⟩
theorem Own.lsAt {α : Type} {B : Ob α} {F : Hp} {a : Addr} {A L C : List Cell} {xs : List α} {i : Int} {x : α} (m : MonoO B) (O : Own R H (A ++ (L ++ C))) (h : oLs B F a L xs) (e : atI xs i = some x) :
    ∃ (vs : List V) (b : Addr) (L1 L2 : List Cell), H a = some (.lst vs) ∧ atI vs i = some (.ref b) ∧ vs.length = xs.length ∧ B F b L1 x ∧ (L1 ++ L2).Perm L ∧ Own R H (A ++ (L1 ++ (L2 ++ C))) ∧ (∀ F' L1' x', Ex F F' → B F' b L1' x' → ∀ ys, setG xs i x' = some ys → oLs B F' a (L1' ++ L2) ys) ∧ ∀ F' L1', Ex F F' → B F' b L1' x → oLs B F' a (L1' ++ L2) xs := by
  obtain ⟨as, Ls, hp, h3⟩ := h
  unfold atI at e
  cases ej : ixN xs.length i with
  | none => rw [ej] at e; cases e
  | some j =>
    rw [ej] at e
    obtain ⟨b, L1, bs1, bs2, h4, h5, h6, h7⟩ := h3.at e
    subst h6
    have hp2 : L.Perm (L1 ++ ((a, HO.lst (as.map V.ref)) :: (bs1.flatten ++ bs2.flatten))) := by
      refine hp.trans ?_
      rw [List.flatten_append, List.flatten_cons]
      refine List.Perm.trans ?_ (List.perm_middle.symm)
      refine List.Perm.cons _ ?_
      rw [← List.append_assoc, ← List.append_assoc]
      exact List.Perm.append_right _ List.perm_append_comm
    have cl : ∀ F' L1' x', Ex F F' → B F' b L1' x' → oLs B F' a (L1' ++ ((a, HO.lst (as.map V.ref)) :: (bs1.flatten ++ bs2.flatten))) (xs.set j x') := fun F' L1' x' ex hb => by
      refine ⟨as, bs1 ++ L1' :: bs2, ?_, h7 _ L1' x' (fun _ _ _ h => m _ _ _ _ _ ex h) hb⟩
      rw [List.flatten_append, List.flatten_cons]
      refine List.perm_middle.trans ?_
      refine List.Perm.cons _ ?_
      rw [← List.append_assoc, ← List.append_assoc]
      exact List.Perm.append_right _ List.perm_append_comm
    refine ⟨as.map V.ref, b, L1, (a, HO.lst (as.map V.ref)) :: (bs1.flatten ++ bs2.flatten), O.mem (List.mem_append_right _ (List.mem_append_left _ (hp.mem_iff.mpr (List.Mem.head _)))), ?_, by rw [List.length_map, h3.len], h5, hp2.symm, O.perm ?_, fun F' L1' x' ex hb ys hy => ?_, fun F' L1' ex hb => ?_⟩
    · unfold atI
      rw [List.length_map, h3.len, ej]
      show (as.map V.ref)[j]? = _
      rw [List.getElem?_map, h4]
      rfl
    · refine List.Perm.append_left _ ?_
      rw [← List.append_assoc]
      exact List.Perm.append_right _ hp2
    · unfold setG at hy
      rw [ej] at hy
      cases hy
      exact cl F' L1' x' ex hb
    · have := cl F' L1' x ex hb
      have e2 : xs.set j x = xs := by
        obtain ⟨h8, h9⟩ := List.getElem?_eq_some_iff.mp (show xs[j]? = some x from e)
        rw [← h9]
        exact List.set_getElem_self h8
      rw [e2] at this
      exact this
end
/-! tests with two sides, over any state -/
section
variable {J : Hp → Prop} {Q : VK} {σ : St} {H : Hp} {v x y : V}
theorem x_andJ {c d e : Bool} {tt uu : TT} {QB : Bool → Hp → Prop} (J : Hp → Prop) (h1 : ∀ Q1 : Bool → Hp → Prop, (∀ H', J H' → Q1 c H') → tt σ H Q1) (h2 : c = true → e = d ∧ ∀ H', J H' → ∀ Q2 : Bool → Hp → Prop, (∀ H'', J H'' → Q2 e H'') → uu σ H' Q2)
    (h3 : c = false → false = d) (k : ∀ H', J H' → QB d H') : tAnd tt uu σ H QB := by
  refine h1 _ fun H' O' => ?_
  cases c with
  | true =>
    obtain ⟨e1, g2⟩ := h2 rfl
    subst e1
    exact g2 H' O' QB k
  | false =>
    rw [← h3 rfl] at k
    exact k H' O'
theorem x_orJ {c d e : Bool} {tt uu : TT} {QB : Bool → Hp → Prop} (J : Hp → Prop) (h1 : ∀ Q1 : Bool → Hp → Prop, (∀ H', J H' → Q1 c H') → tt σ H Q1) (h2 : c = false → e = d ∧ ∀ H', J H' → ∀ Q2 : Bool → Hp → Prop, (∀ H'', J H'' → Q2 e H'') → uu σ H' Q2)
    (h3 : c = true → true = d) (k : ∀ H', J H' → QB d H') : tOr tt uu σ H QB := by
  refine h1 _ fun H' O' => ?_
  cases c with
  | false =>
    obtain ⟨e1, g2⟩ := h2 rfl
    subst e1
    exact g2 H' O' QB k
  | true =>
    rw [← h3 rfl] at k
    exact k H' O'
theorem x_andVJ {c d e : Bool} {tt uu : TE} (J : Hp → Prop) (h1 : ∀ Q1 : VK, (∀ H', J H' → Q1 (.bl c) H') → tt σ H Q1) (h2 : c = true → e = d ∧ ∀ H', J H' → ∀ Q2 : VK, (∀ H'', J H'' → Q2 (.bl e) H'') → uu σ H' Q2)
    (h3 : c = false → false = d) (k : ∀ H', J H' → Q (.bl d) H') : tAndV tt uu σ H Q := by
  refine h1 _ fun H' O' => ⟨_, rfl, ?_⟩
  cases c with
  | true =>
    obtain ⟨e1, g2⟩ := h2 rfl
    subst e1
    exact g2 H' O' Q k
  | false =>
    rw [← h3 rfl] at k
    exact k H' O'
theorem x_orVJ {c d e : Bool} {tt uu : TE} (J : Hp → Prop) (h1 : ∀ Q1 : VK, (∀ H', J H' → Q1 (.bl c) H') → tt σ H Q1) (h2 : c = false → e = d ∧ ∀ H', J H' → ∀ Q2 : VK, (∀ H'', J H'' → Q2 (.bl e) H'') → uu σ H' Q2)
    (h3 : c = true → true = d) (k : ∀ H', J H' → Q (.bl d) H') : tOrV tt uu σ H Q := by
  refine h1 _ fun H' O' => ⟨_, rfl, ?_⟩
  cases c with
  | false =>
    obtain ⟨e1, g2⟩ := h2 rfl
    subst e1
    exact g2 H' O' Q k
  | true =>
    rw [← h3 rfl] at k
    exact k H' O'
theorem x_ifJ {c : Bool} {tt : TT} {ta tb : TE} (J : Hp → Prop) (h1 : ∀ Q1 : Bool → Hp → Prop, (∀ H', J H' → Q1 c H') → tt σ H Q1) (h2 : c = true → x = v ∧ ∀ H', J H' → ∀ Q2 : VK, (∀ H'', J H'' → Q2 x H'') → ta σ H' Q2)
    (h3 : c = false → y = v ∧ ∀ H', J H' → ∀ Q2 : VK, (∀ H'', J H'' → Q2 y H'') → tb σ H' Q2) (k : ∀ H', J H' → Q v H') : tIf tt ta tb σ H Q := by
  refine h1 _ fun H' O' => ?_
  cases c with
  | true =>
    obtain ⟨e1, g2⟩ := h2 rfl
    subst e1
    exact g2 H' O' Q k
  | false =>
    obtain ⟨e1, g3⟩ := h3 rfl
    subst e1
    exact g3 H' O' Q k
end
theorem Own.unls {R H : Hp} {A L1 L2 L C : List Cell} (O : Own R H (A ++ (L1 ++ (L2 ++ C)))) (h : (L1 ++ L2).Perm L) : Own R H (A ++ (L ++ C)) := by
  refine O.perm (List.Perm.append_left _ ?_)
  rw [← List.append_assoc]
  exact List.Perm.append_right _ h
/-! fields -/
section
variable {K : PySem.W.Frag} {σ : St} {H R : Hp} {L : List Cell} {Q : VK} {a dx C : Addr} {fs : List (Str × V)} {v : V} {f : Str} {te tv : TE}
theorem o_fld (h : te σ H fun x H1 => ∃ a C dx fs v, x = .ref a ∧ H1 a = some (.ins C dx fs) ∧ Cls K C ∧ NoAttr K C f ∧ fs.lookup f = some v ∧ Q v H1) : tFld K te f σ H Q := h
def rSFld (K : PySem.W.Frag) (f : Str) (y x : V) (H : Hp) (QH : Hp → Prop) : Prop := ∃ a C dx fs, x = .ref a ∧ H a = some (.ins C dx fs) ∧ Cls K C ∧ NoAttr K C f ∧ fs.length < 1000 ∧ QH (upd H a (.ins C dx (putF f y fs)))
theorem o_sfld {n b k : St → Hp → Prop} {w : VK} (h : tv σ H fun y H1 => te σ H1 fun x H2 => rSFld K f y x H2 (n σ)) : sFld K te tv f (Ends.mk n w b k) σ H := h
theorem o_meth {m : Str} {sp : Sp} {dvs : List V} {E : XK} {t : TA} (h : te σ H fun x H1 => ∃ a dx fs, x = .ref a ∧ H1 a = some (.ins C dx fs) ∧ fs.lookup m = none ∧ t σ H1 fun vs H2 => sp (x :: (vs ++ dvs)) H2 Q E) : tMeth C m sp dvs E te t σ H Q := h
theorem o_make {sp : Sp} {dvs : List V} {E : XK} {t : TA} (h : t σ H fun vs H1 => ∀ x dx, H1 x = none → H1 dx = none → dx ≠ x → sp (.ref x :: (vs ++ dvs)) (upd (upd H1 dx (.own x)) x (.ins C dx [])) (fun v H2 => v = .non ∧ Q (.ref x) H2) E) : tMake C sp dvs E t σ H Q := h
theorem Own.mk2 (O : Own R H L) {x : Addr} (h1 : H x = none) (h2 : H dx = none) (h3 : dx ≠ x) : Own R (upd (upd H dx (.own x)) x (.ins C dx fs)) ((x, .ins C dx fs) :: (dx, .own x) :: L) :=
  Own.new (O.new h2) (by rw [upd_ne (Ne.symm h3)]; exact h1)
theorem k_make {sp : Sp} {vs : List V} {E : XK} {Q2 : Addr → Hp → Prop} (O : Own R H L) (k : ∀ x dx H', Own R H' ((x, .ins C dx []) :: (dx, .own x) :: L) → sp (.ref x :: vs) H' (fun v H2 => v = .non ∧ Q2 x H2) E) : ∀ x dx, H x = none → H dx = none → dx ≠ x → sp (.ref x :: vs) (upd (upd H dx (.own x)) x (.ins C dx [])) (fun v H2 => v = .non ∧ Q2 x H2) E := fun x dx h1 h2 h3 => k x dx _ (O.mk2 h1 h2 h3)
theorem putF_nil : putF f v [] = [(f, v)] := rfl
theorem putF_hit {x : V} {r : List (Str × V)} : putF f v ((f, x) :: r) = (f, v) :: r := by simp [putF]
theorem putF_skip {g : Str} {x : V} {r r' : List (Str × V)} (h : (g == f) = false) (e : putF f v r = r') : putF f v ((g, x) :: r) = (g, x) :: r' := by
  have : g ≠ f := by simpa using h
  simp [putF, this, e]
theorem lk_hit {r : List (Str × V)} : List.lookup f ((f, v) :: r) = some v := by simp [List.lookup]
theorem lk_skip {g : Str} {x : V} {r : List (Str × V)} {o : Option V} (h : (f == g) = false) (e : List.lookup f r = o) : List.lookup f ((g, x) :: r) = o := by simp [List.lookup, h, e]
theorem lk_nil : List.lookup f ([] : List (Str × V)) = none := rfl
theorem k_sfld {v' : V} {fs' : List (Str × V)} {QH : Hp → Prop} {g : HO → List Cell} (hl : H a = some (.ins C dx fs)) (c : Cls K C) (n : NoAttr K C f) (hz : fs.length < 1000) (ev : v = v') (e : putF f v' fs = fs') (hp : ∀ o', Own R (upd H a o') (g o')) (k : ∀ H', Own R H' (g (.ins C dx fs')) → QH H') :
    rSFld K f v (.ref a) H QH := by
  subst ev
  refine ⟨a, C, dx, fs, rfl, hl, c, n, hz, ?_⟩
  rw [e]
  exact k _ (hp _)
theorem Own.cv {L' : List Cell} (O : Own R H L) (e : L = L') : Own R H L' := e ▸ O
theorem Own.putB {A B : List Cell} {o o' : HO} (O : Own R H L) (e : L = A ++ (a, o) :: B) : Own R (upd H a o') (A ++ (a, o') :: B) := by
  subst e
  exact Own.put O
theorem cls_at {K : PySem.W.Frag} {C : Addr} (h1 : PySem.W.plainGet K C Str.empty = true) (h2 : PySem.W.hasDictIn K C = true) (h3 : PySem.W.plainOver K C = true) (h4 : PySem.W.findIn K (.ref C) "__setattr__" = some (some (.builtin "object.__setattr__"))) : Cls K C := ⟨h1, h2, h3, h4⟩
end
end Bt

set_option Elab.async false
set_option linter.all false
set_option maxRecDepth 100000
set_option maxHeartbeats 4000000
/-! Data of any form: lists and tuples of such, None, one of two kinds. -/
namespace Bt
open PySem L2
section
variable {α β γ δ : Type} {P : Rp α} {P' : Rp β} {P3 : Rp γ} {P4 : Rp δ} {F H R : Hp} {L : List Cell} {v w : V} {a p : Addr} {K : PySem.W.Frag} {Q : VK} {i : Int}
def rN : Rp Unit := fun _ v _ => v = .non
def rU (P : Rp α) (P' : Rp β) : Rp (α ⊕ β) := fun F v x => match x with
  | .inl a => P F v a
  | .inr b => P' F v b
theorem mN : Mono rN := fun _ _ _ _ _ h => h
theorem mU (m : Mono P) (n : Mono P') : Mono (rU P P') := fun F F' v x e h => by
  cases x with
  | inl a => exact m _ _ _ _ e h
  | inr b => exact n _ _ _ _ e h
theorem rO_some {x : Option α} {y : α} (h : rO P F v x) (e : x = some y) : P F v y := by subst e; exact h
theorem rO_mk {y : α} (h : P F v y) : rO P F v (some y) := h
def prL : α ⊕ β → Option α
  | .inl a => some a
  | .inr _ => none
def prR : α ⊕ β → Option β
  | .inl _ => none
  | .inr b => some b
theorem rU_l {x : α ⊕ β} {y : α} (h : rU P P' F v x) (e : prL x = some y) : P F v y := by
  cases x with
  | inl a => cases e; exact h
  | inr b => cases e
theorem rU_r {x : α ⊕ β} {y : β} (h : rU P P' F v x) (e : prR x = some y) : P' F v y := by
  cases x with
  | inl a => cases e
  | inr b => cases e; exact h
theorem rL_ref {x : List α} (h : rL P F v x) : ∃ p, v = .ref p := by obtain ⟨p, _, e, _⟩ := h; exact ⟨p, e⟩
theorem rT2_ref {x : α × β} (h : rT2 P P' F v x) : ∃ p, v = .ref p := by obtain ⟨p, _, _, e, _⟩ := h; exact ⟨p, e⟩
theorem rT3_ref {x : α × β × γ} (h : rT3 P P' P3 F v x) : ∃ p, v = .ref p := by obtain ⟨p, _, _, _, e, _⟩ := h; exact ⟨p, e⟩
theorem rT4_ref {x : α × β × γ × δ} (h : rT4 P P' P3 P4 F v x) : ∃ p, v = .ref p := by obtain ⟨p, _, _, _, _, e, _⟩ := h; exact ⟨p, e⟩
theorem rL_at {x : List α} (h : rL P F (.ref p) x) : ∃ vs, F p = some (.lst vs) ∧ All2 (P F) vs x := by
  obtain ⟨q, vs, e, h1, h2⟩ := h
  cases e
  exact ⟨vs, h1, h2⟩
theorem rT2_at {x : α × β} (h : rT2 P P' F (.ref p) x) : ∃ a b, F p = some (.tup [a, b]) ∧ P F a x.1 ∧ P' F b x.2 := by
  obtain ⟨q, a, b, e, h1, h2⟩ := h
  cases e
  exact ⟨a, b, h1, h2⟩
theorem rT3_at {x : α × β × γ} (h : rT3 P P' P3 F (.ref p) x) : ∃ a b c, F p = some (.tup [a, b, c]) ∧ P F a x.1 ∧ P' F b x.2.1 ∧ P3 F c x.2.2 := by
  obtain ⟨q, a, b, c, e, h1, h2⟩ := h
  cases e
  exact ⟨a, b, c, h1, h2⟩
theorem rT4_at {x : α × β × γ × δ} (h : rT4 P P' P3 P4 F (.ref p) x) : ∃ a b c d, F p = some (.tup [a, b, c, d]) ∧ P F a x.1 ∧ P' F b x.2.1 ∧ P3 F c x.2.2.1 ∧ P4 F d x.2.2.2 := by
  obtain ⟨q, a, b, c, d, e, h1, h2⟩ := h
  cases e
  exact ⟨a, b, c, d, h1, h2⟩
theorem fIr {F : Hp} {p : Addr} {xs : List Int} (h : rL rI F (.ref p) xs) : F p = some (.lst (xs.map V.int)) := by
  obtain ⟨q, e, h⟩ := fI h
  cases e
  exact h
theorem fBr {F : Hp} {p : Addr} {xs : List Bool} (h : rL rB F (.ref p) xs) : F p = some (.lst (xs.map V.bl)) := by
  obtain ⟨q, e, h⟩ := fB h
  cases e
  exact h
theorem fSr {F : Hp} {p : Addr} {xs : List Str} (h : rL rS F (.ref p) xs) : F p = some (.lst (xs.map V.str)) := by
  obtain ⟨q, e, h⟩ := fS h
  cases e
  exact h
/-! never None -/
def NN (P : Rp α) : Prop := ∀ F v x, P F v x → v ≠ .non
theorem nnI : NN rI := fun _ _ _ h => by rw [show _ = _ from h]; simp
theorem nnB : NN rB := fun _ _ _ h => by rw [show _ = _ from h]; simp
theorem nnS : NN rS := fun _ _ _ h => by rw [show _ = _ from h]; simp
theorem nnL : NN (rL P) := fun _ _ _ h => by obtain ⟨p, rfl⟩ := rL_ref h; simp
theorem nnT2 : NN (rT2 P P') := fun _ _ _ h => by obtain ⟨p, rfl⟩ := rT2_ref h; simp
theorem nnT3 : NN (rT3 P P' P3) := fun _ _ _ h => by obtain ⟨p, rfl⟩ := rT3_ref h; simp
theorem nnT4 : NN (rT4 P P' P3 P4) := fun _ _ _ h => by obtain ⟨p, rfl⟩ := rT4_ref h; simp
theorem nnU (m : NN P) (n : NN P') : NN (rU P P') := fun _ _ x h => by
  cases x with
  | inl a => exact m _ _ _ h
  | inr b => exact n _ _ _ h
theorem dec_non {x : Option α} (n : NN P) (h : rO P F v x) : decide (v = V.non) = x.isNone := by
  cases x with
  | none => rw [show v = _ from h]; rfl
  | some y => rw [decide_eq_false (n _ _ _ h)]; rfl
def rIsN : R2 := fun x y H Q => y = .non ∧ Q (.bl (decide (x = .non))) H
def rNotN : R2 := fun x y H Q => y = .non ∧ Q (.bl (!decide (x = .non))) H
theorem op_isNq {X : Cx} : OpR X (compareOp .Is) rIsN := op_isN
theorem op_notNq {X : Cx} : OpR X (compareOp .IsNot) rNotN := op_notN
theorem k_isN {x : Option α} (n : NN P) (h : rO P F v x) (q : Q (.bl x.isNone) H) : rIsN v .non H Q := ⟨rfl, by rw [dec_non n h]; exact q⟩
theorem k_notN {x : Option α} (n : NN P) (h : rO P F v x) (q : Q (.bl (!x.isNone)) H) : rNotN v .non H Q := ⟨rfl, by rw [dec_non n h]; exact q⟩
end
theorem k_isT {H : Hp} {Q : VK} (q : Q (.bl true) H) : rIsN .non .non H Q := ⟨rfl, by rw [decide_eq_true rfl]; exact q⟩
theorem k_isTn {H : Hp} {Q : VK} (q : Q (.bl (!true)) H) : rNotN .non .non H Q := ⟨rfl, by rw [decide_eq_true rfl]; exact q⟩
theorem k_isF {v : V} {H : Hp} {Q : VK} (q : Q (.bl false) H) (h : v ≠ .non := by simp) : rIsN v .non H Q := ⟨rfl, by rw [decide_eq_false h]; exact q⟩
theorem k_isFn {v : V} {H : Hp} {Q : VK} (q : Q (.bl (!false)) H) (h : v ≠ .non := by simp) : rNotN v .non H Q := ⟨rfl, by rw [decide_eq_false h]; exact q⟩
theorem room65 {k : Nat} {A : Around} (r : Room k A) : A.units + 65 < cLine := by have := r.un; omega
/-! lists of such, one's own or not -/
section
variable {α : Type} {P : V → α → Prop} {F H R : Hp} {L : List Cell} {v w : V} {a b p : Addr} {K : PySem.W.Frag} {Q : VK} {i : Int} {vs ws : List V} {xs ys zs : List α} {y : α} {σ : St}
theorem n_lenA (hs : SqL K H a vs) (ha : All2 P vs xs) (k : Q (.int (xs.length : Int)) H) : rLenQ K [.ref a] H Q := by
  unfold rLenQ
  exact ⟨a, vs, rfl, .inl hs, by rw [ha.len]; exact k⟩
theorem k_ixA (hs : SqL K H a vs) (ha : All2 P vs xs) (h : atI xs i = some y) (k : ∀ v, P v y → Q v H) : rIxL K (.ref a) (.int i) H Q := by
  obtain ⟨v, e1, hv⟩ := ha.at h
  exact ⟨a, vs, i, v, rfl, rfl, hs, e1, k v hv⟩
theorem k_appA {g : HO → List Cell} (hl : H a = some (.lst vs)) (ha : All2 P vs xs) (hp : ∀ o', Own R (upd H a o') (g o')) (h : appG xs y = some ys) (hv : P v y) (k : ∀ H', Own R H' (g (.lst (vs ++ [v]))) → All2 P (vs ++ [v]) ys → Q .non H') : rAppend (.ref a) [v] H Q := by
  obtain ⟨c, rfl⟩ := grdE h
  exact ⟨a, _, _, rfl, rfl, hl, by rw [ha.len]; exact c, k _ (hp _) (ha.snoc hv)⟩
theorem k_setA {g : HO → List Cell} {QH : Hp → Prop} (hl : H a = some (.lst vs)) (ha : All2 P vs xs) (hp : ∀ o', Own R (upd H a o') (g o')) (h : setG xs i y = some ys) (hv : P v y) (k : ∀ H' ws, Own R H' (g (.lst ws)) → All2 P ws ys → QH H') : rSetL (.ref a) (.int i) v H QH := by
  unfold setG at h
  cases e : ixN xs.length i with
  | none => rw [e] at h; cases h
  | some j =>
    rw [e] at h
    cases h
    exact ⟨a, _, i, j, rfl, rfl, hl, by rw [ha.len]; exact e, k _ _ (hp _) (ha.set hv j)⟩
theorem All2.cut (ha : All2 P vs xs) (lo hi : Option Int) : All2 P (cutV vs lo hi) (cutL xs lo hi) := by
  unfold cutV cutL
  rw [ha.len]
  exact (ha.drop _).take _
theorem k_cutA {lo hi : Option Int} (O : Own R H L) (hs : SqL K H a vs) (ha : All2 P vs xs) (k : ∀ p H' ws, Own R H' ((p, .lst ws) :: L) → All2 P ws (cutL xs lo hi) → Q (.ref p) H') : rSlL K (.ref a) lo hi H Q :=
  ⟨a, vs, rfl, hs, fun p hp => k p _ _ (O.new hp) (ha.cut lo hi)⟩
theorem k_catA (O : Own R H L) (h1 : H a = some (.lst vs)) (ha : All2 P vs xs) (h2 : H b = some (.lst ws)) (hb : All2 P ws ys) (h : catG xs ys = some zs) (k : ∀ p H' us, Own R H' ((p, .lst us) :: L) → All2 P us zs → Q (.ref p) H') : rCat (.ref a) (.ref b) H Q := by
  obtain ⟨c, rfl⟩ := grdE h
  exact ⟨a, b, _, _, rfl, rfl, h1, h2, by rw [ha.len, hb.len]; exact c, fun p hp => k p _ _ (O.new hp) (ha.app hb)⟩
theorem n_listA (O : Own R H L) (h : SqL K H a vs) (k : ∀ p H', Own R H' ((p, .lst vs) :: L) → Q (.ref p) H') : rListQ K [.ref a] H Q := n_list O h k
theorem k_forA {g : TG} {tb : TS} {D : Ends} (ha : All2 P vs xs) (J : List α → St → Hp → Prop) (h0 : J xs σ H) (hl : ∀ r σ H, J r σ H → SqL K H a vs)
    (hs : ∀ x v r σ H, P v x → J (x :: r) σ H → g v σ H fun σ2 H2 => tb { D with nx := J r, ct := J r, bk := D.nx } σ2 H2) (hd : ∀ σ H, J [] σ H → D.nx σ H) :
    ∃ W : Nat → Nat → St → Hp → Prop, (∃ m, W 0 m σ H) ∧ ∀ i m σ H, W i m σ H →
      ((Itl K a).stop i H ∧ D.nx σ H) ∨ ((Itl K a).go i H ∧ ∃ N : St → Hp → Prop, (∀ σ' H', N σ' H' → ∃ m', m' < m ∧ W (i + 1) m' σ' H') ∧ ∀ x H', (Itl K a).yld i H x H' → g x σ H' fun σ2 H2 => tb { D with nx := N, ct := N, bk := D.nx } σ2 H2) := by
  refine for_list (xs := vs) (fun i σ H => J (xs.drop i) σ H) h0 (fun i σ H _ => hl _ σ H) (fun i v σ H hi hJ => ?_) fun σ H hJ => ?_
  · have hlt : i < xs.length := by
      rw [← ha.len]
      exact (List.getElem?_eq_some_iff.mp hi).1
    obtain ⟨v', e1, e2⟩ := ha.get (List.getElem?_eq_getElem hlt)
    rw [hi] at e1
    cases e1
    rw [List.drop_eq_getElem_cons hlt] at hJ
    exact hs _ v _ σ H e2 hJ
  · rw [ha.len, List.drop_length] at hJ
    exact hd σ H hJ
theorem q_forA {j : Nat} {ts : TS} {n b k : St → Hp → Prop} {w : VK} (ha : All2 P vs xs) (J : List α → St → Hp → Prop) (h0 : J xs σ H) (hl : ∀ r σ H, J r σ H → SqL K H a vs)
    (hs : ∀ x v r σ H, P v x → J (x :: r) σ H → ts (Ends.mk (J r) w n (J r)) (σ.set j (some v)) H) (hd : ∀ σ H, J [] σ H → n σ H) :
    ∃ W : Nat → Nat → St → Hp → Prop, (∃ m, W 0 m σ H) ∧ ∀ i m σ H, W i m σ H →
      ((Itl K a).stop i H ∧ n σ H) ∨ ((Itl K a).go i H ∧ ∃ N : St → Hp → Prop, (∀ σ' H', N σ' H' → ∃ m', m' < m ∧ W (i + 1) m' σ' H') ∧ ∀ x H', (Itl K a).yld i H x H' → gName j x σ H' fun σ2 H2 => ts (Ends.mk N w n N) σ2 H2) :=
  k_forA (D := Ends.mk n w (fun _ _ => False) fun _ _ => False) (g := gName j) (tb := ts) ha J h0 hl hs hd
/-- for a, b in xs, its items pairs -/
theorem q_forA2 {α β : Type} {P : Rp α} {P' : Rp β} {F : Hp} {xs : List (α × β)} {i1 i2 : Nat} {ts : TS} {n b k : St → Hp → Prop} {w : VK} {KK : PySem.W.Frag} (ha : All2 (rT2 P P' F) vs xs) (J : List (α × β) → St → Hp → Prop) (h0 : J xs σ H) (hl : ∀ r σ H, J r σ H → SqL K H a vs) (hx : ∀ r σ H, J r σ H → Ex F H)
    (hs : ∀ x y u v r σ H, P F u x → P' F v y → J ((x, y) :: r) σ H → ts (Ends.mk (J r) w n (J r)) ((σ.set i1 (some u)).set i2 (some v)) H) (hd : ∀ σ H, J [] σ H → n σ H) :
    ∃ W : Nat → Nat → St → Hp → Prop, (∃ m, W 0 m σ H) ∧ ∀ i m σ H, W i m σ H →
      ((Itl K a).stop i H ∧ n σ H) ∨ ((Itl K a).go i H ∧ ∃ N : St → Hp → Prop, (∀ σ' H', N σ' H' → ∃ m', m' < m ∧ W (i + 1) m' σ' H') ∧ ∀ x H', (Itl K a).yld i H x H' → gTup KK 2 (gCons (gName i1) (gCons (gName i2) gNil)) x σ H' fun σ2 H2 => ts (Ends.mk N w n N) σ2 H2) :=
  k_forA (D := Ends.mk n w (fun _ _ => False) fun _ _ => False) (g := gTup KK 2 (gCons (gName i1) (gCons (gName i2) gNil))) (tb := ts) ha J h0 hl (fun x v r σ H hv hJ => by
    obtain ⟨q, u1, u2, rfl, h1, h2, h3⟩ := hv
    exact ⟨q, _, rfl, SqT.of (hx _ _ _ hJ _ _ h1), rfl, u1, _, rfl, u2, _, rfl, rfl, hs x.1 x.2 u1 u2 r σ H h2 h3 hJ⟩) hd
theorem q_forEA {i1 i2 : Nat} {ts : TS} {n b k : St → Hp → Prop} {w : VK} {KK : PySem.W.Frag} (ha : All2 P vs xs) (J : List (Int × α) → St → Hp → Prop) (h0 : J (enumI 0 xs) σ H) (hl : ∀ r σ H, J r σ H → SqL K H a vs) (hx : ∀ r σ H H', J r σ H → Ex H H' → J r σ H')
    (hs : ∀ j x v r σ H, P v x → J ((j, x) :: r) σ H → ts (Ends.mk (J r) w n (J r)) ((σ.set i1 (some (.int j))).set i2 (some v)) H) (hd : ∀ σ H, J [] σ H → n σ H) :
    ∃ W : Nat → Nat → St → Hp → Prop, (∃ m, W 0 m σ H) ∧ ∀ i m σ H, W i m σ H →
      ((Ite K a).stop i H ∧ n σ H) ∨ ((Ite K a).go i H ∧ ∃ N : St → Hp → Prop, (∀ σ' H', N σ' H' → ∃ m', m' < m ∧ W (i + 1) m' σ' H') ∧ ∀ x H', (Ite K a).yld i H x H' → gTup KK 2 (gCons (gName i1) (gCons (gName i2) gNil)) x σ H' fun σ2 H2 => ts (Ends.mk N w n N) σ2 H2) := by
  refine ⟨fun i m σ H => m = xs.length - i ∧ i ≤ xs.length ∧ J ((enumI 0 xs).drop i) σ H, ⟨xs.length, by simp, Nat.zero_le _, h0⟩, ?_⟩
  rintro i m σ H ⟨rfl, hi, hJ⟩
  have hS := hl _ σ H hJ
  by_cases hlt : i < xs.length
  · have e : xs[i]? = some xs[i] := List.getElem?_eq_getElem hlt
    obtain ⟨v', e1, hv⟩ := ha.get e
    have e2 := enumI_drop xs 0 i xs[i] e
    rw [e2] at hJ
    refine .inr ⟨⟨_, _, hS, e1⟩, J ((enumI 0 xs).drop (i + 1)), fun σ' H' hJ' => ⟨_, by omega, rfl, hlt, hJ'⟩, fun y H' hy => ?_⟩
    obtain ⟨T, x, rfl, hT, rfl, hq⟩ := hy
    have hxx := hq _ hS
    rw [e1] at hxx
    cases hxx
    refine ⟨T, _, rfl, SqT.of upd_same, rfl, _, _, rfl, _, _, rfl, rfl, ?_⟩
    have hJ2 := hx _ _ _ (upd H T (.tup [.int ((i : Nat) : Int), v'])) hJ (Ex.new hT)
    have e3 : ((0 + i : Nat) : Int) = (i : Int) := by omega
    rw [e3] at hJ2
    exact hs _ _ _ _ _ _ hv hJ2
  · have e : (enumI 0 xs).drop i = [] := List.drop_eq_nil_of_le (by rw [enumI_len]; omega)
    rw [e] at hJ
    exact .inl ⟨⟨_, hS, by rw [ha.len]; omega⟩, hd σ H hJ⟩
/-! comprehensions over such -/
theorem k_lcA {g : TG} {tt : TT} {te : TE} {us : List Nat} {D : Addr} {Qd : Hp → Prop} (ha : All2 P vs xs) (J : List α → Hp → Prop) (h0 : J xs (upd H D (.lst []))) (hl : ∀ r H, J r H → SqL K H a vs)
    (hs : ∀ x v r H, P v x → J (x :: r) H → g v (wipe σ us) H fun σ2 H2 => wipe σ2 us = wipe σ us ∧ tt σ2 H2 fun b H3 => if b = true then te σ2 H3 fun y H4 => ∃ acc, H4 D = some (.lst acc) ∧ acc.length < sizeLine ∧ J r (upd H4 D (.lst (acc ++ [y]))) else J r H3) (hd : ∀ H, J [] H → Qd H) :
    ∃ W : Nat → Nat → Hp → Prop, (∃ m, W 0 m (upd H D (.lst []))) ∧ ∀ i m H, W i m H →
      ((Itl K a).stop i H ∧ Qd H) ∨ ((Itl K a).go i H ∧ ∃ Nx : Hp → Prop, (∀ H', Nx H' → ∃ m', m' < m ∧ W (i + 1) m' H') ∧ ∀ x H', (Itl K a).yld i H x H' → g x (wipe σ us) H' fun σ2 H2 => wipe σ2 us = wipe σ us ∧ tt σ2 H2 fun b H3 =>
        if b = true then te σ2 H3 fun y H4 => ∃ acc, H4 D = some (.lst acc) ∧ acc.length < sizeLine ∧ Nx (upd H4 D (.lst (acc ++ [y]))) else Nx H3) := by
  refine lc_list (xs := vs) (fun i H => J (xs.drop i) H) h0 (fun i H _ => hl _ H) (fun i v H hi hJ => ?_) fun H hJ => ?_
  · have hlt : i < xs.length := by
      rw [← ha.len]
      exact (List.getElem?_eq_some_iff.mp hi).1
    obtain ⟨v', e1, e2⟩ := ha.get (List.getElem?_eq_getElem hlt)
    rw [hi] at e1
    cases e1
    rw [List.drop_eq_getElem_cons hlt] at hJ
    exact hs _ v _ H e2 hJ
  · rw [ha.len, List.drop_length] at hJ
    exact hd H hJ
end
section
variable {α β : Type} [DecidableEq α] [DecidableEq β]
def optD (d : α → PyData) : Option α → PyData
  | none => .none
  | some x => d x
def deO {P : Rp α} (e : De P) (hn : ∀ a, PyData.eqv .none (e.d a) = false ∧ PyData.eqv (e.d a) .none = false) : De (rO P) where
  d := optD e.d
  dp := fun K F v x h => by
    cases x with
    | none => rw [show v = V.non from h]; exact .non
    | some y => exact e.dp K F v y h
  ok := fun x => by
    cases x with
    | none => rfl
    | some y => exact e.ok y
  n := e.n
  dep := fun x => by
    cases x with
    | none => exact Nat.zero_le _
    | some y => exact e.dep y
  eq := fun x y => by
    cases x with
    | none =>
      cases y with
      | none => simp [optD, PyData.eqv]
      | some b => simp only [optD]; rw [(hn b).1]; simp
    | some a =>
      cases y with
      | none => simp only [optD]; rw [(hn a).2]; simp
      | some b => simp only [optD]; rw [e.eq a b]; simp
def sumD (d : α → PyData) (f : β → PyData) : α ⊕ β → PyData
  | .inl x => d x
  | .inr x => f x
def deU {P : Rp α} {Q : Rp β} (e : De P) (f : De Q) (hn : ∀ a b, PyData.eqv (e.d a) (f.d b) = false ∧ PyData.eqv (f.d b) (e.d a) = false) : De (rU P Q) where
  d := sumD e.d f.d
  dp := fun K F v x h => by
    cases x with
    | inl y => exact e.dp K F v y h
    | inr y => exact f.dp K F v y h
  ok := fun x => by
    cases x with
    | inl y => exact e.ok y
    | inr y => exact f.ok y
  n := max e.n f.n
  dep := fun x => by
    cases x with
    | inl y => have := e.dep y; simp only [sumD]; omega
    | inr y => have := f.dep y; simp only [sumD]; omega
  eq := fun x y => by
    cases x with
    | inl a =>
      cases y with
      | inl b => simp only [sumD]; rw [e.eq a b]; simp
      | inr b => simp only [sumD]; rw [(hn a b).1]; simp
    | inr a =>
      cases y with
      | inl b => simp only [sumD]; rw [(hn b a).2]; simp
      | inr b => simp only [sumD]; rw [f.eq a b]; simp
end
section
variable {α : Type} [DecidableEq α] {P : Rp α} {K : PySem.W.Frag} {F F' H : Hp} {v : V} {x : α} {a : Addr} {vs : List V} {xs : List α} {Q : VK}
theorem any_mem (e : De P) (x : α) : ∀ xs : List α, ((xs.map e.d).any fun z => PyData.eqv z (e.d x)) = decide (x ∈ xs)
  | [] => rfl
  | y :: r => by
    rw [List.map_cons, List.any_cons, any_mem e x r, e.eq y x]
    by_cases h : y = x
    · subst h; simp
    · have h2 : ¬ x = y := fun q => h q.symm
      simp [h, h2]
theorem k_inN (e : De P) (m : Mono P) (h : e.n ≤ 60) (h1 : P F v x) (e1 : Ex F H) (hs : SqL K H a vs) (ha : All2 (P F') vs xs) (e2 : Ex F' H) (k : Q (.bl (decide (x ∈ xs))) H) : rInD K v (.ref a) H Q :=
  ⟨_, xs.map e.d, e.dp K H _ _ (m _ _ _ _ e1 h1), .lst hs (de_all e (mA m e2 ha)), sh_de e (by omega) x, sh_de (deL e) (by show e.n + 1 ≤ 64; omega) xs, by rw [any_mem]; exact k⟩
theorem k_niN (e : De P) (m : Mono P) (h : e.n ≤ 60) (h1 : P F v x) (e1 : Ex F H) (hs : SqL K H a vs) (ha : All2 (P F') vs xs) (e2 : Ex F' H) (k : Q (.bl (!decide (x ∈ xs))) H) : rNotInD K v (.ref a) H Q :=
  ⟨_, xs.map e.d, e.dp K H _ _ (m _ _ _ _ e1 h1), .lst hs (de_all e (mA m e2 ha)), sh_de e (by omega) x, sh_de (deL e) (by show e.n + 1 ≤ 64; omega) xs, by rw [any_mem]; exact k⟩
end
/-! the same where there are texts: whether they may be laid is asked -/
structure Dq {α : Type} [DecidableEq α] (P : Rp α) where
  d : α → PyData
  dp : ∀ (K : PySem.W.Frag) F v a, P F v a → Dp K F v (d a)
  n : Nat
  dep : ∀ a, PyData.depth (d a) ≤ n
  eq : ∀ a b, PyData.eqv (d a) (d b) = decide (a = b)
def okD {α : Type} (d : α → PyData) (x : α) : Option Unit := grd (PyData.canLay0 (d x) = true) ()
theorem okDE {α : Type} {d : α → PyData} {x : α} {u : Unit} (h : okD d x = some u) : PyData.canLay0 (d x) = true := (grdE h).1
section
variable {α β γ δ : Type} [DecidableEq α] [DecidableEq β] [DecidableEq γ] [DecidableEq δ]
def De.q {P : Rp α} (e : De P) : Dq P := ⟨e.d, e.dp, e.n, e.dep, e.eq⟩
def dqS : Dq rS where
  d := PyData.str
  dp := fun K F v a h => by rw [show v = V.str a from h]; exact .str a
  n := 0
  dep := fun _ => Nat.le_refl _
  eq := fun a b => by
    simp only [PyData.eqv]
    by_cases h : a = b
    · subst h; simp
    · rw [decide_eq_false h]; simpa using h
theorem dq_all {P : Rp α} (e : Dq P) {K : PySem.W.Frag} {F : Hp} : ∀ {vs : List V} {xs : List α}, All2 (P F) vs xs → DpAll K F vs (xs.map e.d)
  | _, _, .nil => .nil
  | _, _, .cons h t => .cons (e.dp K F _ _ h) (dq_all e t)
theorem dqdep_all {P : Rp α} (e : Dq P) : ∀ xs : List α, PyData.depthAll (xs.map e.d) ≤ e.n
  | [] => by simp [PyData.depthAll]
  | x :: r => by
    have h1 := e.dep x
    have h2 := dqdep_all e r
    simp only [List.map_cons, PyData.depthAll]
    omega
theorem dqeq_all {P : Rp α} (e : Dq P) : ∀ xs ys : List α, PyData.eqvAll (xs.map e.d) (ys.map e.d) = decide (xs = ys)
  | [], [] => by simp [PyData.eqvAll]
  | [], y :: s => by simp [PyData.eqvAll]
  | x :: r, [] => by simp [PyData.eqvAll]
  | x :: r, y :: s => by simp only [List.map_cons, PyData.eqvAll, e.eq x y, dqeq_all e r s, List.cons.injEq, Bool.decide_and]
def dqL {P : Rp α} (e : Dq P) : Dq (rL P) where
  d := fun xs => .list (xs.map e.d)
  dp := fun K F v xs ⟨p, vs, h1, h2, h3⟩ => by
    subst h1
    exact .lst (SqL.of h2) (dq_all e h3)
  n := e.n + 1
  dep := fun xs => by
    have := dqdep_all e xs
    simp only [PyData.depth]
    omega
  eq := fun xs ys => by simp only [PyData.eqv]; exact dqeq_all e xs ys
def dqT2 {P : Rp α} {Q : Rp β} (e : Dq P) (f : Dq Q) : Dq (rT2 P Q) where
  d := fun x => .tuple [e.d x.1, f.d x.2]
  dp := fun K F v x ⟨p, a, b, h1, h2, h3, h4⟩ => by
    subst h1
    exact .tup (SqT.of h2) (.cons (e.dp K F _ _ h3) (.cons (f.dp K F _ _ h4) .nil))
  n := max e.n f.n + 1
  dep := fun x => by
    have h1 := e.dep x.1
    have h2 := f.dep x.2
    simp only [PyData.depth, PyData.depthAll]
    omega
  eq := fun x y => by
    obtain ⟨x1, x2⟩ := x
    obtain ⟨y1, y2⟩ := y
    simp only [PyData.eqv, PyData.eqvAll, e.eq, f.eq, Prod.mk.injEq, Bool.decide_and, Bool.and_true]
def dqT3 {P : Rp α} {Q : Rp β} {R : Rp γ} (e : Dq P) (f : Dq Q) (g : Dq R) : Dq (rT3 P Q R) where
  d := fun x => .tuple [e.d x.1, f.d x.2.1, g.d x.2.2]
  dp := fun K F v x ⟨p, a, b, c, h1, h2, h3, h4, h5⟩ => by
    subst h1
    exact .tup (SqT.of h2) (.cons (e.dp K F _ _ h3) (.cons (f.dp K F _ _ h4) (.cons (g.dp K F _ _ h5) .nil)))
  n := max e.n (max f.n g.n) + 1
  dep := fun x => by
    have h1 := e.dep x.1
    have h2 := f.dep x.2.1
    have h3 := g.dep x.2.2
    simp only [PyData.depth, PyData.depthAll]
    omega
  eq := fun x y => by
    obtain ⟨x1, x2, x3⟩ := x
    obtain ⟨y1, y2, y3⟩ := y
    simp only [PyData.eqv, PyData.eqvAll, e.eq, f.eq, g.eq, Prod.mk.injEq, Bool.decide_and, Bool.and_true, Bool.and_assoc]
def dqO {P : Rp α} (e : Dq P) (hn : ∀ a, PyData.eqv .none (e.d a) = false ∧ PyData.eqv (e.d a) .none = false) : Dq (rO P) where
  d := optD e.d
  dp := fun K F v x h => by
    cases x with
    | none => rw [show v = V.non from h]; exact .non
    | some y => exact e.dp K F v y h
  n := e.n
  dep := fun x => by
    cases x with
    | none => exact Nat.zero_le _
    | some y => exact e.dep y
  eq := fun x y => by
    cases x with
    | none =>
      cases y with
      | none => simp [optD, PyData.eqv]
      | some b => simp only [optD]; rw [(hn b).1]; simp
    | some a =>
      cases y with
      | none => simp only [optD]; rw [(hn a).2]; simp
      | some b => simp only [optD]; rw [e.eq a b]; simp
def dqU {P : Rp α} {Q : Rp β} (e : Dq P) (f : Dq Q) (hn : ∀ a b, PyData.eqv (e.d a) (f.d b) = false ∧ PyData.eqv (f.d b) (e.d a) = false) : Dq (rU P Q) where
  d := sumD e.d f.d
  dp := fun K F v x h => by
    cases x with
    | inl y => exact e.dp K F v y h
    | inr y => exact f.dp K F v y h
  n := max e.n f.n
  dep := fun x => by
    cases x with
    | inl y => have := e.dep y; simp only [sumD]; omega
    | inr y => have := f.dep y; simp only [sumD]; omega
  eq := fun x y => by
    cases x with
    | inl a =>
      cases y with
      | inl b => simp only [sumD]; rw [e.eq a b]; simp
      | inr b => simp only [sumD]; rw [(hn a b).1]; simp
    | inr a =>
      cases y with
      | inl b => simp only [sumD]; rw [(hn b a).2]; simp
      | inr b => simp only [sumD]; rw [f.eq a b]; simp
end
section
variable {α : Type} [DecidableEq α] {P : Rp α} {K : PySem.W.Frag} {F F' H : Hp} {v w : V} {x y : α} {a : Addr} {vs : List V} {xs : List α} {Q : VK}
theorem sh_dq (e : Dq P) (h : e.n ≤ 64) {x : α} (hx : PyData.canLay0 (e.d x) = true) : SeqAt.shaped (e.d x) = true := by
  have h1 := e.dep x
  simp only [SeqAt.shaped, hx, Bool.true_and]
  exact decide_eq_true (by omega)
theorem k_eqQ (e : Dq P) (m : Mono P) (h : e.n ≤ 64) (hx : PyData.canLay0 (e.d x) = true) (hy : PyData.canLay0 (e.d y) = true) (h1 : P F v x) (e1 : Ex F H) (h2 : P F' w y) (e2 : Ex F' H) (k : Q (.bl (decide (x = y))) H) : rEqD K v w H Q :=
  ⟨_, _, e.dp K H _ _ (m _ _ _ _ e1 h1), e.dp K H _ _ (m _ _ _ _ e2 h2), sh_dq e h hx, sh_dq e h hy, by rw [e.eq]; exact k⟩
theorem k_neQ (e : Dq P) (m : Mono P) (h : e.n ≤ 64) (hx : PyData.canLay0 (e.d x) = true) (hy : PyData.canLay0 (e.d y) = true) (h1 : P F v x) (e1 : Ex F H) (h2 : P F' w y) (e2 : Ex F' H) (k : Q (.bl (!decide (x = y))) H) : rNeD K v w H Q :=
  ⟨_, _, e.dp K H _ _ (m _ _ _ _ e1 h1), e.dp K H _ _ (m _ _ _ _ e2 h2), sh_dq e h hx, sh_dq e h hy, by rw [e.eq]; exact k⟩
end
/-! what was told, changed by its asker -/
theorem exE {R : Hp} : Ex (fun _ => none) R := fun _ _ h => nomatch h
theorem ovr_fr {R0 Hb Hc R : Hp} (e : Ex Hb Hc) : Ex (ovr (fun _ => none) Hc R) (ovr R0 Hb R) := fun a o h => by
  obtain ⟨q, h1⟩ := ovr_some h
  refine ovr_mk (.inr ?_) h1
  rcases q with q | q
  · exact absurd rfl q
  · exact e.back q
theorem Own.poke {Rs R Hc H : Hp} {L : List Cell} {q : Addr} {o o' : HO} (O : Own R H L) (e : Ex Rs R) (hc : Ex Rs Hc) (hq : ovr (fun _ => none) Hc R q = some o) : Own Rs (upd H q o') L := by
  obtain ⟨c, h1⟩ := ovr_some hq
  have hcq : Hc q = none := by
    rcases c with c | c
    · exact absurd rfl c
    · exact c
  have hs : Rs q = none := hc.back hcq
  refine ⟨fun a u h => ?_, fun c hc' => ?_, fun c hc' => e.back (O.fr c hc'), O.nd⟩
  · rw [upd_ne (ne_of_none h hs)]
    exact O.ex _ _ (e _ _ h)
  · have : c.1 ≠ q := fun z => by
      have := O.fr c hc'
      rw [z, h1] at this
      cases this
    rw [upd_ne this]
    exact O.at_ c hc'
theorem Own.retX0 {R H Hc : Hp} {B C : List Cell} {D : DT} {Q : VK} (O : Own R H (B ++ C)) (m : MonoD D) (hc : Hc = hsub H B) (k : ∀ v H' R' L', Own R' H' (L' ++ C) → Ex R R' → D (ovr (fun _ => none) Hc R') v L' → Q v H') : RetX (fun _ => none) (hsub H B) D Q := fun v H' R' L' e O' d => by
  obtain ⟨R'', O'', e1, e2⟩ := O.back e O'
  subst hc
  refine k v H' R'' L' O'' e1 (m _ _ _ _ (fun a u h => ?_) d)
  obtain ⟨q, _⟩ := ovr_some h
  exact ovr_mk q (e2 _ exE _ _ h)
/-! isinstance of what is of one of several kinds -/
section
variable {α β γ δ : Type} {P : Rp α} {P' : Rp β} {P3 : Rp γ} {P4 : Rp δ} {K : PySem.W.Frag} {H : Hp} {v : V} {Q : VK} {u : Value}
def TyP (P : Rp α) (K : PySem.W.Frag) (u : Value) (f : α → Bool) : Prop := ∀ H v x, P H v x → ∃ t, TyX K H v t ∧ PySem.W.kitOne K t u = some (f x)
def sumB (f : α → Bool) (g : β → Bool) : α ⊕ β → Bool
  | .inl a => f a
  | .inr b => g b
theorem tyI {b : String} {r : Bool} (h : kitB "int" b = some r) : TyP rI K (.type b) (fun _ => r) := fun H v x hx => ⟨_, .base (by rw [show v = _ from hx]; exact .int _), kit_ty h⟩
theorem tyB {b : String} {r : Bool} (h : kitB "bool" b = some r) : TyP rB K (.type b) (fun _ => r) := fun H v x hx => ⟨_, .base (by rw [show v = _ from hx]; exact .bl _), kit_ty h⟩
theorem tyS {b : String} {r : Bool} (h : kitB "str" b = some r) : TyP rS K (.type b) (fun _ => r) := fun H v x hx => ⟨_, .base (by rw [show v = _ from hx]; exact .str _), kit_ty h⟩
theorem tyL {b : String} {r : Bool} (h : kitB "list" b = some r) : TyP (rL P) K (.type b) (fun _ => r) := fun H v x hx => by
  obtain ⟨p, vs, rfl, h1, _⟩ := hx
  exact ⟨_, .base (.lst h1), kit_ty h⟩
theorem tyT2 {b : String} {r : Bool} (h : kitB "tuple" b = some r) : TyP (rT2 P P') K (.type b) (fun _ => r) := fun H v x hx => by
  obtain ⟨p, _, _, rfl, h1, _⟩ := hx
  exact ⟨_, .base (.tup h1), kit_ty h⟩
theorem tyT3 {b : String} {r : Bool} (h : kitB "tuple" b = some r) : TyP (rT3 P P' P3) K (.type b) (fun _ => r) := fun H v x hx => by
  obtain ⟨p, _, _, _, rfl, h1, _⟩ := hx
  exact ⟨_, .base (.tup h1), kit_ty h⟩
theorem tyU {f : α → Bool} {g : β → Bool} (h1 : TyP P K u f) (h2 : TyP P' K u g) : TyP (rU P P') K u (sumB f g) := fun H v x hx => by
  cases x with
  | inl a => exact h1 H v a hx
  | inr b => exact h2 H v b hx
theorem k_isU {b : String} {f : α → Bool} (h : TyP P K u f) {x : α} (hx : P H v x) (q : Q (.bl (f x)) H) (hu : u = .type b := by rfl) : rIsi K [v, .ty b] H Q := by
  obtain ⟨t, h1, h2⟩ := h H v x hx
  subst hu
  exact ⟨v, _, t, _, _, rfl, .ty _, h1, h2, q⟩
end
/-! the number of a refusal in hand -/
def atE (k : Ek) (e : Er) : Option Int := match k, e with
  | .NoWire, .NoWire i => some i
  | .NoRow, .NoRow i => some i
  | _, _ => none
theorem o_xf {a : Addr} {cls : Value} {d : Option Addr} {C : Addr} {f : Str} {te : TE} {σ : St} {H : Hp} {Q : VK} (h : te σ H fun x H1 => x = .ref a ∧ cls = .ref C ∧ ∃ (dd : Addr) (fs : List (Str × V)) (v : V), d = some dd ∧ H1 dd = some (.xd fs) ∧ fs.lookup f = some v ∧ Q v H1) : tXf a cls d C f te σ H Q := h
theorem k_xfNoWire {es : Eds} {e : Er} {n : Int} {a : Addr} {cls : Value} {d : Option Addr} {H : Hp} {Q : VK} (h : atE .NoWire e = some n) (hx : XFl e d H) (hc : cls = .ref (es.at e.k)) (q : Q (.int n) H) :
    V.ref a = .ref a ∧ cls = .ref es.NoWire ∧ ∃ (dd : Addr) (fs : List (Str × V)) (v : V), d = some dd ∧ H dd = some (.xd fs) ∧ fs.lookup ("at" : Str) = some v ∧ Q v H := by
  cases e with
  | NoWire i =>
    cases h
    obtain ⟨x, h1, h2⟩ := hx
    exact ⟨rfl, hc, x, _, _, h1, h2, lk_hit, q⟩
  | _ => cases h
theorem k_xfNoRow {es : Eds} {e : Er} {n : Int} {a : Addr} {cls : Value} {d : Option Addr} {H : Hp} {Q : VK} (h : atE .NoRow e = some n) (hx : XFl e d H) (hc : cls = .ref (es.at e.k)) (q : Q (.int n) H) :
    V.ref a = .ref a ∧ cls = .ref es.NoRow ∧ ∃ (dd : Addr) (fs : List (Str × V)) (v : V), d = some dd ∧ H dd = some (.xd fs) ∧ fs.lookup ("word" : Str) = some v ∧ Q v H := by
  cases e with
  | NoRow i =>
    cases h
    obtain ⟨x, h1, h2⟩ := hx
    exact ⟨rfl, hc, x, _, _, h1, h2, lk_hit, q⟩
  | _ => cases h
theorem o_yes {A B : Hp → Prop} {σ : St} {H : Hp} (h : A H) : tYes σ H (fun b H3 => if b = true then A H3 else B H3) := by
  show if true = true then A H else B H
  rw [if_pos rfl]
  exact h
/-! a if c else b, any value -/
theorem x_ifP {c : Bool} {tt : TT} {ta tb : TE} {σ : St} {H : Hp} {Q : VK} (J0 : Hp → Prop) (J : V → Hp → Prop) (h1 : ∀ Q1 : Bool → Hp → Prop, (∀ H', J0 H' → Q1 c H') → tt σ H Q1) (h2 : c = true → ∀ H', J0 H' → ∀ Q2 : VK, (∀ v H'', J v H'' → Q2 v H'') → ta σ H' Q2)
    (h3 : c = false → ∀ H', J0 H' → ∀ Q2 : VK, (∀ v H'', J v H'' → Q2 v H'') → tb σ H' Q2) (k : ∀ v H', J v H' → Q v H') : tIf tt ta tb σ H Q := by
  refine h1 _ fun H' O' => ?_
  cases c with
  | true => exact h2 rfl H' O' Q k
  | false => exact h3 rfl H' O' Q k
end Bt

namespace Bt
open PySem L2
/-! a list of objects whose items stay these -/
section
variable {α : Type} {B : Ob α} {F R H : Hp} {vs : List V} {a b : Addr} {A L L1 C : List Cell} {xs ys : List α} {x : α} {i : Int} {w : V} {K : PySem.W.Frag} {Q : VK}
def oLv {α : Type} (vs : List V) (B : Ob α) : Ob (List α) := fun F a L xs => ∃ as Ls, vs = as.map V.ref ∧ L.Perm ((a, HO.lst vs) :: Ls.flatten) ∧ All3 (B F) as Ls xs
theorem moLv (m : MonoO B) : MonoO (oLv vs B) := fun _ _ _ _ _ e ⟨as, Ls, h0, h1, h2⟩ => ⟨as, Ls, h0, h1, h2.mp fun _ _ _ h => m _ _ _ _ _ e h⟩
theorem oLs.fix (h : oLs B F a L xs) : ∃ vs, oLv vs B F a L xs := by
  obtain ⟨as, Ls, h1, h2⟩ := h
  exact ⟨_, as, Ls, rfl, h1, h2⟩
theorem oLv.un (h : oLv vs B F a L xs) : oLs B F a L xs := by
  obtain ⟨as, Ls, rfl, h1, h2⟩ := h
  exact ⟨as, Ls, h1, h2⟩
theorem oLv.len (h : oLv vs B F a L xs) : vs.length = xs.length := by
  obtain ⟨as, Ls, rfl, h1, h2⟩ := h
  rw [List.length_map, h2.len]
theorem oLv.at (O : Own R H C) (h : oLv vs B F a L xs) (hs : ∀ c ∈ L, c ∈ C) : H a = some (.lst vs) := by
  obtain ⟨as, Ls, _, h1, _⟩ := h
  exact O.mem (hs _ (h1.mem_iff.mpr (List.Mem.head _)))
theorem oLv.isref (h : oLv vs B F a L xs) (hw : atI vs i = some w) : ∃ b, w = .ref b := by
  obtain ⟨as, Ls, rfl, _, _⟩ := h
  unfold atI at hw
  cases e : ixN (as.map V.ref).length i with
  | none => rw [e] at hw; cases hw
  | some j =>
    rw [e] at hw
    have hw : (as.map V.ref)[j]? = some w := hw
    rw [List.getElem?_map] at hw
    cases e2 : as[j]? with
    | none => rw [e2] at hw; cases hw
    | some b => rw [e2] at hw; exact ⟨b, (Option.some.inj hw).symm⟩
theorem All2.of_get {α β : Type} {P : α → β → Prop} : ∀ {as : List α} {bs : List β}, as.length = bs.length → (∀ (i : Nat) (a : α) (b : β), as[i]? = some a → bs[i]? = some b → P a b) → All2 P as bs
  | [], [], _, _ => .nil
  | a :: as, b :: bs, h, k => .cons (k 0 a b rfl rfl) (All2.of_get (by simpa using h) fun i x y hx hy => k (i + 1) x y (by simpa using hx) (by simpa using hy))
theorem ixs_of (vs : List V) {n : Nat} (h : vs.length = n) : All2 (fun v (i : Int) => atI vs i = some v) vs (rangeI 0 (n : Int)) := by
  subst h
  refine All2.of_get (by simp [rangeI]) fun j v i hv hi => ?_
  have hj : j < vs.length := (List.getElem?_eq_some_iff.mp hv).1
  have : (rangeI 0 (vs.length : Int))[j]? = some (j : Int) := by
    unfold rangeI
    rw [List.getElem?_map, show ((vs.length : Int) - 0).toNat = vs.length by omega, List.getElem?_range hj]
    simp
  rw [this] at hi
  cases hi
  unfold atI ixN
  rw [if_pos (by omega), if_pos (by omega)]
  simpa using hv
theorem Own.lsAtV (m : MonoO B) (O : Own R H (A ++ (L ++ C))) (h : oLv vs B F a L xs) (e : atI xs i = some x) (hw : atI vs i = some (.ref b)) :
    ∃ (L1 L2 : List Cell), B F b L1 x ∧ (L1 ++ L2).Perm L ∧ Own R H (A ++ (L1 ++ (L2 ++ C))) ∧ (∀ F' L1' x', Ex F F' → B F' b L1' x' → ∀ ys, setG xs i x' = some ys → oLv vs B F' a (L1' ++ L2) ys) ∧ ∀ F' L1', Ex F F' → B F' b L1' x → oLv vs B F' a (L1' ++ L2) xs := by
  obtain ⟨as, Ls, rfl, hp, h3⟩ := h
  unfold atI at e
  cases ej : ixN xs.length i with
  | none => rw [ej] at e; cases e
  | some j =>
    rw [ej] at e
    obtain ⟨b', L1, bs1, bs2, h4, h5, h6, h7⟩ := h3.at e
    subst h6
    have hbb : b' = b := by
      unfold atI at hw
      rw [List.length_map, h3.len, ej] at hw
      have hw : (as.map V.ref)[j]? = some (.ref b) := hw
      rw [List.getElem?_map, h4] at hw
      exact V.ref.inj (Option.some.inj hw)
    subst hbb
    have hp2 : L.Perm (L1 ++ ((a, HO.lst (as.map V.ref)) :: (bs1.flatten ++ bs2.flatten))) := by
      refine hp.trans ?_
      rw [List.flatten_append, List.flatten_cons]
      refine List.Perm.trans ?_ (List.perm_middle.symm)
      refine List.Perm.cons _ ?_
      rw [← List.append_assoc, ← List.append_assoc]
      exact List.Perm.append_right _ List.perm_append_comm
    have cl : ∀ F' L1' x', Ex F F' → B F' b' L1' x' → oLv (as.map V.ref) B F' a (L1' ++ ((a, HO.lst (as.map V.ref)) :: (bs1.flatten ++ bs2.flatten))) (xs.set j x') := fun F' L1' x' ex hb => by
      refine ⟨as, bs1 ++ L1' :: bs2, rfl, ?_, h7 _ L1' x' (fun _ _ _ h => m _ _ _ _ _ ex h) hb⟩
      rw [List.flatten_append, List.flatten_cons]
      refine List.perm_middle.trans ?_
      refine List.Perm.cons _ ?_
      rw [← List.append_assoc, ← List.append_assoc]
      exact List.Perm.append_right _ List.perm_append_comm
    refine ⟨L1, (a, HO.lst (as.map V.ref)) :: (bs1.flatten ++ bs2.flatten), h5, hp2.symm, O.perm ?_, fun F' L1' x' ex hb ys hy => ?_, fun F' L1' ex hb => ?_⟩
    · refine List.Perm.append_left _ ?_
      rw [← List.append_assoc]
      exact List.Perm.append_right _ hp2
    · unfold setG at hy
      rw [ej] at hy
      cases hy
      exact cl F' L1' x' ex hb
    · have := cl F' L1' x ex hb
      have e2 : xs.set j x = xs := by
        obtain ⟨h8, h9⟩ := List.getElem?_eq_some_iff.mp (show xs[j]? = some x from e)
        rw [← h9]
        exact List.set_getElem_self h8
      rw [e2] at this
      exact this
def inL {α : Type} [DecidableEq α] (x : α) (xs : List α) : Bool := decide (x ∈ xs)
section
variable {α : Type} [DecidableEq α] {P : Rp α} {F F' H : Hp} {K : PySem.W.Frag} {v : V} {x : α} {xs : List α} {vs : List V} {a : Addr} {Q : VK}
theorem k_inJ (e : De P) (m : Mono P) (h : e.n ≤ 60) (h1 : P F v x) (e1 : Ex F H) (hs : SqL K H a vs) (ha : All2 (P F') vs xs) (e2 : Ex F' H) (k : Q (.bl (inL x xs)) H) : rInD K v (.ref a) H Q := k_inN e m h h1 e1 hs ha e2 k
theorem k_niJ (e : De P) (m : Mono P) (h : e.n ≤ 60) (h1 : P F v x) (e1 : Ex F H) (hs : SqL K H a vs) (ha : All2 (P F') vs xs) (e2 : Ex F' H) (k : Q (.bl (!inL x xs)) H) : rNotInD K v (.ref a) H Q := k_niN e m h h1 e1 hs ha e2 k
end
theorem pe_fld2 {X : Cx} {K : PySem.W.Frag} {e : PySem.Expr} {f : Str} {pos : PySem.Pos} {ta : TE} (hK : X.K = K) (he : PE X e ta) (hb : attributeBase e f X.env (eval e X.env) = eval e X.env) : PE X (.Attribute e f pos) (tFld K ta f) := by
  subst hK
  exact pe_fld he hb
theorem pe_bm2 {X : Cx} {K : PySem.W.Frag} {o e : PySem.Expr} {es : List PySem.Expr} {to : TE} {t : TA} {name : Str} {apos cpos : PySem.Pos} {T id : String} {r : V → List V → Hp → VK → Prop} (hK : X.K = K) (pa : PlainAttrs T) (slot : Slot T name id) (hty : typeOf (.builtin id) = pure (.type "method_descriptor")) (hm : MtR X id r) (ho : PE X o to) (ha : PA X (e :: es) t)
    (hbase : attributeBase o name X.env (eval o X.env) = eval o X.env := by rfl)
    (hfew : ((backTo cpos (starEach (e :: es) X.env)).all (fun x => !x.1) && (backToKw cpos (keywordEach [] X.env)).all (fun x => x.1.isSome)
      && decide ((e :: es).length + ([] : List PySem.Keyword).length + (if ([] : List PySem.Keyword).isEmpty then 0 else 1) < 30)) = true := by rfl)
    (hline : (apos.endLine == cpos.line) = true := by rfl) (hs : starEach (e :: es) X.env = (false, eval e X.env) :: starEach es X.env := by rfl) (hplain : (backTo cpos (starEach es X.env)).any (·.1) = false := by rfl) :
    PE X (.Call (.Attribute o name apos) (e :: es) [] cpos) (tBM K T r to t) := by
  subst hK
  exact pe_bm pa slot hty hm ho ha hbase hfew hline hs hplain
theorem k_clrA {g : HO → List Cell} (hl : H a = some (.lst vs)) (hp : ∀ o', Own R (upd H a o') (g o')) (k : ∀ H', Own R H' (g (.lst [])) → Q .non H') : rClear (.ref a) [] H Q :=
  ⟨a, _, rfl, rfl, hl, k _ (hp _)⟩
abbrev tLs (t : TA) : TE := fun σ H Q => t σ H fun xs H1 => rNewL xs H1 Q
theorem pe_lst2 {X : Cx} {es : List PySem.Expr} {t : TA} {pos : PySem.Pos} (h : PE X (.List es pos) (tLst t)) : PE X (.List es pos) (tLs t) := pe_lstQ h
abbrev tTs (t : TA) : TE := fun σ H Q => t σ H fun xs H1 => rNewT xs H1 Q
theorem pe_tup2 {X : Cx} {es : List PySem.Expr} {k : Nat} {t : TA} {pos : PySem.Pos} (h : PE X (.Tuple es k pos) (tTup t)) : PE X (.Tuple es k pos) (tTs t) := pe_tupQ h
/-! len and append -/
theorem oLs.sq (O : Own R H C) (h : oLs B F a L xs) (hs : ∀ c ∈ L, c ∈ C) : ∃ vs, SqL K H a vs ∧ vs.length = xs.length := by
  obtain ⟨vs, hv⟩ := h.fix
  exact ⟨vs, SqL.of (hv.at O hs), hv.len⟩
theorem n_lenO (h : ∃ vs, SqL K H a vs ∧ vs.length = xs.length) (k : Q (.int (xs.length : Int)) H) : rLenQ K [.ref a] H Q := by
  obtain ⟨vs, hs, hl⟩ := h
  unfold rLenQ
  exact ⟨a, vs, rfl, .inl hs, by rw [hl]; exact k⟩
theorem All3.snoc {α β γ : Type} {P : α → β → γ → Prop} {as : List α} {bs : List β} {cs : List γ} {a : α} {b : β} {c : γ} (h : All3 P as bs cs) (k : P a b c) : All3 P (as ++ [a]) (bs ++ [b]) (cs ++ [c]) := by
  induction h with
  | nil => exact .cons k .nil
  | cons h _ ih => exact .cons h ih
theorem k_appO (O : Own R H (L ++ (L1 ++ C))) (h : oLs B F a L xs) (hb : B F b L1 x) (e : appG xs x = some ys) (k : ∀ H' L', Own R H' (L' ++ C) → oLs B F a L' ys → Q .non H') : rAppend (.ref a) [.ref b] H Q := by
  obtain ⟨c, rfl⟩ := grdE e
  obtain ⟨as, Ls, hp, h3⟩ := h
  have O1 : Own R H ((a, HO.lst (as.map V.ref)) :: (Ls.flatten ++ (L1 ++ C))) := O.perm (List.Perm.append_right _ hp)
  refine ⟨a, _, _, rfl, rfl, O1.mem (List.Mem.head _), by rw [List.length_map, h3.len]; exact c, k _ ((a, HO.lst (as.map V.ref ++ [.ref b])) :: (Ls.flatten ++ L1)) ?_ ?_⟩
  · have O2 := O1.put0 (o' := HO.lst (as.map V.ref ++ [.ref b]))
    refine O2.perm ?_
    rw [List.cons_append, List.append_assoc]
  · refine ⟨as ++ [b], Ls ++ [L1], ?_, h3.snoc hb⟩
    rw [List.map_append, List.flatten_append, List.flatten_singleton]
    exact List.Perm.refl _
end
end Bt

set_option Elab.async false
set_option linter.all false
set_option maxRecDepth 100000
set_option maxHeartbeats 4000000
/-! What is refused, kept beyond its suite. -/
namespace Bt
open PySem L2 PyProof.Rows
/-- an exception that stays: its class and its dict are known -/
def ExH (a : Addr) (cls : Value) (d : Option Addr) : HO := .ext fun h => ∃ (oe : Obj) (vs : Array Value), h.get? a = some oe ∧ L2N.Zn cls d oe ∧ oe.data = .fields vs
section
variable {X : Cx} {pins : List (Addr × Obj)} {σ : L2.St} {H : Hp} {s : Shared} {a : Addr} {oe : Obj} {cls : Value} {d : Option Addr}
theorem inv_layX (I : Inv X pins σ H s) (he : s.heap.get? a = some oe) (hz : L2N.Zn cls d oe) (hd : ∃ vs, oe.data = .fields vs) (na : H a = none) (n0 : X.s_0.heap.get? a = none) (np : ∀ p ∈ X.pn ++ pins, p.1 ≠ a) (nL : a ≠ X.env.locals) : Inv X pins σ (upd H a (ExH a cls d)) s := by
  obtain ⟨vs, hv⟩ := hd
  have nb : ∀ b o, X.s_0.heap.get? b = some o → b ≠ a := fun b o e z => by
    rw [z, n0] at e
    cases e
  have nh : ∀ b o, H b = some o → b ≠ a := fun b o e z => by
    rw [z, na] at e
    cases e
  refine ⟨I.ok, I.os, I.bare, ⟨I.base.keep, I.base.slot, fun b o e n hx => ?_, I.base.there, fun b xs e => ?_, fun b o u e => ?_, fun b ps e => ?_⟩, I.loc, I.cell, ?_, fun x c e => ?_, fun p hp => ?_, fun b o e => ?_, I.len⟩
  · rw [upd_ne (nb b o e)]
    exact I.base.free b o e n hx
  · have q := I.base.tups b xs e
    rw [upd_ne (nh _ _ q)]
    exact q
  · have q := I.base.frzs b o u e
    rw [upd_ne (nh _ _ q)]
    exact q
  · obtain ⟨more, q⟩ := I.base.tbls b ps e
    refine ⟨more, ?_⟩
    rw [upd_ne (nh _ _ q)]
    exact q
  · rw [upd_ne (Ne.symm nL)]
    exact I.free
  · have : c ≠ a := fun z => by
      obtain ⟨v, o, ho, hdd⟩ := I.cell x c e
      rw [z, he] at ho
      cases ho
      rw [hv] at hdd
      cases hdd
    rw [upd_ne this]
    exact I.freeC x c e
  · obtain ⟨p1, p2, p3⟩ := I.pin p hp
    refine ⟨p1, ?_, p3⟩
    rw [upd_ne (np p hp)]
    exact p2
  · by_cases z : b = a
    · subst z
      rw [upd_same] at e
      cases e
      refine ⟨⟨oe, vs, he, hz, hv⟩, ⟨oe, he⟩, fun h1 h2 ⟨o', vs', e1, e2, e3⟩ hk => ⟨o', vs', hk _ e1, e2, e3⟩⟩
    · rw [upd_ne z] at e
      refine (I.hok b o e).stay (fun _ _ _ h => h) (fun c h => ?_) fun c xs h => ?_
      · rw [upd_ne (nh _ _ h)]
        exact h
      · rw [upd_ne (nh _ _ h)]
        exact h
end
/-! ### try with clauses of all three sorts: without a name, with one, with one whose exception stays -/
/-- an exception in hand, the clauses ahead of it -/
structure Grip (X : Cx) (pins : List (Addr × Obj)) (σ : L2.St) (H : Hp) (a : Addr) (cls : Value) (d : Option Addr) (B : Heap) (t s : Shared) : Prop where
  src : Inv X pins σ H t
  nb : ∀ b o, t.heap.get? b = some o → b ∉ frs X.stack → B.get? b = some o
  up : t.heap.UpToSlots s.heap
  os : s.os = t.os
  ag : AllBare s.gens
  fl : HandSPX.FlyingZ B X.stack a (L2N.Zn cls d) s.heap
  na : H a = none
section
variable {X : Cx} {pins : List (Addr × Obj)} {σ : L2.St} {H : Hp} {a : Addr} {cls : Value} {d : Option Addr} {B : Heap} {t s : Shared}
theorem Grip.on (g : Grip X pins σ H a cls d B t s) {h : Heap} (f : HandSPX.FlyingZ B X.stack a (L2N.Zn cls d) h) (u : s.heap.UpToSlots h) : Grip X pins σ H a cls d B t { s with heap := h } :=
  ⟨g.src, g.nb, g.up.trans u, g.os, g.ag, f, g.na⟩
theorem Grip.inv (g : Grip X pins σ H a cls d B t s) : Inv X pins σ H s := g.src.landed g.nb g.fl.1 g.up g.os g.ag
theorem Grip.off (g : Grip X pins σ H a cls d B t s) : a ∉ frs X.stack := fun m => by
  obtain ⟨oe, vs, e1, _, e2⟩ := g.fl.there
  obtain ⟨_, o, e3, nf⟩ := g.fl.2.2.1.mem m
  rw [e1] at e3
  exact nf vs (by cases e3; exact e2)
theorem Grip.new (g : Grip X pins σ H a cls d B t s) : t.heap.get? a = none := by
  have z := g.fl.2.1
  cases q : t.heap.get? a with
  | none => rfl
  | some o =>
    rw [g.nb a o q g.off] at z
    cases z
theorem Grip.new0 (g : Grip X pins σ H a cls d B t s) (hex : X.ex = []) : X.s_0.heap.get? a = none := by
  cases q : X.s_0.heap.get? a with
  | none => rfl
  | some o =>
    have hx : a ∉ X.ex := by
      rw [hex]
      exact List.not_mem_nil
    obtain ⟨o2, q2⟩ := g.src.base.there a o q hx
    rw [g.new] at q2
    cases q2
theorem Grip.nopin (g : Grip X pins σ H a cls d B t s) : ∀ p ∈ X.pn ++ pins, p.1 ≠ a := fun p m z => by
  have q := (g.src.pin p m).1
  rw [z, g.new] at q
  cases q
theorem Grip.nL (g : Grip X pins σ H a cls d B t s) (hs : X.stack = X.env :: X.outer) (hf : X.env.frame = some X.env.locals) : a ≠ X.env.locals := fun z =>
  g.off (by rw [hs]; exact List.mem_filterMap.mpr ⟨_, List.Mem.head _, by rw [hf, z]⟩)
theorem Grip.nF (g : Grip X pins σ H a cls d B t s) (hs : X.stack = X.env :: X.outer) : a ∉ X.fs := fun m => by
  obtain ⟨e, m1, m2⟩ := List.mem_filterMap.mp m
  exact g.off (by rw [hs]; exact List.mem_filterMap.mpr ⟨e, List.Mem.tail _ m1, m2⟩)
/-- the suite's own state -/
theorem Grip.within (g : Grip X pins σ H a cls d B t s) (hs : X.stack = X.env :: X.outer) (hf : X.env.frame = some X.env.locals) : ∃ oe, L2N.Zn cls d oe ∧ (∃ vs, oe.data = .fields vs) ∧ s.heap.get? a = some oe ∧ Inv (X.suite a ((a, oe) :: (X.pn ++ pins))) [] σ H s := by
  obtain ⟨oe, vs, e1, e2, e3⟩ := g.fl.there
  exact ⟨oe, e2, ⟨vs, e3⟩, e1, g.inv.suite e1 e3 g.na (g.nL hs hf) (g.nF hs)⟩
/-- no clause takes it -/
theorem Grip.out (g : Grip X pins σ H a cls d B t s) (hf : X.env.frame = some X.env.locals) {W : WX} (tk : L2N.Takes X W) (w : W cls d σ H) {Q : Flow → Shared → Prop} : wpAny (model X.prog X.w) X.A (handleBy (.ref a) X.env []) Q X.xe s := by
  obtain ⟨_, _, _, oe, vs, T, oT, ts, e1, _, e3, e4, _⟩ := id g.fl
  refine wpAny_handleBy_nil ?_
  unfold PySem.passOn
  refine wpAny_bind (wpAny_field e1 e3 e4 ?_)
  rw [if_neg (by simp)]
  have last : wpAny (model X.prog X.w) X.A (setFlight (.ref a) X.env.frame) (fun _ s2 => wpAny (model X.prog X.w) X.A (throw (.ref a) : Sem Flow) Q X.xe s2) X.xe s := by
    rw [hf]
    exact HandSPX.setFlight_upZ g.fl fun h1 k1 k2 => wpAny_throw (tk _ _ ⟨a, B, t, pins, σ, H, cls, d, rfl, g.src, g.nb, g.up.trans k2, .inr (.inr k1), g.na, g.os, g.ag, w⟩)
  first
    | exact wpAny_bind (wpAny_pure (wpAny_bind last))
    | exact wpAny_bind last
/-- is it of a clause's class? -/
theorem Grip.ask (g : Grip X pins σ H a cls d B t s) (hs : X.stack = X.env :: X.outer) (hf : X.env.frame = some X.env.locals) {x : Str} {c : Value} {np pos : Pos} {b : Bool} (hc : Names X x c) (hb : PySem.W.exmOne X.K cls c = some b) {R : Except Value Flow → Shared → Prop} (q : R (.ok (if b then .brk else .next)) s) :
    codeAny (model X.prog X.w) (X.A.mark (some (.ref a))) (.handlers (.ref a) [.ExceptHandler (some (.Name x np)) none [] pos] X.env) R s := by
  obtain ⟨oe, z, _, e1, S⟩ := g.within hs hf
  have what : PySem.W.Looks (model X.prog X.w) s.heap (typeOf (.ref a)) cls := fun A Q E s' k q' => wpAny_typeOf_ref (k _ _ e1) (by rw [z.1]; exact q')
  have hit := PySem.W.exm_one (M := model X.prog X.w) g.inv.kIn what hb
  refine codeAny_handlers_test ?_
  obtain ⟨h1, h2, h3⟩ := hc
  rcases h3 with h3 | ⟨h3, h4, h5⟩
  · exact ld_glob (X := X.suite a ((a, oe) :: (X.pn ++ pins))) S h1 h3 (hit.here q) h2
  · exact ld_blt (X := X.suite a ((a, oe) :: (X.pn ++ pins))) S h1 h3 h4 (hit.here q) h5 h2
end
/-- what stands behind a clause's suite; m: its name's slot, and whether the exception stays -/
abbrev behindC (D : Ends) : Option (Nat × Bool) → Addr → Value → Option Addr → Ends
  | none, _, _, _ => D
  | some (i, false), _, _, _ => { nx := fun σ H => D.nx (σ.set i none) H, rt := D.rt, bk := fun σ H => D.bk (σ.set i none) H, ct := fun σ H => D.ct (σ.set i none) H }
  | some (i, true), a, cls, d => { nx := fun σ H => H a = none → D.nx (σ.set i none) (upd H a (ExH a cls d)), rt := D.rt, bk := fun σ H => D.bk (σ.set i none) H, ct := fun σ H => D.ct (σ.set i none) H }
abbrev slotC (σ : L2.St) : Option (Nat × Bool) → Addr → L2.St
  | none, _ => σ
  | some (i, _), a => σ.set i (some (.ref a))
abbrev Clauses := List (Value × Option (Nat × Bool) × (Addr → Value → Option Addr → TS))
def wCl (K : PySem.W.Frag) (Wout : WX) (D : Ends) : Clauses → WX
  | [] => Wout
  | (c, m, ts) :: r => fun cls d σ H => ∃ b, PySem.W.exmOne K cls c = some b ∧ (b = true → ∀ a, H a = none → ts a cls d (behindC D m a cls d) (slotC σ m a) H) ∧ (b = false → wCl K Wout D r cls d σ H)
abbrev SuiteOk (X : Cx) (ss : List Stmt) (ts : Addr → Value → Option Addr → TS) : Prop :=
  ∀ (a : Addr) (oe : Obj) (cls : Value) (d : Option Addr) (pn : List (Addr × Obj)), L2N.Zn cls d oe → (∃ vs, oe.data = .fields vs) → PSs (X.suite a ((a, oe) :: pn)) ss (ts a cls d)
inductive ClOk (X : Cx) : List ExceptHandler → Clauses → Prop
  | nil : ClOk X [] []
  | bare {x : Str} {c : Value} {ts : Addr → Value → Option Addr → TS} {b₀ : Stmt} {ss : List Stmt} {np pos : Pos} {hs : List ExceptHandler} {l : Clauses} (hc : Names X x c) (su : SuiteOk X (b₀ :: ss) ts) (r : ClOk X hs l) : ClOk X (.ExceptHandler (some (.Name x np)) none (b₀ :: ss) pos :: hs) ((c, none, ts) :: l)
  | named {x n : Str} {c : Value} {i : Nat} (k : Bool) {ts : Addr → Value → Option Addr → TS} {b₀ : Stmt} {ss : List Stmt} {np pos : Pos} {hs : List ExceptHandler} {l : Clauses} (hc : Names X x c) (hi : X.N[i]? = some n) (hl : X.env.kindOf n = some .local) (su : SuiteOk X (b₀ :: ss) ts) (r : ClOk X hs l) :
      ClOk X (.ExceptHandler (some (.Name x np)) (some n) (b₀ :: ss) pos :: hs) ((c, some (i, k), ts) :: l)
section
variable {X : Cx} {pins : List (Addr × Obj)} {σ : L2.St} {H : Hp} {a : Addr} {cls : Value} {d : Option Addr} {B : Heap} {t s : Shared} {D : Ends} {W : WX}
theorem clauses_run (hs : X.stack = X.env :: X.outer) (hf : X.env.frame = some X.env.locals) (hN : X.N.Nodup) (hex : X.ex = []) (tk : L2N.Takes X W) {hds : List ExceptHandler} {l : Clauses} (h : ClOk X hds l) :
    ∀ s, Grip X pins σ H a cls d B t s → wCl X.K W D l cls d σ H → wpAny (model X.prog X.w) X.A (handleBy (.ref a) X.env hds) (SP X pins D) X.xe s := by
  induction h with
  | nil => exact fun s g w => g.out hf tk w
  | bare hc su r ih =>
    rintro s g ⟨b, h1, h2, h3⟩
    refine wpAny_handleBy_cons (g.ask hs hf hc h1 ?_) (by intro z; cases z)
    cases b with
    | false => exact ih s g (h3 rfl)
    | true =>
      refine codeAny_handlers_suite (HandSPX.lands_againZ g.fl fun h4 f4 u4 => ?_)
      have g := g.on f4 u4
      obtain ⟨oe, z1, z2, _, S⟩ := g.within hs hf
      refine wpAny_mono ((su a oe cls d (X.pn ++ pins) z1 z2).run [] _ _ H _ S (h2 rfl a g.na)) (fun f s6 e => ?_) (fun _ _ z => False.elim z)
      cases f with
      | ret u => exact (fun ⟨v, σ6, H6, S6, r6, q6⟩ => ⟨v, σ6, H6, S6.unsuite g.src.ok, r6, q6⟩) e
      | _ => exact (fun ⟨σ6, H6, S6, q6⟩ => ⟨σ6, H6, S6.unsuite g.src.ok, q6⟩) e
  | named k hc hi hl su r ih =>
    rintro s g ⟨b, h1, h2, h3⟩
    refine wpAny_handleBy_cons (g.ask hs hf hc h1 ?_) (by intro z; cases z)
    cases b with
    | false => exact ih s g (h3 rfl)
    | true =>
      refine codeAny_handlers_suite_as (HandSPX.lands_againZ g.fl fun h4 f4 u4 => ?_)
      have g := g.on f4 u4
      obtain ⟨oe, z1, z2, _, S⟩ := g.within hs hf
      refine store_ok (X := X.suite a ((a, oe) :: (X.pn ++ pins))) (v := .ref a) S hN hi (.inl hl) rfl (fun s5 S5 => ?_) (.inr hl)
      have q0 := h2 rfl a g.na
      have ok := g.src.ok
      cases k with
      | false =>
        refine wpAny_mono ((su a oe cls d (X.pn ++ pins) z1 z2).run [] s5 _ H _ S5 q0) (fun f s6 e => ?_) (fun _ _ z => False.elim z)
        cases f with
        | ret u => exact (fun ⟨v, σ6, H6, S6, r6, q6⟩ => gone_ok (S6.unsuite ok) hN hi hl fun s7 J => ⟨v, _, H6, J, r6, q6⟩) e
        | _ => exact (fun ⟨σ6, H6, S6, q6⟩ => gone_ok (S6.unsuite ok) hN hi hl fun s7 J => ⟨_, H6, J, q6⟩) e
      | true =>
        refine wpAny_mono ((su a oe cls d (X.pn ++ pins) z1 z2).run [] s5 _ H _ S5 q0) (fun f s6 e => ?_) (fun _ _ z => False.elim z)
        cases f with
        | next =>
          obtain ⟨σ6, H6, S6, q6⟩ := e
          obtain ⟨p1, p2, _⟩ := S6.pin (a, oe) (List.mem_append_left _ (List.Mem.head _))
          exact gone_ok (inv_layX (S6.unsuite ok) p1 z1 z2 p2 (g.new0 hex) g.nopin (g.nL hs hf)) hN hi hl fun s7 J => ⟨_, _, J, q6 p2⟩
        | ret u => exact (fun ⟨v, σ6, H6, S6, r6, q6⟩ => gone_ok (S6.unsuite ok) hN hi hl fun s7 J => ⟨v, _, H6, J, r6, q6⟩) e
        | brk => exact (fun ⟨σ6, H6, S6, q6⟩ => gone_ok (S6.unsuite ok) hN hi hl fun s7 J => ⟨_, H6, J, q6⟩) e
        | cont => exact (fun ⟨σ6, H6, S6, q6⟩ => gone_ok (S6.unsuite ok) hN hi hl fun s7 J => ⟨_, H6, J, q6⟩) e
/-- try: .. except ..: .. -/
theorem ps_tryC {body : List Stmt} {h₀ : ExceptHandler} {hds : List ExceptHandler} {l : Clauses} {pos : Pos} {tb : WX → TS} (hs : X.stack = X.env :: X.outer) (hf : X.env.frame = some X.env.locals) (hN : X.N.Nodup) (hex : X.ex = []) (tk : L2N.Takes X W)
    (hb : ∀ (W : WX) (pn : List (Addr × Obj)) (xe : Value → Shared → Prop), L2N.Takes (X.tr pn xe) W → PassesOwn (model X.prog X.w) X.A X.env xe → PSs (X.tr pn xe) body (tb W))
    (hh : ClOk X (h₀ :: hds) l) : PS X (.Try body (h₀ :: hds) [] [] pos) (fun D σ H => tb (wCl X.K W D l) D σ H) := by
  refine ⟨fun pins s σ H D I h => wpAny_Try_except (wpAny_mono ((hb (wCl X.K W D l) (X.pn ++ pins) _ (fun u s2 x => ?_) PassesOwn.looking).run [] s σ H D (I.toTry _) h) (fun f s2 e => ?_) fun _ _ z => z)⟩
  · obtain ⟨a, B, t, pins', σ', H', cls, d, rfl, J, nb, up, sky, na, os, ag, w⟩ := x
    have fr : X.A.frames = some (X.env :: X.outer) := by rw [I.ok.frames, hs]
    have sky2 : Sky B (X.env :: X.outer) a (L2N.Zn cls d) X.env.locals s2.heap := by rw [← hs]; exact sky
    exact L2N.Sky.land L2N.Zn.steady fr hf sky2 fun h3 f3 u3 => clauses_run hs hf hN hex tk hh _ ⟨J.ofTry I.ok, nb, up.trans u3, os, ag, by rw [hs]; exact f3, na⟩ w
  · cases f with
    | ret u => exact (fun ⟨v, σ1, H1, J, r, q⟩ => ⟨v, σ1, H1, J.ofTry I.ok, r, q⟩) e
    | next => exact (fun ⟨σ1, H1, J, q⟩ => wpAny_execs_nil ⟨σ1, H1, J.ofTry I.ok, q⟩) e
    | _ => exact (fun ⟨σ1, H1, J, q⟩ => ⟨σ1, H1, J.ofTry I.ok, q⟩) e
end
/-! the exception as data -/
def rX (es : Eds) (ks : List Ek) : Rp Er := fun F v e => ∃ a : Addr, v = .ref a ∧ F a = some (ExH a (.ref (es.at e.k)) none) ∧ e.plain = true ∧ e.k ∈ ks
theorem mX (es : Eds) (ks : List Ek) : Mono (rX es ks) := fun F F' v e x h => by
  obtain ⟨a, h1, h2, h3⟩ := h
  exact ⟨a, h1, x _ _ h2, h3⟩
theorem nnX {es : Eds} {ks : List Ek} : NN (rX es ks) := fun F v e h => by
  obtain ⟨a, rfl, _⟩ := h
  simp
theorem rX_ref {es : Eds} {ks : List Ek} {F : Hp} {v : V} {e : Er} (h : rX es ks F v e) : ∃ p, v = .ref p := by
  obtain ⟨a, h1, _⟩ := h
  exact ⟨a, h1⟩
theorem rX_k {es : Eds} {ks : List Ek} {F : Hp} {v : V} {e : Er} (h : rX es ks F v e) : e.k ∈ ks := by
  obtain ⟨_, _, _, _, h1⟩ := h
  exact h1
theorem Own.layE {es : Eds} {ks : List Ek} {R H : Hp} {L : List Cell} {a : Addr} {e : Er} (O : Own R H L) (hn : H a = none) (hp : e.plain = true) (hk : e.k ∈ ks) : ∃ R', Own R' (upd H a (ExH a (.ref (es.at e.k)) none)) L ∧ Ex R R' ∧ ∀ R0 Hb, Ex Hb R → rX es ks (ovr R0 Hb R') (.ref a) e := by
  refine ⟨upd R a (ExH a (.ref (es.at e.k)) none), (O.new hn).freeze, Ex.new (O.ex.back hn), fun R0 Hb eB => ⟨a, rfl, ovr_mk (.inr (eB.back (O.ex.back hn))) upd_same, hp, hk⟩⟩
theorem rX_up {es : Eds} {ks : List Ek} {R0 Hb R : Hp} {v : V} {e : Er} (h : rX es ks (ovr R0 Hb R) v e) : rX es ks R v e := mX es ks _ _ _ _ ovr_ex h
/-! isinstance of it -/
def rIsH (K : PySem.W.Frag) (es : Eds) (ks : List Ek) : List V → Hp → VK → Prop := fun xs H Q => ∃ (x c : V) (e : Er) (cv : Value) (b : Bool), xs = [x, c] ∧ ClsV c cv ∧ rX es ks H x e ∧ PySem.W.kitOne K (.ref (es.at e.k)) cv = some b ∧ Q (.bl b) H
theorem inst_h {X : Cx} {pins : List (Addr × Obj)} {σ : L2.St} {H : Hp} {s : Shared} {a D : Addr} (I : Inv X pins σ H s) (h : H a = some (ExH a (.ref D) none)) : ∃ oe od, PySem.W.InstAt s.heap a oe D od := by
  obtain ⟨⟨oe, vs, he, hz, hd⟩, _⟩ := (show ObjOk X.prog X.w H s.heap a (ExH a (.ref D) none) from I.hok a _ h)
  obtain ⟨oc, od, oda, osl⟩ := oe
  obtain ⟨h1, h2, _⟩ := hz
  dsimp only at h1 h2 hd
  subst h1 h2 hd
  exact ⟨_, none, he, rfl, rfl, trivial⟩
theorem call_isH {X : Cx} {es : Eds} {ks : List Ek} (T : EcF X.K es ks) : CallR X (.builtin "isinstance") (rIsH X.K es ks) := by
  intro pins s σ H xs us Q I r h
  obtain ⟨x, c, ex, cv, b, rfl, hcv, ⟨a, rfl, hd, _, hk⟩, e, q⟩ := h
  obtain ⟨u1, u2, rfl, r1, r2⟩ := vals2 r
  cases (show u1 = Value.ref a from r1)
  have ec := hcv.eq r2
  subst ec
  have C := T.ec _ hk
  obtain ⟨oe, od, J⟩ := inst_h I hd
  exact PySem.W.kia_one (PySem.W.kitx_exc (exc_cls C) C.hg C.hk C.hs C.ha C.hn C.ht C.hm) I.kIn J e (fun z => nomatch z) fun tk => ⟨.bl b, H, I.kept (t' := tk) fun _ _ z => z, rfl, q⟩
def rIsHt (K : PySem.W.Frag) (es : Eds) (ks : List Ek) : List V → Hp → VK → Prop := fun xs H Q => ∃ (x : V) (tp : Addr) (ex : Er) (cs : List V) (us : List Value) (b : Bool), xs = [x, .ref tp] ∧ rX es ks H x ex ∧ H tp = some (.tup cs) ∧ Paired ClsV cs us ∧ PySem.W.kitAny K (.ref (es.at ex.k)) us = some b ∧ Q (.bl b) H
theorem call_isHt {X : Cx} {es : Eds} {ks : List Ek} (T : EcF X.K es ks) : CallR X (.builtin "isinstance") (rIsHt X.K es ks) := by
  intro pins s σ H xs us Q I r h
  obtain ⟨x, tp, ex, cs, ws, b, rfl, ⟨a, rfl, hd, _, hk⟩, hT, k, e, q⟩ := h
  obtain ⟨u1, u2, rfl, r1, r2⟩ := vals2 r
  cases (show u1 = Value.ref a from r1)
  cases (show u2 = Value.ref tp from r2)
  obtain ⟨_, its, rv, o, h1, h2, n, h3⟩ := (show ObjOk X.prog X.w H s.heap tp (.tup cs) from I.hok tp _ hT)
  have e3 := ClsV.all k rv
  subst e3
  obtain ⟨oc, od, dt, sl⟩ := o
  simp only at h2 h3
  subst h2 h3
  have C := T.ec _ hk
  obtain ⟨oe, od, J⟩ := inst_h I hd
  exact PySem.W.kia_tup (PySem.W.kitx_exc (exc_cls C) C.hg C.hk C.hs C.ha C.hn C.ht C.hm) I.kIn J h1 e (fun z => nomatch z) fun tk => ⟨.bl b, H, I.kept (t' := tk) fun _ _ z => z, rfl, q⟩
theorem exE2 {es : Eds} {ks : List Ek} {cls : Value} {dd : Option Addr} {H H' : Hp} {t : Er → TS} {D : Ends} {σ : L2.St} {e : Er} (hX : XFl e dd H') (hk : e.k ∈ ks) (hc : cls = .ref (es.at e.k)) (q : t e D σ H) : ∃ e : Er, e.k ∈ ks ∧ cls = .ref (es.at e.k) ∧ t e D σ H := ⟨e, hk, hc, q⟩
end Bt

set_option linter.all false
set_option maxRecDepth 100000
set_option maxHeartbeats 1000000
/-! What was told, its inner lists changed by its asker: a loop over them all. -/
namespace Bt
open PySem L2
def NoL {α : Type} (P : Rp α) : Prop := ∀ F v x, P F v x → ∀ p ws, v = .ref p → F p = some (.lst ws) → False
theorem noI : NoL rI := fun F v x h p ws e _ => by
  rw [show v = V.int x from h] at e
  cases e
theorem noB : NoL rB := fun F v x h p ws e _ => by
  rw [show v = V.bl x from h] at e
  cases e
theorem noS : NoL rS := fun F v x h p ws e _ => by
  rw [show v = V.str x from h] at e
  cases e
theorem noT2 {α β : Type} {P : Rp α} {P' : Rp β} : NoL (rT2 P P') := fun F v x h p ws e k => by
  obtain ⟨q, _, _, rfl, h1, _⟩ := h
  cases e
  rw [h1] at k
  cases k
theorem noT3 {α β γ : Type} {P : Rp α} {P' : Rp β} {P3 : Rp γ} : NoL (rT3 P P' P3) := fun F v x h p ws e k => by
  obtain ⟨q, _, _, _, rfl, h1, _⟩ := h
  cases e
  rw [h1] at k
  cases k
def pokeG {α : Type} (xs : List (List α)) : Option Unit := grd (∀ r ∈ xs, r.length + xs.length ≤ 16777216) ()
def PkR (Rs : Hp) (a : Addr) (vs : List V) (B : Nat) (R : Hp) : Prop :=
  Ex Rs R ∧ R a = some (.lst vs) ∧ ∀ v ∈ vs, ∃ p ws, v = .ref p ∧ p ≠ a ∧ Rs p = none ∧ R p = some (.lst ws) ∧ ws.length ≤ B
def PkJ (Rs : Hp) (L : List Cell) (a : Addr) (vs : List V) (n : Nat) (H : Hp) : Prop := ∃ B R, B + n ≤ 16777216 ∧ Own R H L ∧ PkR Rs a vs B R
theorem All2.memL {α β : Type} {P : α → β → Prop} {as : List α} {bs : List β} (h : All2 P as bs) : ∀ a ∈ as, ∃ b ∈ bs, P a b := by
  induction h with
  | nil => exact fun _ h => nomatch h
  | cons k _ ih =>
    intro a ha
    rcases List.mem_cons.mp ha with rfl | ha
    · exact ⟨_, List.Mem.head _, k⟩
    · obtain ⟨b, hb, hp⟩ := ih a ha
      exact ⟨b, List.Mem.tail _ hb, hp⟩
theorem pk_start1 {α : Type} {P : Rp α} {Rs X R H : Hp} {L : List Cell} {a : Addr} {vs : List V} {xs : List (List α)} {u : Unit} (O : Own R H L) (e : Ex Rs R) (hX : ∀ p ws, X p = some (.lst ws) → Rs p = none) (eX : Ex X R) (h1 : X a = some (.lst vs)) (h2 : All2 (rL P X) vs xs) (nl : NoL P) (hb : pokeG xs = some u) : PkJ Rs L a vs xs.length H := by
  obtain ⟨hb, _⟩ := grdE hb
  have hle : ∀ v ∈ vs, ∃ p ws, v = .ref p ∧ p ≠ a ∧ Rs p = none ∧ R p = some (.lst ws) ∧ ws.length + xs.length ≤ 16777216 := fun v hv => by
    obtain ⟨r, hr, p, ws, rfl, k1, k2⟩ := h2.memL v hv
    refine ⟨p, ws, rfl, fun z => ?_, hX _ _ k1, eX _ _ k1, by rw [k2.len]; exact hb r hr⟩
    subst z
    rw [h1] at k1
    cases k1
    obtain ⟨y, _, hy⟩ := k2.memL _ hv
    exact nl _ _ _ hy _ _ rfl h1
  by_cases hx : xs.length ≤ 16777216
  · refine ⟨16777216 - xs.length, R, by omega, O, e, eX _ _ h1, fun v hv => ?_⟩
    obtain ⟨p, ws, a1, a2, a3, a4, a5⟩ := hle v hv
    exact ⟨p, ws, a1, a2, a3, a4, by omega⟩
  · exfalso
    cases xs with
    | nil => simp at hx
    | cons r q =>
      have := hb r (List.Mem.head _)
      omega
theorem pk_start {α : Type} {P : Rp α} {Rs Hc R H : Hp} {L : List Cell} {a : Addr} {vs : List V} {xs : List (List α)} {u : Unit} (O : Own R H L) (e : Ex Rs R) (hc : Ex Rs Hc) (h1 : ovr (fun _ => none) Hc R a = some (.lst vs)) (h2 : All2 (rL P (ovr (fun _ => none) Hc R)) vs xs) (nl : NoL P) (hb : pokeG xs = some u) : PkJ Rs L a vs xs.length H :=
  pk_start1 O e (fun p ws h => by
    obtain ⟨c, _⟩ := ovr_some h
    rcases c with c | c
    · exact absurd rfl c
    · exact hc.back c) ovr_ex h1 h2 nl hb
theorem pk_as {Rs Fr Hc R : Hp} (eF : Ex Fr R) (hF : ∀ p o, Fr p = some o → Rs p = none ∨ ∃ t, o = .tup t) (hc : Ex Rs Hc) : ∀ p ws, ovr Fr Hc R p = some (.lst ws) → Rs p = none := fun p ws h => by
  obtain ⟨c, k⟩ := ovr_some h
  rcases c with c | c
  · cases e : Fr p with
    | none => exact absurd e c
    | some o =>
      rcases hF p o e with q | ⟨t, rfl⟩
      · exact q
      · rw [eF _ _ e] at k
        cases k
  · exact hc.back c
/-! the frame that a call needs to know: some cells, and all tuples -/
def lonR (as : List Addr) (F : Hp) : Hp := fun x => if x ∈ as then F x else match F x with
  | some (.tup t) => some (.tup t)
  | _ => none
theorem lonR_ex {as : List Addr} {F : Hp} : Ex (lonR as F) F := fun x o h => by
  unfold lonR at h
  split at h
  · exact h
  · split at h
    · rename_i t e
      rw [e, ← h]
    · cases h
theorem lonR_tup {as : List Addr} {F : Hp} {x : Addr} {t : List V} (h : F x = some (.tup t)) : lonR as F x = some (.tup t) := by
  unfold lonR
  split
  · exact h
  · rw [h]
theorem lonR_or {as : List Addr} {F Hs : Hp} (h : ∀ p, p ∈ as → Hs p = none) : ∀ p o, lonR as F p = some o → Hs p = none ∨ ∃ t, o = .tup t := fun p o e => by
  unfold lonR at e
  split at e
  · exact .inl (h p (by assumption))
  · split at e
    · exact .inr ⟨_, (Option.some.inj e).symm⟩
    · cases e
def TpO {α : Type} (P : Rp α) : Prop := ∀ as F v x, P F v x → P (lonR as F) v x
theorem tpI : TpO rI := fun _ _ _ _ h => h
theorem tpB : TpO rB := fun _ _ _ _ h => h
theorem tpS : TpO rS := fun _ _ _ _ h => h
theorem tpT2 {α β : Type} {P : Rp α} {P' : Rp β} (m : TpO P) (n : TpO P') : TpO (rT2 P P') := fun as F v x h => by
  obtain ⟨p, a, b, rfl, h1, h2, h3⟩ := h
  exact ⟨p, a, b, rfl, lonR_tup h1, m _ _ _ _ h2, n _ _ _ _ h3⟩
theorem tpT3 {α β γ : Type} {P : Rp α} {P' : Rp β} {P3 : Rp γ} (m : TpO P) (n : TpO P') (o : TpO P3) : TpO (rT3 P P' P3) := fun as F v x h => by
  obtain ⟨p, a, b, c, rfl, h1, h2, h3, h4⟩ := h
  exact ⟨p, a, b, c, rfl, lonR_tup h1, m _ _ _ _ h2, n _ _ _ _ h3, o _ _ _ _ h4⟩
theorem lonL {α : Type} {P : Rp α} {as : List Addr} {F : Hp} {a : Addr} {xs : List α} (h : rL P F (.ref a) xs) (hm : a ∈ as) (tp : TpO P) : rL P (lonR as F) (.ref a) xs := by
  obtain ⟨p, vs, e, h1, h2⟩ := h
  cases e
  refine ⟨_, vs, rfl, ?_, h2.mp fun v x h => tp _ _ _ _ h⟩
  unfold lonR
  rw [if_pos hm]
  exact h1
theorem ovr_lo {as : List Addr} {R0 Hb Hc H0 R Fr : Hp} (hF : Fr = lonR as (ovr R0 Hb H0)) (e : Ex Hb Hc) : Ex (ovr Fr Hc R) (ovr R0 Hb R) := fun a o h => by
  obtain ⟨q, h1⟩ := ovr_some h
  refine ovr_mk ?_ h1
  rcases q with q | q
  · cases z : Fr a with
    | none => exact absurd z q
    | some u =>
      rw [hF] at z
      exact (ovr_some (lonR_ex _ _ z)).1
  · exact .inr (e.back q)
theorem Own.retX1 {A R H Hc : Hp} {B C : List Cell} {D : DT} {Q : VK} (O : Own R H (B ++ C)) (m : MonoD D) (hc : Hc = hsub H B) (hA : Ex A R) (k : ∀ v H' R' L', Own R' H' (L' ++ C) → Ex R R' → D (ovr A Hc R') v L' → Q v H') : RetX A (hsub H B) D Q := fun v H' R' L' e O' d => by
  obtain ⟨R'', O'', e1, e2⟩ := O.back e O'
  subst hc
  refine k v H' R'' L' O'' e1 (m _ _ _ _ (fun a u h => ?_) d)
  obtain ⟨q, _⟩ := ovr_some h
  exact ovr_mk q (e2 _ hA _ _ h)
theorem k_pokeP {Rs R H : Hp} {L E : List Cell} {a q : Addr} {v : V} {vs : List V} {B n : Nat} {Q : VK} (O : Own R H (E ++ L)) (hP : PkR Rs a vs B R) (hm : V.ref q ∈ vs) (hB : B + (n + 1) ≤ 16777216) (k : ∀ H', PkJ Rs L a vs n H' → Q .non H') : rAppend (.ref q) [v] H Q := by
  obtain ⟨e, h1, h2⟩ := hP
  obtain ⟨p, ws, a1, a2, a3, b1, a4⟩ := h2 _ hm
  cases a1
  refine ⟨q, ws, v, rfl, rfl, O.ex _ _ b1, by show _ < 16777216; omega, k _ ⟨B + 1, upd R q (.lst (ws ++ [v])), by omega, ?_, ?_, ?_, ?_⟩⟩
  · have O := O.right
    have hne : ∀ c ∈ L, c.1 ≠ q := fun c hc z => by
      have := O.fr c hc
      rw [z, b1] at this
      cases this
    refine ⟨fun x u h => ?_, fun c hc => ?_, fun c hc => ?_, O.nd⟩
    · by_cases z : x = q
      · subst z
        rw [upd_same] at h ⊢
        exact h
      · rw [upd_ne z] at h ⊢
        exact O.ex _ _ h
    · rw [upd_ne (hne c hc)]
      exact O.at_ c hc
    · rw [upd_ne (hne c hc)]
      exact O.fr c hc
  · intro x u h
    rw [upd_ne (ne_of_none h a3)]
    exact e _ _ h
  · rw [upd_ne (Ne.symm a2)]
    exact h1
  · intro w hw
    obtain ⟨p, us, c1, c2, c3, c4, c5⟩ := h2 w hw
    by_cases z : p = q
    · subst z
      rw [b1] at c4
      cases c4
      exact ⟨p, _, c1, c2, c3, upd_same, by simp; omega⟩
    · exact ⟨p, us, c1, c2, c3, by rw [upd_ne z]; exact c4, by omega⟩
theorem q_forP {α : Type} {K : PySem.W.Frag} {Rs H : Hp} {L : List Cell} {a : Addr} {vs : List V} {xs : List α} {j : Nat} {ts : TS} {n : St → Hp → Prop} {w : VK} {σ : St} (σ1 : Option V → St) (hl : vs.length = xs.length) (hP : PkJ Rs L a vs xs.length H) (h0 : ∃ u, σ = σ1 u) (hj : ∀ u v, (σ1 u).set j (some v) = σ1 (some v))
    (hs : ∀ q m B R H, Own R H L → PkR Rs a vs B R → V.ref q ∈ vs → B + (m + 1) ≤ 16777216 → (∃ ws, H q = some (.lst ws)) → ts (Ends.mk (fun σ H => (∃ u, σ = σ1 u) ∧ PkJ Rs L a vs m H) w n (fun σ H => (∃ u, σ = σ1 u) ∧ PkJ Rs L a vs m H)) (σ1 (some (.ref q))) H)
    (hd : ∀ u H, Own Rs H L → n (σ1 u) H) :
    ∃ W : Nat → Nat → St → Hp → Prop, (∃ m, W 0 m σ H) ∧ ∀ i m σ H, W i m σ H →
      ((Itl K a).stop i H ∧ n σ H) ∨ ((Itl K a).go i H ∧ ∃ N : St → Hp → Prop, (∀ σ' H', N σ' H' → ∃ m', m' < m ∧ W (i + 1) m' σ' H') ∧ ∀ x H', (Itl K a).yld i H x H' → gName j x σ H' fun σ2 H2 => ts (Ends.mk N w n N) σ2 H2) := by
  refine q_forA (P := fun v (_ : α) => v ∈ vs) (b := fun _ _ => False) (k := fun _ _ => False) (xs := xs) (All2.of_get hl fun i x y e _ => List.mem_of_getElem? e) (fun r σ H => (∃ u, σ = σ1 u) ∧ PkJ Rs L a vs r.length H) ⟨h0, hP⟩ (fun r σ H h => ?_) (fun x v r σ H hv h => ?_) (fun σ H h => ?_)
  · obtain ⟨_, B, R, _, O, _, h1, _⟩ := h
    exact SqL.of (O.ex _ _ h1)
  · obtain ⟨⟨u, rfl⟩, B, R, h1, O, h2⟩ := h
    obtain ⟨p, ws, rfl, _, _, h3, _⟩ := h2.2.2 v hv
    rw [hj]
    exact hs p r.length B R H O h2 hv h1 ⟨ws, O.ex _ _ h3⟩
  · obtain ⟨⟨u, rfl⟩, B, R, h1, O, h2⟩ := h
    exact hd u H (O.shrink h2.1)
theorem pk_none {Rs Hc R : Hp} {a : Addr} {o : HO} (hc : Ex Rs Hc) (h1 : ovr (fun _ => none) Hc R a = some o) : Rs a = none := by
  obtain ⟨c, _⟩ := ovr_some h1
  rcases c with c | c
  · exact absurd rfl c
  · exact hc.back c
def pokeO {α : Type} (xs : List α) : Option Unit := grd (xs.length < 16777216) ()
theorem k_pokeO {α : Type} {P : Rp α} {F Rs R H : Hp} {L E : List Cell} {a : Addr} {v : V} {vs : List V} {xs : List α} {B : Nat} {u : Unit} {Q : VK} (O : Own R H (E ++ L)) (hP : PkR Rs a vs B R) (hz : Rs a = none) (h2 : All2 (P F) vs xs) (hb : pokeO xs = some u) (k : ∀ H', Own Rs H' L → Q .non H') : rAppend (.ref a) [v] H Q := by
  obtain ⟨hb, _⟩ := grdE hb
  obtain ⟨e, h1, _⟩ := hP
  refine ⟨a, vs, v, rfl, rfl, O.ex _ _ h1, by show _ < 16777216; rw [h2.len]; exact hb, k _ ?_⟩
  have O := O.right
  have hne : ∀ c ∈ L, c.1 ≠ a := fun c hc z => by
    have := O.fr c hc
    rw [z, h1] at this
    cases this
  refine ⟨fun x u h => ?_, fun c hc => ?_, fun c hc => ?_, O.nd⟩
  · by_cases z : x = a
    · subst z
      rw [hz] at h
      cases h
    · rw [upd_ne z]
      exact O.ex _ _ (e _ _ h)
  · rw [upd_ne (hne c hc)]
    exact O.at_ c hc
  · cases q : Rs c.1 with
    | none => rfl
    | some o =>
      have := e _ _ q
      rw [O.fr c hc] at this
      cases this
theorem q_forP2 {α : Type} {K : PySem.W.Frag} {Rs H : Hp} {L : List Cell} {a : Addr} {vs : List V} {xs : List α} {j : Nat} {ts : TS} {n : St → Hp → Prop} {w : VK} {σ : St} (σ1 : Option V → St) (hl : vs.length = xs.length) (hP : PkJ Rs L a vs xs.length H) (h0 : ∃ u, σ = σ1 u) (hj : ∀ u v, (σ1 u).set j (some v) = σ1 (some v))
    (hs : ∀ q m B R H, Own R H L → PkR Rs a vs B R → V.ref q ∈ vs → B + (m + 1) ≤ 16777216 → (∃ ws, H q = some (.lst ws)) → ts (Ends.mk (fun σ H => (∃ u, σ = σ1 u) ∧ PkJ Rs L a vs m H) w n (fun σ H => (∃ u, σ = σ1 u) ∧ PkJ Rs L a vs m H)) (σ1 (some (.ref q))) H)
    (hd : ∀ u H B R, Own R H L → PkR Rs a vs B R → n (σ1 u) H) :
    ∃ W : Nat → Nat → St → Hp → Prop, (∃ m, W 0 m σ H) ∧ ∀ i m σ H, W i m σ H →
      ((Itl K a).stop i H ∧ n σ H) ∨ ((Itl K a).go i H ∧ ∃ N : St → Hp → Prop, (∀ σ' H', N σ' H' → ∃ m', m' < m ∧ W (i + 1) m' σ' H') ∧ ∀ x H', (Itl K a).yld i H x H' → gName j x σ H' fun σ2 H2 => ts (Ends.mk N w n N) σ2 H2) := by
  refine q_forA (P := fun v (_ : α) => v ∈ vs) (b := fun _ _ => False) (k := fun _ _ => False) (xs := xs) (All2.of_get hl fun i x y e _ => List.mem_of_getElem? e) (fun r σ H => (∃ u, σ = σ1 u) ∧ PkJ Rs L a vs r.length H) ⟨h0, hP⟩ (fun r σ H h => ?_) (fun x v r σ H hv h => ?_) (fun σ H h => ?_)
  · obtain ⟨_, B, R, _, O, _, h1, _⟩ := h
    exact SqL.of (O.ex _ _ h1)
  · obtain ⟨⟨u, rfl⟩, B, R, h1, O, h2⟩ := h
    obtain ⟨p, ws, rfl, _, _, h3, _⟩ := h2.2.2 v hv
    rw [hj]
    exact hs p r.length B R H O h2 hv h1 ⟨ws, O.ex _ _ h3⟩
  · obtain ⟨⟨u, rfl⟩, B, R, h1, O, h2⟩ := h
    exact hd u H B R O h2
end Bt

set_option linter.all false
set_option maxRecDepth 100000
set_option maxHeartbeats 1000000
/-! Texts. -/
namespace Bt
open PySem L2
def sg (c : Nat) : Str := ⟨#[c]⟩
/-- the signs of a text -/
def sgs (z : Str) : List Str := z.cps.toList.map sg
def ixS (z : Str) (i : Int) : Option Str := bnd (grd (z.length ≤ 16777216) (sgs z)) fun l => atI l i
def slS (z : Str) (lo hi : Option Int) : Option Str := grd (z.length ≤ 16777216) (cutS z lo hi)
def addS (x y : Str) : Option Str := grd (x.length + y.length ≤ 16777216) (x ++ y)
def lenS (z : Str) : Option Int := grd (z.length ≤ 16777216) (z.length : Int)
def joinS (a : Str) (ys : List Str) : Option Str := grd ((ys.map (·.length)).sum + ys.length * a.length ≤ 16777216) (Txt.join a ys)
section
variable {K : PySem.W.Frag} {σ : St} {H R : Hp} {L : List Cell} {Q : VK} {i : Int} {x y z : Str} {lo hi : Option Int} {p : Addr} {ys : List Str} {n : Int}
theorem atI_map {α β : Type} {f : α → β} {xs : List α} {i : Int} {v : β} (h : atI (xs.map f) i = some v) : ∃ u, atI xs i = some u ∧ v = f u := by
  unfold atI at h ⊢
  rw [List.length_map] at h
  cases e : ixN xs.length i with
  | none => rw [e] at h; cases h
  | some j =>
    rw [e] at h
    have h : (xs.map f)[j]? = some v := h
    rw [List.getElem?_map] at h
    cases e2 : xs[j]? with
    | none => rw [e2] at h; cases h
    | some u =>
      rw [e2] at h
      exact ⟨u, e2, (Option.some.inj h).symm⟩
theorem k_ixS (h : ixS z i = some y) (k : Q (.str y) H) : rIxS (.str z) (.int i) H Q := by
  obtain ⟨l, h1, h2⟩ := bndE h
  obtain ⟨c, rfl⟩ := grdE h1
  obtain ⟨u, e1, rfl⟩ := atI_map h2
  exact ⟨z, i, u, rfl, rfl, c, e1, k⟩
theorem k_slS (h : slS z lo hi = some y) (k : Q (.str y) H) : rSlS (.str z) lo hi H Q := by
  obtain ⟨c, rfl⟩ := grdE h
  exact ⟨z, rfl, c, k⟩
def rAddZ : R2 := fun x y H Q => ∃ i j, x = .str i ∧ y = .str j ∧ i.length + j.length ≤ sizeLine ∧ Q (.str (i ++ j)) H
theorem op_addZ {X : Cx} : OpR X (binaryOp .Add) rAddZ := op_add_str
theorem k_addS (h : addS x y = some z) (k : Q (.str z) H) : rAddZ (.str x) (.str y) H Q := by
  obtain ⟨c, rfl⟩ := grdE h
  exact ⟨x, y, rfl, rfl, c, k⟩
def rLenZ : List V → Hp → VK → Prop := fun xs H Q => ∃ z : Str, xs = [.str z] ∧ z.length ≤ sizeLine ∧ Q (.int (z.length : Int)) H
theorem call_lenZ {X : Cx} : CallR X (.builtin "len") rLenZ := call_len_str
theorem n_lenZ (h : lenS z = some n) (k : Q (.int n) H) : rLenZ [.str z] H Q := by
  obtain ⟨c, rfl⟩ := grdE h
  exact ⟨z, rfl, c, k⟩
theorem o_m1 {to te : TE} {r : V → List V → Hp → VK → Prop} (h : to σ H fun x H1 => (∃ a, x = .str a) ∧ te σ H1 fun y H2 => r x [y] H2 Q) : tM1 r to te σ H Q := h
def rJoin (K : PySem.W.Frag) : V → List V → Hp → VK → Prop := fun x xs H Q => ∃ a p, ∃ ys : List Str, x = .str a ∧ xs = [.ref p] ∧ (SqL K H p (ys.map V.str) ∨ SqT K H p (ys.map V.str)) ∧ (ys.map (·.length)).sum + ys.length * a.length ≤ 16777216 ∧ Q (.str (Txt.join a ys)) H
theorem mt_joinZ {X : Cx} : MtR X "str.join" (rJoin X.K) := mt_join
theorem k_join (hs : SqL K H p (ys.map V.str)) (h : joinS x ys = some z) (k : Q (.str z) H) : rJoin K (.str x) [.ref p] H Q := by
  obtain ⟨c, rfl⟩ := grdE h
  exact ⟨x, p, ys, rfl, rfl, .inl hs, c, k⟩
theorem o_is {te : TE} {Rr : It → Hp → Prop} (h : te σ H fun v H1 => ∃ x, v = .str x ∧ Rr (Its x) H1) : iStr te σ H Rr := h
theorem q_forS {j : Nat} {z : Str} {ts : TS} {n b k : St → Hp → Prop} {w : VK} (J : List Str → St → Hp → Prop) (h0 : J (sgs z) σ H)
    (hs : ∀ x r σ H, J (x :: r) σ H → ts (Ends.mk (J r) w n (J r)) (σ.set j (some (.str x))) H) (hd : ∀ σ H, J [] σ H → n σ H) :
    ∃ W : Nat → Nat → St → Hp → Prop, (∃ m, W 0 m σ H) ∧ ∀ i m σ H, W i m σ H →
      ((Its z).stop i H ∧ n σ H) ∨ ((Its z).go i H ∧ ∃ N : St → Hp → Prop, (∀ σ' H', N σ' H' → ∃ m', m' < m ∧ W (i + 1) m' σ' H') ∧ ∀ x H', (Its z).yld i H x H' → gName j x σ H' fun σ2 H2 => ts (Ends.mk N w n N) σ2 H2) := by
  have hz : (sgs z).length = z.cps.size := by unfold sgs; simp
  refine ⟨fun i m σ H => m = z.cps.size - i ∧ i ≤ z.cps.size ∧ J ((sgs z).drop i) σ H, ⟨z.cps.size, by simp, Nat.zero_le _, h0⟩, ?_⟩
  rintro i m σ H ⟨rfl, hi, hJ⟩
  by_cases hlt : i < z.cps.size
  · have e : z.cps[i]? = some z.cps[i] := Array.getElem?_eq_getElem hlt
    have e2 : (sgs z).drop i = sg z.cps[i] :: (sgs z).drop (i + 1) := by
      rw [List.drop_eq_getElem_cons (by omega)]
      congr 1
      unfold sgs
      simp
    rw [e2] at hJ
    refine .inr ⟨hlt, J ((sgs z).drop (i + 1)), fun σ' H' hJ' => ⟨_, by omega, rfl, hlt, hJ'⟩, fun v H' hv => ?_⟩
    obtain ⟨rfl, c, hc, rfl⟩ := hv
    rw [e] at hc
    cases hc
    exact hs _ _ σ H' hJ
  · have : i = z.cps.size := by omega
    subst this
    rw [List.drop_of_length_le (by omega)] at hJ
    exact .inl ⟨Nat.le_refl _, hd σ H hJ⟩
def inS (x y : Str) : Bool := !(Builtin.Str.occurrences y x 0 y.length 1).isEmpty
def rInZ : R2 := fun x y H Q => ∃ i j, x = .str i ∧ y = .str j ∧ Q (.bl (inS i j)) H
theorem op_inZ {X : Cx} : OpR X (compareOp .In) rInZ := op_in_str
def rNiZ : R2 := fun x y H Q => ∃ i j, x = .str i ∧ y = .str j ∧ Q (.bl (!inS i j)) H
theorem op_niZ {X : Cx} : OpR X (compareOp .NotIn) rNiZ := op_notin_str
def strI (i : Int) : Option Str := grd (i.natAbs.log2 < 1920) (Str.ofString (toString i))
def rStrZ : List V → Hp → VK → Prop := fun xs H Q => ∃ i : Int, xs = [.int i] ∧ i.natAbs.log2 < 1920 ∧ Q (.str (Str.ofString (toString i))) H
theorem call_strZ {X : Cx} : CallR X (.type "str") rStrZ := call_str_int
theorem n_strZ (h : strI i = some z) (k : Q (.str z) H) : rStrZ [.int i] H Q := by
  obtain ⟨c, rfl⟩ := grdE h
  exact ⟨i, rfl, c, k⟩
def intS (z : Str) : Option Int := bnd (grd (z.length ≤ 640) ()) fun _ => intText? z
def rIntZ : List V → Hp → VK → Prop := fun xs H Q => ∃ (a : Str) (n : Int), xs = [.str a] ∧ PySem.intText? a = some n ∧ a.length ≤ 640 ∧ Q (.int n) H
theorem call_intZ {X : Cx} : CallR X (.type "int") rIntZ := call_int_str
theorem n_intZ (h : intS z = some n) (k : Q (.int n) H) : rIntZ [.str z] H Q := by
  obtain ⟨u, h1, h2⟩ := bndE h
  obtain ⟨c, _⟩ := grdE h1
  exact ⟨z, n, rfl, h2, c, k⟩
def zfS (z : Str) (i : Int) : Option Str := grd (PySem.PadOk i = true) (Txt.zfill z i)
def rZf : V → List V → Hp → VK → Prop := fun x xs H Q => ∃ (a : Str) (i : Int), x = .str a ∧ xs = [.int i] ∧ PySem.PadOk i = true ∧ Q (.str (Txt.zfill a i)) H
theorem mt_zfZ {X : Cx} : MtR X "str.zfill" rZf := mt_zfill
theorem k_zf (h : zfS x i = some z) (k : Q (.str z) H) : rZf (.str x) [.int i] H Q := by
  obtain ⟨c, rfl⟩ := grdE h
  exact ⟨x, i, rfl, rfl, c, k⟩
/-! range with a step -/
def rng3 (i j c : Int) : Option (List Int) := grd (0 < c ∧ c < 1000000 ∧ -(2 ^ 60) ≤ i ∧ i < 2 ^ 60 ∧ -(2 ^ 60) ≤ j ∧ j < 2 ^ 60) ((List.range (Builtin.Range.rangeSize i j c).toNat).map fun (k : Nat) => i + (k : Int) * c)
theorem rng3E {i j c : Int} {xs : List Int} (h : rng3 i j c = some xs) : RgC i j c (Builtin.Range.rangeSize i j c).toNat ∧ ((List.range (Builtin.Range.rangeSize i j c).toNat).map fun (k : Nat) => i + (k : Int) * c) = xs := by
  obtain ⟨⟨c0, c1, i0, i1, j0, j1⟩, rfl⟩ := grdE h
  have hs : 0 ≤ Builtin.Range.rangeSize i j c ∧ Builtin.Range.rangeSize i j c ≤ 2 ^ 62 := by
    unfold Builtin.Range.rangeSize
    rw [if_pos c0]
    split
    · rename_i hlt
      have h1 := Int.ediv_nonneg (show 0 ≤ j - i - 1 by omega) (show 0 ≤ c by omega)
      have h2 := Int.ediv_le_self c (show 0 ≤ j - i - 1 by omega)
      omega
    · omega
  refine ⟨⟨by omega, by omega, ?_, by omega⟩, rfl⟩
  unfold Builtin.Range.small
  generalize Builtin.Range.rangeSize i j c = z at hs
  simp only [Builtin.Range.rangeFitsLong, Bool.and_eq_true, Bool.or_eq_true, decide_eq_true_eq, beq_iff_eq, if_pos (show c > 0 from c0)]
  omega
theorem o_ir3 {tr : TA} {Rr : It → Hp → Prop} (h : tr σ H fun vs H1 => ∃ (i j c : Int) (n : Nat), vs = [.int i, .int j, .int c] ∧ RgC i j c n ∧ Rr (Itc i c n) H1) : iRng3 tr σ H Rr := h
theorem q_forC {j : Nat} {lo c : Int} {n : Nat} {ts : TS} {nx : St → Hp → Prop} {w : VK} (J : List Int → St → Hp → Prop) (h0 : J ((List.range n).map fun (i : Nat) => lo + (i : Int) * c) σ H)
    (hs : ∀ x r σ H, J (x :: r) σ H → ts (Ends.mk (J r) w nx (J r)) (σ.set j (some (.int x))) H) (hd : ∀ σ H, J [] σ H → nx σ H) :
    ∃ W : Nat → Nat → St → Hp → Prop, (∃ m, W 0 m σ H) ∧ ∀ i m σ H, W i m σ H →
      ((Itc lo c n).stop i H ∧ nx σ H) ∨ ((Itc lo c n).go i H ∧ ∃ N : St → Hp → Prop, (∀ σ' H', N σ' H' → ∃ m', m' < m ∧ W (i + 1) m' σ' H') ∧ ∀ x H', (Itc lo c n).yld i H x H' → gName j x σ H' fun σ2 H2 => ts (Ends.mk N w nx N) σ2 H2) := by
  have hz : ((List.range n).map fun (i : Nat) => lo + (i : Int) * c).length = n := by simp
  generalize hL : ((List.range n).map fun (i : Nat) => lo + (i : Int) * c) = L at h0 hz
  refine ⟨fun i m σ H => m = n - i ∧ i ≤ n ∧ J (L.drop i) σ H, ⟨n, by simp, Nat.zero_le _, h0⟩, ?_⟩
  rintro i m σ H ⟨rfl, hi, hJ⟩
  by_cases hlt : i < n
  · have e2 : L.drop i = (lo + (i : Int) * c) :: L.drop (i + 1) := by
      rw [List.drop_eq_getElem_cons (by omega)]
      congr 1
      subst hL
      simp
    rw [e2] at hJ
    refine .inr ⟨hlt, J (L.drop (i + 1)), fun σ' H' hJ' => ⟨_, by omega, rfl, hlt, hJ'⟩, fun v H' hv => ?_⟩
    obtain ⟨rfl, rfl⟩ := hv
    exact hs _ _ σ H' hJ
  · have : i = n := by omega
    subst this
    rw [List.drop_of_length_le (by omega)] at hJ
    exact .inl ⟨Nat.le_refl _, hd σ H hJ⟩
theorem k_inZ (q : Q (.bl (inS x y)) H) : rInZ (.str x) (.str y) H Q := ⟨x, y, rfl, rfl, q⟩
theorem k_niZ (q : Q (.bl (!inS x y)) H) : rNiZ (.str x) (.str y) H Q := ⟨x, y, rfl, rfl, q⟩
theorem gv_str {K : PySem.W.Frag} {h : Heap} {mg : Str → Option Value} {x s : Str} {t : Tok} (X : K.In h) (G : h.Ns mainGlobals mg) (a : PySem.W.nsIn K mainGlobals x = some (some (.str s t))) : Gv mg x (.str s) := ⟨_, PySem.W.mg_of X G a, _, rfl⟩
/-! text.index(sign), found -/
def idxS (x y : Str) : Option Int := match Builtin.Str.occurrences x y 0 x.length 1 with
  | i :: _ => some ((i : Nat) : Int)
  | [] => none
def rIndexZ : V → List V → Hp → VK → Prop := fun x xs H Q => ∃ a b i rest, x = .str a ∧ xs = [.str b] ∧ Builtin.Str.occurrences a b 0 a.length 1 = i :: rest ∧ Q (.int (i : Nat)) H
theorem mt_indexZ {X : Cx} : MtR X "str.index" rIndexZ := mt_sindex
theorem k_indexZ (h : idxS x y = some n) (k : Q (.int n) H) : rIndexZ (.str x) [.str y] H Q := by
  unfold idxS at h
  split at h
  · rename_i i r e
    cases h
    exact ⟨x, y, i, r, rfl, rfl, e, k⟩
  · cases h
/-! text * number -/
def repZ (x : Str) (n : Int) : Str := if n < 1 then Str.empty else if (n == 1 || x.length == 0) = true then x else ⟨(List.replicate n.toNat x.cps).foldl (· ++ ·) #[]⟩
def mulZ (x : Str) (n : Int) : Option Str := grd (0 ≤ n ∧ n ≤ 1000000 ∧ x.length * n.toNat ≤ 16777216 ∧ (repZ x n).length ≤ 16777216) (repZ x n)
def rMulZ : R2 := fun x y H Q => ∃ a n, x = .str a ∧ y = .int n ∧ 0 ≤ n ∧ n ≤ 1000000 ∧ a.length * n.toNat ≤ 16777216 ∧ (repZ a n).length ≤ 16777216 ∧ Q (.str (repZ a n)) H
theorem op_mulZ {X : Cx} : OpR X (binaryOp .Mult) rMulZ := by
  intro pins s σ H x y v u Q I rx ry h
  obtain ⟨a, n, rfl, rfl, h0, h1, h2, h3, q⟩ := h
  obtain ⟨t, rfl⟩ := rx
  obtain ⟨t', rfl⟩ := ry
  refine PySem.P.mul_str ?_ ?_ ?_ ?_
  · rw [decide_eq_false (by omega), decide_eq_false (by omega)]
    rfl
  · intro g1 g2 g3
    have e : (2 ^ 63 - 1 : Int) / n * n ≤ 2 ^ 63 - 1 := Int.ediv_mul_le _ (by omega)
    have e2 : ((a.length * n.toNat : Nat) : Int) = (a.length : Int) * n := by
      rw [Int.natCast_mul, Int.toNat_of_nonneg h0]
    have e3 : ((2 ^ 63 - 1 : Int) / n + 1) * n ≤ (a.length : Int) * n := Int.mul_le_mul_of_nonneg_right (by omega) h0
    have e4 : (2 ^ 63 - 1 : Int) < ((2 ^ 63 - 1 : Int) / n + 1) * n := by
      have := Int.lt_ediv_add_one_mul_self (2 ^ 63 - 1) (show 0 < n by omega)
      exact this
    omega
  · intro _ _
    unfold Builtin.Str.tooLong
    rw [sizeLine_eq]
    exact decide_eq_false (by omega)
  · unfold repZ at h3 q
    by_cases g1 : n < 1
    · rw [if_pos g1] at h3 q ⊢
      exact ⟨by decide, ⟨.str Str.empty, H, I.tok _, ⟨_, rfl⟩, q⟩⟩
    · rw [if_neg g1] at h3 q ⊢
      by_cases g2 : (n == 1 || a.length == 0) = true
      · rw [if_pos g2] at h3 q ⊢
        exact ⟨.str a, H, I, ⟨_, rfl⟩, q⟩
      · rw [if_neg g2] at h3 q ⊢
        exact ⟨h3, ⟨.str _, H, I.tok _, ⟨_, rfl⟩, q⟩⟩
theorem k_mulZ (h : mulZ x n = some z) (k : Q (.str z) H) : rMulZ (.str x) (.int n) H Q := by
  obtain ⟨⟨c1, c2, c3, c4⟩, rfl⟩ := grdE h
  exact ⟨x, n, rfl, rfl, c1, c2, c3, c4, k⟩
end
/-! xs.pop(i) -/
section
variable {α : Type} {f : α → V} {R H : Hp} {L : List Cell} {a : Addr} {xs ys : List α} {y : α} {i : Int} {Q : VK} {P : V → α → Prop} {vs : List V}
def popA (xs : List α) (i : Int) : Option (α × List α) := bnd (grd (xs.length ≤ 1000000000) ()) fun _ => bnd (ixN xs.length i) fun k => bnd xs[k]? fun y => some (y, xs.eraseIdx k)
def rPopI : V → List V → Hp → VK → Prop := fun x vs H Q => ∃ l xs i k y, x = .ref l ∧ vs = [.int i] ∧ H l = some (.lst xs) ∧ -(2 ^ 63) ≤ i ∧ i < 2 ^ 63 ∧ seqIndex? i xs.length = some k ∧ xs[k]? = some y ∧ Q y (upd H l (.lst (xs.eraseIdx k)))
theorem mt_popI {X : Cx} : MtM X "list.pop" rPopI := mt_popAt
theorem erase_map (f : α → V) : ∀ (xs : List α) (k : Nat), (xs.map f).eraseIdx k = (xs.eraseIdx k).map f
  | [], _ => rfl
  | _ :: _, 0 => rfl
  | x :: r, k + 1 => by
    show f x :: (r.map f).eraseIdx k = f x :: (r.eraseIdx k).map f
    rw [erase_map f r k]
theorem k_popI {g : HO → List Cell} (hl : H a = some (.lst (xs.map f))) (hp : ∀ o', Own R (upd H a o') (g o')) (h : popA xs i = some (y, ys)) (k : ∀ H', Own R H' (g (.lst (ys.map f))) → Q (f y) H') : rPopI (.ref a) [.int i] H Q := by
  obtain ⟨_, h1, h2⟩ := bndE h
  obtain ⟨c, _⟩ := grdE h1
  obtain ⟨j, h3, h4⟩ := bndE h2
  obtain ⟨z, h5, h6⟩ := bndE h4
  cases h6
  obtain ⟨s1, s2, s3, s4⟩ := ixN_seq h3
  refine ⟨a, _, i, j, f y, rfl, rfl, hl, by omega, by omega, by rw [List.length_map]; exact s1, by rw [List.getElem?_map, h5]; rfl, ?_⟩
  rw [erase_map]
  exact k _ (hp _)
end
end Bt

set_option linter.all false
set_option maxRecDepth 100000
set_option maxHeartbeats 1000000
/-! Lists that are handed to be changed, and lists of one's own lists. -/
namespace Bt
open PySem L2
section
variable {α : Type} {f : α → V} {F R R0 Hb H : Hp} {a : Addr} {L C : List Cell} {xs : List α}
/-- a list of plain things -/
def oRow (f : α → V) : Ob (List α) := fun _ a L xs => L = [(a, HO.lst (xs.map f))]
theorem moRow : MonoO (oRow f) := fun _ _ _ _ _ _ h => h
theorem oRow_mk : oRow f F a [(a, HO.lst (xs.map f))] xs := rfl
/-- a list of data that is to stay -/
def oRowD (P : Rp α) : Ob (List α) := fun F a L xs => ∃ vs, L = [(a, HO.lst vs)] ∧ All2 (P F) vs xs
theorem moRowD {P : Rp α} (m : Mono P) : MonoO (oRowD P) := fun _ _ _ _ _ e ⟨vs, h1, h2⟩ => ⟨vs, h1, mA m e h2⟩
theorem Own.frzAll : ∀ (L : List Cell) {R : Hp}, Own R H (L ++ C) → Ex Hb R → ∃ R', Own R' H C ∧ Ex R R' ∧ ∀ c ∈ L, ovr R0 Hb R' c.1 = some c.2
  | [], R, O, _ => ⟨R, O, Ex.refl _, fun _ h => nomatch h⟩
  | (p, o) :: r, R, O, e => by
    obtain ⟨R1, O1, e1, h1⟩ := Own.frzO (R0 := R0) O e
    obtain ⟨R2, O2, e2, h2⟩ := Own.frzAll r O1 (e.trans e1)
    refine ⟨R2, O2, e1.trans e2, fun c hc => ?_⟩
    rcases List.mem_cons.mp hc with rfl | hc
    · exact ovr_mono e2 _ _ h1
    · exact h2 c hc
theorem all_map {P : Rp α} (hP : ∀ F x, P F (f x) x) (G : Hp) : ∀ ys : List α, All2 (P G) (ys.map f) ys
  | [] => .nil
  | y :: r => .cons (hP G y) (all_map hP G r)
theorem rows_all {P : Rp α} (hP : ∀ F x, P F (f x) x) {G : Hp} {as : List Addr} {Ls : List (List Cell)} {xss : List (List α)} (h : All3 (oRow f F) as Ls xss) (hg : ∀ c ∈ Ls.flatten, G c.1 = some c.2) : All2 (rL P G) (as.map V.ref) xss := by
  induction h with
  | nil => exact .nil
  | @cons b L1 ys as Ls xss h t ih =>
    refine .cons ⟨b, ys.map f, rfl, ?_, ?_⟩ (ih fun c hc => hg c (by rw [List.flatten_cons]; exact List.mem_append_right _ hc))
    · have := hg (b, .lst (ys.map f)) (by rw [List.flatten_cons, show L1 = _ from h]; exact List.Mem.head _)
      exact this
    · exact all_map hP G ys
/-- laid in the frame -/
theorem Own.frzRows {P : Rp α} {xss : List (List α)} (hP : ∀ F x, P F (f x) x) (O : Own R H (L ++ C)) (h : oLs (oRow f) F a L xss) (e : Ex Hb R) : ∃ R', Own R' H C ∧ Ex R R' ∧ rL (rL P) (ovr R0 Hb R') (.ref a) xss := by
  obtain ⟨as, Ls, hp, h3⟩ := h
  obtain ⟨R', O', e1, h1⟩ := Own.frzAll (R0 := R0) L O e
  have hm : ∀ c ∈ (a, HO.lst (as.map V.ref)) :: Ls.flatten, ovr R0 Hb R' c.1 = some c.2 := fun c hc => h1 c (hp.mem_iff.mpr hc)
  exact ⟨R', O', e1, a, as.map V.ref, rfl, hm _ (List.Mem.head _), rows_all hP h3 fun c hc => hm c (List.Mem.tail _ hc)⟩
end
/-! fields that may be None -/
section
variable {α : Type} {f : α → V} {P : Rp α} {F : Hp} {v : V} {m : Option α}
def ov (f : α → V) : Option α → V
  | none => .non
  | some x => f x
theorem ov_r (hP : ∀ F x, P F (f x) x) : rO P F (ov f m) m := by
  cases m with
  | none => rfl
  | some x => exact hP F x
theorem rO_ov (hP : ∀ F v x, P F v x → v = f x) (h : rO P F v m) : v = ov f m := by
  cases m with
  | none => exact h
  | some x => exact hP F v x h
end
/-! a tuple's slice -/
section
variable {K : PySem.W.Frag} {R H : Hp} {L : List Cell} {a : Addr} {xs : List V} {lo hi : Option Int} {Q : VK}
theorem k_cutT (O : Own R H L) (h : H a = some (.tup xs)) (c : ¬ (HT.sIx xs.length 0 lo = 0 ∧ HT.sIx xs.length xs.length hi = xs.length)) (k : ∀ p H', Own R H' ((p, .tup (cutV xs lo hi)) :: L) → Q (.ref p) H') : rSlT K (.ref a) lo hi H Q :=
  ⟨a, xs, rfl, SqT.of h, c, fun p hp => k p _ (O.new hp)⟩
end
/-! o.m(e, ..) in a try's suite -/
section
variable {X : Cx} {CX : CXT} {k : Nat} {f C : Addr} {fd : FuncData} {ps : List Str} {sp : Sp} {E : L2.St → XK} {m : Str} {pos apos : Pos} {e o : Expr} {es : List Expr} {ta : TE} {t : TA}
def tMethE (C : Addr) (m : Str) (sp : Sp) (E : L2.St → XK) (ta : TE) (t : TA) : TE := fun σ H Q => ta σ H fun x H1 => ∃ a dx fs, x = .ref a ∧ H1 a = some (.ins C dx fs) ∧ fs.lookup m = none ∧ t σ H1 fun vs H2 => sp (x :: vs) H2 Q (E σ)
theorem o_methE {σ : L2.St} {H : Hp} {Q : VK} (h : ta σ H fun x H1 => ∃ a dx fs, x = .ref a ∧ H1 a = some (.ins C dx fs) ∧ fs.lookup m = none ∧ t σ H1 fun vs H2 => sp (x :: vs) H2 Q (E σ)) : tMethE C m sp E ta t σ H Q := h
theorem pe_methE {pl : Sem Bool} (he : PE X o ta) (c : Cls X.K C) (hm : Meth X.K C m f) (F : FnOk X.prog X.w X.K X.mg X.base CX k f fd ps sp) (hr : Room k X.A) (hb : Binds X.K fd ps []) (hx : ∀ σ, PassesAt CX X σ (E σ)) (ha : PA X (e :: es) t)
    (hst : starEach (e :: es) X.env = (false, eval e X.env) :: starEach es X.env := by rfl) (hpl : (backTo pos (starEach es X.env)).any (·.1) = false := by rfl)
    (ht : eval (.Call (.Attribute o m apos) (e :: es) [] pos) X.env = (do
      let ov ← eval o X.env
      standAt apos.atName
      let (f, first) ← holding [ov] (getMethod ov m pl)
      callWith pos f first (backTo pos (starEach (e :: es) X.env)) (backToKw pos (keywordEach [] X.env))) := by rfl) :
    PE X (.Call (.Attribute o m apos) (e :: es) [] pos) (tMethE C m sp E ta t) := by
  refine ⟨fun pins s σ H Q I h => ?_⟩
  refine PySem.W.methodCall_KW (pl := pl) (thn (he.run pins s σ H _ I h) fun u s1 ⟨x, H1, I1, rx, a, dx, fs, ex, ea, l, q⟩ => ?_) ht
  subst ex
  obtain rfl : u = Value.ref a := rx
  refine getmeth_ok I1 ea c hm l ?_
  refine PySem.W.callWith_K (first := [.ref a]) (h₀ := X.base) I.ok.mod.kin hm.kp (thn (ha.run pos pins s1 σ H1 _ I1 q) fun us s2 ⟨vs, H2, I2, r, q2⟩ => ⟨I2.kIn, ?_⟩) hst hpl
  exact run_fnS (us := .ref a :: us) (vs := .ref a :: vs) F hr hb (hx σ) I2 (.cons rfl r) q2
end
/-! a, b = x, y -/
theorem o_par {i j : Nat} {ta : TA} {n b k : L2.St → Hp → Prop} {w : VK} {σ : L2.St} {H : Hp} (h : ta σ H fun vs H1 => ∃ x y, vs = [x, y] ∧ n ((σ.set i (some x)).set j (some y)) H1) : tPar i j ta (Ends.mk n w b k) σ H := h
/-! a list of data that is to stay, repeated -/
section
variable {α : Type} {P : V → α → Prop} {vs : List V} {xs zs : List α} {k : Int} {R H : Hp} {L : List Cell} {a : Addr} {Q : VK}
theorem All2.rep (h : All2 P vs xs) : ∀ n : Nat, All2 P (List.replicate n vs).flatten (List.replicate n xs).flatten
  | 0 => .nil
  | n + 1 => by
    rw [List.replicate_succ, List.replicate_succ, List.flatten_cons, List.flatten_cons]
    exact h.app (All2.rep h n)
theorem k_repA (O : Own R H L) (h1 : H a = some (.lst vs)) (ha : All2 P vs xs) (h : repG xs k = some zs) (q : ∀ p H' ws, Own R H' ((p, .lst ws) :: L) → All2 P ws zs → Q (.ref p) H') : rRep (.ref a) (.int k) H Q := by
  obtain ⟨⟨c1, c2, c3⟩, rfl⟩ := grdE h
  exact ⟨a, k, vs, rfl, rfl, h1, c1, c2, by rw [ha.len]; exact c3, fun p hp => q p _ _ (O.new hp) (ha.rep _)⟩
end
/-! a list of data, each seen as one of several kinds -/
theorem All2.mapR {α β : Type} {P : V → α → Prop} {P' : V → β → Prop} {g : α → β} (h : ∀ v x, P v x → P' v (g x)) {vs : List V} {xs : List α} (k : All2 P vs xs) : All2 P' vs (xs.map g) := by
  induction k with
  | nil => exact .nil
  | cons a _ ih => exact .cons (h _ _ a) ih
theorem rL_map {α β : Type} {P : Rp α} {P' : Rp β} {F : Hp} {g : α → β} (h : ∀ F v x, P F v x → P' F v (g x)) {v : V} {xs : List α} (k : rL P F v xs) : rL P' F v (xs.map g) := by
  obtain ⟨p, vs, e, h1, h2⟩ := k
  exact ⟨p, vs, e, h1, h2.mapR (h F)⟩
/-! a and b, where b changes what is read no more -/
theorem x_andVJ2 {c d e : Bool} {tt uu : TE} {σ : L2.St} {H : Hp} {Q : VK} (J J2 : Hp → Prop) (hJ : ∀ H', J H' → J2 H') (h1 : ∀ Q1 : VK, (∀ H', J H' → Q1 (.bl c) H') → tt σ H Q1) (h2 : c = true → e = d ∧ ∀ H', J H' → ∀ Q2 : VK, (∀ H'', J2 H'' → Q2 (.bl e) H'') → uu σ H' Q2)
    (h3 : c = false → false = d) (k : ∀ H', J2 H' → Q (.bl d) H') : tAndV tt uu σ H Q := by
  refine h1 _ fun H' O' => ⟨_, rfl, ?_⟩
  cases c with
  | true =>
    obtain ⟨e1, g2⟩ := h2 rfl
    subst e1
    exact g2 H' O' Q k
  | false =>
    rw [← h3 rfl] at k
    exact k H' (hJ H' O')
end Bt

set_option linter.all false
set_option maxRecDepth 100000
set_option maxHeartbeats 1000000
/-! sorted, len(set(..)), the order of (int, list). -/
namespace Bt
open PySem L2
/-! len(set(xs)) -/
def setL (xs : List Int) : List Int := xs.foldl PyProof.Rows.step_dedup []
theorem firstMet_all : ∀ (xs : List Int), PyProof.Rows.firstMet (fun j => xs.getD j 0) xs.length = setL xs := fun xs => by
  unfold PyProof.Rows.firstMet setL
  congr 1
  refine List.ext_getElem? fun i => ?_
  rw [List.getElem?_map]
  by_cases h : i < xs.length
  · rw [List.getElem?_range h, List.getElem?_eq_getElem h]
    simp [List.getD_eq_getElem?_getD, h]
  · rw [List.getElem?_eq_none (by simpa using h), List.getElem?_eq_none (by simpa using h)]
    rfl
def lenSet (xs : List Int) : Option Int := grd (xs.length ≤ 4000) ((setL xs).length : Int)
open PySem.Spec PyProof.Rows RZ in
def rLset (K : PySem.W.Frag) (x : V) (H1 : Hp) (Q : VK) : Prop := ∃ (l : Addr) (ns : List Int), x = .ref l ∧ SqL K H1 l (ns.map V.int) ∧ ns.length ≤ 4000 ∧ Q (.int ((setL ns).length : Nat)) H1
def tLenSetN (K : PySem.W.Frag) (ta : TE) : TE := fun σ H Q => ta σ H fun x H1 => rLset K x H1 Q
open PySem.Spec PyProof.Rows RZ in
theorem pe_lenSetN {X : Cx} {a : Expr} {ta : TE} {p p2 q pos : Pos} (hg : Gl X "len") (hm : X.mg "len" = none) (hg2 : Gl X "set") (hm2 : X.mg "set" = none) (ha : PE X a ta) (hc : X.calm = true := by rfl)
    (na : starEach [a] X.env = (false, eval a X.env) :: starEach [] X.env := by rfl) : PE X (.Call (.Name "len" p) [.Call (.Name "set" p2) [a] [] q] [] pos) (tLenSetN X.K ta) := by
  refine ⟨fun pins s σ H Q I h => ?_⟩
  refine PyProof.Rows.Call_ (ld_blt I hg hm boot_len ?_)
  refine PyProof.Rows.callWith_builtin1 (PyProof.Rows.args_cons ?_ rfl) rfl rfl
  refine PyProof.Rows.Call_ (ld_blt I hg2 hm2 boot_set ?_)
  refine PyProof.Rows.callWith_type1 (PyProof.Rows.args_cons (thn (ha.run pins s σ H _ I h) fun v s1 ⟨x, H1, I1, r1, q1⟩ => PyProof.Rows.args_nil ?_) na) na rfl
  obtain ⟨l, ns, rfl, hq, hl, q1⟩ := q1
  cases r1
  obtain ⟨its, r, pl, hz⟩ := I1.list hq
  have hlen : its.toArray.size = ns.length := by rw [List.size_toArray, ← r.length, List.length_map]
  refine call_set_list (I1.ok.hd hc) pl.isList (by simpa using intsAre_vals r) (by rw [hlen]; unfold scanBound; omega) fun h' tk hS hk => ?_
  refine PyProof.Rows.args_nil ?_
  rw [hlen, firstMet_all] at hS
  have hsz : (setL ns).length ≤ ns.length := by rw [← firstMet_all]; exact PyProof.Rows.firstMet_length_le _ _
  obtain ⟨o, es, ep, t, ho, hex, hd, _, _, _, hf, hn⟩ := hS
  have I2 : Inv X pins σ H1 { s1 with heap := h', toks := tk } := I1.kept fun b o e => hk b o (Heap.lt_size e) e
  exact call_len_set ho hex hd hf (by rw [hn] <;> omega) ⟨.int (setL ns).length, H1, I2.tok _, ⟨_, by rw [hn]⟩, q1⟩
section
variable {K : PySem.W.Frag} {H R : Hp} {L : List Cell} {Q : VK} {a : Addr} {xs : List Int} {n : Int} {ta : TE} {σ : L2.St}
theorem o_lset (h : ta σ H fun x H1 => rLset K x H1 Q) : tLenSetN K ta σ H Q := h
theorem k_lset (hs : SqL K H a (xs.map V.int)) (h : lenSet xs = some n) (q : Q (.int n) H) : rLset K (.ref a) H Q := by
  obtain ⟨c, rfl⟩ := grdE h
  exact ⟨a, xs, rfl, hs, c, q⟩
end
/-! sorted(xs) -/
def insI (x : Int) : List Int → List Int
  | [] => [x]
  | y :: r => if x ≤ y then x :: y :: r else y :: insI x r
def srtI : List Int → List Int
  | [] => []
  | x :: r => insI x (srtI r)
theorem insI_perm (x : Int) : ∀ r : List Int, (insI x r).Perm (x :: r)
  | [] => List.Perm.refl _
  | y :: r => by
    unfold insI
    split
    · exact List.Perm.refl _
    · exact ((insI_perm x r).cons y).trans (List.Perm.swap x y r)
theorem srtI_perm : ∀ r : List Int, (srtI r).Perm r
  | [] => List.Perm.refl _
  | x :: r => (insI_perm x _).trans ((srtI_perm r).cons x)
theorem insI_srt (x : Int) : ∀ {r : List Int}, r.Pairwise (· ≤ ·) → (insI x r).Pairwise (· ≤ ·)
  | [], _ => by simp [insI]
  | y :: r, h => by
    obtain ⟨h1, h2⟩ := List.pairwise_cons.mp h
    unfold insI
    split
    · rename_i c
      refine List.pairwise_cons.mpr ⟨fun z hz => ?_, h⟩
      rcases List.mem_cons.mp hz with rfl | hz
      · exact c
      · exact Int.le_trans c (h1 z hz)
    · rename_i c
      refine List.pairwise_cons.mpr ⟨fun z hz => ?_, insI_srt x h2⟩
      rcases List.mem_cons.mp ((insI_perm x r).mem_iff.mp hz) with rfl | hz
      · omega
      · exact h1 z hz
theorem srtI_srt : ∀ r : List Int, (srtI r).Pairwise (· ≤ ·)
  | [] => List.Pairwise.nil
  | x :: r => insI_srt x (srtI_srt r)
theorem srt_uniq : ∀ {xs ys : List Int}, xs.Perm ys → xs.Pairwise (· ≤ ·) → ys.Pairwise (· ≤ ·) → xs = ys
  | [], ys, p, _, _ => (List.nil_perm.mp p).symm
  | x :: xs, [], p, _, _ => absurd (List.perm_nil.mp p) (by simp)
  | x :: xs, y :: ys, p, hx, hy => by
    obtain ⟨hx1, hx2⟩ := List.pairwise_cons.mp hx
    obtain ⟨hy1, hy2⟩ := List.pairwise_cons.mp hy
    have e : x = y := by
      have m1 : x ∈ y :: ys := p.mem_iff.mp (List.Mem.head _)
      have m2 : y ∈ x :: xs := p.mem_iff.mpr (List.Mem.head _)
      rcases List.mem_cons.mp m1 with e | m1
      · exact e
      · rcases List.mem_cons.mp m2 with e | m2
        · exact e.symm
        · have := hx1 y m2
          have := hy1 x m1
          omega
    subst e
    rw [srt_uniq (List.Perm.cons_inv p) hx2 hy2]
section
variable {K : PySem.W.Frag} {H R : Hp} {L : List Cell} {Q : VK} {a : Addr} {xs : List Int}
theorem k_sorted (O : Own R H L) (hs : SqL K H a (xs.map V.int)) (k : ∀ p H', Own R H' ((p, .lst ((srtI xs).map V.int)) :: L) → Q (.ref p) H') : rSortedI K [.ref a] H Q :=
  ⟨a, xs, rfl, hs, fun ns' p h1 h2 hp => by
    have e : ns' = srtI xs := srt_uniq (h1.trans (srtI_perm xs).symm) h2 (srtI_srt xs)
    subst e
    exact k p _ (O.new hp)⟩
end
/-! (int, list of ints) >= such -/
def ltIs : List Int → List Int → Bool
  | [], [] => false
  | [], _ :: _ => true
  | _ :: _, [] => false
  | x :: xs, y :: ys => if x = y then ltIs xs ys else decide (x < y)
def ltIL (x y : Int × List Int) : Bool := if x.1 = y.1 then ltIs x.2 y.2 else decide (x.1 < y.1)
open PySem.W PySem.SeqAt in
theorem alike_ints : ∀ xs ys : List Int, alikeAll (xs.map PyData.int) (ys.map PyData.int) = true
  | [], _ => by simp [alikeAll]
  | _ :: _, [] => by simp [alikeAll]
  | x :: xs, y :: ys => by simp only [List.map_cons, alikeAll, alike, alike_ints xs ys, Bool.and_self]
open PySem.W PySem.SeqAt in
theorem lt_ints : ∀ xs ys : List Int, dataLt (.list (xs.map PyData.int)) (.list (ys.map PyData.int)) = ltIs xs ys
  | [], [] => by rw [dataLt_list]; rfl
  | [], y :: ys => by rw [dataLt_list]; rfl
  | x :: xs, [] => by rw [dataLt_list]; rfl
  | x :: xs, y :: ys => by
    have ih := lt_ints xs ys
    rw [dataLt_list] at ih ⊢
    rw [List.map_cons, List.map_cons]
    by_cases h : x = y
    · rw [dataLt_all_yes (by simp [alike]) (by simp [PyData.eqv, h]), ih]
      show _ = if x = y then _ else _
      rw [if_pos h]
    · rw [dataLt_all_no (by simp [alike]) (by simpa [PyData.eqv] using h), dataLt_int]
      show _ = if x = y then _ else _
      rw [if_neg h]
open PySem.W PySem.SeqAt in
theorem lt_il (x y : Int × List Int) : dataLt ((deT2 deI (deL deI)).d x) ((deT2 deI (deL deI)).d y) = ltIL x y := by
  obtain ⟨i, xs⟩ := x
  obtain ⟨j, ys⟩ := y
  show dataLt (.tuple [.int i, .list (xs.map PyData.int)]) (.tuple [.int j, .list (ys.map PyData.int)]) = _
  rw [dataLt_tuple]
  show _ = if i = j then ltIs xs ys else decide (i < j)
  by_cases h : i = j
  · rw [dataLt_all_yes (by simp [alike]) (by simp [PyData.eqv, h]), if_pos h]
    by_cases h2 : xs = ys
    · subst h2
      rw [dataLt_all_yes (by simp only [alike]; exact alike_ints _ _) (by simp only [PyData.eqv]; rw [show PyData.eqvAll (xs.map PyData.int) (xs.map PyData.int) = decide (xs = xs) from eq_all deI xs xs]; simp)]
      have e : ltIs xs xs = false := by
        induction xs with
        | nil => rfl
        | cons a r ih => show (if a = a then ltIs r r else _) = false; rw [if_pos rfl]; exact ih
      rw [e]
      rfl
    · rw [dataLt_all_no (by simp only [alike]; exact alike_ints _ _) (by simp only [PyData.eqv]; rw [show PyData.eqvAll (xs.map PyData.int) (ys.map PyData.int) = decide (xs = ys) from eq_all deI xs ys]; simpa using h2), lt_ints]
  · rw [dataLt_all_no (by simp [alike]) (by simpa [PyData.eqv] using h), dataLt_int, if_neg h]
def rGeIL (K : PySem.W.Frag) : R2 := fun x y H Q => ∃ d e : Int × List Int, rT2 rI (rL rI) H x d ∧ rT2 rI (rL rI) H y e ∧ Q (.bl (!ltIL d e)) H
theorem k_geIL {K : PySem.W.Frag} {H : Hp} {Q : VK} {x y : V} {d e : Int × List Int} (h1 : rT2 rI (rL rI) H x d) (h2 : rT2 rI (rL rI) H y e) (q : Q (.bl (!ltIL d e)) H) : rGeIL K x y H Q := ⟨d, e, h1, h2, q⟩
open PySem.W PySem.SeqAt in
theorem op_geIL {X : Cx} (hu : X.A.units + 65 < cLine) : OpR X (compareOp .GtE) (rGeIL X.K) := by
  intro pins s σ H x y v u Q I rx ry h
  obtain ⟨d, e, h1, h2, q⟩ := h
  obtain ⟨as, r1⟩ := Dp.reads I _ x v ((deT2 deI (deL deI)).dp X.K H x d h1) rx
  obtain ⟨bs, r2⟩ := Dp.reads I _ y u ((deT2 deI (deL deI)).dp X.K H y e h2) ry
  have hd := (deT2 deI (deL deI)).dep d
  have hn : (deT2 deI (deL deI)).n = 2 := rfl
  rw [hn] at hd
  refine PySem.W.ge_data r1 r2 ?_ ?_ ?_ ⟨.bl _, H, I, rfl, ?_⟩
  · obtain ⟨i, xs⟩ := d
    obtain ⟨j, ys⟩ := e
    show alike (.tuple [.int i, .list (xs.map PyData.int)]) (.tuple [.int j, .list (ys.map PyData.int)]) = true
    simp only [alike, alikeAll, alike_ints, Bool.and_self]
  · obtain ⟨i, xs⟩ := d
    intro z
    cases z
  · omega
  · rw [lt_il]
    exact q
end Bt

set_option Elab.async false
set_option linter.all false
set_option maxRecDepth 100000
set_option maxHeartbeats 4000000
/-! More built-ins of lists. -/
namespace Bt
open PySem L2 PySem.Spec PyProof.Rows
def minG : List Int → Option Int
  | [] => none
  | n :: ns => some (ns.foldl min n)
def maxG : List Int → Option Int
  | [] => none
  | n :: ns => some (ns.foldl max n)
theorem foldl_min (ns : List Int) : ∀ n : Int, (ns.foldl min n = n ∨ ns.foldl min n ∈ ns) ∧ ns.foldl min n ≤ n ∧ ∀ y ∈ ns, ns.foldl min n ≤ y := by
  induction ns with
  | nil => intro n; exact ⟨.inl rfl, Int.le_refl _, fun _ h => nomatch h⟩
  | cons m r ih =>
    intro n
    obtain ⟨h1, h2, h3⟩ := ih (min n m)
    refine ⟨?_, ?_, fun y hy => ?_⟩
    · rcases h1 with h1 | h1
      · by_cases h : n ≤ m
        · left; show r.foldl min (min n m) = n; rw [h1]; omega
        · right; show r.foldl min (min n m) ∈ m :: r; rw [h1, show min n m = m by omega]; exact List.Mem.head _
      · exact .inr (List.Mem.tail _ h1)
    · show r.foldl min (min n m) ≤ n; omega
    · rcases List.mem_cons.mp hy with rfl | hy
      · show r.foldl min (min n y) ≤ y; omega
      · exact h3 y hy
theorem foldl_max (ns : List Int) : ∀ n : Int, (ns.foldl max n = n ∨ ns.foldl max n ∈ ns) ∧ n ≤ ns.foldl max n ∧ ∀ y ∈ ns, y ≤ ns.foldl max n := by
  induction ns with
  | nil => intro n; exact ⟨.inl rfl, Int.le_refl _, fun _ h => nomatch h⟩
  | cons m r ih =>
    intro n
    obtain ⟨h1, h2, h3⟩ := ih (max n m)
    refine ⟨?_, ?_, fun y hy => ?_⟩
    · rcases h1 with h1 | h1
      · by_cases h : m ≤ n
        · left; show r.foldl max (max n m) = n; rw [h1]; omega
        · right; show r.foldl max (max n m) ∈ m :: r; rw [h1, show max n m = m by omega]; exact List.Mem.head _
      · exact .inr (List.Mem.tail _ h1)
    · show n ≤ r.foldl max (max n m); omega
    · rcases List.mem_cons.mp hy with rfl | hy
      · show y ≤ r.foldl max (max n y); omega
      · exact h3 y hy
theorem minG_spec {xs : List Int} {m : Int} (h : minG xs = some m) : 0 < xs.length ∧ m ∈ xs ∧ ∀ y ∈ xs, m ≤ y := by
  cases xs with
  | nil => cases h
  | cons n r =>
    cases h
    obtain ⟨h1, h2, h3⟩ := foldl_min r n
    refine ⟨by simp, ?_, fun y hy => ?_⟩
    · rcases h1 with h1 | h1
      · rw [h1]; exact List.Mem.head _
      · exact List.Mem.tail _ h1
    · rcases List.mem_cons.mp hy with rfl | hy
      · exact h2
      · exact h3 y hy
theorem maxG_spec {xs : List Int} {m : Int} (h : maxG xs = some m) : 0 < xs.length ∧ m ∈ xs ∧ ∀ y ∈ xs, y ≤ m := by
  cases xs with
  | nil => cases h
  | cons n r =>
    cases h
    obtain ⟨h1, h2, h3⟩ := foldl_max r n
    refine ⟨by simp, ?_, fun y hy => ?_⟩
    · rcases h1 with h1 | h1
      · rw [h1]; exact List.Mem.head _
      · exact List.Mem.tail _ h1
    · rcases List.mem_cons.mp hy with rfl | hy
      · exact h2
      · exact h3 y hy
section
variable {K : PySem.W.Frag} {H R : Hp} {L : List Cell} {Q : VK} {a : Addr} {xs : List Int} {m : Int}
theorem k_min (hs : SqL K H a (xs.map V.int)) (h : minG xs = some m) (q : Q (.int m) H) : rMin K [.ref a] H Q := by
  obtain ⟨h1, h2, h3⟩ := minG_spec h
  refine ⟨a, xs, rfl, hs, h1, fun m' hm hy => ?_⟩
  have e1 := hy m h2
  have e2 := h3 m' hm
  have : m' = m := by omega
  rw [this]; exact q
theorem k_max (hs : SqL K H a (xs.map V.int)) (h : maxG xs = some m) (q : Q (.int m) H) : rMax K [.ref a] H Q := by
  obtain ⟨h1, h2, h3⟩ := maxG_spec h
  refine ⟨a, xs, rfl, hs, h1, fun m' hm hy => ?_⟩
  have e1 := hy m h2
  have e2 := h3 m' hm
  have : m' = m := by omega
  rw [this]; exact q
end
theorem inV_str (i : Str) : ∀ xs : List Str, inV (.str i) (xs.map V.str) = decide (i ∈ xs)
  | [] => rfl
  | y :: r => by
    have ih := inV_str i r
    have e : inV (.str i) ((y :: r).map V.str) = (eqV (.str y) (.str i) || inV (.str i) (r.map V.str)) := rfl
    rw [e, ih]
    have e2 : eqV (.str y) (.str i) = decide (i = y) := by
      by_cases h : i = y
      · subst h; simp [eqV]
      · have : ¬ y = i := fun q => h q.symm
        simp [eqV, h, this]
    rw [e2]
    simp
theorem flat_str : ∀ xs : List Str, (xs.map V.str).all flatV = true
  | [] => rfl
  | y :: r => by
    have ih := flat_str r
    show (flatV (.str y) && (r.map V.str).all flatV) = true
    rw [ih]
    rfl
section
variable {K : PySem.W.Frag} {H : Hp} {Q : VK} {a : Addr} {i : Str} {ns : List Str}
theorem k_inLS (hs : SqL K H a (ns.map V.str)) (k : Q (.bl (decide (i ∈ ns))) H) : rIn K false (.str i) (.ref a) H Q := ⟨a, _, rfl, .inl hs, rfl, flat_str _, by rw [inV_str]; exact k⟩
theorem k_niLS (hs : SqL K H a (ns.map V.str)) (k : Q (.bl (!decide (i ∈ ns))) H) : rIn K true (.str i) (.ref a) H Q := ⟨a, _, rfl, .inl hs, rfl, flat_str _, by rw [inV_str]; exact k⟩
theorem k_inTS (hs : SqT K H a (ns.map V.str)) (k : Q (.bl (decide (i ∈ ns))) H) : rIn K false (.str i) (.ref a) H Q := ⟨a, _, rfl, .inr hs, rfl, flat_str _, by rw [inV_str]; exact k⟩
theorem k_niTS (hs : SqT K H a (ns.map V.str)) (k : Q (.bl (!decide (i ∈ ns))) H) : rIn K true (.str i) (.ref a) H Q := ⟨a, _, rfl, .inr hs, rfl, flat_str _, by rw [inV_str]; exact k⟩
end
/-! l.count(x), l.index(x) of data -/
def rCountD (K : PySem.W.Frag) : V → List V → Hp → VK → Prop := fun x xs H Q => ∃ (a : Addr) (y : V) (d : PyData) (ds : List PyData), x = V.ref a ∧ xs = [y] ∧ Dp K H (V.ref a) (.list ds) ∧ Dp K H y d ∧
  SeqAt.shaped (.list ds) = true ∧ SeqAt.shaped d = true ∧ Q (.int ((ds.countP fun z => PyData.eqv z d : Nat) : Int)) H
theorem mt_countD {X : Cx} (hu : X.A.units + 65 < cLine) : MtR X "list.count" (rCountD X.K) := by
  intro pins s σ H x xs v us Q I rx rxs h
  obtain ⟨a, y, d, ds, rfl, rfl, hl, hy, sl, sd, q⟩ := h
  cases rx
  cases rxs with
  | cons ry rt =>
    rename_i uy ut
    cases rt
    obtain ⟨bs, r1⟩ := Dp.reads I d y uy hy ry
    have hxs : PyData.canLayAll0 ds = true := SeqAt.canLay_of_shaped sl
    have hroom : X.A.units + 1 + min (PyData.depthAll ds) d.depth < cLine := room_in_shaped sd hu
    cases hl with
    | lst hs ha =>
      obtain ⟨its, rv, ⟨⟨cls, dd, data, sls⟩, n, ho, hc, hdn, hdt⟩, hlen⟩ := I.list hs
      simp only at hc hdt
      subst hc hdt
      obtain ⟨as, h4⟩ := Dp.readsAll I ds _ its ha rv
      have hmap : its.map (SeqAt.readOf s.heap) = ds := SeqAt.readsAll_map ds its as hxs h4
      have e : its.toArray.toList.countP (fun u => PyData.eqv (SeqAt.readOf s.heap u) d) = ds.countP fun z => PyData.eqv z d := by
        rw [← hmap, List.countP_map]
        rfl
      rw [← e] at q
      exact call_meets PySem.F.slot_list_count ⟨_, ho, rfl⟩ PySem.F.entry_list_count (PySem.F.args_list_count_2 _ _) (SeqAt.list_countAt a its.toArray n dd sls uy (fun u => PyData.eqv (SeqAt.readOf s.heap u) d))
        ⟨ho, SeqAt.items_eqAt (vs := its.toArray) (show ReadsAll s.heap its.toArray.toList ds as from h4) r1 hxs (SeqAt.canLay_of_shaped sd) hroom, ⟨.int _, H, I.tok _, ⟨_, rfl⟩, q⟩⟩
section
variable {α : Type} [DecidableEq α] {P : Rp α} {K : PySem.W.Frag} {H : Hp} {v w : V} {xs : List α} {y : α} {Q : VK} {a : Addr}
def cntL (xs : List α) (y : α) : Int := ((xs.countP fun z => decide (z = y) : Nat) : Int)
theorem countP_de (e : Dq P) (y : α) : ∀ xs : List α, ((xs.map e.d).countP fun z => PyData.eqv z (e.d y)) = xs.countP fun z => decide (z = y)
  | [] => rfl
  | x :: r => by
    rw [List.map_cons, List.countP_cons, List.countP_cons, countP_de e y r, e.eq x y]
theorem k_countD (e : Dq P) (h : e.n ≤ 60) (hx : PyData.canLay0 ((dqL e).d xs) = true) (hy : PyData.canLay0 (e.d y) = true) (h1 : rL P H (.ref a) xs) (h2 : P H v y) (q : Q (.int (cntL xs y)) H) : rCountD K (.ref a) [v] H Q :=
  ⟨a, v, e.d y, xs.map e.d, rfl, rfl, (dqL e).dp K H _ _ h1, e.dp K H _ _ h2, sh_dq (dqL e) (by show e.n + 1 ≤ 64; omega) hx, sh_dq e (by omega) hy, by rw [countP_de]; exact q⟩
def idxL : List α → α → Option Int
  | [], _ => none
  | x :: r, y => if x = y then some 0 else match idxL r y with
    | some j => some (j + 1)
    | none => none
theorem idxL_spec : ∀ {xs : List α} {j : Int}, idxL xs y = some j → ∃ n : Nat, j = n ∧ xs[n]? = some y ∧ ∀ m z, m < n → xs[m]? = some z → z ≠ y
  | [], j, h => by cases h
  | x :: r, j, h => by
    unfold idxL at h
    by_cases c : x = y
    · rw [if_pos c] at h
      cases h
      exact ⟨0, rfl, by rw [c]; rfl, fun m z hm => by omega⟩
    · rw [if_neg c] at h
      cases e : idxL r y with
      | none => rw [e] at h; cases h
      | some i =>
        rw [e] at h
        cases h
        obtain ⟨n, rfl, h1, h2⟩ := idxL_spec e
        refine ⟨n + 1, by omega, by simpa using h1, fun m z hm hz => ?_⟩
        cases m with
        | zero => cases Option.some.inj hz; exact c
        | succ m => exact h2 m z (by omega) (by simpa using hz)
theorem k_indexD (e : Dq P) (h : e.n ≤ 60) (hx : PyData.canLay0 ((dqL e).d xs) = true) (hy : PyData.canLay0 (e.d y) = true) (h1 : rL P H (.ref a) xs) (h2 : P H v y) {j : Int} (hj : idxL xs y = some j) (q : Q (.int j) H) : rIndexD K (.ref a) [v] H Q := by
  obtain ⟨n, rfl, g1, g2⟩ := idxL_spec hj
  refine ⟨a, v, e.d y, xs.map e.d, n, e.d y, rfl, rfl, (dqL e).dp K H _ _ h1, e.dp K H _ _ h2, sh_dq (dqL e) (by show e.n + 1 ≤ 64; omega) hx, sh_dq e (by omega) hy, by rw [List.getElem?_map, g1]; rfl, by rw [e.eq]; simp, fun m z' hm hz => ?_, q⟩
  rw [List.getElem?_map] at hz
  cases e1 : xs[m]? with
  | none => rw [e1] at hz; cases hz
  | some z =>
    rw [e1] at hz
    cases hz
    rw [e.eq]
    exact decide_eq_false (g2 m z hm e1)
theorem okInts (xs : List Int) : PyData.canLay0 ((dqL (De.q deI)).d xs) = true := by
  show PyData.canLay0 (.list (xs.map PyData.int)) = true
  simp only [PyData.canLay0]
  induction xs with
  | nil => rfl
  | cons x r ih => simp only [List.map_cons, PyData.canLayAll0, PyData.canLay0, ih, Bool.and_self]
theorem okDe {P : Rp α} (e : De P) (y : α) : PyData.canLay0 ((De.q e).d y) = true := e.ok y
theorem okDeL {P : Rp α} (e : De P) (xs : List α) : PyData.canLay0 ((dqL (De.q e)).d xs) = true := by
  show PyData.canLay0 (.list (xs.map e.d)) = true
  simp only [PyData.canLay0]
  exact ok_all e xs
end
/-! xs.insert(i, y) -/
section
variable {α : Type} {f : α → V} {R H : Hp} {L : List Cell} {a : Addr} {xs ys : List α} {y : α} {i : Int} {Q : VK} {v : V} {P : V → α → Prop} {vs : List V}
def insG (xs : List α) (i : Int) (y : α) : Option (List α) := grd (xs.length < sizeLine ∧ 0 ≤ i ∧ i < 2 ^ 63) (xs.take i.toNat ++ [y] ++ xs.drop i.toNat)
def rInsert : V → List V → Hp → VK → Prop := fun x vs H Q => ∃ (l : Addr) (xs : List V) (i : Int) (y : V), x = .ref l ∧ vs = [.int i, y] ∧ H l = some (.lst xs) ∧ xs.length < sizeLine ∧ 0 ≤ i ∧ i < 2 ^ 63 ∧
    Q .non (upd H l (.lst (xs.take i.toNat ++ [y] ++ xs.drop i.toNat)))
theorem k_ins {g : HO → List Cell} (hl : H a = some (.lst (xs.map f))) (hp : ∀ o', Own R (upd H a o') (g o')) (h : insG xs i y = some ys) (k : ∀ H', Own R H' (g (.lst (ys.map f))) → Q .non H') : rInsert (.ref a) [.int i, f y] H Q := by
  obtain ⟨⟨c1, c2, c3⟩, rfl⟩ := grdE h
  refine ⟨a, _, i, _, rfl, rfl, hl, by rw [List.length_map]; exact c1, c2, c3, ?_⟩
  rw [← List.map_take, ← List.map_drop, map_snoc, ← List.map_append]
  exact k _ (hp _)
theorem k_insA {g : HO → List Cell} (hl : H a = some (.lst vs)) (ha : All2 P vs xs) (hp : ∀ o', Own R (upd H a o') (g o')) (h : insG xs i y = some ys) (hv : P v y) (k : ∀ H' ws, Own R H' (g (.lst ws)) → All2 P ws ys → Q .non H') : rInsert (.ref a) [.int i, v] H Q := by
  obtain ⟨⟨c1, c2, c3⟩, rfl⟩ := grdE h
  exact ⟨a, _, i, _, rfl, rfl, hl, by rw [ha.len]; exact c1, c2, c3, k _ _ (hp _) (((ha.take _).snoc hv).app (ha.drop _))⟩
theorem k_insE {g : HO → List Cell} (hl : H a = some (.lst vs)) (hp : ∀ o', Own R (upd H a o') (g o')) (c1 : vs.length < sizeLine) (c2 : 0 ≤ i) (c3 : i < 2 ^ 63) (k : ∀ H', Own R H' (g (.lst (vs.take i.toNat ++ [v] ++ vs.drop i.toNat))) → Q .non H') : rInsert (.ref a) [.int i, v] H Q :=
  ⟨a, _, i, _, rfl, rfl, hl, c1, c2, c3, k _ (hp _)⟩
end
def rInt : List V → Hp → VK → Prop := fun xs H Q => (∃ i, xs = [.int i] ∧ Q (.int i) H) ∨ ∃ k, xs = [.bl k] ∧ Q (.int (if k then 1 else 0)) H
theorem call_intQ {X : Cx} : CallR X (.type "int") rInt := call_int1
theorem mt_insertQ {X : Cx} : MtR X "list.insert" rInsert := mt_insert
end Bt

set_option Elab.async false
set_option linter.all false
set_option maxRecDepth 100000
set_option maxHeartbeats 4000000
set_option synthInstance.maxHeartbeats 400000
set_option synthInstance.maxSize 4096
namespace Bt
open PySem L2
def top (i : Nat) : Stmt := PySem.Challenge.pw_bitrail_k64_whole_votes_that_part.main.body.getD i (.Pass ⟨0, 0, 0, 0⟩)
abbrev s__law_draw : Stmt := top 17
abbrev s__law_list : Stmt := top 18
abbrev s_ask_seats : Stmt := top 12
abbrev s_rows_of : Stmt := top 14
abbrev s_Seat_init : Stmt := (clsB (top 11)).getD 0 (.Pass ⟨0, 0, 0, 0⟩)
abbrev s_SpeakTail_init : Stmt := (clsB (top 5)).getD 0 (.Pass ⟨0, 0, 0, 0⟩)
abbrev s_ReadTail_answered : Stmt := (clsB (top 5)).getD 4 (.Pass ⟨0, 0, 0, 0⟩)
abbrev s_ReadTail_voted : Stmt := (clsB (top 5)).getD 5 (.Pass ⟨0, 0, 0, 0⟩)
abbrev s_ReadTail_hear : Stmt := (clsB (top 5)).getD 3 (.Pass ⟨0, 0, 0, 0⟩)
abbrev s_SpeakTail_answered : Stmt := (clsB (top 7)).getD 0 (.Pass ⟨0, 0, 0, 0⟩)
abbrev s_SpeakTail_voted : Stmt := (clsB (top 5)).getD 5 (.Pass ⟨0, 0, 0, 0⟩)
abbrev s_SpeakTail_hear : Stmt := (clsB (top 5)).getD 3 (.Pass ⟨0, 0, 0, 0⟩)
abbrev s_Seat_seat_hears : Stmt := (clsB (top 11)).getD 2 (.Pass ⟨0, 0, 0, 0⟩)
abbrev s_ReadTail_init : Stmt := (clsB (top 5)).getD 0 (.Pass ⟨0, 0, 0, 0⟩)
abbrev s_ReadTail_says : Stmt := (clsB (top 6)).getD 0 (.Pass ⟨0, 0, 0, 0⟩)
abbrev s_SpeakTail_says : Stmt := (clsB (top 5)).getD 2 (.Pass ⟨0, 0, 0, 0⟩)
abbrev s_Seat_seat_says : Stmt := (clsB (top 11)).getD 1 (.Pass ⟨0, 0, 0, 0⟩)
abbrev s_verdicts : Stmt := top 13
abbrev s_parting : Stmt := top 15
abbrev s__law_standings : Stmt := top 19
abbrev s_law : Stmt := top 20
structure Ad where
  f__law_draw : Addr
  fd__law_draw : FuncData
  f__law_list : Addr
  fd__law_list : FuncData
  f_ask_seats : Addr
  fd_ask_seats : FuncData
  f_rows_of : Addr
  fd_rows_of : FuncData
  f_Seat_init : Addr
  fd_Seat_init : FuncData
  f_SpeakTail_init : Addr
  fd_SpeakTail_init : FuncData
  f_ReadTail_answered : Addr
  fd_ReadTail_answered : FuncData
  f_ReadTail_voted : Addr
  fd_ReadTail_voted : FuncData
  f_ReadTail_hear : Addr
  fd_ReadTail_hear : FuncData
  f_SpeakTail_answered : Addr
  fd_SpeakTail_answered : FuncData
  f_SpeakTail_voted : Addr
  fd_SpeakTail_voted : FuncData
  f_SpeakTail_hear : Addr
  fd_SpeakTail_hear : FuncData
  f_Seat_seat_hears : Addr
  fd_Seat_seat_hears : FuncData
  f_ReadTail_init : Addr
  fd_ReadTail_init : FuncData
  f_ReadTail_says : Addr
  fd_ReadTail_says : FuncData
  f_SpeakTail_says : Addr
  fd_SpeakTail_says : FuncData
  f_Seat_seat_says : Addr
  fd_Seat_seat_says : FuncData
  f_verdicts : Addr
  fd_verdicts : FuncData
  f_parting : Addr
  fd_parting : FuncData
  f__law_standings : Addr
  fd__law_standings : FuncData
  f_law : Addr
  fd_law : FuncData
  c_ReadTail : Addr
  c_SpeakTail : Addr
  c_Seat : Addr
  es : Eds
structure S_ReadTail where
  votes : Int
  over : Int
  noughts : Int
deriving DecidableEq
def o_ReadTail (ad : Ad) : Ob S_ReadTail := fun F a L s => ∃ (dx : Addr), L = ((a, .ins ad.c_ReadTail dx [("votes", .int s.votes), ("over", .int s.over), ("noughts", .int s.noughts)]) :: (dx, .own a) :: [])
theorem mo_ReadTail (ad : Ad) : MonoO (o_ReadTail ad) := by
  rintro F F' a L s e ⟨x0, h⟩
  exact ⟨x0, h⟩
structure S_SpeakTail where
  votes : Int
  over : Int
  noughts : Int
deriving DecidableEq
def o_SpeakTail (ad : Ad) : Ob S_SpeakTail := fun F a L s => ∃ (dx : Addr), L = ((a, .ins ad.c_SpeakTail dx [("votes", .int s.votes), ("over", .int s.over), ("noughts", .int s.noughts)]) :: (dx, .own a) :: [])
theorem mo_SpeakTail (ad : Ad) : MonoO (o_SpeakTail ad) := by
  rintro F F' a L s e ⟨x0, h⟩
  exact ⟨x0, h⟩
inductive M_ReadTail_SpeakTail where
  | ReadTail (s : S_ReadTail)
  | SpeakTail (s : S_SpeakTail)
deriving DecidableEq
def o_ReadTail_SpeakTail (ad : Ad) : Ob M_ReadTail_SpeakTail := fun F a L x => match x with
  | .ReadTail s => o_ReadTail ad F a L s
  | .SpeakTail s => o_SpeakTail ad F a L s
theorem mo_ReadTail_SpeakTail (ad : Ad) : MonoO (o_ReadTail_SpeakTail ad) := by
  intro F F' a L x e h
  cases x with
  | ReadTail s => exact mo_ReadTail ad _ _ _ _ _ e h
  | SpeakTail s => exact mo_SpeakTail ad _ _ _ _ _ e h
structure S_Seat where
  tail : M_ReadTail_SpeakTail
  verdict : Str
  flags : Int
deriving DecidableEq
def o_Seat (ad : Ad) : Ob S_Seat := fun F a L s => ∃ (dx : Addr) (a_tail : Addr) (L_tail : List Cell), L = ((a, .ins ad.c_Seat dx [("tail", .ref a_tail), ("verdict", .str s.verdict), ("flags", .int s.flags)]) :: (dx, .own a) :: (L_tail ++ [])) ∧ (o_ReadTail_SpeakTail ad) F a_tail L_tail s.tail
theorem mo_Seat (ad : Ad) : MonoO (o_Seat ad) := by
  rintro F F' a L s e ⟨x0, x1, x2, h, h0⟩
  exact ⟨x0, x1, x2, h, (mo_ReadTail_SpeakTail ad) _ _ _ _ _ e h0⟩
structure Txt (K : PySem.W.Frag) (mg : Str → Option Value) (ad : Ad) : Prop where
  F__law_draw : Fun K "_law_draw" "_law_draw" s__law_draw ad.f__law_draw ad.fd__law_draw
  g__law_draw : mg "_law_draw" = some (.ref ad.f__law_draw)
  b__law_draw : Binds K ad.fd__law_draw ["script", "k", "many"] []
  F__law_list : Fun K "_law_list" "_law_list" s__law_list ad.f__law_list ad.fd__law_list
  g__law_list : mg "_law_list" = some (.ref ad.f__law_list)
  b__law_list : Binds K ad.fd__law_list ["script", "post", "many", "votes"] []
  F_ask_seats : Fun K "ask_seats" "ask_seats" s_ask_seats ad.f_ask_seats ad.fd_ask_seats
  g_ask_seats : mg "ask_seats" = some (.ref ad.f_ask_seats)
  b_ask_seats : Binds K ad.fd_ask_seats ["many", "votes", "pairs"] []
  F_rows_of : Fun K "rows_of" "rows_of" s_rows_of ad.f_rows_of ad.fd_rows_of
  g_rows_of : mg "rows_of" = some (.ref ad.f_rows_of)
  b_rows_of : Binds K ad.fd_rows_of ["some", "most"] []
  F_Seat_init : Fun K "__init__" "Seat.__init__" s_Seat_init ad.f_Seat_init ad.fd_Seat_init
  b_Seat_init : Binds K ad.fd_Seat_init ["self", "tail"] []
  F_SpeakTail_init : Fun K "__init__" "Tail.__init__" s_SpeakTail_init ad.f_SpeakTail_init ad.fd_SpeakTail_init
  b_SpeakTail_init : Binds K ad.fd_SpeakTail_init ["self", "votes"] []
  F_ReadTail_answered : Fun K "answered" "Tail.answered" s_ReadTail_answered ad.f_ReadTail_answered ad.fd_ReadTail_answered
  b_ReadTail_answered : Binds K ad.fd_ReadTail_answered ["self", "bit"] []
  F_ReadTail_voted : Fun K "voted" "Tail.voted" s_ReadTail_voted ad.f_ReadTail_voted ad.fd_ReadTail_voted
  b_ReadTail_voted : Binds K ad.fd_ReadTail_voted ["self", "bit"] []
  F_ReadTail_hear : Fun K "hear" "Tail.hear" s_ReadTail_hear ad.f_ReadTail_hear ad.fd_ReadTail_hear
  b_ReadTail_hear : Binds K ad.fd_ReadTail_hear ["self", "bit"] []
  F_SpeakTail_answered : Fun K "answered" "SpeakTail.answered" s_SpeakTail_answered ad.f_SpeakTail_answered ad.fd_SpeakTail_answered
  b_SpeakTail_answered : Binds K ad.fd_SpeakTail_answered ["self", "bit"] []
  F_SpeakTail_voted : Fun K "voted" "Tail.voted" s_SpeakTail_voted ad.f_SpeakTail_voted ad.fd_SpeakTail_voted
  b_SpeakTail_voted : Binds K ad.fd_SpeakTail_voted ["self", "bit"] []
  F_SpeakTail_hear : Fun K "hear" "Tail.hear" s_SpeakTail_hear ad.f_SpeakTail_hear ad.fd_SpeakTail_hear
  b_SpeakTail_hear : Binds K ad.fd_SpeakTail_hear ["self", "bit"] []
  F_Seat_seat_hears : Fun K "seat_hears" "Seat.seat_hears" s_Seat_seat_hears ad.f_Seat_seat_hears ad.fd_Seat_seat_hears
  b_Seat_seat_hears : Binds K ad.fd_Seat_seat_hears ["self", "bit"] []
  F_ReadTail_init : Fun K "__init__" "Tail.__init__" s_ReadTail_init ad.f_ReadTail_init ad.fd_ReadTail_init
  b_ReadTail_init : Binds K ad.fd_ReadTail_init ["self", "votes"] []
  F_ReadTail_says : Fun K "says" "ReadTail.says" s_ReadTail_says ad.f_ReadTail_says ad.fd_ReadTail_says
  b_ReadTail_says : Binds K ad.fd_ReadTail_says ["self"] []
  F_SpeakTail_says : Fun K "says" "Tail.says" s_SpeakTail_says ad.f_SpeakTail_says ad.fd_SpeakTail_says
  b_SpeakTail_says : Binds K ad.fd_SpeakTail_says ["self"] []
  F_Seat_seat_says : Fun K "seat_says" "Seat.seat_says" s_Seat_seat_says ad.f_Seat_seat_says ad.fd_Seat_seat_says
  b_Seat_seat_says : Binds K ad.fd_Seat_seat_says ["self"] []
  F_verdicts : Fun K "verdicts" "verdicts" s_verdicts ad.f_verdicts ad.fd_verdicts
  g_verdicts : mg "verdicts" = some (.ref ad.f_verdicts)
  b_verdicts : Binds K ad.fd_verdicts ["many", "votes", "wrong"] []
  F_parting : Fun K "parting" "parting" s_parting ad.f_parting ad.fd_parting
  g_parting : mg "parting" = some (.ref ad.f_parting)
  b_parting : Binds K ad.fd_parting ["many", "votes", "places", "most"] []
  F__law_standings : Fun K "_law_standings" "_law_standings" s__law_standings ad.f__law_standings ad.fd__law_standings
  g__law_standings : mg "_law_standings" = some (.ref ad.f__law_standings)
  b__law_standings : Binds K ad.fd__law_standings ["row", "pairs"] []
  F_law : Fun K "law" "law" s_law ad.f_law ad.fd_law
  g_law : mg "law" = some (.ref ad.f_law)
  b_law : Binds K ad.fd_law ["script"] []
  z_enumerate : mg "enumerate" = none
  z_isinstance : mg "isinstance" = none
  z_len : mg "len" = none
  z_list : mg "list" = none
  z_min : mg "min" = none
  z_range : mg "range" = none
  z_set : mg "set" = none
  z_sorted : mg "sorted" = none
  g_BARE_tails : Gv mg "BARE_tails" (.int 9)
  g_BARE_verdicts : Gv mg "BARE_verdicts" (.int 9)
  g_FLAG : Gv mg "FLAG" (.int 6)
  e_NoPost : ErrC K mg "NoPost" ad.es.NoPost
  C_ReadTail : Cls K ad.c_ReadTail
  C_SpeakTail : Cls K ad.c_SpeakTail
  C_Seat : Cls K ad.c_Seat
  N_ReadTail_noughts : NoAttr K ad.c_ReadTail "noughts"
  N_ReadTail_over : NoAttr K ad.c_ReadTail "over"
  N_ReadTail_votes : NoAttr K ad.c_ReadTail "votes"
  N_Seat_flags : NoAttr K ad.c_Seat "flags"
  N_Seat_tail : NoAttr K ad.c_Seat "tail"
  N_Seat_verdict : NoAttr K ad.c_Seat "verdict"
  N_SpeakTail_noughts : NoAttr K ad.c_SpeakTail "noughts"
  N_SpeakTail_over : NoAttr K ad.c_SpeakTail "over"
  N_SpeakTail_votes : NoAttr K ad.c_SpeakTail "votes"
  M_ReadTail_answered : Meth K ad.c_ReadTail "answered" ad.f_ReadTail_answered
  M_ReadTail_hear : Meth K ad.c_ReadTail "hear" ad.f_ReadTail_hear
  M_ReadTail_says : Meth K ad.c_ReadTail "says" ad.f_ReadTail_says
  M_ReadTail_voted : Meth K ad.c_ReadTail "voted" ad.f_ReadTail_voted
  M_Seat_seat_hears : Meth K ad.c_Seat "seat_hears" ad.f_Seat_seat_hears
  M_Seat_seat_says : Meth K ad.c_Seat "seat_says" ad.f_Seat_seat_says
  M_SpeakTail_answered : Meth K ad.c_SpeakTail "answered" ad.f_SpeakTail_answered
  M_SpeakTail_hear : Meth K ad.c_SpeakTail "hear" ad.f_SpeakTail_hear
  M_SpeakTail_says : Meth K ad.c_SpeakTail "says" ad.f_SpeakTail_says
  M_SpeakTail_voted : Meth K ad.c_SpeakTail "voted" ad.f_SpeakTail_voted
  K_ReadTail : Mk K ad.c_ReadTail ad.f_ReadTail_init
  k_ReadTail : mg "ReadTail" = some (.ref ad.c_ReadTail)
  K_Seat : Mk K ad.c_Seat ad.f_Seat_init
  k_Seat : mg "Seat" = some (.ref ad.c_Seat)
  K_SpeakTail : Mk K ad.c_SpeakTail ad.f_SpeakTail_init
  k_SpeakTail : mg "SpeakTail" = some (.ref ad.c_SpeakTail)
section
variable {P : Program} {w : World} {K : PySem.W.Frag} {mg : Str → Option Value} {base : Heap}
def m__law_draw (script_1 : List Int) (k_3 : Int) (many_4 : Int) : Option (Int) :=
  bnd (ifB (decide ((0 : Int) < (List.length script_1 : Int))) (bnd (modG k_3 (List.length script_1 : Int)) fun t_5 =>
  bnd (atI script_1 t_5) fun e_7 => some e_7) ( some (0 : Int))) fun z_10 =>
  bnd (mulG ((31 : Int) * k_3) k_3) fun t_12 =>
  ltv ((((z_10 % (1000003 : Int)) + t_12) + (1 : Int))) fun seed_14 =>
  bnd (modG ((((seed_14 * (48271 : Int)) % (999983 : Int)) * (7919 : Int)) % (524287 : Int)) many_4) fun t_16 =>
  some t_16
def sp__law_draw (K : PySem.W.Frag) : Sp := fun vs H Q _ => ∃ (script_1 : List Int) (a_2 : Addr) (k_3 : Int) (many_4 : Int) (r : Int), vs = [.ref a_2, .int k_3, .int many_4] ∧ SqL K H a_2 (List.map V.int script_1) ∧ m__law_draw script_1 k_3 many_4 = some r ∧ RetV (.int r) H Q
abbrev N__law_draw : List Str := ["script", "k", "many", "cell", "seed"]
theorem sc__law_draw : FnScope N__law_draw ["script", "k", "many"] (defScope s__law_draw) := ⟨rfl, rfl, rfl, by decide +kernel, rfl, by decide +kernel, by decide +kernel⟩
theorem ok__law_draw {ad : Ad} (T : Txt K mg ad) : FnOk P w K mg base CX0 1 ad.f__law_draw ad.fd__law_draw ["script", "k", "many"] (sp__law_draw K) := by
  refine T.F__law_draw.ok sc__law_draw (fun vs H Q E h => ?_) (fun cdv A outer s H vs Q E hr h => ?_)
  · obtain ⟨_, _, _, _, _, rfl, _⟩ := h
    rfl
  · obtain ⟨script_1, a_2, k_3, many_4, r, rfl, hp_a_2, hm, k⟩ := h
    unfold m__law_draw at hm
    obtain ⟨H0, hH0⟩ : ∃ H0 : Hp, H0 = H := ⟨H, rfl⟩
    have O : Own H0 H [] := by rw [hH0]; exact Own.start H
    rw [← hH0] at k hp_a_2
    clear hH0
    refine ⟨_, (pss_cons (ps_set (i := 3) sc__law_draw.nd rfl (Or.inl rfl) (pe_ifExp (pt_cmpR op_gt (pe_callB (r := rLenQ K) call_lenQ (by rfl) T.z_len PySem.boot_len (pa_cons (pv 0) pa_nil)) pe_int (nomark _)) (pe_ix (r := rIxL K) ix_list (pv 0) (pe_op op_mod (pv 1) (pe_callB (r := rLenQ K) call_lenQ (by rfl) T.z_len PySem.boot_len (pa_cons (pv 0) pa_nil))) (fun _ _ => rfl)) pe_int)) (pss_cons (ps_set (i := 4) sc__law_draw.nd rfl (Or.inl rfl) (pe_op op_add (pe_op op_add (pe_op op_mod (pv 3) pe_int) (pe_op op_mulW (pe_op op_mul pe_int (pv 1)) (pv 1))) pe_int)) (pss_one (ps_ret (pe_op op_mod (pe_op op_mod (pe_op op_mul (pe_op op_mod (pe_op op_mul (pv 4) pe_int) pe_int) pe_int) pe_int) (pv 2)))))), ?_⟩
    -- 112
    refine o_seq ?_
    refine o_asg ?_
    obtain ⟨z_10, h11, hm⟩ := bndE hm
    refine x_if (c := decide ((0 : Int) < (List.length script_1 : Int))) (x := .int z_10) (y := .int z_10) (v := .int z_10) O (fun Q1 k1 => ?_) (fun h9 => ⟨rfl, fun H O Q2 k2 => ?_⟩) (fun h9 => ⟨rfl, fun H O Q2 k2 => ?_⟩) (fun H O => ?_)
    · refine ⟨_, rfl, ?_⟩
      refine x_nil ?_
      refine n_len (O.ex.l hp_a_2) ?_
      refine ⟨_, _, rfl, rfl, _, rfl, ?_⟩
      exact k1 _ O
    · replace hm := ifT h11 h9
      obtain ⟨t_5, h6, hm⟩ := bndE hm
      obtain ⟨e_7, h8, hm⟩ := bndE hm
      obtain rfl := Option.some.inj hm
      refine ⟨_, rfl, _, rfl, _, rfl, ?_⟩
      refine x_nil ?_
      refine n_len (O.ex.l hp_a_2) ?_
      refine k_mod h6 ?_
      refine k_ixL (f := V.int) (O.ex.l hp_a_2) h8 ?_
      exact k2 _ O
    · replace hm := ifF h11 h9
      obtain rfl := Option.some.inj hm
      refine o_c ?_
      exact k2 _ O
    -- 113
    refine o_seq ?_
    refine o_asg ?_
    obtain ⟨t_12, h13, hm⟩ := bndE hm
    refine ⟨_, rfl, _, _, rfl, rfl, (by show (0 : Int) < 1000003; decide), _, rfl, _, _, rfl, rfl, .inl ⟨by decide, by decide⟩, _, rfl, ?_⟩
    refine k_mul h13 ?_
    refine ⟨_, _, rfl, rfl, _, _, rfl, rfl, ?_⟩
    obtain ⟨seed_14, h15, hm⟩ := ltvE hm
    refine a_set (congrArg V.int h15) ?_
    -- 114
    refine o_ret ?_
    obtain ⟨t_16, h17, hm⟩ := bndE hm
    refine ⟨_, rfl, _, _, rfl, rfl, .inr ⟨by decide, by decide⟩, _, _, rfl, rfl, (by show (0 : Int) < 999983; decide), _, _, rfl, rfl, .inr ⟨by decide, by decide⟩, _, _, rfl, rfl, (by show (0 : Int) < 524287; decide), _, rfl, ?_⟩
    refine k_mod h17 ?_
    obtain rfl := Option.some.inj hm
    exact RetV.go k O
def m__law_list_L0 (post_3 : Int) (votes_5 : Int) (law_dr_7 : Int) (k_18 : Int) (pairs_11 : List (Int × Int)) : Option ((List (Int × Int))) :=
  bnd (modG (law_dr_7 + k_18) votes_5) fun t_22 =>
  bnd (appG pairs_11 (post_3, ((9 : Int) + t_22))) fun l_25 =>
  some l_25
def m__law_list_L1 (script_1 : List Int) (many_4 : Int) (votes_5 : Int) (k_42 : Int) (pairs_32 : List (Int × Int)) : Option ((List (Int × Int))) :=
  bnd (m__law_draw script_1 ((10 : Int) + ((3 : Int) * k_42)) many_4) fun law_dr_46 =>
  bnd (m__law_draw script_1 ((11 : Int) + ((3 : Int) * k_42)) ((9 : Int) + votes_5)) fun law_dr_48 =>
  bnd (m__law_draw script_1 ((12 : Int) + ((3 : Int) * k_42)) ((List.length pairs_32 : Int) + (1 : Int))) fun law_dr_51 =>
  ifB (!inL (law_dr_46, law_dr_48) pairs_32) (
    bnd (insG pairs_32 law_dr_51 (law_dr_46, law_dr_48)) fun l_54 =>
    some l_54) (
    some pairs_32)
def m__law_list (script_1 : List Int) (post_3 : Int) (many_4 : Int) (votes_5 : Int) : Option (List (Int × Int)) :=
  bnd (m__law_draw script_1 (4 : Int) votes_5) fun law_dr_7 =>
  bnd (rng1 ((votes_5 / (2 : Int)) + (1 : Int))) fun rg_9 =>
  bnd (loopM (fun k_18 s => m__law_list_L0 post_3 votes_5 law_dr_7 k_18 s) rg_9 ([] : List (Int × Int))) fun pairs_14 =>
  bnd (m__law_draw script_1 (5 : Int) (5 : Int)) fun law_dr_27 =>
  bnd (rng1 law_dr_27) fun rg_29 =>
  bnd (loopM (fun k_42 s => m__law_list_L1 script_1 many_4 votes_5 k_42 s) rg_29 pairs_14) fun pairs_38 =>
  some pairs_38
def sp__law_list (K : PySem.W.Frag) (ad : Ad) : Sp := fun vs H Q _ => ∃ (script_1 : List Int) (a_2 : Addr) (post_3 : Int) (many_4 : Int) (votes_5 : Int) (R0 : Hp) (r : List (Int × Int)), vs = [.ref a_2, .int post_3, .int many_4, .int votes_5] ∧ Own R0 H [] ∧ SqL K (hsub H []) a_2 (List.map V.int script_1) ∧ m__law_list script_1 post_3 many_4 votes_5 = some r ∧ RetX R0 (hsub H []) (dP (rL (rT2 rI rI)) r) Q
abbrev N__law_list : List Str := ["script", "post", "many", "votes", "pairs", "first", "k", "pair", "at"]
theorem sc__law_list : FnScope N__law_list ["script", "post", "many", "votes"] (defScope s__law_list) := ⟨rfl, rfl, rfl, by decide +kernel, rfl, by decide +kernel, by decide +kernel⟩
theorem ok__law_list {ad : Ad} (T : Txt K mg ad) : FnOk P w K mg base CX0 2 ad.f__law_list ad.fd__law_list ["script", "post", "many", "votes"] (sp__law_list K ad) := by
  have G__law_draw := ok__law_draw (P := P) (w := w) (base := base) T
  refine T.F__law_list.ok sc__law_list (fun vs H Q E h => ?_) (fun cdv A outer s H vs Q E hr h => ?_)
  · obtain ⟨_, _, _, _, _, _, _, rfl, _⟩ := h
    rfl
  · obtain ⟨script_1, a_2, post_3, many_4, votes_5, R0, r, rfl, OO, hp_a_2, hm, k⟩ := h
    unfold m__law_list at hm
    obtain ⟨Hb, hHb⟩ : ∃ Hb : Hp, Hb = hsub H [] := ⟨_, rfl⟩
    obtain ⟨H0, hH0⟩ : ∃ H0 : Hp, H0 = Hb := ⟨Hb, rfl⟩
    have O : Own H0 H [] := by rw [hH0, hHb]; exact OO.startX
    have eR : Ex R0 Hb := by rw [hHb]; exact OO.subR
    rw [← hHb] at k hp_a_2
    have eB : Ex Hb H0 := by rw [hH0]; exact Ex.refl _
    have eS : Ex R0 (ovr R0 Hb H0) := by rw [hH0]; exact ovr_start eR
    rw [← hH0] at hp_a_2
    clear hH0
    refine ⟨_, (pss_cons (ps_set (i := 4) sc__law_list.nd rfl (Or.inl rfl) (pe_lstQ (pe_lst pa_nil))) (pss_cons (ps_set (i := 5) sc__law_list.nd rfl (Or.inl rfl) (pe_call G__law_draw (hr.mono (by decide)) (by rfl) T.g__law_draw T.F__law_draw.kp T.b__law_draw .nil pass0 (pa_cons (pv 0) (pa_cons pe_int (pa_cons (pv 3) pa_nil))))) (pss_cons (ps_for PassesOwn.never rfl (pi_range1 (by rfl) T.z_range (pa_cons (pe_op op_add (pe_op op_fdiv (pv 3) pe_int) pe_int) pa_nil)) (pg_name (i := 6) sc__law_list.nd rfl (Or.inl rfl)) (pss_one (ps_expr (pe_bm PySem.F.plainAttrs_list PySem.F.slot_list_append PySem.F.type_list_append mt_append (pv 4) (pa_cons (pe_tupQ (pe_tup (pa_cons (pv 1) (pa_cons (pe_op op_add pe_int (pe_op op_mod (pe_op op_add (pv 5) (pv 6)) (pv 3))) pa_nil)))) pa_nil))))) (pss_cons (ps_for PassesOwn.never rfl (pi_range1 (by rfl) T.z_range (pa_cons (pe_call G__law_draw (hr.mono (by decide)) (by rfl) T.g__law_draw T.F__law_draw.kp T.b__law_draw .nil pass0 (pa_cons (pv 0) (pa_cons pe_int (pa_cons pe_int pa_nil)))) pa_nil)) (pg_name (i := 6) sc__law_list.nd rfl (Or.inl rfl)) (pss_cons (ps_set (i := 7) sc__law_list.nd rfl (Or.inl rfl) (pe_tupQ (pe_tup (pa_cons (pe_call G__law_draw (hr.mono (by decide)) (by rfl) T.g__law_draw T.F__law_draw.kp T.b__law_draw .nil pass0 (pa_cons (pv 0) (pa_cons (pe_op op_add pe_int (pe_op op_mul pe_int (pv 6))) (pa_cons (pv 2) pa_nil)))) (pa_cons (pe_call G__law_draw (hr.mono (by decide)) (by rfl) T.g__law_draw T.F__law_draw.kp T.b__law_draw .nil pass0 (pa_cons (pv 0) (pa_cons (pe_op op_add pe_int (pe_op op_mul pe_int (pv 6))) (pa_cons (pe_op op_add pe_int (pv 3)) pa_nil)))) pa_nil))))) (pss_cons (ps_set (i := 8) sc__law_list.nd rfl (Or.inl rfl) (pe_call G__law_draw (hr.mono (by decide)) (by rfl) T.g__law_draw T.F__law_draw.kp T.b__law_draw .nil pass0 (pa_cons (pv 0) (pa_cons (pe_op op_add pe_int (pe_op op_mul pe_int (pv 6))) (pa_cons (pe_op op_add (pe_callB (r := rLenQ K) call_lenQ (by rfl) T.z_len PySem.boot_len (pa_cons (pv 4) pa_nil)) pe_int) pa_nil))))) (pss_one (ps_if (pt_cmpR (r := rNotInD K) (op_notInD (room65 hr)) (pv 7) (pv 4) (by rfl)) (pss_one (ps_expr (pe_bm (r := rInsert) PySem.F.plainAttrs_list PySem.F.slot_list_insert PySem.F.type_list_insert mt_insertQ (pv 4) (pa_cons (pv 8) (pa_cons (pv 7) pa_nil))))) pss_nil))))) (pss_one (ps_ret (pv 4))))))), ?_⟩
    -- 116
    refine o_seq ?_
    refine o_asg ?_
    refine x_nil ?_
    refine n_lst (f := V.int) (xs := ([] : List Int)) O rfl (Nat.zero_le _) fun p_6 H O => ?_
    -- 117
    refine o_seq ?_
    refine o_asg ?_
    obtain ⟨law_dr_7, h8, hm⟩ := bndE hm
    refine ⟨_, rfl, _, rfl, ?_⟩
    refine x_nil ?_
    refine ⟨_, _, _, _, law_dr_7, rfl, (O.ex.l hp_a_2), h8, ?_⟩
    refine O.retV fun H O => ?_
    -- 118
    refine o_seq ?_
    refine o_for ?_
    obtain ⟨rg_9, h10, hm⟩ := bndE hm
    refine ⟨_, rfl, _, _, rfl, rfl, ⟨by decide, by decide⟩, _, _, rfl, rfl, ?_⟩
    refine x_nil ?_
    obtain ⟨c1, c2, rfl⟩ := rng1E h10
    obtain ⟨pairs_14, h15, hm⟩ := bndE hm
    refine ⟨_, rfl, c1, c2, q_forR (fun r σ H => ∃ (R_ : Hp) (pairs_11 : List (Int × Int)) (vs_12 : List V) (j_13 : Option V), σ = [some (.ref a_2), some (.int post_3), some (.int many_4), some (.int votes_5), some (.ref p_6), some (.int law_dr_7), j_13, none, none] ∧ Ex H0 R_ ∧ Own R_ H [(p_6, .lst vs_12)] ∧ All2 ((rT2 rI rI) (ovr R0 Hb R_)) vs_12 pairs_11 ∧ loopM (fun k_18 s => m__law_list_L0 post_3 votes_5 law_dr_7 k_18 s) r pairs_11 = some pairs_14) ⟨H0, ([] : List (Int × Int)), ([] : List V), _, rfl, Ex.refl _, O, .nil, h15⟩ ?_ ?_⟩
    · rintro k_18 r σ H ⟨H0, pairs_11, vs_12, j_13, rfl, eL19, O, ha_p_6, hL⟩
      replace hp_a_2 := eL19.l hp_a_2
      replace eB := eB.trans eL19
      obtain ⟨s_, hm, h17⟩ := loopM_cons hL
      replace hm : m__law_list_L0 post_3 votes_5 law_dr_7 k_18 pairs_11 = some s_ := hm
      unfold m__law_list_L0 at hm
      -- 119
      refine o_drop ?_
      obtain ⟨t_22, h23, hm⟩ := bndE hm
      refine ⟨_, rfl, .inl ⟨rfl, _, (SqL.of (O.mem (List.Mem.head _)))⟩, _, rfl, _, rfl, _, rfl, _, _, rfl, rfl, _, rfl, ?_⟩
      refine k_mod h23 ?_
      refine ⟨_, _, rfl, rfl, ?_⟩
      refine x_nil ?_
      refine n_tup O (by show 2 ≤ sizeLine; decide) fun p_24 H O => ?_
      refine x_nil ?_
      obtain ⟨H0, O, e_, hp_p_24⟩ := O.frzO (R0 := R0) eB
      replace hp_a_2 := e_.l hp_a_2
      replace ha_p_6 := mA (mT2 mI mI) (ovr_mono e_) ha_p_6
      replace eB := eB.trans e_
      replace eL19 := eL19.trans e_
      have hn_p_24 : (rT2 rI rI) (ovr R0 Hb H0) (.ref p_24) (post_3, ((9 : Int) + t_22)) := ⟨_, _, _, rfl, hp_p_24, rfl, rfl⟩
      obtain ⟨l_25, h26, hm⟩ := bndE hm
      refine k_appA (O.mem (List.Mem.head _)) ha_p_6 (fun _ => O.put0) h26 hn_p_24 fun H O ha_p_6 => ?_
      have Oz := O
      obtain rfl := Option.some.inj hm
      exact ⟨H0, _, ((vs_12 ++ [.ref p_24])), _, rfl, eL19, Oz, ha_p_6, h17⟩
    rintro σ H ⟨H0, pairs_11, vs_12, j_13, rfl, eJ_, O, ha_p_6, hL⟩
    replace hp_a_2 := eJ_.l hp_a_2
    replace eB := eB.trans eJ_
    cases loopM_nil hL
    -- 120
    refine o_seq ?_
    refine o_for ?_
    obtain ⟨law_dr_27, h28, hm⟩ := bndE hm
    refine ⟨_, rfl, ?_⟩
    refine o_cons ?_
    refine o_c ?_
    refine o_cons ?_
    refine o_c ?_
    refine x_nil ?_
    refine ⟨_, _, _, _, law_dr_27, rfl, (O.ex.l hp_a_2), h28, ?_⟩
    refine O.retV fun H O => ?_
    obtain ⟨rg_29, h30, hm⟩ := bndE hm
    refine x_nil ?_
    obtain ⟨c1, c2, rfl⟩ := rng1E h30
    obtain ⟨pairs_38, h39, hm⟩ := bndE hm
    refine ⟨_, rfl, c1, c2, q_forR (fun r σ H => ∃ (R_ : Hp) (pairs_32 : List (Int × Int)) (vs_33 : List V) (j_31 : Option V) (j_34 : Option V) (j_35 : Option V) (j_36 : Option V) (j_37 : Option V), σ = [some (.ref a_2), j_31, some (.int many_4), some (.int votes_5), some (.ref p_6), j_34, j_35, j_36, j_37] ∧ Ex H0 R_ ∧ Own R_ H [(p_6, .lst vs_33)] ∧ All2 ((rT2 rI rI) (ovr R0 Hb R_)) vs_33 pairs_32 ∧ loopM (fun k_42 s => m__law_list_L1 script_1 many_4 votes_5 k_42 s) r pairs_32 = some pairs_38) ⟨H0, _, (vs_12), _, _, _, _, _, rfl, Ex.refl _, O, ha_p_6, h39⟩ ?_ ?_⟩
    · rintro k_42 r σ H ⟨H0, pairs_32, vs_33, j_31, j_34, j_35, j_36, j_37, rfl, eL43, O, ha_p_6, hL⟩
      replace hp_a_2 := eL43.l hp_a_2
      replace eB := eB.trans eL43
      obtain ⟨s_, hm, h41⟩ := loopM_cons hL
      replace hm : m__law_list_L1 script_1 many_4 votes_5 k_42 pairs_32 = some s_ := hm
      unfold m__law_list_L1 at hm
      -- 121
      refine o_seq ?_
      refine o_asg ?_
      obtain ⟨law_dr_46, h47, hm⟩ := bndE hm
      refine ⟨_, rfl, _, rfl, _, _, rfl, rfl, .inl ⟨by decide, by decide⟩, _, _, rfl, rfl, _, rfl, ?_⟩
      refine x_nil ?_
      refine ⟨_, _, _, _, law_dr_46, rfl, (O.ex.l hp_a_2), h47, ?_⟩
      refine O.retV fun H O => ?_
      obtain ⟨law_dr_48, h49, hm⟩ := bndE hm
      refine ⟨_, rfl, _, rfl, _, _, rfl, rfl, .inl ⟨by decide, by decide⟩, _, _, rfl, rfl, _, rfl, _, _, rfl, rfl, ?_⟩
      refine x_nil ?_
      refine ⟨_, _, _, _, law_dr_48, rfl, (O.ex.l hp_a_2), h49, ?_⟩
      refine O.retV fun H O => ?_
      refine x_nil ?_
      refine n_tup O (by show 2 ≤ sizeLine; decide) fun p_50 H O => ?_
      -- 122
      refine o_seq ?_
      refine o_asg ?_
      refine ⟨_, rfl, _, rfl, _, _, rfl, rfl, .inl ⟨by decide, by decide⟩, _, _, rfl, rfl, _, rfl, ?_⟩
      refine x_nil ?_
      refine n_lenA (SqL.of (O.mem (List.Mem.tail _ (List.Mem.head _)))) ha_p_6 ?_
      obtain ⟨law_dr_51, h52, hm⟩ := bndE hm
      refine ⟨_, _, rfl, rfl, ?_⟩
      refine x_nil ?_
      refine ⟨_, _, _, _, law_dr_51, rfl, (O.ex.l hp_a_2), h52, ?_⟩
      refine O.retV fun H O => ?_
      -- 123
      refine o_ifs ?_
      refine ⟨_, rfl, _, rfl, ?_⟩
      refine k_niJ (x := (law_dr_46, law_dr_48)) (deT2 deI deI) (mT2 mI mI) (by decide) ⟨_, _, _, rfl, (O.mem (List.Mem.head _)), rfl, rfl⟩ (Ex.refl _) (SqL.of (O.mem (List.Mem.tail _ (List.Mem.head _)))) ha_p_6 (ovr_ex.trans O.ex) ?_
      refine ⟨_, rfl, ?_⟩
      refine iteS (c := (!inL (law_dr_46, law_dr_48) pairs_32)) (fun h53 => ?_) (fun h53 => ?_)
      · replace hm := ifT hm h53
        -- 124
        refine o_drop ?_
        refine ⟨_, rfl, .inl ⟨rfl, _, (SqL.of (O.mem (List.Mem.tail _ (List.Mem.head _))))⟩, _, rfl, _, rfl, ?_⟩
        refine x_nil ?_
        obtain ⟨H0, O, e_, hp_p_50⟩ := O.frzO (R0 := R0) eB
        replace hp_a_2 := e_.l hp_a_2
        replace ha_p_6 := mA (mT2 mI mI) (ovr_mono e_) ha_p_6
        replace eB := eB.trans e_
        replace eL43 := eL43.trans e_
        have hn_p_50 : (rT2 rI rI) (ovr R0 Hb H0) (.ref p_50) (law_dr_46, law_dr_48) := ⟨_, _, _, rfl, hp_p_50, rfl, rfl⟩
        obtain ⟨l_54, h55, hm⟩ := bndE hm
        refine k_insA (O.mem (List.Mem.head _)) ha_p_6 (fun _ => O.put0) h55 hn_p_50 fun H vs_56 O ha_p_6 => ?_
        have Oz := O
        obtain rfl := Option.some.inj hm
        exact ⟨H0, _, (vs_56), _, _, _, _, _, rfl, eL43, Oz, ha_p_6, h41⟩
      · replace hm := ifF hm h53
        refine o_next ?_
        have Oz := O
        obtain rfl := Option.some.inj hm
        exact ⟨H0, _, (vs_33), _, _, _, _, _, rfl, eL43, (Oz.sel (L' := [(p_6, .lst vs_33)]) [1] (by decide) rfl), ha_p_6, h41⟩
    rintro σ H ⟨H0, pairs_32, vs_33, j_31, j_34, j_35, j_36, j_37, rfl, eJ_, O, ha_p_6, hL⟩
    replace hp_a_2 := eJ_.l hp_a_2
    replace eB := eB.trans eJ_
    cases loopM_nil hL
    -- 125
    refine o_ret ?_
    refine ⟨_, rfl, ?_⟩
    obtain rfl := Option.some.inj hm
    obtain ⟨H0, O, e_, hp_p_6⟩ := O.frzO (R0 := R0) eB
    replace hp_a_2 := e_.l hp_a_2
    replace ha_p_6 := mA (mT2 mI mI) (ovr_mono e_) ha_p_6
    replace eB := eB.trans e_
    have hn_p_6 : (rL (rT2 rI rI)) (ovr R0 Hb H0) (.ref p_6) pairs_38 := ⟨_, _, rfl, hp_p_6, ha_p_6⟩
    exact k _ _ H0 [] eB (Own.cv O (by first | with_reducible rfl | simp only [List.map_nil, List.flatten_cons, List.flatten_nil, List.cons_append, List.nil_append, List.append_nil, List.append_assoc])) ⟨rfl, hn_p_6⟩
def m_ask_seats_L0 (many_1 : Int) (votes_2 : Int) (post_17 : Int) (place_18 : Int) : Option (Fl (Unit) (Rs Unit)) :=
  ifB (decide (post_17 < (0 : Int)) || (decide (many_1 ≤ post_17) || (decide (place_18 < (0 : Int)) || decide (((9 : Int) + votes_2) ≤ place_18)))) (
    some (.rt (.er .NoPost))) (
    some (.nx ()))
def m_ask_seats (many_1 : Int) (votes_2 : Int) (pairs_3 : List (Int × Int)) : Option (Rs Unit) :=
  ifB (decide (many_1 < (2 : Int)) || (decide ((5 : Int) < many_1) || (!decide (votes_2 ∈ ([(1 : Int), (3 : Int), (5 : Int)] : List Int))))) (
    some (.er .NoPost)) (
    fin (loopF (fun q_ (_ : Unit) => m_ask_seats_L0 many_1 votes_2 q_.1 q_.2) pairs_3 ()) fun _ =>
    some (.ok ()))
def sp_ask_seats (K : PySem.W.Frag) (d : Eds) : Sp := fun vs H Q E => ∃ (many_1 : Int) (votes_2 : Int) (pairs_3 : List (Int × Int)) (a_4 : Addr) (r : Rs Unit), vs = [.int many_1, .int votes_2, .ref a_4] ∧ (rL (rT2 rI rI)) H (.ref a_4) pairs_3 ∧ m_ask_seats many_1 votes_2 pairs_3 = some r ∧ RetR (fun r => RetV .non H Q) d r H E
abbrev N_ask_seats : List Str := ["many", "votes", "pairs", "post", "place"]
theorem sc_ask_seats : FnScope N_ask_seats ["many", "votes", "pairs"] (defScope s_ask_seats) := ⟨rfl, rfl, rfl, by decide +kernel, rfl, by decide +kernel, by decide +kernel⟩
theorem ok_ask_seats {ad : Ad} (T : Txt K mg ad) : FnOk P w K mg base (L2N.CX P w) 1 ad.f_ask_seats ad.fd_ask_seats ["many", "votes", "pairs"] (sp_ask_seats K ad.es) := by
  refine okN T.F_ask_seats sc_ask_seats (fun vs H Q E h => ?_) (fun cdv A outer s H vs Q E hr h => ?_)
  · obtain ⟨_, _, _, _, _, rfl, _⟩ := h
    rfl
  · obtain ⟨many_1, votes_2, pairs_3, a_4, r, rfl, hn_a_4, hm, k⟩ := h
    unfold m_ask_seats at hm
    obtain ⟨H0, hH0⟩ : ∃ H0 : Hp, H0 = H := ⟨H, rfl⟩
    have O : Own H0 H [] := by rw [hH0]; exact Own.start H
    rw [← hH0] at k hn_a_4
    clear hH0
    refine ⟨_, (pss_cons (ps_if (PW.pt (pw_or (pt_cmpR op_lt (pv 0) pe_int (nomark _)) (pw_or (pt_cmpR op_gt (pv 0) pe_int (nomark _)) (pw_or1 (pt_cmpR (r := rIn K true) op_notIn_seq (pv 1) (pe_tupQ (pe_tup (pa_cons pe_int (pa_cons pe_int (pa_cons pe_int pa_nil))))) (by rfl)))))) (pss_one (ps_errN T.e_NoPost (L2N.takes_of rfl rfl rfl rfl) rfl rfl)) pss_nil) (pss_one (ps_for (passes_of rfl) rfl (pi_list (pv 2)) (pg_tup rfl (pgs_cons (pg_name (i := 3) sc_ask_seats.nd rfl (Or.inl rfl)) (pgs_cons (pg_name (i := 4) sc_ask_seats.nd rfl (Or.inl rfl)) pgs_nil))) (pss_one (ps_if (PW.pt (pw_or (pt_cmpR op_lt (pv 3) pe_int (nomark _)) (pw_or (pt_cmpR op_ge (pv 3) (pv 0) (nomark _)) (pw_or (pt_cmpR op_lt (pv 4) pe_int (nomark _)) (pw_or1 (pt_cmpR op_ge (pv 4) (pe_op op_add (pe_gv rfl T.g_BARE_verdicts) (pv 1)) (nomark _))))))) (pss_one (ps_errN T.e_NoPost (L2N.takes_of rfl rfl rfl rfl) rfl rfl)) pss_nil))))), ?_⟩
    -- 77
    refine o_seq ?_
    refine o_ifs ?_
    refine x_or (c := decide (many_1 < (2 : Int))) (e := (decide ((5 : Int) < many_1) || (!decide (votes_2 ∈ ([(1 : Int), (3 : Int), (5 : Int)] : List Int))))) (d := (decide (many_1 < (2 : Int)) || (decide ((5 : Int) < many_1) || (!decide (votes_2 ∈ ([(1 : Int), (3 : Int), (5 : Int)] : List Int)))))) O (fun Q1 k1 => ?_) (fun h5 => ⟨by rw [h5]; rfl, fun H O Q2 k2 => ?_⟩) (fun h5 => by rw [h5]; rfl) (fun H O => ?_)
    · refine ⟨_, rfl, _, _, rfl, rfl, _, rfl, ?_⟩
      exact k1 _ O
    · refine x_or (c := decide ((5 : Int) < many_1)) (e := (!decide (votes_2 ∈ ([(1 : Int), (3 : Int), (5 : Int)] : List Int)))) (d := (decide ((5 : Int) < many_1) || (!decide (votes_2 ∈ ([(1 : Int), (3 : Int), (5 : Int)] : List Int))))) O (fun Q1 k1 => ?_) (fun h6 => ⟨by rw [h6]; rfl, fun H O Q2 k2 => ?_⟩) (fun h6 => by rw [h6]; rfl) (fun H O => ?_)
      · refine ⟨_, rfl, _, _, rfl, rfl, _, rfl, ?_⟩
        exact k1 _ O
      · refine ⟨_, rfl, ?_⟩
        refine o_cons ?_
        refine o_c ?_
        refine o_cons ?_
        refine o_c ?_
        refine o_cons ?_
        refine o_c ?_
        refine x_nil ?_
        refine n_tup O (by show 3 ≤ sizeLine; decide) fun p_7 H O => ?_
        refine k_niT (ns := [(1 : Int), (3 : Int), (5 : Int)]) (SqT.of (O.mem (List.Mem.head _))) ?_
        refine ⟨_, rfl, ?_⟩
        replace O := O.tl
        exact k2 _ O
      exact k2 _ O
    refine iteS (c := (decide (many_1 < (2 : Int)) || (decide ((5 : Int) < many_1) || (!decide (votes_2 ∈ ([(1 : Int), (3 : Int), (5 : Int)] : List Int)))))) (fun h8 => ?_) (fun h8 => ?_)
    · replace hm := ifT hm h8
      -- 78
      obtain rfl := Option.some.inj hm
      exact k _ O.ex
    · replace hm := ifF hm h8
      refine o_next ?_
      -- 79
      refine o_for ?_
      refine ⟨_, rfl, ?_⟩
      obtain ⟨vs_9, h10, h11⟩ := rL_at hn_a_4
      obtain ⟨out_19, h14, h15⟩ := bndE hm
      refine ⟨_, rfl, ⟨_, (SqL.of (O.ex _ _ h10))⟩, q_forA2 (b := fun _ _ => False) (k := fun _ _ => False) (KK := K) h11 (fun r σ H => ∃ (j_12 : Option V) (j_13 : Option V), σ = [some (.int many_1), some (.int votes_2), some (.ref a_4), j_12, j_13] ∧ Own H0 H [] ∧ loopF (fun q_ (_ : Unit) => m_ask_seats_L0 many_1 votes_2 q_.1 q_.2) r () = some out_19) ⟨_, _, rfl, O, h14⟩ (by rintro r σ H ⟨j_12, j_13, rfl, O, hL⟩; exact (SqL.of (O.ex _ _ h10))) (by rintro r σ H ⟨j_12, j_13, rfl, O, hL⟩; exact O.ex) ?_ ?_⟩
      · rintro post_17 place_18 w_20 w_22 r σ H h21 h23 ⟨j_12, j_13, rfl, O, hL⟩
        obtain ⟨s_, hm, h16⟩ := loopF_cons hL
        replace hm : m_ask_seats_L0 many_1 votes_2 post_17 place_18 = some s_ := hm
        unfold m_ask_seats_L0 at hm
        obtain rfl := h21
        obtain rfl := h23
        -- 80
        refine o_ifs ?_
        refine x_or (c := decide (post_17 < (0 : Int))) (e := (decide (many_1 ≤ post_17) || (decide (place_18 < (0 : Int)) || decide (((9 : Int) + votes_2) ≤ place_18)))) (d := (decide (post_17 < (0 : Int)) || (decide (many_1 ≤ post_17) || (decide (place_18 < (0 : Int)) || decide (((9 : Int) + votes_2) ≤ place_18))))) O (fun Q1 k1 => ?_) (fun h24 => ⟨by rw [h24]; rfl, fun H O Q2 k2 => ?_⟩) (fun h24 => by rw [h24]; rfl) (fun H O => ?_)
        · refine ⟨_, rfl, _, _, rfl, rfl, _, rfl, ?_⟩
          exact k1 _ O
        · refine x_or (c := decide (many_1 ≤ post_17)) (e := (decide (place_18 < (0 : Int)) || decide (((9 : Int) + votes_2) ≤ place_18))) (d := (decide (many_1 ≤ post_17) || (decide (place_18 < (0 : Int)) || decide (((9 : Int) + votes_2) ≤ place_18)))) O (fun Q1 k1 => ?_) (fun h25 => ⟨by rw [h25]; rfl, fun H O Q2 k2 => ?_⟩) (fun h25 => by rw [h25]; rfl) (fun H O => ?_)
          · refine ⟨_, rfl, _, rfl, _, _, rfl, rfl, _, rfl, ?_⟩
            exact k1 _ O
          · refine x_or (c := decide (place_18 < (0 : Int))) (e := decide (((9 : Int) + votes_2) ≤ place_18)) (d := (decide (place_18 < (0 : Int)) || decide (((9 : Int) + votes_2) ≤ place_18))) O (fun Q1 k1 => ?_) (fun h26 => ⟨by rw [h26]; rfl, fun H O Q2 k2 => ?_⟩) (fun h26 => by rw [h26]; rfl) (fun H O => ?_)
            · refine ⟨_, rfl, _, _, rfl, rfl, _, rfl, ?_⟩
              exact k1 _ O
            · refine ⟨_, rfl, _, rfl, _, _, rfl, rfl, _, _, rfl, rfl, _, rfl, ?_⟩
              exact k2 _ O
            exact k2 _ O
          exact k2 _ O
        refine iteS (c := (decide (post_17 < (0 : Int)) || (decide (many_1 ≤ post_17) || (decide (place_18 < (0 : Int)) || decide (((9 : Int) + votes_2) ≤ place_18))))) (fun h27 => ?_) (fun h27 => ?_)
        · replace hm := ifT hm h27
          -- 81
          obtain rfl := Option.some.inj hm
          obtain rfl := contRt h16
          obtain rfl := finRt h15
          exact k _ O.ex
        · replace hm := ifF hm h27
          refine o_next ?_
          have Oz := O
          obtain rfl := Option.some.inj hm
          exact ⟨_, _, rfl, Oz, h16⟩
      rintro σ H ⟨j_12, j_13, rfl, O, hL⟩
      obtain rfl := loopF_nil hL
      replace hm := finNx h15
      obtain rfl := Option.some.inj hm
      exact RetV.go k O
def m_rows_of_L1 (some_1 : List (Int × Int)) (at_10 : Int) (k_44 : Int) (rows_35 : List (List (Int × Int))) (ends_37 : List Int) : Option ((List (List (Int × Int))) × (List Int)) :=
  bnd (atI rows_35 at_10) fun e_48 =>
  bnd (atI some_1 k_44) fun e_53 =>
  bnd (catG e_48 ([e_53])) fun t_62 =>
  bnd (appG rows_35 t_62) fun l_69 =>
  bnd (appG ends_37 k_44) fun l_71 =>
  some (l_69, l_71)
def m_rows_of_W0c (some_1 : List (Int × Int)) (most_3 : Int) (rows_7 : List (List (Int × Int))) (ends_9 : List Int) (at_10 : Int) : Option Bool :=
  bnd (ifB (decide (at_10 < (List.length rows_7 : Int))) (bnd (atI rows_7 at_10) fun e_18 => some (decide ((List.length e_18 : Int) < most_3))) (some false)) fun c_26 =>
  some c_26
def m_rows_of_W0 (some_1 : List (Int × Int)) (most_3 : Int) (rows_7 : List (List (Int × Int))) (ends_9 : List Int) (at_10 : Int) : Option ((List (List (Int × Int))) × (List Int) × Int) :=
  bnd (atI ends_9 at_10) fun e_28 =>
  bnd (rng2 (e_28 + (1 : Int)) (List.length some_1 : Int)) fun rg_33 =>
  bnd (loopM (fun k_44 s => m_rows_of_L1 some_1 at_10 k_44 s.1 s.2) rg_33 (rows_7, ends_9)) fun (rows_39, ends_40) =>
  some (rows_39, ends_40, (at_10 + (1 : Int)))
def m_rows_of (some_1 : List (Int × Int)) (most_3 : Int) : Option (List (List (Int × Int))) :=
  bnd (whileM (fun s => m_rows_of_W0c some_1 most_3 s.1 s.2.1 s.2.2) (fun s => m_rows_of_W0 some_1 most_3 s.1 s.2.1 s.2.2) FUEL ([([] : List (Int × Int))], [(-(1 : Int))], (0 : Int))) fun (rows_12, ends_13, at_14) =>
  some rows_12
def sp_rows_of (K : PySem.W.Frag) (ad : Ad) : Sp := fun vs H Q _ => ∃ (some_1 : List (Int × Int)) (a_2 : Addr) (most_3 : Int) (R0 : Hp) (r : List (List (Int × Int))), vs = [.ref a_2, .int most_3] ∧ Own R0 H [] ∧ (rL (rT2 rI rI)) R0 (.ref a_2) some_1 ∧ m_rows_of some_1 most_3 = some r ∧ RetX R0 (hsub H []) (dP (rL (rL (rT2 rI rI))) r) Q
abbrev N_rows_of : List Str := ["some", "most", "rows", "ends", "at", "k"]
theorem sc_rows_of : FnScope N_rows_of ["some", "most"] (defScope s_rows_of) := ⟨rfl, rfl, rfl, by decide +kernel, rfl, by decide +kernel, by decide +kernel⟩
theorem ok_rows_of {ad : Ad} (T : Txt K mg ad) : FnOk P w K mg base CX0 1 ad.f_rows_of ad.fd_rows_of ["some", "most"] (sp_rows_of K ad) := by
  refine T.F_rows_of.ok sc_rows_of (fun vs H Q E h => ?_) (fun cdv A outer s H vs Q E hr h => ?_)
  · obtain ⟨_, _, _, _, _, rfl, _⟩ := h
    rfl
  · obtain ⟨some_1, a_2, most_3, R0, r, rfl, OO, hn_a_2, hm, k⟩ := h
    unfold m_rows_of at hm
    obtain ⟨Hb, hHb⟩ : ∃ Hb : Hp, Hb = hsub H [] := ⟨_, rfl⟩
    obtain ⟨H0, hH0⟩ : ∃ H0 : Hp, H0 = Hb := ⟨Hb, rfl⟩
    have O : Own H0 H [] := by rw [hH0, hHb]; exact OO.startX
    have eR : Ex R0 Hb := by rw [hHb]; exact OO.subR
    rw [← hHb] at k
    have eB : Ex Hb H0 := by rw [hH0]; exact Ex.refl _
    have eS : Ex R0 (ovr R0 Hb H0) := by rw [hH0]; exact ovr_start eR
    replace hn_a_2 := (mL (mT2 mI mI)) _ _ _ _ eS hn_a_2
    clear hH0
    refine ⟨_, (pss_cons (ps_set (i := 2) sc_rows_of.nd rfl (Or.inl rfl) (pe_lstQ (pe_lst (pa_cons (pe_lstQ (pe_lst pa_nil)) pa_nil)))) (pss_cons (ps_set (i := 3) sc_rows_of.nd rfl (Or.inl rfl) (pe_lstQ (pe_lst (pa_cons (pe_un un_neg pe_int) pa_nil)))) (pss_cons (ps_set (i := 4) sc_rows_of.nd rfl (Or.inl rfl) pe_int) (pss_cons (ps_while PassesOwn.never (PW.pt (pw_and (pt_cmpR op_lt (pv 4) (pe_callB (r := rLenQ K) call_lenQ (by rfl) T.z_len PySem.boot_len (pa_cons (pv 2) pa_nil)) (nomark _)) (pw_and1 (pt_cmpR op_lt (pe_callB (r := rLenQ K) call_lenQ (by rfl) T.z_len PySem.boot_len (pa_cons (pe_ix (r := rIxL K) ix_list (pv 2) (pv 4) (fun _ _ => rfl)) pa_nil)) (pv 1) (nomark _))))) (pss_cons (ps_for PassesOwn.never rfl (pi_range2 (by rfl) T.z_range (pa_cons (pe_op op_add (pe_ix (r := rIxL K) ix_list (pv 3) (pv 4) (fun _ _ => rfl)) pe_int) (pa_cons (pe_callB (r := rLenQ K) call_lenQ (by rfl) T.z_len PySem.boot_len (pa_cons (pv 0) pa_nil)) pa_nil))) (pg_name (i := 5) sc_rows_of.nd rfl (Or.inl rfl)) (pss_cons (ps_expr (pe_bm PySem.F.plainAttrs_list PySem.F.slot_list_append PySem.F.type_list_append mt_append (pv 2) (pa_cons (pe_op op_cat (pe_ix (r := rIxL K) ix_list (pv 2) (pv 4) (fun _ _ => rfl)) (pe_lstQ (pe_lst (pa_cons (pe_ix (r := rIxL K) ix_list (pv 0) (pv 5) (fun _ _ => rfl)) pa_nil)))) pa_nil))) (pss_one (ps_expr (pe_bm PySem.F.plainAttrs_list PySem.F.slot_list_append PySem.F.type_list_append mt_append (pv 3) (pa_cons (pv 5) pa_nil)))))) (pss_one (ps_set (i := 4) sc_rows_of.nd rfl (Or.inl rfl) (pe_op op_add (pv 4) pe_int))))) (pss_one (ps_ret (pv 2))))))), ?_⟩
    -- 93
    refine o_seq ?_
    refine o_asg ?_
    refine o_cons ?_
    refine x_nil ?_
    refine n_lst (f := V.int) (xs := ([] : List Int)) O rfl (Nat.zero_le _) fun p_4 H O => ?_
    refine x_nil ?_
    obtain ⟨H0, O, e_, hp_p_4⟩ := O.frzO (R0 := R0) eB
    replace hn_a_2 := (mL (mT2 mI mI)) _ _ _ _ (ovr_mono e_) hn_a_2
    replace eB := eB.trans e_
    refine n_lstV O (by show 1 ≤ sizeLine; decide) fun p_5 H O => ?_
    have ha_p_5 : All2 ((rL (rT2 rI rI)) (ovr R0 Hb H0)) ([.ref p_4] : List V) ([([] : List (Int × Int))] : List (List (Int × Int))) := (.cons ⟨_, [], rfl, hp_p_4, .nil⟩ .nil)
    -- 94
    refine o_seq ?_
    refine o_asg ?_
    refine ⟨_, rfl, ?_⟩
    refine x_nil ?_
    refine n_lst (f := V.int) (xs := [(-(1 : Int))]) O rfl (by show 1 ≤ sizeLine; decide) fun p_6 H O => ?_
    -- 95
    refine o_seq ?_
    refine o_asg ?_
    refine o_c ?_
    -- 96
    refine o_seq ?_
    obtain ⟨⟨rows_12, ends_13, at_14⟩, h15, hm⟩ := bndE hm
    refine o_while (fun m σ H => ∃ (R_ : Hp) (rows_7 : List (List (Int × Int))) (ends_9 : List Int) (at_10 : Int) (vs_8 : List V) (j_11 : Option V), σ = [some (.ref a_2), some (.int most_3), some (.ref p_5), some (.ref p_6), some (.int at_10), j_11] ∧ Ex H0 R_ ∧ Own R_ H [(p_5, .lst vs_8), (p_6, .lst (List.map V.int ends_9))] ∧ All2 ((rL (rT2 rI rI)) (ovr R0 Hb R_)) vs_8 rows_7 ∧ whileM (fun s => m_rows_of_W0c some_1 most_3 s.1 s.2.1 s.2.2) (fun s => m_rows_of_W0 some_1 most_3 s.1 s.2.1 s.2.2) m (rows_7, ends_9, at_10) = some (rows_12, ends_13, at_14)) FUEL ⟨H0, _, _, _, (([.ref p_4] : List V)), _, rfl, Ex.refl _, (O.sel (L' := [(p_5, .lst ([.ref p_4] : List V)), (p_6, .lst (List.map V.int ([(-(1 : Int))])))]) [1, 0] (by decide) rfl), ha_p_5, h15⟩ ?_ ?_
    · rintro σ H ⟨H0, rows_7, ends_9, at_10, vs_8, j_11, rfl, eJ_, O, ha_p_5, hL⟩
      exact whileM_zero hL
    rintro m σ H ⟨H0, rows_7, ends_9, at_10, vs_8, j_11, rfl, eL11, O, ha_p_5, hL⟩
    replace hn_a_2 := (mL (mT2 mI mI)) _ _ _ _ (ovr_mono eL11) hn_a_2
    replace eB := eB.trans eL11
    have h74 := hm
    obtain ⟨b_, hm, hL⟩ := whileM_succ hL
    replace hm : m_rows_of_W0c some_1 most_3 rows_7 ends_9 at_10 = some b_ := hm
    unfold m_rows_of_W0c at hm
    obtain ⟨c_26, h27, hm⟩ := bndE hm
    refine x_andJ (c := decide (at_10 < (List.length rows_7 : Int))) (e := c_26) (d := c_26) (fun H => ∃ (R_ : Hp), Ex H0 R_ ∧ Own R_ H [(p_5, .lst vs_8), (p_6, .lst (List.map V.int ends_9))]) (fun Q1 k1 => ?_) (fun h16 => ⟨rfl, fun H hJ Q2 k2 => ?_⟩) (fun h16 => Option.some.inj (ifF h27 h16)) (fun H hJ => ?_)
    · have eJ17 : Ex H0 H0 := Ex.refl _
      refine ⟨_, rfl, _, rfl, ?_⟩
      refine x_nil ?_
      refine n_lenA (SqL.of (O.mem (List.Mem.head _))) ha_p_5 ?_
      refine ⟨_, _, rfl, rfl, _, rfl, ?_⟩
      exact k1 _ ⟨H0, eJ17, O⟩
    · replace hm := ifT h27 h16
      obtain ⟨e_18, h19, hm⟩ := bndE hm
      obtain rfl := Option.some.inj hm
      obtain ⟨H0, eJ17, O⟩ := hJ
      replace hn_a_2 := (mL (mT2 mI mI)) _ _ _ _ (ovr_mono eJ17) hn_a_2
      replace ha_p_5 := mA (mL (mT2 mI mI)) (ovr_mono eJ17) ha_p_5
      replace eB := eB.trans eJ17
      replace eL11 := eL11.trans eJ17
      refine ⟨_, rfl, _, rfl, ?_⟩
      refine k_ixA (SqL.of (O.mem (List.Mem.head _))) ha_p_5 h19 fun w_20 h21 => ?_
      obtain ⟨p_22, rfl⟩ := rL_ref h21
      have hn_p_22 := h21
      refine x_nil ?_
      obtain ⟨vs_23, h24, h25⟩ := rL_at hn_p_22
      refine n_lenA (SqL.of ((ovr_ex.trans O.ex) _ _ h24)) h25 ?_
      refine ⟨_, rfl, _, _, rfl, rfl, _, rfl, ?_⟩
      exact k2 _ ⟨H0, eJ17, O⟩
    obtain ⟨H0, eJ17, O⟩ := hJ
    replace hn_a_2 := (mL (mT2 mI mI)) _ _ _ _ (ovr_mono eJ17) hn_a_2
    replace ha_p_5 := mA (mL (mT2 mI mI)) (ovr_mono eJ17) ha_p_5
    replace eB := eB.trans eJ17
    replace eL11 := eL11.trans eJ17
    obtain rfl := Option.some.inj hm
    refine iteS (c := c_26) (fun h73 => ?_) (fun h73 => ?_)
    · obtain ⟨s_, hm, hL⟩ := bndE (ifT hL h73)
      replace hm : m_rows_of_W0 some_1 most_3 rows_7 ends_9 at_10 = some s_ := hm
      unfold m_rows_of_W0 at hm
      refine o_turn ?_
      -- 97
      refine o_seq ?_
      refine o_for ?_
      obtain ⟨e_28, h29, hm⟩ := bndE hm
      refine ⟨_, rfl, _, rfl, ?_⟩
      refine k_ixL (f := V.int) (SqL.of (O.mem (List.Mem.tail _ (List.Mem.head _)))) h29 ?_
      refine ⟨_, _, rfl, rfl, _, rfl, ?_⟩
      refine x_nil ?_
      obtain ⟨vs_30, h31, h32⟩ := rL_at hn_a_2
      refine n_lenA (SqL.of ((ovr_ex.trans O.ex) _ _ h31)) h32 ?_
      obtain ⟨rg_33, h34, hm⟩ := bndE hm
      refine x_nil ?_
      obtain ⟨c1, rfl⟩ := rng2E h34
      obtain ⟨⟨rows_39, ends_40⟩, h41, hm⟩ := bndE hm
      refine ⟨_, _, rfl, c1, q_forR (fun r σ H => ∃ (R_ : Hp) (rows_35 : List (List (Int × Int))) (ends_37 : List Int) (vs_36 : List V) (j_38 : Option V), σ = [some (.ref a_2), some (.int most_3), some (.ref p_5), some (.ref p_6), some (.int at_10), j_38] ∧ Ex H0 R_ ∧ Own R_ H [(p_5, .lst vs_36), (p_6, .lst (List.map V.int ends_37))] ∧ All2 ((rL (rT2 rI rI)) (ovr R0 Hb R_)) vs_36 rows_35 ∧ loopM (fun k_44 s => m_rows_of_L1 some_1 at_10 k_44 s.1 s.2) r (rows_35, ends_37) = some (rows_39, ends_40)) ⟨H0, _, _, (vs_8), _, rfl, Ex.refl _, O, ha_p_5, h41⟩ ?_ ?_⟩
      · rintro k_44 r σ H ⟨H0, rows_35, ends_37, vs_36, j_38, rfl, eL45, O, ha_p_5, hL⟩
        replace hn_a_2 := (mL (mT2 mI mI)) _ _ _ _ (ovr_mono eL45) hn_a_2
        replace eB := eB.trans eL45
        replace eL11 := eL11.trans eL45
        obtain ⟨s_, hm, h43⟩ := loopM_cons hL
        replace hm : m_rows_of_L1 some_1 at_10 k_44 rows_35 ends_37 = some s_ := hm
        unfold m_rows_of_L1 at hm
        -- 98
        refine o_seq ?_
        refine o_drop ?_
        obtain ⟨e_48, h49, hm⟩ := bndE hm
        refine ⟨_, rfl, .inl ⟨rfl, _, (SqL.of (O.mem (List.Mem.head _)))⟩, _, rfl, _, rfl, ?_⟩
        refine k_ixA (SqL.of (O.mem (List.Mem.head _))) ha_p_5 h49 fun w_50 h51 => ?_
        obtain ⟨p_52, rfl⟩ := rL_ref h51
        have hn_p_52 := h51
        obtain ⟨e_53, h54, hm⟩ := bndE hm
        refine ⟨_, rfl, _, rfl, ?_⟩
        obtain ⟨vs_55, h56, h57⟩ := rL_at hn_a_2
        refine k_ixA (SqL.of ((ovr_ex.trans O.ex) _ _ h56)) h57 h54 fun w_58 h59 => ?_
        obtain ⟨p_60, rfl⟩ := rT2_ref h59
        have hn_p_60 := h59
        refine x_nil ?_
        refine n_lstV O (by show 1 ≤ sizeLine; decide) fun p_61 H O => ?_
        have ha_p_61 : All2 ((rT2 rI rI) (ovr R0 Hb H0)) ([.ref p_60] : List V) ([e_53] : List (Int × Int)) := (.cons hn_p_60 .nil)
        obtain ⟨t_62, h63, hm⟩ := bndE hm
        obtain ⟨vs_64, h65, h66⟩ := rL_at hn_p_52
        refine k_catA O ((ovr_ex.trans O.ex) _ _ h65) h66 (O.mem (List.Mem.head _)) ha_p_61 h63 fun p_67 H vs_68 O ha_p_67 => ?_
        refine x_nil ?_
        obtain ⟨H0, O, e_, hp_p_67⟩ := O.frzO (R0 := R0) eB
        replace hn_a_2 := (mL (mT2 mI mI)) _ _ _ _ (ovr_mono e_) hn_a_2
        replace ha_p_5 := mA (mL (mT2 mI mI)) (ovr_mono e_) ha_p_5
        replace hn_p_52 := (mL (mT2 mI mI)) _ _ _ _ (ovr_mono e_) hn_p_52
        replace hn_p_60 := (mT2 mI mI) _ _ _ _ (ovr_mono e_) hn_p_60
        replace ha_p_61 := mA (mT2 mI mI) (ovr_mono e_) ha_p_61
        replace ha_p_67 := mA (mT2 mI mI) (ovr_mono e_) ha_p_67
        replace eB := eB.trans e_
        replace eL11 := eL11.trans e_
        replace eL45 := eL45.trans e_
        have hn_p_67 : (rL (rT2 rI rI)) (ovr R0 Hb H0) (.ref p_67) t_62 := ⟨_, _, rfl, hp_p_67, ha_p_67⟩
        obtain ⟨l_69, h70, hm⟩ := bndE hm
        refine k_appA (O.mem (List.Mem.tail _ (List.Mem.head _))) ha_p_5 (fun _ => O.put1) h70 hn_p_67 fun H O ha_p_5 => ?_
        replace O := O.tl
        -- 99
        refine o_drop ?_
        obtain ⟨l_71, h72, hm⟩ := bndE hm
        refine ⟨_, rfl, .inl ⟨rfl, _, (SqL.of (O.mem (List.Mem.tail _ (List.Mem.head _))))⟩, _, rfl, ?_⟩
        refine x_nil ?_
        refine k_app (f := V.int) (O.mem (List.Mem.tail _ (List.Mem.head _))) (fun _ => O.put1) h72 fun H O => ?_
        have Oz := O
        obtain rfl := Option.some.inj hm
        exact ⟨H0, _, _, ((vs_36 ++ [.ref p_67])), _, rfl, eL45, Oz, ha_p_5, h43⟩
      rintro σ H ⟨H0, rows_35, ends_37, vs_36, j_38, rfl, eJ_, O, ha_p_5, hL⟩
      replace hn_a_2 := (mL (mT2 mI mI)) _ _ _ _ (ovr_mono eJ_) hn_a_2
      replace eB := eB.trans eJ_
      replace eL11 := eL11.trans eJ_
      cases loopM_nil hL
      -- 100
      refine o_asg ?_
      refine ⟨_, rfl, _, _, rfl, rfl, ?_⟩
      have Oz := O
      obtain rfl := Option.some.inj hm
      exact ⟨H0, _, _, _, (vs_36), _, rfl, eL11, Oz, ha_p_5, hL⟩
    cases whileM_end hL h73
    replace hm := h74
    -- 101
    refine o_ret ?_
    refine ⟨_, rfl, ?_⟩
    obtain rfl := Option.some.inj hm
    obtain ⟨H0, O, e_, hp_p_5⟩ := O.frzO (R0 := R0) eB
    replace hn_a_2 := (mL (mT2 mI mI)) _ _ _ _ (ovr_mono e_) hn_a_2
    replace ha_p_5 := mA (mL (mT2 mI mI)) (ovr_mono e_) ha_p_5
    replace eB := eB.trans e_
    have hn_p_5 : (rL (rL (rT2 rI rI))) (ovr R0 Hb H0) (.ref p_5) rows_12 := ⟨_, _, rfl, hp_p_5, ha_p_5⟩
    exact k _ _ H0 [] eB (Own.cv (O.sel (L' := []) [] (by decide) rfl) (by first | with_reducible rfl | simp only [List.map_nil, List.flatten_cons, List.flatten_nil, List.cons_append, List.nil_append, List.append_nil, List.append_assoc])) ⟨rfl, hn_p_5⟩
def m_Seat_init (tail_4 : M_ReadTail_SpeakTail) : Option (S_Seat) :=
  ltv (("more" : Str)) fun verdict_7 =>
  some (S_Seat.mk tail_4 verdict_7 (0 : Int))
def sp_Seat_init (K : PySem.W.Frag) (ad : Ad) : Sp := fun vs H Q _ => ∃ (a_2 : Addr) (dx_3 : Addr) (tail_4 : M_ReadTail_SpeakTail) (a_5 : Addr) (L_6 : List Cell) (R0 : Hp) (r : S_Seat), vs = [.ref a_2, .ref a_5] ∧ Own R0 H ((a_2, .ins ad.c_Seat dx_3 []) :: (dx_3, .own a_2) :: (L_6 ++ [])) ∧ (o_ReadTail_SpeakTail ad) R0 a_5 L_6 tail_4 ∧ m_Seat_init tail_4 = some r ∧ RetX R0 (hsub H ((a_2, .ins ad.c_Seat dx_3 []) :: (dx_3, .own a_2) :: (L_6 ++ []))) (dI (o_Seat ad) a_2 r) Q
abbrev N_Seat_init : List Str := ["self", "tail"]
theorem sc_Seat_init : FnScope N_Seat_init ["self", "tail"] (defScope s_Seat_init) := ⟨rfl, rfl, rfl, by decide +kernel, rfl, by decide +kernel, by decide +kernel⟩
theorem ok_Seat_init {ad : Ad} (T : Txt K mg ad) : FnOk P w K mg base CX0 1 ad.f_Seat_init ad.fd_Seat_init ["self", "tail"] (sp_Seat_init K ad) := by
  refine T.F_Seat_init.ok sc_Seat_init (fun vs H Q E h => ?_) (fun cdv A outer s H vs Q E hr h => ?_)
  · obtain ⟨_, _, _, _, _, _, _, rfl, _⟩ := h
    rfl
  · obtain ⟨a_2, dx_3, tail_4, a_5, L_6, R0, r, rfl, OO, hb_a_5, hm, k⟩ := h
    unfold m_Seat_init at hm
    obtain ⟨Hb, hHb⟩ : ∃ Hb : Hp, Hb = hsub H ((a_2, .ins ad.c_Seat dx_3 []) :: (dx_3, .own a_2) :: (L_6 ++ [])) := ⟨_, rfl⟩
    obtain ⟨H0, hH0⟩ : ∃ H0 : Hp, H0 = Hb := ⟨Hb, rfl⟩
    have O : Own H0 H ((a_2, .ins ad.c_Seat dx_3 []) :: (dx_3, .own a_2) :: (L_6 ++ [])) := by rw [hH0, hHb]; exact OO.startX
    have eR : Ex R0 Hb := by rw [hHb]; exact OO.subR
    rw [← hHb] at k
    have eB : Ex Hb H0 := by rw [hH0]; exact Ex.refl _
    have eS : Ex R0 (ovr R0 Hb H0) := by rw [hH0]; exact ovr_start eR
    replace hb_a_5 := (mo_ReadTail_SpeakTail ad) _ _ _ _ _ eS hb_a_5
    clear hH0
    refine ⟨_, (pss_cons (ps_fld (pv 0) (pv 1) rfl) (pss_cons (ps_fld (pv 0) pe_str rfl) (pss_one (ps_fld (pv 0) pe_int rfl)))), ?_⟩
    replace O := Own.cv (L' := ((a_2, .ins ad.c_Seat dx_3 []) :: ((dx_3, .own a_2) :: (L_6 ++ [])))) O (by first | with_reducible rfl | simp only [List.map_nil, List.flatten_cons, List.flatten_nil, List.cons_append, List.nil_append, List.append_nil, List.append_assoc])
    -- 61
    refine o_seq ?_
    refine o_sfld ?_
    refine ⟨_, rfl, _, rfl, ?_⟩
    refine k_sfld (fs' := [("tail", .ref a_5)]) (O.mem (List.Mem.head _)) T.C_Seat T.N_Seat_tail (by show (0 : Nat) < 1000; decide) rfl putF_nil (fun _ => O.put0) fun H O => ?_
    -- 62
    refine o_seq ?_
    refine o_sfld ?_
    refine ⟨_, rfl, ?_⟩
    obtain ⟨verdict_7, h8, hm⟩ := ltvE hm
    refine k_sfld (fs' := [("tail", .ref a_5), ("verdict", .str verdict_7)]) (O.mem (List.Mem.head _)) T.C_Seat T.N_Seat_verdict (by show (1 : Nat) < 1000; decide) (congrArg V.str h8) (putF_skip (by decide) putF_nil) (fun _ => O.put0) fun H O => ?_
    -- 63
    refine o_sfld ?_
    refine ⟨_, rfl, ?_⟩
    refine k_sfld (fs' := [("tail", .ref a_5), ("verdict", .str verdict_7), ("flags", .int (0 : Int))]) (O.mem (List.Mem.head _)) T.C_Seat T.N_Seat_flags (by show (2 : Nat) < 1000; decide) rfl (putF_skip (by decide) (putF_skip (by decide) putF_nil)) (fun _ => O.put0) fun H O => ?_
    obtain rfl := Option.some.inj hm
    exact k _ _ H0 ((a_2, .ins ad.c_Seat dx_3 [("tail", .ref a_5), ("verdict", .str verdict_7), ("flags", .int (0 : Int))]) :: (dx_3, .own a_2) :: (L_6 ++ [])) eB (Own.cv (Own.cv (L' := ((a_2, .ins ad.c_Seat dx_3 [("tail", .ref a_5), ("verdict", .str verdict_7), ("flags", .int (0 : Int))]) :: ((dx_3, .own a_2) :: (L_6 ++ [])))) (Own.selB (Bs := [[(a_2, .ins ad.c_Seat dx_3 [("tail", .ref a_5), ("verdict", .str verdict_7), ("flags", .int (0 : Int))])], [(dx_3, .own a_2)], L_6]) (Bs' := [[(a_2, .ins ad.c_Seat dx_3 [("tail", .ref a_5), ("verdict", .str verdict_7), ("flags", .int (0 : Int))])], [(dx_3, .own a_2)], L_6]) (Own.cv O (by first | with_reducible rfl | simp only [List.map_nil, List.flatten_cons, List.flatten_nil, List.cons_append, List.nil_append, List.append_nil, List.append_assoc])) [0, 1, 2] (by decide) rfl) (by first | with_reducible rfl | simp only [List.map_nil, List.flatten_cons, List.flatten_nil, List.cons_append, List.nil_append, List.append_nil, List.append_assoc])) (by first | with_reducible rfl | simp only [List.map_nil, List.flatten_cons, List.flatten_nil, List.cons_append, List.nil_append, List.append_nil, List.append_assoc])) ⟨rfl, ⟨dx_3, a_5, L_6, rfl, hb_a_5⟩⟩
def m_SpeakTail_init (votes_4 : Int) : Option (S_SpeakTail) :=
  some (S_SpeakTail.mk votes_4 (0 : Int) (0 : Int))
def sp_SpeakTail_init (K : PySem.W.Frag) (ad : Ad) : Sp := fun vs H Q _ => ∃ (a_2 : Addr) (dx_3 : Addr) (votes_4 : Int) (R0 : Hp) (r : S_SpeakTail), vs = [.ref a_2, .int votes_4] ∧ Own R0 H ((a_2, .ins ad.c_SpeakTail dx_3 []) :: (dx_3, .own a_2) :: []) ∧ m_SpeakTail_init votes_4 = some r ∧ RetX R0 (hsub H ((a_2, .ins ad.c_SpeakTail dx_3 []) :: (dx_3, .own a_2) :: [])) (dI (o_SpeakTail ad) a_2 r) Q
abbrev N_SpeakTail_init : List Str := ["self", "votes"]
theorem sc_SpeakTail_init : FnScope N_SpeakTail_init ["self", "votes"] (defScope s_SpeakTail_init) := ⟨rfl, rfl, rfl, by decide +kernel, rfl, by decide +kernel, by decide +kernel⟩
theorem ok_SpeakTail_init {ad : Ad} (T : Txt K mg ad) : FnOk P w K mg base CX0 1 ad.f_SpeakTail_init ad.fd_SpeakTail_init ["self", "votes"] (sp_SpeakTail_init K ad) := by
  refine T.F_SpeakTail_init.ok sc_SpeakTail_init (fun vs H Q E h => ?_) (fun cdv A outer s H vs Q E hr h => ?_)
  · obtain ⟨_, _, _, _, _, rfl, _⟩ := h
    rfl
  · obtain ⟨a_2, dx_3, votes_4, R0, r, rfl, OO, hm, k⟩ := h
    unfold m_SpeakTail_init at hm
    obtain ⟨Hb, hHb⟩ : ∃ Hb : Hp, Hb = hsub H ((a_2, .ins ad.c_SpeakTail dx_3 []) :: (dx_3, .own a_2) :: []) := ⟨_, rfl⟩
    obtain ⟨H0, hH0⟩ : ∃ H0 : Hp, H0 = Hb := ⟨Hb, rfl⟩
    have O : Own H0 H ((a_2, .ins ad.c_SpeakTail dx_3 []) :: (dx_3, .own a_2) :: []) := by rw [hH0, hHb]; exact OO.startX
    have eR : Ex R0 Hb := by rw [hHb]; exact OO.subR
    rw [← hHb] at k
    have eB : Ex Hb H0 := by rw [hH0]; exact Ex.refl _
    have eS : Ex R0 (ovr R0 Hb H0) := by rw [hH0]; exact ovr_start eR
    clear hH0
    refine ⟨_, (pss_cons (ps_fld (pv 0) (pv 1) rfl) (pss_cons (ps_fld (pv 0) pe_int rfl) (pss_one (ps_fld (pv 0) pe_int rfl)))), ?_⟩
    replace O : Own H0 H [(a_2, .ins ad.c_SpeakTail dx_3 []), (dx_3, .own a_2)] := Own.cv O (by first | with_reducible rfl | simp only [List.map_nil, List.flatten_cons, List.flatten_nil, List.cons_append, List.nil_append, List.append_nil, List.append_assoc])
    -- 11
    refine o_seq ?_
    refine o_sfld ?_
    refine ⟨_, rfl, _, rfl, ?_⟩
    refine k_sfld (fs' := [("votes", .int votes_4)]) (O.mem (List.Mem.head _)) T.C_SpeakTail T.N_SpeakTail_votes (by show (0 : Nat) < 1000; decide) rfl putF_nil (fun _ => O.put0) fun H O => ?_
    -- 12
    refine o_seq ?_
    refine o_sfld ?_
    refine ⟨_, rfl, ?_⟩
    refine k_sfld (fs' := [("votes", .int votes_4), ("over", .int (0 : Int))]) (O.mem (List.Mem.head _)) T.C_SpeakTail T.N_SpeakTail_over (by show (1 : Nat) < 1000; decide) rfl (putF_skip (by decide) putF_nil) (fun _ => O.put0) fun H O => ?_
    -- 13
    refine o_sfld ?_
    refine ⟨_, rfl, ?_⟩
    refine k_sfld (fs' := [("votes", .int votes_4), ("over", .int (0 : Int)), ("noughts", .int (0 : Int))]) (O.mem (List.Mem.head _)) T.C_SpeakTail T.N_SpeakTail_noughts (by show (2 : Nat) < 1000; decide) rfl (putF_skip (by decide) (putF_skip (by decide) putF_nil)) (fun _ => O.put0) fun H O => ?_
    obtain rfl := Option.some.inj hm
    exact k _ _ H0 ((a_2, .ins ad.c_SpeakTail dx_3 [("votes", .int votes_4), ("over", .int (0 : Int)), ("noughts", .int (0 : Int))]) :: (dx_3, .own a_2) :: []) eB (Own.cv O (by first | with_reducible rfl | simp only [List.map_nil, List.flatten_cons, List.flatten_nil, List.cons_append, List.nil_append, List.append_nil, List.append_assoc])) ⟨rfl, ⟨dx_3, rfl⟩⟩
def m_ReadTail_answered (self_1 : S_ReadTail) (bit_4 : Int) : Option (Str) :=
  some ("more" : Str)
def sp_ReadTail_answered (K : PySem.W.Frag) (ad : Ad) : Sp := fun vs H Q _ => ∃ (self_1 : S_ReadTail) (a_2 : Addr) (L_3 : List Cell) (bit_4 : Int) (R0 : Hp) (r : Str), vs = [.ref a_2, .int bit_4] ∧ Own R0 H (L_3 ++ []) ∧ (o_ReadTail ad) R0 a_2 L_3 self_1 ∧ m_ReadTail_answered self_1 bit_4 = some r ∧ RetX R0 (hsub H (L_3 ++ [])) (dK L_3 (dV (.str r))) Q
abbrev N_ReadTail_answered : List Str := ["self", "bit"]
theorem sc_ReadTail_answered : FnScope N_ReadTail_answered ["self", "bit"] (defScope s_ReadTail_answered) := ⟨rfl, rfl, rfl, by decide +kernel, rfl, by decide +kernel, by decide +kernel⟩
theorem ok_ReadTail_answered {ad : Ad} (T : Txt K mg ad) : FnOk P w K mg base CX0 1 ad.f_ReadTail_answered ad.fd_ReadTail_answered ["self", "bit"] (sp_ReadTail_answered K ad) := by
  refine T.F_ReadTail_answered.ok sc_ReadTail_answered (fun vs H Q E h => ?_) (fun cdv A outer s H vs Q E hr h => ?_)
  · obtain ⟨_, _, _, _, _, _, rfl, _⟩ := h
    rfl
  · obtain ⟨self_1, a_2, L_3, bit_4, R0, r, rfl, OO, hb_a_2, hm, k⟩ := h
    unfold m_ReadTail_answered at hm
    obtain ⟨Hb, hHb⟩ : ∃ Hb : Hp, Hb = hsub H (L_3 ++ []) := ⟨_, rfl⟩
    obtain ⟨H0, hH0⟩ : ∃ H0 : Hp, H0 = Hb := ⟨Hb, rfl⟩
    have O : Own H0 H (L_3 ++ []) := by rw [hH0, hHb]; exact OO.startX
    have eR : Ex R0 Hb := by rw [hHb]; exact OO.subR
    rw [← hHb] at k
    have eB : Ex Hb H0 := by rw [hH0]; exact Ex.refl _
    have eS : Ex R0 (ovr R0 Hb H0) := by rw [hH0]; exact ovr_start eR
    replace hb_a_2 := (mo_ReadTail ad) _ _ _ _ _ eS hb_a_2
    clear hH0
    refine ⟨_, (pss_one (ps_ret pe_str)), ?_⟩
    obtain ⟨dx_5, rfl⟩ := hb_a_2
    replace O : Own H0 H [(a_2, .ins ad.c_ReadTail dx_5 [("votes", .int self_1.votes), ("over", .int self_1.over), ("noughts", .int self_1.noughts)]), (dx_5, .own a_2)] := Own.cv O (by first | with_reducible rfl | simp only [List.map_nil, List.flatten_cons, List.flatten_nil, List.cons_append, List.nil_append, List.append_nil, List.append_assoc])
    -- 33
    refine o_ret ?_
    refine o_c ?_
    obtain rfl := Option.some.inj hm
    exact k _ _ H0 (((a_2, .ins ad.c_ReadTail dx_5 [("votes", .int self_1.votes), ("over", .int self_1.over), ("noughts", .int self_1.noughts)]) :: (dx_5, .own a_2) :: []) ++ []) eB (Own.cv O (by first | with_reducible rfl | simp only [List.map_nil, List.flatten_cons, List.flatten_nil, List.cons_append, List.nil_append, List.append_nil, List.append_assoc])) ⟨_, rfl, ⟨rfl, rfl⟩⟩
def m_ReadTail_voted (self_1 : S_ReadTail) (bit_4 : Int) : Option (S_ReadTail × Str) :=
  bnd (ifB (decide (bit_4 = (0 : Int))) (
    ltv ((self_1.noughts + (1 : Int))) fun noughts_9 =>
    some (S_ReadTail.mk self_1.votes self_1.over noughts_9)) (
    some self_1)) fun self_11 =>
  ifB (decide (self_11.over < ((9 : Int) + self_11.votes))) (
    some (self_11, ("more" : Str))) (
    ifB (decide ((self_11.votes / (2 : Int)) < self_11.noughts)) (
      some (self_11, ("refused" : Str))) (
      some (self_11, ("taken" : Str))))
def sp_ReadTail_voted (K : PySem.W.Frag) (ad : Ad) : Sp := fun vs H Q _ => ∃ (self_1 : S_ReadTail) (a_2 : Addr) (L_3 : List Cell) (bit_4 : Int) (R0 : Hp) (r : S_ReadTail × Str), vs = [.ref a_2, .int bit_4] ∧ Own R0 H (L_3 ++ []) ∧ (o_ReadTail ad) R0 a_2 L_3 self_1 ∧ m_ReadTail_voted self_1 bit_4 = some r ∧ RetX R0 (hsub H (L_3 ++ [])) (dX (o_ReadTail ad) a_2 r.1 (dV (.str r.2))) Q
abbrev N_ReadTail_voted : List Str := ["self", "bit"]
theorem sc_ReadTail_voted : FnScope N_ReadTail_voted ["self", "bit"] (defScope s_ReadTail_voted) := ⟨rfl, rfl, rfl, by decide +kernel, rfl, by decide +kernel, by decide +kernel⟩
theorem ok_ReadTail_voted {ad : Ad} (T : Txt K mg ad) : FnOk P w K mg base CX0 1 ad.f_ReadTail_voted ad.fd_ReadTail_voted ["self", "bit"] (sp_ReadTail_voted K ad) := by
  refine T.F_ReadTail_voted.ok sc_ReadTail_voted (fun vs H Q E h => ?_) (fun cdv A outer s H vs Q E hr h => ?_)
  · obtain ⟨_, _, _, _, _, _, rfl, _⟩ := h
    rfl
  · obtain ⟨self_1, a_2, L_3, bit_4, R0, r, rfl, OO, hb_a_2, hm, k⟩ := h
    unfold m_ReadTail_voted at hm
    obtain ⟨Hb, hHb⟩ : ∃ Hb : Hp, Hb = hsub H (L_3 ++ []) := ⟨_, rfl⟩
    obtain ⟨H0, hH0⟩ : ∃ H0 : Hp, H0 = Hb := ⟨Hb, rfl⟩
    have O : Own H0 H (L_3 ++ []) := by rw [hH0, hHb]; exact OO.startX
    have eR : Ex R0 Hb := by rw [hHb]; exact OO.subR
    rw [← hHb] at k
    have eB : Ex Hb H0 := by rw [hH0]; exact Ex.refl _
    have eS : Ex R0 (ovr R0 Hb H0) := by rw [hH0]; exact ovr_start eR
    replace hb_a_2 := (mo_ReadTail ad) _ _ _ _ _ eS hb_a_2
    clear hH0
    refine ⟨_, (Evl.pss_cut (ps_if (pt_cmpR op_eq (pv 1) pe_int (nomark _)) (pss_one (ps_fld (pv 0) (pe_op op_add (pe_fld (pv 0) rfl) pe_int) rfl)) pss_nil) (pss_cons (ps_if (pt_cmpR op_lt (pe_fld (pv 0) rfl) (pe_op op_add (pe_gv rfl T.g_BARE_tails) (pe_fld (pv 0) rfl)) (nomark _)) (pss_one (ps_ret pe_str)) pss_nil) (pss_cons (ps_if (pt_cmpR op_gt (pe_fld (pv 0) rfl) (pe_op op_fdiv (pe_fld (pv 0) rfl) pe_int) (nomark _)) (pss_one (ps_ret pe_str)) pss_nil) (pss_one (ps_ret pe_str))))), ?_⟩
    obtain ⟨dx_5, rfl⟩ := hb_a_2
    replace O : Own H0 H [(a_2, .ins ad.c_ReadTail dx_5 [("votes", .int self_1.votes), ("over", .int self_1.over), ("noughts", .int self_1.noughts)]), (dx_5, .own a_2)] := Own.cv O (by first | with_reducible rfl | simp only [List.map_nil, List.flatten_cons, List.flatten_nil, List.cons_append, List.nil_append, List.append_nil, List.append_assoc])
    -- 36
    obtain ⟨self_11, h8, hm⟩ := bndE hm
    refine o_cut (fun σ H => ∃ (R_ : Hp) (B_12 : List Cell) (j_14 : Option V), σ = [some (.ref a_2), j_14] ∧ Ex H0 R_ ∧ Own R_ H (B_12 ++ []) ∧ (o_ReadTail ad) (ovr R0 Hb R_) a_2 B_12 self_11) ?_ ?_
    · have eJ6 : Ex H0 H0 := Ex.refl _
      refine o_ifs ?_
      refine ⟨_, rfl, ?_⟩
      refine o_c ?_
      refine k_eqI ?_
      refine ⟨_, rfl, ?_⟩
      refine iteS (c := (decide (bit_4 = (0 : Int)))) (fun h7 => ?_) (fun h7 => ?_)
      · replace hm := ifT h8 h7
        -- 37
        refine o_sfld ?_
        refine ⟨_, rfl, a_2, ad.c_ReadTail, dx_5, [("votes", .int self_1.votes), ("over", .int self_1.over), ("noughts", .int self_1.noughts)], (.int self_1.noughts), rfl, (O.mem (List.Mem.head _)), T.C_ReadTail, T.N_ReadTail_noughts, (lk_skip (by decide) (lk_skip (by decide) lk_hit)), _, _, rfl, rfl, _, rfl, ?_⟩
        obtain ⟨noughts_9, h10, hm⟩ := ltvE hm
        refine k_sfld (fs' := [("votes", .int self_1.votes), ("over", .int self_1.over), ("noughts", .int noughts_9)]) (O.mem (List.Mem.head _)) T.C_ReadTail T.N_ReadTail_noughts (by show (3 : Nat) < 1000; decide) (congrArg V.int h10) (putF_skip (by decide) (putF_skip (by decide) putF_hit)) (fun _ => O.put0) fun H O => ?_
        have Oz := O
        have hq_ := Option.some.inj hm
        subst hq_
        exact ⟨H0, ((a_2, .ins ad.c_ReadTail dx_5 [("votes", .int self_1.votes), ("over", .int self_1.over), ("noughts", .int noughts_9)]) :: (dx_5, .own a_2) :: []), _, rfl, eJ6, (Own.cv Oz (by first | with_reducible rfl | simp only [List.map_nil, List.flatten_cons, List.flatten_nil, List.cons_append, List.nil_append, List.append_nil, List.append_assoc])), ⟨dx_5, rfl⟩⟩
      · replace hm := ifF h8 h7
        refine o_next ?_
        have Oz := O
        have hq_ := Option.some.inj hm
        subst hq_
        exact ⟨H0, ((a_2, .ins ad.c_ReadTail dx_5 [("votes", .int self_1.votes), ("over", .int self_1.over), ("noughts", .int self_1.noughts)]) :: (dx_5, .own a_2) :: []), _, rfl, eJ6, (Own.cv Oz (by first | with_reducible rfl | simp only [List.map_nil, List.flatten_cons, List.flatten_nil, List.cons_append, List.nil_append, List.append_nil, List.append_assoc])), ⟨dx_5, rfl⟩⟩
    rintro σ H ⟨H0, B_12, j_14, rfl, eJ_, O, h13⟩
    replace eB := eB.trans eJ_
    obtain ⟨dx_15, rfl⟩ := h13
    replace O : Own H0 H [(a_2, .ins ad.c_ReadTail dx_15 [("votes", .int self_11.votes), ("over", .int self_11.over), ("noughts", .int self_11.noughts)]), (dx_15, .own a_2)] := Own.cv O (by first | with_reducible rfl | simp only [List.map_nil, List.flatten_cons, List.flatten_nil, List.cons_append, List.nil_append, List.append_nil, List.append_assoc])
    -- 38
    refine o_seq ?_
    refine o_ifs ?_
    refine ⟨_, rfl, a_2, ad.c_ReadTail, dx_15, [("votes", .int self_11.votes), ("over", .int self_11.over), ("noughts", .int self_11.noughts)], (.int self_11.over), rfl, (O.mem (List.Mem.head _)), T.C_ReadTail, T.N_ReadTail_over, (lk_skip (by decide) lk_hit), _, rfl, a_2, ad.c_ReadTail, dx_15, [("votes", .int self_11.votes), ("over", .int self_11.over), ("noughts", .int self_11.noughts)], (.int self_11.votes), rfl, (O.mem (List.Mem.head _)), T.C_ReadTail, T.N_ReadTail_votes, lk_hit, _, _, rfl, rfl, _, _, rfl, rfl, _, rfl, ?_⟩
    refine iteS (c := decide (self_11.over < ((9 : Int) + self_11.votes))) (fun h16 => ?_) (fun h16 => ?_)
    · replace hm := ifT hm h16
      -- 39
      refine o_ret ?_
      refine o_c ?_
      obtain rfl := Option.some.inj hm
      exact k _ _ H0 (((a_2, .ins ad.c_ReadTail dx_15 [("votes", .int self_11.votes), ("over", .int self_11.over), ("noughts", .int self_11.noughts)]) :: (dx_15, .own a_2) :: []) ++ []) eB (Own.cv O (by first | with_reducible rfl | simp only [List.map_nil, List.flatten_cons, List.flatten_nil, List.cons_append, List.nil_append, List.append_nil, List.append_assoc])) ⟨_, _, rfl, ⟨dx_15, rfl⟩, ⟨rfl, rfl⟩⟩
    · replace hm := ifF hm h16
      refine o_next ?_
      -- 40
      refine o_seq ?_
      refine o_ifs ?_
      refine ⟨_, rfl, a_2, ad.c_ReadTail, dx_15, [("votes", .int self_11.votes), ("over", .int self_11.over), ("noughts", .int self_11.noughts)], (.int self_11.noughts), rfl, (O.mem (List.Mem.head _)), T.C_ReadTail, T.N_ReadTail_noughts, (lk_skip (by decide) (lk_skip (by decide) lk_hit)), _, rfl, a_2, ad.c_ReadTail, dx_15, [("votes", .int self_11.votes), ("over", .int self_11.over), ("noughts", .int self_11.noughts)], (.int self_11.votes), rfl, (O.mem (List.Mem.head _)), T.C_ReadTail, T.N_ReadTail_votes, lk_hit, _, _, rfl, rfl, ⟨by decide, by decide⟩, _, _, rfl, rfl, _, rfl, ?_⟩
      refine iteS (c := decide ((self_11.votes / (2 : Int)) < self_11.noughts)) (fun h17 => ?_) (fun h17 => ?_)
      · replace hm := ifT hm h17
        -- 41
        refine o_ret ?_
        refine o_c ?_
        obtain rfl := Option.some.inj hm
        exact k _ _ H0 (((a_2, .ins ad.c_ReadTail dx_15 [("votes", .int self_11.votes), ("over", .int self_11.over), ("noughts", .int self_11.noughts)]) :: (dx_15, .own a_2) :: []) ++ []) eB (Own.cv O (by first | with_reducible rfl | simp only [List.map_nil, List.flatten_cons, List.flatten_nil, List.cons_append, List.nil_append, List.append_nil, List.append_assoc])) ⟨_, _, rfl, ⟨dx_15, rfl⟩, ⟨rfl, rfl⟩⟩
      · replace hm := ifF hm h17
        refine o_next ?_
        -- 42
        refine o_ret ?_
        refine o_c ?_
        obtain rfl := Option.some.inj hm
        exact k _ _ H0 (((a_2, .ins ad.c_ReadTail dx_15 [("votes", .int self_11.votes), ("over", .int self_11.over), ("noughts", .int self_11.noughts)]) :: (dx_15, .own a_2) :: []) ++ []) eB (Own.cv O (by first | with_reducible rfl | simp only [List.map_nil, List.flatten_cons, List.flatten_nil, List.cons_append, List.nil_append, List.append_nil, List.append_assoc])) ⟨_, _, rfl, ⟨dx_15, rfl⟩, ⟨rfl, rfl⟩⟩
def m_ReadTail_hear (self_1 : S_ReadTail) (bit_4 : Int) : Option (S_ReadTail × Str) :=
  ltv (self_1.over) fun at_6 =>
  ltv ((at_6 + (1 : Int))) fun over_8 =>
  ifB (decide (at_6 = (1 : Int))) (
    bnd (m_ReadTail_answered (S_ReadTail.mk self_1.votes over_8 self_1.noughts) bit_4) fun answer_11 =>
    some ((S_ReadTail.mk self_1.votes over_8 self_1.noughts), answer_11)) (
    ifB (decide ((9 : Int) ≤ at_6)) (
      bnd (m_ReadTail_voted (S_ReadTail.mk self_1.votes over_8 self_1.noughts) bit_4) fun (self_17, voted_18) =>
      some (self_17, voted_18)) (
      ifB (decide (bit_4 = (0 : Int))) (
        some ((S_ReadTail.mk self_1.votes over_8 self_1.noughts), ("fault" : Str))) (
        some ((S_ReadTail.mk self_1.votes over_8 self_1.noughts), ("more" : Str)))))
def sp_ReadTail_hear (K : PySem.W.Frag) (ad : Ad) : Sp := fun vs H Q _ => ∃ (self_1 : S_ReadTail) (a_2 : Addr) (L_3 : List Cell) (bit_4 : Int) (R0 : Hp) (r : S_ReadTail × Str), vs = [.ref a_2, .int bit_4] ∧ Own R0 H (L_3 ++ []) ∧ (o_ReadTail ad) R0 a_2 L_3 self_1 ∧ m_ReadTail_hear self_1 bit_4 = some r ∧ RetX R0 (hsub H (L_3 ++ [])) (dX (o_ReadTail ad) a_2 r.1 (dV (.str r.2))) Q
abbrev N_ReadTail_hear : List Str := ["self", "bit", "at"]
theorem sc_ReadTail_hear : FnScope N_ReadTail_hear ["self", "bit"] (defScope s_ReadTail_hear) := ⟨rfl, rfl, rfl, by decide +kernel, rfl, by decide +kernel, by decide +kernel⟩
theorem ok_ReadTail_hear {ad : Ad} (T : Txt K mg ad) : FnOk P w K mg base CX0 2 ad.f_ReadTail_hear ad.fd_ReadTail_hear ["self", "bit"] (sp_ReadTail_hear K ad) := by
  have G_ReadTail_answered := ok_ReadTail_answered (P := P) (w := w) (base := base) T
  have G_ReadTail_voted := ok_ReadTail_voted (P := P) (w := w) (base := base) T
  refine T.F_ReadTail_hear.ok sc_ReadTail_hear (fun vs H Q E h => ?_) (fun cdv A outer s H vs Q E hr h => ?_)
  · obtain ⟨_, _, _, _, _, _, rfl, _⟩ := h
    rfl
  · obtain ⟨self_1, a_2, L_3, bit_4, R0, r, rfl, OO, hb_a_2, hm, k⟩ := h
    unfold m_ReadTail_hear at hm
    obtain ⟨Hb, hHb⟩ : ∃ Hb : Hp, Hb = hsub H (L_3 ++ []) := ⟨_, rfl⟩
    obtain ⟨H0, hH0⟩ : ∃ H0 : Hp, H0 = Hb := ⟨Hb, rfl⟩
    have O : Own H0 H (L_3 ++ []) := by rw [hH0, hHb]; exact OO.startX
    have eR : Ex R0 Hb := by rw [hHb]; exact OO.subR
    rw [← hHb] at k
    have eB : Ex Hb H0 := by rw [hH0]; exact Ex.refl _
    have eS : Ex R0 (ovr R0 Hb H0) := by rw [hH0]; exact ovr_start eR
    replace hb_a_2 := (mo_ReadTail ad) _ _ _ _ _ eS hb_a_2
    clear hH0
    refine ⟨_, (pss_cons (ps_set (i := 2) sc_ReadTail_hear.nd rfl (Or.inl rfl) (pe_fld (pv 0) rfl)) (pss_cons (ps_fld (pv 0) (pe_op op_add (pv 2) pe_int) rfl) (pss_cons (ps_if (pt_cmpR op_eq (pv 2) pe_int (nomark _)) (pss_one (ps_ret (pe_meth (pv 0) T.C_ReadTail T.M_ReadTail_answered G_ReadTail_answered (hr.mono (by decide)) T.b_ReadTail_answered .nil pass0 (pa_cons (pv 1) pa_nil)))) pss_nil) (pss_cons (ps_if (pt_cmpR op_ge (pv 2) (pe_gv rfl T.g_BARE_tails) (nomark _)) (pss_one (ps_ret (pe_meth (pv 0) T.C_ReadTail T.M_ReadTail_voted G_ReadTail_voted (hr.mono (by decide)) T.b_ReadTail_voted .nil pass0 (pa_cons (pv 1) pa_nil)))) pss_nil) (pss_cons (ps_if (pt_cmpR op_eq (pv 1) pe_int (nomark _)) (pss_one (ps_ret pe_str)) pss_nil) (pss_one (ps_ret pe_str))))))), ?_⟩
    obtain ⟨dx_5, rfl⟩ := hb_a_2
    replace O : Own H0 H [(a_2, .ins ad.c_ReadTail dx_5 [("votes", .int self_1.votes), ("over", .int self_1.over), ("noughts", .int self_1.noughts)]), (dx_5, .own a_2)] := Own.cv O (by first | with_reducible rfl | simp only [List.map_nil, List.flatten_cons, List.flatten_nil, List.cons_append, List.nil_append, List.append_nil, List.append_assoc])
    -- 22
    refine o_seq ?_
    refine o_asg ?_
    refine ⟨_, rfl, a_2, ad.c_ReadTail, dx_5, [("votes", .int self_1.votes), ("over", .int self_1.over), ("noughts", .int self_1.noughts)], (.int self_1.over), rfl, (O.mem (List.Mem.head _)), T.C_ReadTail, T.N_ReadTail_over, (lk_skip (by decide) lk_hit), ?_⟩
    obtain ⟨at_6, h7, hm⟩ := ltvE hm
    refine a_set (congrArg V.int h7) ?_
    -- 23
    refine o_seq ?_
    refine o_sfld ?_
    refine ⟨_, rfl, _, _, rfl, rfl, _, rfl, ?_⟩
    obtain ⟨over_8, h9, hm⟩ := ltvE hm
    refine k_sfld (fs' := [("votes", .int self_1.votes), ("over", .int over_8), ("noughts", .int self_1.noughts)]) (O.mem (List.Mem.head _)) T.C_ReadTail T.N_ReadTail_over (by show (3 : Nat) < 1000; decide) (congrArg V.int h9) (putF_skip (by decide) putF_hit) (fun _ => O.put0) fun H O => ?_
    -- 24
    refine o_seq ?_
    refine o_ifs ?_
    refine ⟨_, rfl, ?_⟩
    refine o_c ?_
    refine k_eqI ?_
    refine ⟨_, rfl, ?_⟩
    refine iteS (c := (decide (at_6 = (1 : Int)))) (fun h10 => ?_) (fun h10 => ?_)
    · replace hm := ifT hm h10
      -- 25
      refine o_ret ?_
      refine ⟨_, rfl, a_2, dx_5, [("votes", .int self_1.votes), ("over", .int over_8), ("noughts", .int self_1.noughts)], rfl, (O.mem (List.Mem.head _)), (lk_skip (by decide) (lk_skip (by decide) (lk_skip (by decide) lk_nil))), _, rfl, ?_⟩
      refine x_nil ?_
      obtain ⟨answer_11, h12, hm⟩ := bndE hm
      have Oc : Own H0 H ((((a_2, .ins ad.c_ReadTail dx_5 [("votes", .int self_1.votes), ("over", .int over_8), ("noughts", .int self_1.noughts)]) :: (dx_5, .own a_2) :: []) ++ []) ++ []) := Own.cv O (by first | with_reducible rfl | simp only [List.map_nil, List.flatten_cons, List.flatten_nil, List.cons_append, List.nil_append, List.append_nil, List.append_assoc])
      refine ⟨(S_ReadTail.mk self_1.votes over_8 self_1.noughts), a_2, ((a_2, .ins ad.c_ReadTail dx_5 [("votes", .int self_1.votes), ("over", .int over_8), ("noughts", .int self_1.noughts)]) :: (dx_5, .own a_2) :: []), bit_4, ovr R0 Hb H0, answer_11, rfl, (Own.shrink Oc.left ovr_ex), ⟨dx_5, rfl⟩, h12, ?_⟩
      refine Oc.retXO (mdK mdV) eB fun w_13 H H0 L_14 O e_ d_ => ?_
      replace eB := eB.trans e_
      obtain ⟨L_15, rfl, ⟨rfl, rfl⟩⟩ := d_
      replace O : Own H0 H [(a_2, .ins ad.c_ReadTail dx_5 [("votes", .int self_1.votes), ("over", .int over_8), ("noughts", .int self_1.noughts)]), (dx_5, .own a_2)] := Own.cv O (by first | with_reducible rfl | simp only [List.map_nil, List.flatten_cons, List.flatten_nil, List.cons_append, List.nil_append, List.append_nil, List.append_assoc])
      obtain rfl := Option.some.inj hm
      exact k _ _ H0 (((a_2, .ins ad.c_ReadTail dx_5 [("votes", .int self_1.votes), ("over", .int over_8), ("noughts", .int self_1.noughts)]) :: (dx_5, .own a_2) :: []) ++ []) eB (Own.cv O (by first | with_reducible rfl | simp only [List.map_nil, List.flatten_cons, List.flatten_nil, List.cons_append, List.nil_append, List.append_nil, List.append_assoc])) ⟨_, _, rfl, ⟨dx_5, rfl⟩, ⟨rfl, rfl⟩⟩
    · replace hm := ifF hm h10
      refine o_next ?_
      -- 26
      refine o_seq ?_
      refine o_ifs ?_
      refine ⟨_, rfl, _, _, rfl, rfl, _, rfl, ?_⟩
      refine iteS (c := decide ((9 : Int) ≤ at_6)) (fun h16 => ?_) (fun h16 => ?_)
      · replace hm := ifT hm h16
        -- 27
        refine o_ret ?_
        refine ⟨_, rfl, a_2, dx_5, [("votes", .int self_1.votes), ("over", .int over_8), ("noughts", .int self_1.noughts)], rfl, (O.mem (List.Mem.head _)), (lk_skip (by decide) (lk_skip (by decide) (lk_skip (by decide) lk_nil))), _, rfl, ?_⟩
        refine x_nil ?_
        obtain ⟨⟨self_17, voted_18⟩, h19, hm⟩ := bndE hm
        have Oc : Own H0 H ((((a_2, .ins ad.c_ReadTail dx_5 [("votes", .int self_1.votes), ("over", .int over_8), ("noughts", .int self_1.noughts)]) :: (dx_5, .own a_2) :: []) ++ []) ++ []) := Own.cv O (by first | with_reducible rfl | simp only [List.map_nil, List.flatten_cons, List.flatten_nil, List.cons_append, List.nil_append, List.append_nil, List.append_assoc])
        refine ⟨(S_ReadTail.mk self_1.votes over_8 self_1.noughts), a_2, ((a_2, .ins ad.c_ReadTail dx_5 [("votes", .int self_1.votes), ("over", .int over_8), ("noughts", .int self_1.noughts)]) :: (dx_5, .own a_2) :: []), bit_4, ovr R0 Hb H0, (self_17, voted_18), rfl, (Own.shrink Oc.left ovr_ex), ⟨dx_5, rfl⟩, h19, ?_⟩
        refine Oc.retXO (mdX (mo_ReadTail ad) mdV) eB fun w_20 H H0 L_21 O e_ d_ => ?_
        replace eB := eB.trans e_
        obtain ⟨L_22, L_24, rfl, h23, ⟨rfl, rfl⟩⟩ := d_
        obtain ⟨dx_25, rfl⟩ := h23
        replace O : Own H0 H [(a_2, .ins ad.c_ReadTail dx_25 [("votes", .int self_17.votes), ("over", .int self_17.over), ("noughts", .int self_17.noughts)]), (dx_25, .own a_2)] := Own.cv O (by first | with_reducible rfl | simp only [List.map_nil, List.flatten_cons, List.flatten_nil, List.cons_append, List.nil_append, List.append_nil, List.append_assoc])
        obtain rfl := Option.some.inj hm
        exact k _ _ H0 (((a_2, .ins ad.c_ReadTail dx_25 [("votes", .int self_17.votes), ("over", .int self_17.over), ("noughts", .int self_17.noughts)]) :: (dx_25, .own a_2) :: []) ++ []) eB (Own.cv O (by first | with_reducible rfl | simp only [List.map_nil, List.flatten_cons, List.flatten_nil, List.cons_append, List.nil_append, List.append_nil, List.append_assoc])) ⟨_, _, rfl, ⟨dx_25, rfl⟩, ⟨rfl, rfl⟩⟩
      · replace hm := ifF hm h16
        refine o_next ?_
        -- 28
        refine o_seq ?_
        refine o_ifs ?_
        refine ⟨_, rfl, ?_⟩
        refine o_c ?_
        refine k_eqI ?_
        refine ⟨_, rfl, ?_⟩
        refine iteS (c := (decide (bit_4 = (0 : Int)))) (fun h26 => ?_) (fun h26 => ?_)
        · replace hm := ifT hm h26
          -- 29
          refine o_ret ?_
          refine o_c ?_
          obtain rfl := Option.some.inj hm
          exact k _ _ H0 (((a_2, .ins ad.c_ReadTail dx_5 [("votes", .int self_1.votes), ("over", .int over_8), ("noughts", .int self_1.noughts)]) :: (dx_5, .own a_2) :: []) ++ []) eB (Own.cv O (by first | with_reducible rfl | simp only [List.map_nil, List.flatten_cons, List.flatten_nil, List.cons_append, List.nil_append, List.append_nil, List.append_assoc])) ⟨_, _, rfl, ⟨dx_5, rfl⟩, ⟨rfl, rfl⟩⟩
        · replace hm := ifF hm h26
          refine o_next ?_
          -- 30
          refine o_ret ?_
          refine o_c ?_
          obtain rfl := Option.some.inj hm
          exact k _ _ H0 (((a_2, .ins ad.c_ReadTail dx_5 [("votes", .int self_1.votes), ("over", .int over_8), ("noughts", .int self_1.noughts)]) :: (dx_5, .own a_2) :: []) ++ []) eB (Own.cv O (by first | with_reducible rfl | simp only [List.map_nil, List.flatten_cons, List.flatten_nil, List.cons_append, List.nil_append, List.append_nil, List.append_assoc])) ⟨_, _, rfl, ⟨dx_5, rfl⟩, ⟨rfl, rfl⟩⟩
def m_SpeakTail_answered (self_1 : S_SpeakTail) (bit_4 : Int) : Option (Str) :=
  ifB (decide (bit_4 = (1 : Int))) (
    some ("fault" : Str)) (
    some ("more" : Str))
def sp_SpeakTail_answered (K : PySem.W.Frag) (ad : Ad) : Sp := fun vs H Q _ => ∃ (self_1 : S_SpeakTail) (a_2 : Addr) (L_3 : List Cell) (bit_4 : Int) (R0 : Hp) (r : Str), vs = [.ref a_2, .int bit_4] ∧ Own R0 H (L_3 ++ []) ∧ (o_SpeakTail ad) R0 a_2 L_3 self_1 ∧ m_SpeakTail_answered self_1 bit_4 = some r ∧ RetX R0 (hsub H (L_3 ++ [])) (dK L_3 (dV (.str r))) Q
abbrev N_SpeakTail_answered : List Str := ["self", "bit"]
theorem sc_SpeakTail_answered : FnScope N_SpeakTail_answered ["self", "bit"] (defScope s_SpeakTail_answered) := ⟨rfl, rfl, rfl, by decide +kernel, rfl, by decide +kernel, by decide +kernel⟩
theorem ok_SpeakTail_answered {ad : Ad} (T : Txt K mg ad) : FnOk P w K mg base CX0 1 ad.f_SpeakTail_answered ad.fd_SpeakTail_answered ["self", "bit"] (sp_SpeakTail_answered K ad) := by
  refine T.F_SpeakTail_answered.ok sc_SpeakTail_answered (fun vs H Q E h => ?_) (fun cdv A outer s H vs Q E hr h => ?_)
  · obtain ⟨_, _, _, _, _, _, rfl, _⟩ := h
    rfl
  · obtain ⟨self_1, a_2, L_3, bit_4, R0, r, rfl, OO, hb_a_2, hm, k⟩ := h
    unfold m_SpeakTail_answered at hm
    obtain ⟨Hb, hHb⟩ : ∃ Hb : Hp, Hb = hsub H (L_3 ++ []) := ⟨_, rfl⟩
    obtain ⟨H0, hH0⟩ : ∃ H0 : Hp, H0 = Hb := ⟨Hb, rfl⟩
    have O : Own H0 H (L_3 ++ []) := by rw [hH0, hHb]; exact OO.startX
    have eR : Ex R0 Hb := by rw [hHb]; exact OO.subR
    rw [← hHb] at k
    have eB : Ex Hb H0 := by rw [hH0]; exact Ex.refl _
    have eS : Ex R0 (ovr R0 Hb H0) := by rw [hH0]; exact ovr_start eR
    replace hb_a_2 := (mo_SpeakTail ad) _ _ _ _ _ eS hb_a_2
    clear hH0
    refine ⟨_, (pss_cons (ps_if (pt_cmpR op_eq (pv 1) pe_int (nomark _)) (pss_one (ps_ret pe_str)) pss_nil) (pss_one (ps_ret pe_str))), ?_⟩
    obtain ⟨dx_5, rfl⟩ := hb_a_2
    replace O : Own H0 H [(a_2, .ins ad.c_SpeakTail dx_5 [("votes", .int self_1.votes), ("over", .int self_1.over), ("noughts", .int self_1.noughts)]), (dx_5, .own a_2)] := Own.cv O (by first | with_reducible rfl | simp only [List.map_nil, List.flatten_cons, List.flatten_nil, List.cons_append, List.nil_append, List.append_nil, List.append_assoc])
    -- 52
    refine o_seq ?_
    refine o_ifs ?_
    refine ⟨_, rfl, ?_⟩
    refine o_c ?_
    refine k_eqI ?_
    refine ⟨_, rfl, ?_⟩
    refine iteS (c := (decide (bit_4 = (1 : Int)))) (fun h6 => ?_) (fun h6 => ?_)
    · replace hm := ifT hm h6
      -- 53
      refine o_ret ?_
      refine o_c ?_
      obtain rfl := Option.some.inj hm
      exact k _ _ H0 (((a_2, .ins ad.c_SpeakTail dx_5 [("votes", .int self_1.votes), ("over", .int self_1.over), ("noughts", .int self_1.noughts)]) :: (dx_5, .own a_2) :: []) ++ []) eB (Own.cv O (by first | with_reducible rfl | simp only [List.map_nil, List.flatten_cons, List.flatten_nil, List.cons_append, List.nil_append, List.append_nil, List.append_assoc])) ⟨_, rfl, ⟨rfl, rfl⟩⟩
    · replace hm := ifF hm h6
      refine o_next ?_
      -- 54
      refine o_ret ?_
      refine o_c ?_
      obtain rfl := Option.some.inj hm
      exact k _ _ H0 (((a_2, .ins ad.c_SpeakTail dx_5 [("votes", .int self_1.votes), ("over", .int self_1.over), ("noughts", .int self_1.noughts)]) :: (dx_5, .own a_2) :: []) ++ []) eB (Own.cv O (by first | with_reducible rfl | simp only [List.map_nil, List.flatten_cons, List.flatten_nil, List.cons_append, List.nil_append, List.append_nil, List.append_assoc])) ⟨_, rfl, ⟨rfl, rfl⟩⟩
def m_SpeakTail_voted (self_1 : S_SpeakTail) (bit_4 : Int) : Option (S_SpeakTail × Str) :=
  bnd (ifB (decide (bit_4 = (0 : Int))) (
    ltv ((self_1.noughts + (1 : Int))) fun noughts_9 =>
    some (S_SpeakTail.mk self_1.votes self_1.over noughts_9)) (
    some self_1)) fun self_11 =>
  ifB (decide (self_11.over < ((9 : Int) + self_11.votes))) (
    some (self_11, ("more" : Str))) (
    ifB (decide ((self_11.votes / (2 : Int)) < self_11.noughts)) (
      some (self_11, ("refused" : Str))) (
      some (self_11, ("taken" : Str))))
def sp_SpeakTail_voted (K : PySem.W.Frag) (ad : Ad) : Sp := fun vs H Q _ => ∃ (self_1 : S_SpeakTail) (a_2 : Addr) (L_3 : List Cell) (bit_4 : Int) (R0 : Hp) (r : S_SpeakTail × Str), vs = [.ref a_2, .int bit_4] ∧ Own R0 H (L_3 ++ []) ∧ (o_SpeakTail ad) R0 a_2 L_3 self_1 ∧ m_SpeakTail_voted self_1 bit_4 = some r ∧ RetX R0 (hsub H (L_3 ++ [])) (dX (o_SpeakTail ad) a_2 r.1 (dV (.str r.2))) Q
abbrev N_SpeakTail_voted : List Str := ["self", "bit"]
theorem sc_SpeakTail_voted : FnScope N_SpeakTail_voted ["self", "bit"] (defScope s_SpeakTail_voted) := ⟨rfl, rfl, rfl, by decide +kernel, rfl, by decide +kernel, by decide +kernel⟩
theorem ok_SpeakTail_voted {ad : Ad} (T : Txt K mg ad) : FnOk P w K mg base CX0 1 ad.f_SpeakTail_voted ad.fd_SpeakTail_voted ["self", "bit"] (sp_SpeakTail_voted K ad) := by
  refine T.F_SpeakTail_voted.ok sc_SpeakTail_voted (fun vs H Q E h => ?_) (fun cdv A outer s H vs Q E hr h => ?_)
  · obtain ⟨_, _, _, _, _, _, rfl, _⟩ := h
    rfl
  · obtain ⟨self_1, a_2, L_3, bit_4, R0, r, rfl, OO, hb_a_2, hm, k⟩ := h
    unfold m_SpeakTail_voted at hm
    obtain ⟨Hb, hHb⟩ : ∃ Hb : Hp, Hb = hsub H (L_3 ++ []) := ⟨_, rfl⟩
    obtain ⟨H0, hH0⟩ : ∃ H0 : Hp, H0 = Hb := ⟨Hb, rfl⟩
    have O : Own H0 H (L_3 ++ []) := by rw [hH0, hHb]; exact OO.startX
    have eR : Ex R0 Hb := by rw [hHb]; exact OO.subR
    rw [← hHb] at k
    have eB : Ex Hb H0 := by rw [hH0]; exact Ex.refl _
    have eS : Ex R0 (ovr R0 Hb H0) := by rw [hH0]; exact ovr_start eR
    replace hb_a_2 := (mo_SpeakTail ad) _ _ _ _ _ eS hb_a_2
    clear hH0
    refine ⟨_, (Evl.pss_cut (ps_if (pt_cmpR op_eq (pv 1) pe_int (nomark _)) (pss_one (ps_fld (pv 0) (pe_op op_add (pe_fld (pv 0) rfl) pe_int) rfl)) pss_nil) (pss_cons (ps_if (pt_cmpR op_lt (pe_fld (pv 0) rfl) (pe_op op_add (pe_gv rfl T.g_BARE_tails) (pe_fld (pv 0) rfl)) (nomark _)) (pss_one (ps_ret pe_str)) pss_nil) (pss_cons (ps_if (pt_cmpR op_gt (pe_fld (pv 0) rfl) (pe_op op_fdiv (pe_fld (pv 0) rfl) pe_int) (nomark _)) (pss_one (ps_ret pe_str)) pss_nil) (pss_one (ps_ret pe_str))))), ?_⟩
    obtain ⟨dx_5, rfl⟩ := hb_a_2
    replace O : Own H0 H [(a_2, .ins ad.c_SpeakTail dx_5 [("votes", .int self_1.votes), ("over", .int self_1.over), ("noughts", .int self_1.noughts)]), (dx_5, .own a_2)] := Own.cv O (by first | with_reducible rfl | simp only [List.map_nil, List.flatten_cons, List.flatten_nil, List.cons_append, List.nil_append, List.append_nil, List.append_assoc])
    -- 36
    obtain ⟨self_11, h8, hm⟩ := bndE hm
    refine o_cut (fun σ H => ∃ (R_ : Hp) (B_12 : List Cell) (j_14 : Option V), σ = [some (.ref a_2), j_14] ∧ Ex H0 R_ ∧ Own R_ H (B_12 ++ []) ∧ (o_SpeakTail ad) (ovr R0 Hb R_) a_2 B_12 self_11) ?_ ?_
    · have eJ6 : Ex H0 H0 := Ex.refl _
      refine o_ifs ?_
      refine ⟨_, rfl, ?_⟩
      refine o_c ?_
      refine k_eqI ?_
      refine ⟨_, rfl, ?_⟩
      refine iteS (c := (decide (bit_4 = (0 : Int)))) (fun h7 => ?_) (fun h7 => ?_)
      · replace hm := ifT h8 h7
        -- 37
        refine o_sfld ?_
        refine ⟨_, rfl, a_2, ad.c_SpeakTail, dx_5, [("votes", .int self_1.votes), ("over", .int self_1.over), ("noughts", .int self_1.noughts)], (.int self_1.noughts), rfl, (O.mem (List.Mem.head _)), T.C_SpeakTail, T.N_SpeakTail_noughts, (lk_skip (by decide) (lk_skip (by decide) lk_hit)), _, _, rfl, rfl, _, rfl, ?_⟩
        obtain ⟨noughts_9, h10, hm⟩ := ltvE hm
        refine k_sfld (fs' := [("votes", .int self_1.votes), ("over", .int self_1.over), ("noughts", .int noughts_9)]) (O.mem (List.Mem.head _)) T.C_SpeakTail T.N_SpeakTail_noughts (by show (3 : Nat) < 1000; decide) (congrArg V.int h10) (putF_skip (by decide) (putF_skip (by decide) putF_hit)) (fun _ => O.put0) fun H O => ?_
        have Oz := O
        have hq_ := Option.some.inj hm
        subst hq_
        exact ⟨H0, ((a_2, .ins ad.c_SpeakTail dx_5 [("votes", .int self_1.votes), ("over", .int self_1.over), ("noughts", .int noughts_9)]) :: (dx_5, .own a_2) :: []), _, rfl, eJ6, (Own.cv Oz (by first | with_reducible rfl | simp only [List.map_nil, List.flatten_cons, List.flatten_nil, List.cons_append, List.nil_append, List.append_nil, List.append_assoc])), ⟨dx_5, rfl⟩⟩
      · replace hm := ifF h8 h7
        refine o_next ?_
        have Oz := O
        have hq_ := Option.some.inj hm
        subst hq_
        exact ⟨H0, ((a_2, .ins ad.c_SpeakTail dx_5 [("votes", .int self_1.votes), ("over", .int self_1.over), ("noughts", .int self_1.noughts)]) :: (dx_5, .own a_2) :: []), _, rfl, eJ6, (Own.cv Oz (by first | with_reducible rfl | simp only [List.map_nil, List.flatten_cons, List.flatten_nil, List.cons_append, List.nil_append, List.append_nil, List.append_assoc])), ⟨dx_5, rfl⟩⟩
    rintro σ H ⟨H0, B_12, j_14, rfl, eJ_, O, h13⟩
    replace eB := eB.trans eJ_
    obtain ⟨dx_15, rfl⟩ := h13
    replace O : Own H0 H [(a_2, .ins ad.c_SpeakTail dx_15 [("votes", .int self_11.votes), ("over", .int self_11.over), ("noughts", .int self_11.noughts)]), (dx_15, .own a_2)] := Own.cv O (by first | with_reducible rfl | simp only [List.map_nil, List.flatten_cons, List.flatten_nil, List.cons_append, List.nil_append, List.append_nil, List.append_assoc])
    -- 38
    refine o_seq ?_
    refine o_ifs ?_
    refine ⟨_, rfl, a_2, ad.c_SpeakTail, dx_15, [("votes", .int self_11.votes), ("over", .int self_11.over), ("noughts", .int self_11.noughts)], (.int self_11.over), rfl, (O.mem (List.Mem.head _)), T.C_SpeakTail, T.N_SpeakTail_over, (lk_skip (by decide) lk_hit), _, rfl, a_2, ad.c_SpeakTail, dx_15, [("votes", .int self_11.votes), ("over", .int self_11.over), ("noughts", .int self_11.noughts)], (.int self_11.votes), rfl, (O.mem (List.Mem.head _)), T.C_SpeakTail, T.N_SpeakTail_votes, lk_hit, _, _, rfl, rfl, _, _, rfl, rfl, _, rfl, ?_⟩
    refine iteS (c := decide (self_11.over < ((9 : Int) + self_11.votes))) (fun h16 => ?_) (fun h16 => ?_)
    · replace hm := ifT hm h16
      -- 39
      refine o_ret ?_
      refine o_c ?_
      obtain rfl := Option.some.inj hm
      exact k _ _ H0 (((a_2, .ins ad.c_SpeakTail dx_15 [("votes", .int self_11.votes), ("over", .int self_11.over), ("noughts", .int self_11.noughts)]) :: (dx_15, .own a_2) :: []) ++ []) eB (Own.cv O (by first | with_reducible rfl | simp only [List.map_nil, List.flatten_cons, List.flatten_nil, List.cons_append, List.nil_append, List.append_nil, List.append_assoc])) ⟨_, _, rfl, ⟨dx_15, rfl⟩, ⟨rfl, rfl⟩⟩
    · replace hm := ifF hm h16
      refine o_next ?_
      -- 40
      refine o_seq ?_
      refine o_ifs ?_
      refine ⟨_, rfl, a_2, ad.c_SpeakTail, dx_15, [("votes", .int self_11.votes), ("over", .int self_11.over), ("noughts", .int self_11.noughts)], (.int self_11.noughts), rfl, (O.mem (List.Mem.head _)), T.C_SpeakTail, T.N_SpeakTail_noughts, (lk_skip (by decide) (lk_skip (by decide) lk_hit)), _, rfl, a_2, ad.c_SpeakTail, dx_15, [("votes", .int self_11.votes), ("over", .int self_11.over), ("noughts", .int self_11.noughts)], (.int self_11.votes), rfl, (O.mem (List.Mem.head _)), T.C_SpeakTail, T.N_SpeakTail_votes, lk_hit, _, _, rfl, rfl, ⟨by decide, by decide⟩, _, _, rfl, rfl, _, rfl, ?_⟩
      refine iteS (c := decide ((self_11.votes / (2 : Int)) < self_11.noughts)) (fun h17 => ?_) (fun h17 => ?_)
      · replace hm := ifT hm h17
        -- 41
        refine o_ret ?_
        refine o_c ?_
        obtain rfl := Option.some.inj hm
        exact k _ _ H0 (((a_2, .ins ad.c_SpeakTail dx_15 [("votes", .int self_11.votes), ("over", .int self_11.over), ("noughts", .int self_11.noughts)]) :: (dx_15, .own a_2) :: []) ++ []) eB (Own.cv O (by first | with_reducible rfl | simp only [List.map_nil, List.flatten_cons, List.flatten_nil, List.cons_append, List.nil_append, List.append_nil, List.append_assoc])) ⟨_, _, rfl, ⟨dx_15, rfl⟩, ⟨rfl, rfl⟩⟩
      · replace hm := ifF hm h17
        refine o_next ?_
        -- 42
        refine o_ret ?_
        refine o_c ?_
        obtain rfl := Option.some.inj hm
        exact k _ _ H0 (((a_2, .ins ad.c_SpeakTail dx_15 [("votes", .int self_11.votes), ("over", .int self_11.over), ("noughts", .int self_11.noughts)]) :: (dx_15, .own a_2) :: []) ++ []) eB (Own.cv O (by first | with_reducible rfl | simp only [List.map_nil, List.flatten_cons, List.flatten_nil, List.cons_append, List.nil_append, List.append_nil, List.append_assoc])) ⟨_, _, rfl, ⟨dx_15, rfl⟩, ⟨rfl, rfl⟩⟩
def m_SpeakTail_hear (self_1 : S_SpeakTail) (bit_4 : Int) : Option (S_SpeakTail × Str) :=
  ltv (self_1.over) fun at_6 =>
  ltv ((at_6 + (1 : Int))) fun over_8 =>
  ifB (decide (at_6 = (1 : Int))) (
    bnd (m_SpeakTail_answered (S_SpeakTail.mk self_1.votes over_8 self_1.noughts) bit_4) fun answer_11 =>
    some ((S_SpeakTail.mk self_1.votes over_8 self_1.noughts), answer_11)) (
    ifB (decide ((9 : Int) ≤ at_6)) (
      bnd (m_SpeakTail_voted (S_SpeakTail.mk self_1.votes over_8 self_1.noughts) bit_4) fun (self_17, voted_18) =>
      some (self_17, voted_18)) (
      ifB (decide (bit_4 = (0 : Int))) (
        some ((S_SpeakTail.mk self_1.votes over_8 self_1.noughts), ("fault" : Str))) (
        some ((S_SpeakTail.mk self_1.votes over_8 self_1.noughts), ("more" : Str)))))
def sp_SpeakTail_hear (K : PySem.W.Frag) (ad : Ad) : Sp := fun vs H Q _ => ∃ (self_1 : S_SpeakTail) (a_2 : Addr) (L_3 : List Cell) (bit_4 : Int) (R0 : Hp) (r : S_SpeakTail × Str), vs = [.ref a_2, .int bit_4] ∧ Own R0 H (L_3 ++ []) ∧ (o_SpeakTail ad) R0 a_2 L_3 self_1 ∧ m_SpeakTail_hear self_1 bit_4 = some r ∧ RetX R0 (hsub H (L_3 ++ [])) (dX (o_SpeakTail ad) a_2 r.1 (dV (.str r.2))) Q
abbrev N_SpeakTail_hear : List Str := ["self", "bit", "at"]
theorem sc_SpeakTail_hear : FnScope N_SpeakTail_hear ["self", "bit"] (defScope s_SpeakTail_hear) := ⟨rfl, rfl, rfl, by decide +kernel, rfl, by decide +kernel, by decide +kernel⟩
theorem ok_SpeakTail_hear {ad : Ad} (T : Txt K mg ad) : FnOk P w K mg base CX0 2 ad.f_SpeakTail_hear ad.fd_SpeakTail_hear ["self", "bit"] (sp_SpeakTail_hear K ad) := by
  have G_SpeakTail_answered := ok_SpeakTail_answered (P := P) (w := w) (base := base) T
  have G_SpeakTail_voted := ok_SpeakTail_voted (P := P) (w := w) (base := base) T
  refine T.F_SpeakTail_hear.ok sc_SpeakTail_hear (fun vs H Q E h => ?_) (fun cdv A outer s H vs Q E hr h => ?_)
  · obtain ⟨_, _, _, _, _, _, rfl, _⟩ := h
    rfl
  · obtain ⟨self_1, a_2, L_3, bit_4, R0, r, rfl, OO, hb_a_2, hm, k⟩ := h
    unfold m_SpeakTail_hear at hm
    obtain ⟨Hb, hHb⟩ : ∃ Hb : Hp, Hb = hsub H (L_3 ++ []) := ⟨_, rfl⟩
    obtain ⟨H0, hH0⟩ : ∃ H0 : Hp, H0 = Hb := ⟨Hb, rfl⟩
    have O : Own H0 H (L_3 ++ []) := by rw [hH0, hHb]; exact OO.startX
    have eR : Ex R0 Hb := by rw [hHb]; exact OO.subR
    rw [← hHb] at k
    have eB : Ex Hb H0 := by rw [hH0]; exact Ex.refl _
    have eS : Ex R0 (ovr R0 Hb H0) := by rw [hH0]; exact ovr_start eR
    replace hb_a_2 := (mo_SpeakTail ad) _ _ _ _ _ eS hb_a_2
    clear hH0
    refine ⟨_, (pss_cons (ps_set (i := 2) sc_SpeakTail_hear.nd rfl (Or.inl rfl) (pe_fld (pv 0) rfl)) (pss_cons (ps_fld (pv 0) (pe_op op_add (pv 2) pe_int) rfl) (pss_cons (ps_if (pt_cmpR op_eq (pv 2) pe_int (nomark _)) (pss_one (ps_ret (pe_meth (pv 0) T.C_SpeakTail T.M_SpeakTail_answered G_SpeakTail_answered (hr.mono (by decide)) T.b_SpeakTail_answered .nil pass0 (pa_cons (pv 1) pa_nil)))) pss_nil) (pss_cons (ps_if (pt_cmpR op_ge (pv 2) (pe_gv rfl T.g_BARE_tails) (nomark _)) (pss_one (ps_ret (pe_meth (pv 0) T.C_SpeakTail T.M_SpeakTail_voted G_SpeakTail_voted (hr.mono (by decide)) T.b_SpeakTail_voted .nil pass0 (pa_cons (pv 1) pa_nil)))) pss_nil) (pss_cons (ps_if (pt_cmpR op_eq (pv 1) pe_int (nomark _)) (pss_one (ps_ret pe_str)) pss_nil) (pss_one (ps_ret pe_str))))))), ?_⟩
    obtain ⟨dx_5, rfl⟩ := hb_a_2
    replace O : Own H0 H [(a_2, .ins ad.c_SpeakTail dx_5 [("votes", .int self_1.votes), ("over", .int self_1.over), ("noughts", .int self_1.noughts)]), (dx_5, .own a_2)] := Own.cv O (by first | with_reducible rfl | simp only [List.map_nil, List.flatten_cons, List.flatten_nil, List.cons_append, List.nil_append, List.append_nil, List.append_assoc])
    -- 22
    refine o_seq ?_
    refine o_asg ?_
    refine ⟨_, rfl, a_2, ad.c_SpeakTail, dx_5, [("votes", .int self_1.votes), ("over", .int self_1.over), ("noughts", .int self_1.noughts)], (.int self_1.over), rfl, (O.mem (List.Mem.head _)), T.C_SpeakTail, T.N_SpeakTail_over, (lk_skip (by decide) lk_hit), ?_⟩
    obtain ⟨at_6, h7, hm⟩ := ltvE hm
    refine a_set (congrArg V.int h7) ?_
    -- 23
    refine o_seq ?_
    refine o_sfld ?_
    refine ⟨_, rfl, _, _, rfl, rfl, _, rfl, ?_⟩
    obtain ⟨over_8, h9, hm⟩ := ltvE hm
    refine k_sfld (fs' := [("votes", .int self_1.votes), ("over", .int over_8), ("noughts", .int self_1.noughts)]) (O.mem (List.Mem.head _)) T.C_SpeakTail T.N_SpeakTail_over (by show (3 : Nat) < 1000; decide) (congrArg V.int h9) (putF_skip (by decide) putF_hit) (fun _ => O.put0) fun H O => ?_
    -- 24
    refine o_seq ?_
    refine o_ifs ?_
    refine ⟨_, rfl, ?_⟩
    refine o_c ?_
    refine k_eqI ?_
    refine ⟨_, rfl, ?_⟩
    refine iteS (c := (decide (at_6 = (1 : Int)))) (fun h10 => ?_) (fun h10 => ?_)
    · replace hm := ifT hm h10
      -- 25
      refine o_ret ?_
      refine ⟨_, rfl, a_2, dx_5, [("votes", .int self_1.votes), ("over", .int over_8), ("noughts", .int self_1.noughts)], rfl, (O.mem (List.Mem.head _)), (lk_skip (by decide) (lk_skip (by decide) (lk_skip (by decide) lk_nil))), _, rfl, ?_⟩
      refine x_nil ?_
      obtain ⟨answer_11, h12, hm⟩ := bndE hm
      have Oc : Own H0 H ((((a_2, .ins ad.c_SpeakTail dx_5 [("votes", .int self_1.votes), ("over", .int over_8), ("noughts", .int self_1.noughts)]) :: (dx_5, .own a_2) :: []) ++ []) ++ []) := Own.cv O (by first | with_reducible rfl | simp only [List.map_nil, List.flatten_cons, List.flatten_nil, List.cons_append, List.nil_append, List.append_nil, List.append_assoc])
      refine ⟨(S_SpeakTail.mk self_1.votes over_8 self_1.noughts), a_2, ((a_2, .ins ad.c_SpeakTail dx_5 [("votes", .int self_1.votes), ("over", .int over_8), ("noughts", .int self_1.noughts)]) :: (dx_5, .own a_2) :: []), bit_4, ovr R0 Hb H0, answer_11, rfl, (Own.shrink Oc.left ovr_ex), ⟨dx_5, rfl⟩, h12, ?_⟩
      refine Oc.retXO (mdK mdV) eB fun w_13 H H0 L_14 O e_ d_ => ?_
      replace eB := eB.trans e_
      obtain ⟨L_15, rfl, ⟨rfl, rfl⟩⟩ := d_
      replace O : Own H0 H [(a_2, .ins ad.c_SpeakTail dx_5 [("votes", .int self_1.votes), ("over", .int over_8), ("noughts", .int self_1.noughts)]), (dx_5, .own a_2)] := Own.cv O (by first | with_reducible rfl | simp only [List.map_nil, List.flatten_cons, List.flatten_nil, List.cons_append, List.nil_append, List.append_nil, List.append_assoc])
      obtain rfl := Option.some.inj hm
      exact k _ _ H0 (((a_2, .ins ad.c_SpeakTail dx_5 [("votes", .int self_1.votes), ("over", .int over_8), ("noughts", .int self_1.noughts)]) :: (dx_5, .own a_2) :: []) ++ []) eB (Own.cv O (by first | with_reducible rfl | simp only [List.map_nil, List.flatten_cons, List.flatten_nil, List.cons_append, List.nil_append, List.append_nil, List.append_assoc])) ⟨_, _, rfl, ⟨dx_5, rfl⟩, ⟨rfl, rfl⟩⟩
    · replace hm := ifF hm h10
      refine o_next ?_
      -- 26
      refine o_seq ?_
      refine o_ifs ?_
      refine ⟨_, rfl, _, _, rfl, rfl, _, rfl, ?_⟩
      refine iteS (c := decide ((9 : Int) ≤ at_6)) (fun h16 => ?_) (fun h16 => ?_)
      · replace hm := ifT hm h16
        -- 27
        refine o_ret ?_
        refine ⟨_, rfl, a_2, dx_5, [("votes", .int self_1.votes), ("over", .int over_8), ("noughts", .int self_1.noughts)], rfl, (O.mem (List.Mem.head _)), (lk_skip (by decide) (lk_skip (by decide) (lk_skip (by decide) lk_nil))), _, rfl, ?_⟩
        refine x_nil ?_
        obtain ⟨⟨self_17, voted_18⟩, h19, hm⟩ := bndE hm
        have Oc : Own H0 H ((((a_2, .ins ad.c_SpeakTail dx_5 [("votes", .int self_1.votes), ("over", .int over_8), ("noughts", .int self_1.noughts)]) :: (dx_5, .own a_2) :: []) ++ []) ++ []) := Own.cv O (by first | with_reducible rfl | simp only [List.map_nil, List.flatten_cons, List.flatten_nil, List.cons_append, List.nil_append, List.append_nil, List.append_assoc])
        refine ⟨(S_SpeakTail.mk self_1.votes over_8 self_1.noughts), a_2, ((a_2, .ins ad.c_SpeakTail dx_5 [("votes", .int self_1.votes), ("over", .int over_8), ("noughts", .int self_1.noughts)]) :: (dx_5, .own a_2) :: []), bit_4, ovr R0 Hb H0, (self_17, voted_18), rfl, (Own.shrink Oc.left ovr_ex), ⟨dx_5, rfl⟩, h19, ?_⟩
        refine Oc.retXO (mdX (mo_SpeakTail ad) mdV) eB fun w_20 H H0 L_21 O e_ d_ => ?_
        replace eB := eB.trans e_
        obtain ⟨L_22, L_24, rfl, h23, ⟨rfl, rfl⟩⟩ := d_
        obtain ⟨dx_25, rfl⟩ := h23
        replace O : Own H0 H [(a_2, .ins ad.c_SpeakTail dx_25 [("votes", .int self_17.votes), ("over", .int self_17.over), ("noughts", .int self_17.noughts)]), (dx_25, .own a_2)] := Own.cv O (by first | with_reducible rfl | simp only [List.map_nil, List.flatten_cons, List.flatten_nil, List.cons_append, List.nil_append, List.append_nil, List.append_assoc])
        obtain rfl := Option.some.inj hm
        exact k _ _ H0 (((a_2, .ins ad.c_SpeakTail dx_25 [("votes", .int self_17.votes), ("over", .int self_17.over), ("noughts", .int self_17.noughts)]) :: (dx_25, .own a_2) :: []) ++ []) eB (Own.cv O (by first | with_reducible rfl | simp only [List.map_nil, List.flatten_cons, List.flatten_nil, List.cons_append, List.nil_append, List.append_nil, List.append_assoc])) ⟨_, _, rfl, ⟨dx_25, rfl⟩, ⟨rfl, rfl⟩⟩
      · replace hm := ifF hm h16
        refine o_next ?_
        -- 28
        refine o_seq ?_
        refine o_ifs ?_
        refine ⟨_, rfl, ?_⟩
        refine o_c ?_
        refine k_eqI ?_
        refine ⟨_, rfl, ?_⟩
        refine iteS (c := (decide (bit_4 = (0 : Int)))) (fun h26 => ?_) (fun h26 => ?_)
        · replace hm := ifT hm h26
          -- 29
          refine o_ret ?_
          refine o_c ?_
          obtain rfl := Option.some.inj hm
          exact k _ _ H0 (((a_2, .ins ad.c_SpeakTail dx_5 [("votes", .int self_1.votes), ("over", .int over_8), ("noughts", .int self_1.noughts)]) :: (dx_5, .own a_2) :: []) ++ []) eB (Own.cv O (by first | with_reducible rfl | simp only [List.map_nil, List.flatten_cons, List.flatten_nil, List.cons_append, List.nil_append, List.append_nil, List.append_assoc])) ⟨_, _, rfl, ⟨dx_5, rfl⟩, ⟨rfl, rfl⟩⟩
        · replace hm := ifF hm h26
          refine o_next ?_
          -- 30
          refine o_ret ?_
          refine o_c ?_
          obtain rfl := Option.some.inj hm
          exact k _ _ H0 (((a_2, .ins ad.c_SpeakTail dx_5 [("votes", .int self_1.votes), ("over", .int over_8), ("noughts", .int self_1.noughts)]) :: (dx_5, .own a_2) :: []) ++ []) eB (Own.cv O (by first | with_reducible rfl | simp only [List.map_nil, List.flatten_cons, List.flatten_nil, List.cons_append, List.nil_append, List.append_nil, List.append_assoc])) ⟨_, _, rfl, ⟨dx_5, rfl⟩, ⟨rfl, rfl⟩⟩
def m_Seat_seat_hears_ReadTail (self_1 : S_Seat) (v_4 : S_ReadTail) (bit_5 : Int) : Option (S_Seat) :=
  ifB (decide (self_1.verdict = ("more" : Str))) (
    bnd (m_ReadTail_hear v_4 bit_5) fun (self_12, hear_13) =>
    bnd (ifB (decide (hear_13 = ("fault" : Str))) ( some ((6 : Int) : Int)) ( some ((0 : Int) : Int))) fun z_22 =>
    some (S_Seat.mk (.ReadTail self_12) hear_13 z_22)) (
    ifB (decide ((0 : Int) < self_1.flags)) (
      ltv ((self_1.flags - (1 : Int))) fun flags_28 =>
      some (S_Seat.mk (.ReadTail v_4) self_1.verdict flags_28)) (
      some self_1))
def sp_Seat_seat_hears_ReadTail (K : PySem.W.Frag) (ad : Ad) : Sp := fun vs H Q _ => ∃ (self_1 : S_Seat) (a_2 : Addr) (L_3 : List Cell) (v_4 : S_ReadTail) (bit_5 : Int) (R0 : Hp) (r : S_Seat), vs = [.ref a_2, .int bit_5] ∧ Own R0 H (L_3 ++ []) ∧ self_1.tail = .ReadTail v_4 ∧ (o_Seat ad) R0 a_2 L_3 self_1 ∧ m_Seat_seat_hears_ReadTail self_1 v_4 bit_5 = some r ∧ RetX R0 (hsub H (L_3 ++ [])) (dX (o_Seat ad) a_2 r (dV .non)) Q
abbrev N_Seat_seat_hears : List Str := ["self", "bit"]
theorem sc_Seat_seat_hears : FnScope N_Seat_seat_hears ["self", "bit"] (defScope s_Seat_seat_hears) := ⟨rfl, rfl, rfl, by decide +kernel, rfl, by decide +kernel, by decide +kernel⟩
theorem ok_Seat_seat_hears_ReadTail {ad : Ad} (T : Txt K mg ad) : FnOk P w K mg base CX0 3 ad.f_Seat_seat_hears ad.fd_Seat_seat_hears ["self", "bit"] (sp_Seat_seat_hears_ReadTail K ad) := by
  have G_ReadTail_hear := ok_ReadTail_hear (P := P) (w := w) (base := base) T
  refine T.F_Seat_seat_hears.ok sc_Seat_seat_hears (fun vs H Q E h => ?_) (fun cdv A outer s H vs Q E hr h => ?_)
  · obtain ⟨_, _, _, _, _, _, _, rfl, _⟩ := h
    rfl
  · obtain ⟨self_1, a_2, L_3, v_4, bit_5, R0, r, rfl, OO, hvar_, hb_a_2, hm, k⟩ := h
    unfold m_Seat_seat_hears_ReadTail at hm
    obtain ⟨Hb, hHb⟩ : ∃ Hb : Hp, Hb = hsub H (L_3 ++ []) := ⟨_, rfl⟩
    obtain ⟨H0, hH0⟩ : ∃ H0 : Hp, H0 = Hb := ⟨Hb, rfl⟩
    have O : Own H0 H (L_3 ++ []) := by rw [hH0, hHb]; exact OO.startX
    have eR : Ex R0 Hb := by rw [hHb]; exact OO.subR
    rw [← hHb] at k
    have eB : Ex Hb H0 := by rw [hH0]; exact Ex.refl _
    have eS : Ex R0 (ovr R0 Hb H0) := by rw [hH0]; exact ovr_start eR
    replace hb_a_2 := (mo_Seat ad) _ _ _ _ _ eS hb_a_2
    clear hH0
    refine ⟨_, (pss_one (ps_if (pt_cmpR op_eq (pe_fld (pv 0) rfl) pe_str (nomark _)) (pss_cons (ps_fld (pv 0) (pe_meth (pe_fld (pv 0) rfl) T.C_ReadTail T.M_ReadTail_hear G_ReadTail_hear (hr.mono (by decide)) T.b_ReadTail_hear .nil pass0 (pa_cons (pv 1) pa_nil)) rfl) (pss_one (ps_fld (pv 0) (pe_ifExp (pt_cmpR op_eq (pe_fld (pv 0) rfl) pe_str (nomark _)) (pe_gv rfl T.g_FLAG) pe_int) rfl))) (pss_one (ps_if (pt_cmpR op_gt (pe_fld (pv 0) rfl) pe_int (nomark _)) (pss_one (ps_fld (pv 0) (pe_op op_sub (pe_fld (pv 0) rfl) pe_int) rfl)) pss_nil)))), ?_⟩
    obtain ⟨dx_6, a_7, L_8, rfl, h9⟩ := hb_a_2
    rw [hvar_] at h9
    obtain ⟨dx_10, rfl⟩ := h9
    replace O : Own H0 H [(a_2, .ins ad.c_Seat dx_6 [("tail", .ref a_7), ("verdict", .str self_1.verdict), ("flags", .int self_1.flags)]), (dx_6, .own a_2), (a_7, .ins ad.c_ReadTail dx_10 [("votes", .int v_4.votes), ("over", .int v_4.over), ("noughts", .int v_4.noughts)]), (dx_10, .own a_7)] := Own.cv O (by first | with_reducible rfl | simp only [List.map_nil, List.flatten_cons, List.flatten_nil, List.cons_append, List.nil_append, List.append_nil, List.append_assoc])
    -- 71
    refine o_ifs ?_
    refine ⟨_, rfl, a_2, ad.c_Seat, dx_6, [("tail", .ref a_7), ("verdict", .str self_1.verdict), ("flags", .int self_1.flags)], (.str self_1.verdict), rfl, (O.mem (List.Mem.head _)), T.C_Seat, T.N_Seat_verdict, (lk_skip (by decide) lk_hit), ?_⟩
    refine o_c ?_
    refine k_eqS ?_
    refine ⟨_, rfl, ?_⟩
    refine iteS (c := (decide (self_1.verdict = ("more" : Str)))) (fun h11 => ?_) (fun h11 => ?_)
    · replace hm := ifT hm h11
      -- 72
      refine o_seq ?_
      refine o_sfld ?_
      refine ⟨_, rfl, a_2, ad.c_Seat, dx_6, [("tail", .ref a_7), ("verdict", .str self_1.verdict), ("flags", .int self_1.flags)], (.ref a_7), rfl, (O.mem (List.Mem.head _)), T.C_Seat, T.N_Seat_tail, lk_hit, a_7, dx_10, [("votes", .int v_4.votes), ("over", .int v_4.over), ("noughts", .int v_4.noughts)], rfl, (O.mem (List.Mem.tail _ (List.Mem.tail _ (List.Mem.head _)))), (lk_skip (by decide) (lk_skip (by decide) (lk_skip (by decide) lk_nil))), _, rfl, ?_⟩
      refine x_nil ?_
      obtain ⟨⟨self_12, hear_13⟩, h14, hm⟩ := bndE hm
      have Oc : Own H0 H ((((a_7, .ins ad.c_ReadTail dx_10 [("votes", .int v_4.votes), ("over", .int v_4.over), ("noughts", .int v_4.noughts)]) :: (dx_10, .own a_7) :: []) ++ []) ++ [(a_2, .ins ad.c_Seat dx_6 [("tail", .ref a_7), ("verdict", .str self_1.verdict), ("flags", .int self_1.flags)]), (dx_6, .own a_2)]) := Own.cv (O.sel (L' := [(a_7, .ins ad.c_ReadTail dx_10 [("votes", .int v_4.votes), ("over", .int v_4.over), ("noughts", .int v_4.noughts)]), (dx_10, .own a_7), (a_2, .ins ad.c_Seat dx_6 [("tail", .ref a_7), ("verdict", .str self_1.verdict), ("flags", .int self_1.flags)]), (dx_6, .own a_2)]) [2, 3, 0, 1] (by decide) rfl) (by first | with_reducible rfl | simp only [List.map_nil, List.flatten_cons, List.flatten_nil, List.cons_append, List.nil_append, List.append_nil, List.append_assoc])
      refine ⟨v_4, a_7, ((a_7, .ins ad.c_ReadTail dx_10 [("votes", .int v_4.votes), ("over", .int v_4.over), ("noughts", .int v_4.noughts)]) :: (dx_10, .own a_7) :: []), bit_5, ovr R0 Hb H0, (self_12, hear_13), rfl, (Own.shrink Oc.left ovr_ex), ⟨dx_10, rfl⟩, h14, ?_⟩
      refine Oc.retXO (mdX (mo_ReadTail ad) mdV) eB fun w_15 H H0 L_16 O e_ d_ => ?_
      replace eB := eB.trans e_
      obtain ⟨L_17, L_19, rfl, h18, ⟨rfl, rfl⟩⟩ := d_
      obtain ⟨dx_20, rfl⟩ := h18
      replace O : Own H0 H [(a_7, .ins ad.c_ReadTail dx_20 [("votes", .int self_12.votes), ("over", .int self_12.over), ("noughts", .int self_12.noughts)]), (dx_20, .own a_7), (a_2, .ins ad.c_Seat dx_6 [("tail", .ref a_7), ("verdict", .str self_1.verdict), ("flags", .int self_1.flags)]), (dx_6, .own a_2)] := Own.cv O (by first | with_reducible rfl | simp only [List.map_nil, List.flatten_cons, List.flatten_nil, List.cons_append, List.nil_append, List.append_nil, List.append_assoc])
      refine ⟨_, rfl, ?_⟩
      refine k_sfld (fs' := [("tail", .ref a_7), ("verdict", .str hear_13), ("flags", .int self_1.flags)]) (O.mem (List.Mem.tail _ (List.Mem.tail _ (List.Mem.head _)))) T.C_Seat T.N_Seat_verdict (by show (3 : Nat) < 1000; decide) rfl (putF_skip (by decide) putF_hit) (fun _ => O.put2) fun H O => ?_
      -- 73
      refine o_sfld ?_
      obtain ⟨z_22, h23, hm⟩ := bndE hm
      refine x_ifP (c := (decide (hear_13 = ("fault" : Str)))) (fun H => ∃ (R_ : Hp), Ex H0 R_ ∧ Own R_ H [(a_7, .ins ad.c_ReadTail dx_20 [("votes", .int self_12.votes), ("over", .int self_12.over), ("noughts", .int self_12.noughts)]), (dx_20, .own a_7), (a_2, .ins ad.c_Seat dx_6 [("tail", .ref a_7), ("verdict", .str hear_13), ("flags", .int self_1.flags)]), (dx_6, .own a_2)]) (fun v_ H => ∃ (R_ : Hp), Ex H0 R_ ∧ Own R_ H [(a_7, .ins ad.c_ReadTail dx_20 [("votes", .int self_12.votes), ("over", .int self_12.over), ("noughts", .int self_12.noughts)]), (dx_20, .own a_7), (a_2, .ins ad.c_Seat dx_6 [("tail", .ref a_7), ("verdict", .str hear_13), ("flags", .int self_1.flags)]), (dx_6, .own a_2)] ∧ rI (ovr R0 Hb R_) v_ z_22) (fun Q1 k1 => ?_) (fun h24 H hJ Q2 k2 => ?_) (fun h24 H hJ Q2 k2 => ?_) (fun w_25 H hJ => ?_)
      · have eJ21 : Ex H0 H0 := Ex.refl _
        refine ⟨_, rfl, a_2, ad.c_Seat, dx_6, [("tail", .ref a_7), ("verdict", .str hear_13), ("flags", .int self_1.flags)], (.str hear_13), rfl, (O.mem (List.Mem.tail _ (List.Mem.tail _ (List.Mem.head _)))), T.C_Seat, T.N_Seat_verdict, (lk_skip (by decide) lk_hit), ?_⟩
        refine o_c ?_
        refine k_eqS ?_
        refine ⟨_, rfl, ?_⟩
        exact k1 _ ⟨H0, eJ21, O⟩
      · replace hm := ifT h23 h24
        obtain rfl := Option.some.inj hm
        obtain ⟨H0, eJ21, O⟩ := hJ
        replace eB := eB.trans eJ21
        refine o_c ?_
        exact k2 _ _ ⟨H0, eJ21, O, rfl⟩
      · replace hm := ifF h23 h24
        obtain rfl := Option.some.inj hm
        obtain ⟨H0, eJ21, O⟩ := hJ
        replace eB := eB.trans eJ21
        refine o_c ?_
        exact k2 _ _ ⟨H0, eJ21, O, rfl⟩
      obtain ⟨H0, eJ21, O, h26⟩ := hJ
      replace eB := eB.trans eJ21
      obtain rfl := h26
      refine ⟨_, rfl, ?_⟩
      refine k_sfld (fs' := [("tail", .ref a_7), ("verdict", .str hear_13), ("flags", .int z_22)]) (O.mem (List.Mem.tail _ (List.Mem.tail _ (List.Mem.head _)))) T.C_Seat T.N_Seat_flags (by show (3 : Nat) < 1000; decide) rfl (putF_skip (by decide) (putF_skip (by decide) putF_hit)) (fun _ => O.put2) fun H O => ?_
      obtain rfl := Option.some.inj hm
      exact k _ _ H0 (((a_2, .ins ad.c_Seat dx_6 [("tail", .ref a_7), ("verdict", .str hear_13), ("flags", .int z_22)]) :: (dx_6, .own a_2) :: (((a_7, .ins ad.c_ReadTail dx_20 [("votes", .int self_12.votes), ("over", .int self_12.over), ("noughts", .int self_12.noughts)]) :: (dx_20, .own a_7) :: []) ++ [])) ++ []) eB (Own.cv (O.sel (L' := [(a_2, .ins ad.c_Seat dx_6 [("tail", .ref a_7), ("verdict", .str hear_13), ("flags", .int z_22)]), (dx_6, .own a_2), (a_7, .ins ad.c_ReadTail dx_20 [("votes", .int self_12.votes), ("over", .int self_12.over), ("noughts", .int self_12.noughts)]), (dx_20, .own a_7)]) [2, 3, 0, 1] (by decide) rfl) (by first | with_reducible rfl | simp only [List.map_nil, List.flatten_cons, List.flatten_nil, List.cons_append, List.nil_append, List.append_nil, List.append_assoc])) ⟨_, _, rfl, ⟨dx_6, a_7, ((a_7, .ins ad.c_ReadTail dx_20 [("votes", .int self_12.votes), ("over", .int self_12.over), ("noughts", .int self_12.noughts)]) :: (dx_20, .own a_7) :: []), rfl, ⟨dx_20, rfl⟩⟩, ⟨rfl, rfl⟩⟩
    · replace hm := ifF hm h11
      -- 74
      refine o_ifs ?_
      refine ⟨_, rfl, a_2, ad.c_Seat, dx_6, [("tail", .ref a_7), ("verdict", .str self_1.verdict), ("flags", .int self_1.flags)], (.int self_1.flags), rfl, (O.mem (List.Mem.head _)), T.C_Seat, T.N_Seat_flags, (lk_skip (by decide) (lk_skip (by decide) lk_hit)), _, _, rfl, rfl, _, rfl, ?_⟩
      refine iteS (c := decide ((0 : Int) < self_1.flags)) (fun h27 => ?_) (fun h27 => ?_)
      · replace hm := ifT hm h27
        -- 75
        refine o_sfld ?_
        refine ⟨_, rfl, a_2, ad.c_Seat, dx_6, [("tail", .ref a_7), ("verdict", .str self_1.verdict), ("flags", .int self_1.flags)], (.int self_1.flags), rfl, (O.mem (List.Mem.head _)), T.C_Seat, T.N_Seat_flags, (lk_skip (by decide) (lk_skip (by decide) lk_hit)), _, _, rfl, rfl, _, rfl, ?_⟩
        obtain ⟨flags_28, h29, hm⟩ := ltvE hm
        refine k_sfld (fs' := [("tail", .ref a_7), ("verdict", .str self_1.verdict), ("flags", .int flags_28)]) (O.mem (List.Mem.head _)) T.C_Seat T.N_Seat_flags (by show (3 : Nat) < 1000; decide) (congrArg V.int h29) (putF_skip (by decide) (putF_skip (by decide) putF_hit)) (fun _ => O.put0) fun H O => ?_
        obtain rfl := Option.some.inj hm
        exact k _ _ H0 (((a_2, .ins ad.c_Seat dx_6 [("tail", .ref a_7), ("verdict", .str self_1.verdict), ("flags", .int flags_28)]) :: (dx_6, .own a_2) :: (((a_7, .ins ad.c_ReadTail dx_10 [("votes", .int v_4.votes), ("over", .int v_4.over), ("noughts", .int v_4.noughts)]) :: (dx_10, .own a_7) :: []) ++ [])) ++ []) eB (Own.cv O (by first | with_reducible rfl | simp only [List.map_nil, List.flatten_cons, List.flatten_nil, List.cons_append, List.nil_append, List.append_nil, List.append_assoc])) ⟨_, _, rfl, ⟨dx_6, a_7, ((a_7, .ins ad.c_ReadTail dx_10 [("votes", .int v_4.votes), ("over", .int v_4.over), ("noughts", .int v_4.noughts)]) :: (dx_10, .own a_7) :: []), rfl, ⟨dx_10, rfl⟩⟩, ⟨rfl, rfl⟩⟩
      · replace hm := ifF hm h27
        refine o_next ?_
        obtain rfl := Option.some.inj hm
        exact k _ _ H0 (((a_2, .ins ad.c_Seat dx_6 [("tail", .ref a_7), ("verdict", .str self_1.verdict), ("flags", .int self_1.flags)]) :: (dx_6, .own a_2) :: (((a_7, .ins ad.c_ReadTail dx_10 [("votes", .int v_4.votes), ("over", .int v_4.over), ("noughts", .int v_4.noughts)]) :: (dx_10, .own a_7) :: []) ++ [])) ++ []) eB (Own.cv O (by first | with_reducible rfl | simp only [List.map_nil, List.flatten_cons, List.flatten_nil, List.cons_append, List.nil_append, List.append_nil, List.append_assoc])) ⟨_, _, rfl, ⟨dx_6, a_7, ((a_7, .ins ad.c_ReadTail dx_10 [("votes", .int v_4.votes), ("over", .int v_4.over), ("noughts", .int v_4.noughts)]) :: (dx_10, .own a_7) :: []), rfl, (by rw [hvar_]; exact ⟨dx_10, rfl⟩)⟩, ⟨rfl, rfl⟩⟩
def m_Seat_seat_hears_SpeakTail (self_1 : S_Seat) (v_4 : S_SpeakTail) (bit_5 : Int) : Option (S_Seat) :=
  ifB (decide (self_1.verdict = ("more" : Str))) (
    bnd (m_SpeakTail_hear v_4 bit_5) fun (self_12, hear_13) =>
    bnd (ifB (decide (hear_13 = ("fault" : Str))) ( some ((6 : Int) : Int)) ( some ((0 : Int) : Int))) fun z_22 =>
    some (S_Seat.mk (.SpeakTail self_12) hear_13 z_22)) (
    ifB (decide ((0 : Int) < self_1.flags)) (
      ltv ((self_1.flags - (1 : Int))) fun flags_28 =>
      some (S_Seat.mk (.SpeakTail v_4) self_1.verdict flags_28)) (
      some self_1))
def sp_Seat_seat_hears_SpeakTail (K : PySem.W.Frag) (ad : Ad) : Sp := fun vs H Q _ => ∃ (self_1 : S_Seat) (a_2 : Addr) (L_3 : List Cell) (v_4 : S_SpeakTail) (bit_5 : Int) (R0 : Hp) (r : S_Seat), vs = [.ref a_2, .int bit_5] ∧ Own R0 H (L_3 ++ []) ∧ self_1.tail = .SpeakTail v_4 ∧ (o_Seat ad) R0 a_2 L_3 self_1 ∧ m_Seat_seat_hears_SpeakTail self_1 v_4 bit_5 = some r ∧ RetX R0 (hsub H (L_3 ++ [])) (dX (o_Seat ad) a_2 r (dV .non)) Q
theorem ok_Seat_seat_hears_SpeakTail {ad : Ad} (T : Txt K mg ad) : FnOk P w K mg base CX0 3 ad.f_Seat_seat_hears ad.fd_Seat_seat_hears ["self", "bit"] (sp_Seat_seat_hears_SpeakTail K ad) := by
  have G_SpeakTail_hear := ok_SpeakTail_hear (P := P) (w := w) (base := base) T
  refine T.F_Seat_seat_hears.ok sc_Seat_seat_hears (fun vs H Q E h => ?_) (fun cdv A outer s H vs Q E hr h => ?_)
  · obtain ⟨_, _, _, _, _, _, _, rfl, _⟩ := h
    rfl
  · obtain ⟨self_1, a_2, L_3, v_4, bit_5, R0, r, rfl, OO, hvar_, hb_a_2, hm, k⟩ := h
    unfold m_Seat_seat_hears_SpeakTail at hm
    obtain ⟨Hb, hHb⟩ : ∃ Hb : Hp, Hb = hsub H (L_3 ++ []) := ⟨_, rfl⟩
    obtain ⟨H0, hH0⟩ : ∃ H0 : Hp, H0 = Hb := ⟨Hb, rfl⟩
    have O : Own H0 H (L_3 ++ []) := by rw [hH0, hHb]; exact OO.startX
    have eR : Ex R0 Hb := by rw [hHb]; exact OO.subR
    rw [← hHb] at k
    have eB : Ex Hb H0 := by rw [hH0]; exact Ex.refl _
    have eS : Ex R0 (ovr R0 Hb H0) := by rw [hH0]; exact ovr_start eR
    replace hb_a_2 := (mo_Seat ad) _ _ _ _ _ eS hb_a_2
    clear hH0
    refine ⟨_, (pss_one (ps_if (pt_cmpR op_eq (pe_fld (pv 0) rfl) pe_str (nomark _)) (pss_cons (ps_fld (pv 0) (pe_meth (pe_fld (pv 0) rfl) T.C_SpeakTail T.M_SpeakTail_hear G_SpeakTail_hear (hr.mono (by decide)) T.b_SpeakTail_hear .nil pass0 (pa_cons (pv 1) pa_nil)) rfl) (pss_one (ps_fld (pv 0) (pe_ifExp (pt_cmpR op_eq (pe_fld (pv 0) rfl) pe_str (nomark _)) (pe_gv rfl T.g_FLAG) pe_int) rfl))) (pss_one (ps_if (pt_cmpR op_gt (pe_fld (pv 0) rfl) pe_int (nomark _)) (pss_one (ps_fld (pv 0) (pe_op op_sub (pe_fld (pv 0) rfl) pe_int) rfl)) pss_nil)))), ?_⟩
    obtain ⟨dx_6, a_7, L_8, rfl, h9⟩ := hb_a_2
    rw [hvar_] at h9
    obtain ⟨dx_10, rfl⟩ := h9
    replace O : Own H0 H [(a_2, .ins ad.c_Seat dx_6 [("tail", .ref a_7), ("verdict", .str self_1.verdict), ("flags", .int self_1.flags)]), (dx_6, .own a_2), (a_7, .ins ad.c_SpeakTail dx_10 [("votes", .int v_4.votes), ("over", .int v_4.over), ("noughts", .int v_4.noughts)]), (dx_10, .own a_7)] := Own.cv O (by first | with_reducible rfl | simp only [List.map_nil, List.flatten_cons, List.flatten_nil, List.cons_append, List.nil_append, List.append_nil, List.append_assoc])
    -- 71
    refine o_ifs ?_
    refine ⟨_, rfl, a_2, ad.c_Seat, dx_6, [("tail", .ref a_7), ("verdict", .str self_1.verdict), ("flags", .int self_1.flags)], (.str self_1.verdict), rfl, (O.mem (List.Mem.head _)), T.C_Seat, T.N_Seat_verdict, (lk_skip (by decide) lk_hit), ?_⟩
    refine o_c ?_
    refine k_eqS ?_
    refine ⟨_, rfl, ?_⟩
    refine iteS (c := (decide (self_1.verdict = ("more" : Str)))) (fun h11 => ?_) (fun h11 => ?_)
    · replace hm := ifT hm h11
      -- 72
      refine o_seq ?_
      refine o_sfld ?_
      refine ⟨_, rfl, a_2, ad.c_Seat, dx_6, [("tail", .ref a_7), ("verdict", .str self_1.verdict), ("flags", .int self_1.flags)], (.ref a_7), rfl, (O.mem (List.Mem.head _)), T.C_Seat, T.N_Seat_tail, lk_hit, a_7, dx_10, [("votes", .int v_4.votes), ("over", .int v_4.over), ("noughts", .int v_4.noughts)], rfl, (O.mem (List.Mem.tail _ (List.Mem.tail _ (List.Mem.head _)))), (lk_skip (by decide) (lk_skip (by decide) (lk_skip (by decide) lk_nil))), _, rfl, ?_⟩
      refine x_nil ?_
      obtain ⟨⟨self_12, hear_13⟩, h14, hm⟩ := bndE hm
      have Oc : Own H0 H ((((a_7, .ins ad.c_SpeakTail dx_10 [("votes", .int v_4.votes), ("over", .int v_4.over), ("noughts", .int v_4.noughts)]) :: (dx_10, .own a_7) :: []) ++ []) ++ [(a_2, .ins ad.c_Seat dx_6 [("tail", .ref a_7), ("verdict", .str self_1.verdict), ("flags", .int self_1.flags)]), (dx_6, .own a_2)]) := Own.cv (O.sel (L' := [(a_7, .ins ad.c_SpeakTail dx_10 [("votes", .int v_4.votes), ("over", .int v_4.over), ("noughts", .int v_4.noughts)]), (dx_10, .own a_7), (a_2, .ins ad.c_Seat dx_6 [("tail", .ref a_7), ("verdict", .str self_1.verdict), ("flags", .int self_1.flags)]), (dx_6, .own a_2)]) [2, 3, 0, 1] (by decide) rfl) (by first | with_reducible rfl | simp only [List.map_nil, List.flatten_cons, List.flatten_nil, List.cons_append, List.nil_append, List.append_nil, List.append_assoc])
      refine ⟨v_4, a_7, ((a_7, .ins ad.c_SpeakTail dx_10 [("votes", .int v_4.votes), ("over", .int v_4.over), ("noughts", .int v_4.noughts)]) :: (dx_10, .own a_7) :: []), bit_5, ovr R0 Hb H0, (self_12, hear_13), rfl, (Own.shrink Oc.left ovr_ex), ⟨dx_10, rfl⟩, h14, ?_⟩
      refine Oc.retXO (mdX (mo_SpeakTail ad) mdV) eB fun w_15 H H0 L_16 O e_ d_ => ?_
      replace eB := eB.trans e_
      obtain ⟨L_17, L_19, rfl, h18, ⟨rfl, rfl⟩⟩ := d_
      obtain ⟨dx_20, rfl⟩ := h18
      replace O : Own H0 H [(a_7, .ins ad.c_SpeakTail dx_20 [("votes", .int self_12.votes), ("over", .int self_12.over), ("noughts", .int self_12.noughts)]), (dx_20, .own a_7), (a_2, .ins ad.c_Seat dx_6 [("tail", .ref a_7), ("verdict", .str self_1.verdict), ("flags", .int self_1.flags)]), (dx_6, .own a_2)] := Own.cv O (by first | with_reducible rfl | simp only [List.map_nil, List.flatten_cons, List.flatten_nil, List.cons_append, List.nil_append, List.append_nil, List.append_assoc])
      refine ⟨_, rfl, ?_⟩
      refine k_sfld (fs' := [("tail", .ref a_7), ("verdict", .str hear_13), ("flags", .int self_1.flags)]) (O.mem (List.Mem.tail _ (List.Mem.tail _ (List.Mem.head _)))) T.C_Seat T.N_Seat_verdict (by show (3 : Nat) < 1000; decide) rfl (putF_skip (by decide) putF_hit) (fun _ => O.put2) fun H O => ?_
      -- 73
      refine o_sfld ?_
      obtain ⟨z_22, h23, hm⟩ := bndE hm
      refine x_ifP (c := (decide (hear_13 = ("fault" : Str)))) (fun H => ∃ (R_ : Hp), Ex H0 R_ ∧ Own R_ H [(a_7, .ins ad.c_SpeakTail dx_20 [("votes", .int self_12.votes), ("over", .int self_12.over), ("noughts", .int self_12.noughts)]), (dx_20, .own a_7), (a_2, .ins ad.c_Seat dx_6 [("tail", .ref a_7), ("verdict", .str hear_13), ("flags", .int self_1.flags)]), (dx_6, .own a_2)]) (fun v_ H => ∃ (R_ : Hp), Ex H0 R_ ∧ Own R_ H [(a_7, .ins ad.c_SpeakTail dx_20 [("votes", .int self_12.votes), ("over", .int self_12.over), ("noughts", .int self_12.noughts)]), (dx_20, .own a_7), (a_2, .ins ad.c_Seat dx_6 [("tail", .ref a_7), ("verdict", .str hear_13), ("flags", .int self_1.flags)]), (dx_6, .own a_2)] ∧ rI (ovr R0 Hb R_) v_ z_22) (fun Q1 k1 => ?_) (fun h24 H hJ Q2 k2 => ?_) (fun h24 H hJ Q2 k2 => ?_) (fun w_25 H hJ => ?_)
      · have eJ21 : Ex H0 H0 := Ex.refl _
        refine ⟨_, rfl, a_2, ad.c_Seat, dx_6, [("tail", .ref a_7), ("verdict", .str hear_13), ("flags", .int self_1.flags)], (.str hear_13), rfl, (O.mem (List.Mem.tail _ (List.Mem.tail _ (List.Mem.head _)))), T.C_Seat, T.N_Seat_verdict, (lk_skip (by decide) lk_hit), ?_⟩
        refine o_c ?_
        refine k_eqS ?_
        refine ⟨_, rfl, ?_⟩
        exact k1 _ ⟨H0, eJ21, O⟩
      · replace hm := ifT h23 h24
        obtain rfl := Option.some.inj hm
        obtain ⟨H0, eJ21, O⟩ := hJ
        replace eB := eB.trans eJ21
        refine o_c ?_
        exact k2 _ _ ⟨H0, eJ21, O, rfl⟩
      · replace hm := ifF h23 h24
        obtain rfl := Option.some.inj hm
        obtain ⟨H0, eJ21, O⟩ := hJ
        replace eB := eB.trans eJ21
        refine o_c ?_
        exact k2 _ _ ⟨H0, eJ21, O, rfl⟩
      obtain ⟨H0, eJ21, O, h26⟩ := hJ
      replace eB := eB.trans eJ21
      obtain rfl := h26
      refine ⟨_, rfl, ?_⟩
      refine k_sfld (fs' := [("tail", .ref a_7), ("verdict", .str hear_13), ("flags", .int z_22)]) (O.mem (List.Mem.tail _ (List.Mem.tail _ (List.Mem.head _)))) T.C_Seat T.N_Seat_flags (by show (3 : Nat) < 1000; decide) rfl (putF_skip (by decide) (putF_skip (by decide) putF_hit)) (fun _ => O.put2) fun H O => ?_
      obtain rfl := Option.some.inj hm
      exact k _ _ H0 (((a_2, .ins ad.c_Seat dx_6 [("tail", .ref a_7), ("verdict", .str hear_13), ("flags", .int z_22)]) :: (dx_6, .own a_2) :: (((a_7, .ins ad.c_SpeakTail dx_20 [("votes", .int self_12.votes), ("over", .int self_12.over), ("noughts", .int self_12.noughts)]) :: (dx_20, .own a_7) :: []) ++ [])) ++ []) eB (Own.cv (O.sel (L' := [(a_2, .ins ad.c_Seat dx_6 [("tail", .ref a_7), ("verdict", .str hear_13), ("flags", .int z_22)]), (dx_6, .own a_2), (a_7, .ins ad.c_SpeakTail dx_20 [("votes", .int self_12.votes), ("over", .int self_12.over), ("noughts", .int self_12.noughts)]), (dx_20, .own a_7)]) [2, 3, 0, 1] (by decide) rfl) (by first | with_reducible rfl | simp only [List.map_nil, List.flatten_cons, List.flatten_nil, List.cons_append, List.nil_append, List.append_nil, List.append_assoc])) ⟨_, _, rfl, ⟨dx_6, a_7, ((a_7, .ins ad.c_SpeakTail dx_20 [("votes", .int self_12.votes), ("over", .int self_12.over), ("noughts", .int self_12.noughts)]) :: (dx_20, .own a_7) :: []), rfl, ⟨dx_20, rfl⟩⟩, ⟨rfl, rfl⟩⟩
    · replace hm := ifF hm h11
      -- 74
      refine o_ifs ?_
      refine ⟨_, rfl, a_2, ad.c_Seat, dx_6, [("tail", .ref a_7), ("verdict", .str self_1.verdict), ("flags", .int self_1.flags)], (.int self_1.flags), rfl, (O.mem (List.Mem.head _)), T.C_Seat, T.N_Seat_flags, (lk_skip (by decide) (lk_skip (by decide) lk_hit)), _, _, rfl, rfl, _, rfl, ?_⟩
      refine iteS (c := decide ((0 : Int) < self_1.flags)) (fun h27 => ?_) (fun h27 => ?_)
      · replace hm := ifT hm h27
        -- 75
        refine o_sfld ?_
        refine ⟨_, rfl, a_2, ad.c_Seat, dx_6, [("tail", .ref a_7), ("verdict", .str self_1.verdict), ("flags", .int self_1.flags)], (.int self_1.flags), rfl, (O.mem (List.Mem.head _)), T.C_Seat, T.N_Seat_flags, (lk_skip (by decide) (lk_skip (by decide) lk_hit)), _, _, rfl, rfl, _, rfl, ?_⟩
        obtain ⟨flags_28, h29, hm⟩ := ltvE hm
        refine k_sfld (fs' := [("tail", .ref a_7), ("verdict", .str self_1.verdict), ("flags", .int flags_28)]) (O.mem (List.Mem.head _)) T.C_Seat T.N_Seat_flags (by show (3 : Nat) < 1000; decide) (congrArg V.int h29) (putF_skip (by decide) (putF_skip (by decide) putF_hit)) (fun _ => O.put0) fun H O => ?_
        obtain rfl := Option.some.inj hm
        exact k _ _ H0 (((a_2, .ins ad.c_Seat dx_6 [("tail", .ref a_7), ("verdict", .str self_1.verdict), ("flags", .int flags_28)]) :: (dx_6, .own a_2) :: (((a_7, .ins ad.c_SpeakTail dx_10 [("votes", .int v_4.votes), ("over", .int v_4.over), ("noughts", .int v_4.noughts)]) :: (dx_10, .own a_7) :: []) ++ [])) ++ []) eB (Own.cv O (by first | with_reducible rfl | simp only [List.map_nil, List.flatten_cons, List.flatten_nil, List.cons_append, List.nil_append, List.append_nil, List.append_assoc])) ⟨_, _, rfl, ⟨dx_6, a_7, ((a_7, .ins ad.c_SpeakTail dx_10 [("votes", .int v_4.votes), ("over", .int v_4.over), ("noughts", .int v_4.noughts)]) :: (dx_10, .own a_7) :: []), rfl, ⟨dx_10, rfl⟩⟩, ⟨rfl, rfl⟩⟩
      · replace hm := ifF hm h27
        refine o_next ?_
        obtain rfl := Option.some.inj hm
        exact k _ _ H0 (((a_2, .ins ad.c_Seat dx_6 [("tail", .ref a_7), ("verdict", .str self_1.verdict), ("flags", .int self_1.flags)]) :: (dx_6, .own a_2) :: (((a_7, .ins ad.c_SpeakTail dx_10 [("votes", .int v_4.votes), ("over", .int v_4.over), ("noughts", .int v_4.noughts)]) :: (dx_10, .own a_7) :: []) ++ [])) ++ []) eB (Own.cv O (by first | with_reducible rfl | simp only [List.map_nil, List.flatten_cons, List.flatten_nil, List.cons_append, List.nil_append, List.append_nil, List.append_assoc])) ⟨_, _, rfl, ⟨dx_6, a_7, ((a_7, .ins ad.c_SpeakTail dx_10 [("votes", .int v_4.votes), ("over", .int v_4.over), ("noughts", .int v_4.noughts)]) :: (dx_10, .own a_7) :: []), rfl, (by rw [hvar_]; exact ⟨dx_10, rfl⟩)⟩, ⟨rfl, rfl⟩⟩
def m_Seat_seat_hears (self_ : S_Seat) (bit_ : Int) : Option (S_Seat) := match self_.tail with
  | .ReadTail t_ => m_Seat_seat_hears_ReadTail self_ t_ bit_
  | .SpeakTail t_ => m_Seat_seat_hears_SpeakTail self_ t_ bit_
def sp_Seat_seat_hears (K : PySem.W.Frag) (ad : Ad) : Sp := fun vs H Q _ => ∃ (self_ : S_Seat) (a_self : Addr) (L_self : List Cell) (bit_ : Int) (R0 : Hp) (r : S_Seat), vs = [.ref a_self, .int bit_] ∧ Own R0 H (L_self ++ []) ∧ (o_Seat ad) R0 a_self L_self self_ ∧ m_Seat_seat_hears self_ bit_ = some r ∧ RetX R0 (hsub H (L_self ++ [])) (dX (o_Seat ad) a_self r (dV .non)) Q
theorem ok_Seat_seat_hears {ad : Ad} (T : Txt K mg ad) : FnOk P w K mg base CX0 3 ad.f_Seat_seat_hears ad.fd_Seat_seat_hears ["self", "bit"] (sp_Seat_seat_hears K ad) := by
  have G_ReadTail := ok_Seat_seat_hears_ReadTail (P := P) (w := w) (base := base) T
  have G_SpeakTail := ok_Seat_seat_hears_SpeakTail (P := P) (w := w) (base := base) T
  refine ⟨fun vs H Q E h => ?_, fun A outer s H args us vs Q E hr e0 hb hv h => ?_⟩
  · obtain ⟨_, _, _, _, _, _, rfl, _⟩ := h
    rfl
  · obtain ⟨self_, a_self, L_self, bit_, R0, r, rfl, OO, hf0, hm, k⟩ := h
    unfold m_Seat_seat_hears at hm
    cases hv2 : self_.tail with
    | ReadTail t_ =>
      rw [hv2] at hm
      exact G_ReadTail.run A outer s H args us _ Q E (hr.mono (by decide)) e0 hb hv ⟨self_, a_self, L_self, t_, bit_, R0, _, rfl, OO, hv2, hf0, hm, k⟩
    | SpeakTail t_ =>
      rw [hv2] at hm
      exact G_SpeakTail.run A outer s H args us _ Q E (hr.mono (by decide)) e0 hb hv ⟨self_, a_self, L_self, t_, bit_, R0, _, rfl, OO, hv2, hf0, hm, k⟩
def m_ReadTail_init (votes_4 : Int) : Option (S_ReadTail) :=
  some (S_ReadTail.mk votes_4 (0 : Int) (0 : Int))
def sp_ReadTail_init (K : PySem.W.Frag) (ad : Ad) : Sp := fun vs H Q _ => ∃ (a_2 : Addr) (dx_3 : Addr) (votes_4 : Int) (R0 : Hp) (r : S_ReadTail), vs = [.ref a_2, .int votes_4] ∧ Own R0 H ((a_2, .ins ad.c_ReadTail dx_3 []) :: (dx_3, .own a_2) :: []) ∧ m_ReadTail_init votes_4 = some r ∧ RetX R0 (hsub H ((a_2, .ins ad.c_ReadTail dx_3 []) :: (dx_3, .own a_2) :: [])) (dI (o_ReadTail ad) a_2 r) Q
abbrev N_ReadTail_init : List Str := ["self", "votes"]
theorem sc_ReadTail_init : FnScope N_ReadTail_init ["self", "votes"] (defScope s_ReadTail_init) := ⟨rfl, rfl, rfl, by decide +kernel, rfl, by decide +kernel, by decide +kernel⟩
theorem ok_ReadTail_init {ad : Ad} (T : Txt K mg ad) : FnOk P w K mg base CX0 1 ad.f_ReadTail_init ad.fd_ReadTail_init ["self", "votes"] (sp_ReadTail_init K ad) := by
  refine T.F_ReadTail_init.ok sc_ReadTail_init (fun vs H Q E h => ?_) (fun cdv A outer s H vs Q E hr h => ?_)
  · obtain ⟨_, _, _, _, _, rfl, _⟩ := h
    rfl
  · obtain ⟨a_2, dx_3, votes_4, R0, r, rfl, OO, hm, k⟩ := h
    unfold m_ReadTail_init at hm
    obtain ⟨Hb, hHb⟩ : ∃ Hb : Hp, Hb = hsub H ((a_2, .ins ad.c_ReadTail dx_3 []) :: (dx_3, .own a_2) :: []) := ⟨_, rfl⟩
    obtain ⟨H0, hH0⟩ : ∃ H0 : Hp, H0 = Hb := ⟨Hb, rfl⟩
    have O : Own H0 H ((a_2, .ins ad.c_ReadTail dx_3 []) :: (dx_3, .own a_2) :: []) := by rw [hH0, hHb]; exact OO.startX
    have eR : Ex R0 Hb := by rw [hHb]; exact OO.subR
    rw [← hHb] at k
    have eB : Ex Hb H0 := by rw [hH0]; exact Ex.refl _
    have eS : Ex R0 (ovr R0 Hb H0) := by rw [hH0]; exact ovr_start eR
    clear hH0
    refine ⟨_, (pss_cons (ps_fld (pv 0) (pv 1) rfl) (pss_cons (ps_fld (pv 0) pe_int rfl) (pss_one (ps_fld (pv 0) pe_int rfl)))), ?_⟩
    replace O : Own H0 H [(a_2, .ins ad.c_ReadTail dx_3 []), (dx_3, .own a_2)] := Own.cv O (by first | with_reducible rfl | simp only [List.map_nil, List.flatten_cons, List.flatten_nil, List.cons_append, List.nil_append, List.append_nil, List.append_assoc])
    -- 11
    refine o_seq ?_
    refine o_sfld ?_
    refine ⟨_, rfl, _, rfl, ?_⟩
    refine k_sfld (fs' := [("votes", .int votes_4)]) (O.mem (List.Mem.head _)) T.C_ReadTail T.N_ReadTail_votes (by show (0 : Nat) < 1000; decide) rfl putF_nil (fun _ => O.put0) fun H O => ?_
    -- 12
    refine o_seq ?_
    refine o_sfld ?_
    refine ⟨_, rfl, ?_⟩
    refine k_sfld (fs' := [("votes", .int votes_4), ("over", .int (0 : Int))]) (O.mem (List.Mem.head _)) T.C_ReadTail T.N_ReadTail_over (by show (1 : Nat) < 1000; decide) rfl (putF_skip (by decide) putF_nil) (fun _ => O.put0) fun H O => ?_
    -- 13
    refine o_sfld ?_
    refine ⟨_, rfl, ?_⟩
    refine k_sfld (fs' := [("votes", .int votes_4), ("over", .int (0 : Int)), ("noughts", .int (0 : Int))]) (O.mem (List.Mem.head _)) T.C_ReadTail T.N_ReadTail_noughts (by show (2 : Nat) < 1000; decide) rfl (putF_skip (by decide) (putF_skip (by decide) putF_nil)) (fun _ => O.put0) fun H O => ?_
    obtain rfl := Option.some.inj hm
    exact k _ _ H0 ((a_2, .ins ad.c_ReadTail dx_3 [("votes", .int votes_4), ("over", .int (0 : Int)), ("noughts", .int (0 : Int))]) :: (dx_3, .own a_2) :: []) eB (Own.cv O (by first | with_reducible rfl | simp only [List.map_nil, List.flatten_cons, List.flatten_nil, List.cons_append, List.nil_append, List.append_nil, List.append_assoc])) ⟨rfl, ⟨dx_3, rfl⟩⟩
def m_ReadTail_says (self_1 : S_ReadTail) : Option (Int) :=
  ifB (decide (self_1.over = (1 : Int))) (
    some (0 : Int)) (
    some (1 : Int))
def sp_ReadTail_says (K : PySem.W.Frag) (ad : Ad) : Sp := fun vs H Q _ => ∃ (self_1 : S_ReadTail) (a_2 : Addr) (L_3 : List Cell) (R0 : Hp) (r : Int), vs = [.ref a_2] ∧ Own R0 H (L_3 ++ []) ∧ (o_ReadTail ad) R0 a_2 L_3 self_1 ∧ m_ReadTail_says self_1 = some r ∧ RetX R0 (hsub H (L_3 ++ [])) (dK L_3 (dV (.int r))) Q
abbrev N_ReadTail_says : List Str := ["self"]
theorem sc_ReadTail_says : FnScope N_ReadTail_says ["self"] (defScope s_ReadTail_says) := ⟨rfl, rfl, rfl, by decide +kernel, rfl, by decide +kernel, by decide +kernel⟩
theorem ok_ReadTail_says {ad : Ad} (T : Txt K mg ad) : FnOk P w K mg base CX0 1 ad.f_ReadTail_says ad.fd_ReadTail_says ["self"] (sp_ReadTail_says K ad) := by
  refine T.F_ReadTail_says.ok sc_ReadTail_says (fun vs H Q E h => ?_) (fun cdv A outer s H vs Q E hr h => ?_)
  · obtain ⟨_, _, _, _, _, rfl, _⟩ := h
    rfl
  · obtain ⟨self_1, a_2, L_3, R0, r, rfl, OO, hb_a_2, hm, k⟩ := h
    unfold m_ReadTail_says at hm
    obtain ⟨Hb, hHb⟩ : ∃ Hb : Hp, Hb = hsub H (L_3 ++ []) := ⟨_, rfl⟩
    obtain ⟨H0, hH0⟩ : ∃ H0 : Hp, H0 = Hb := ⟨Hb, rfl⟩
    have O : Own H0 H (L_3 ++ []) := by rw [hH0, hHb]; exact OO.startX
    have eR : Ex R0 Hb := by rw [hHb]; exact OO.subR
    rw [← hHb] at k
    have eB : Ex Hb H0 := by rw [hH0]; exact Ex.refl _
    have eS : Ex R0 (ovr R0 Hb H0) := by rw [hH0]; exact ovr_start eR
    replace hb_a_2 := (mo_ReadTail ad) _ _ _ _ _ eS hb_a_2
    clear hH0
    refine ⟨_, (pss_cons (ps_if (pt_cmpR op_eq (pe_fld (pv 0) rfl) pe_int (nomark _)) (pss_one (ps_ret pe_int)) pss_nil) (pss_one (ps_ret pe_int))), ?_⟩
    obtain ⟨dx_4, rfl⟩ := hb_a_2
    replace O : Own H0 H [(a_2, .ins ad.c_ReadTail dx_4 [("votes", .int self_1.votes), ("over", .int self_1.over), ("noughts", .int self_1.noughts)]), (dx_4, .own a_2)] := Own.cv O (by first | with_reducible rfl | simp only [List.map_nil, List.flatten_cons, List.flatten_nil, List.cons_append, List.nil_append, List.append_nil, List.append_assoc])
    -- 46
    refine o_seq ?_
    refine o_ifs ?_
    refine ⟨_, rfl, a_2, ad.c_ReadTail, dx_4, [("votes", .int self_1.votes), ("over", .int self_1.over), ("noughts", .int self_1.noughts)], (.int self_1.over), rfl, (O.mem (List.Mem.head _)), T.C_ReadTail, T.N_ReadTail_over, (lk_skip (by decide) lk_hit), ?_⟩
    refine o_c ?_
    refine k_eqI ?_
    refine ⟨_, rfl, ?_⟩
    refine iteS (c := (decide (self_1.over = (1 : Int)))) (fun h5 => ?_) (fun h5 => ?_)
    · replace hm := ifT hm h5
      -- 47
      refine o_ret ?_
      refine o_c ?_
      obtain rfl := Option.some.inj hm
      exact k _ _ H0 (((a_2, .ins ad.c_ReadTail dx_4 [("votes", .int self_1.votes), ("over", .int self_1.over), ("noughts", .int self_1.noughts)]) :: (dx_4, .own a_2) :: []) ++ []) eB (Own.cv O (by first | with_reducible rfl | simp only [List.map_nil, List.flatten_cons, List.flatten_nil, List.cons_append, List.nil_append, List.append_nil, List.append_assoc])) ⟨_, rfl, ⟨rfl, rfl⟩⟩
    · replace hm := ifF hm h5
      refine o_next ?_
      -- 48
      refine o_ret ?_
      refine o_c ?_
      obtain rfl := Option.some.inj hm
      exact k _ _ H0 (((a_2, .ins ad.c_ReadTail dx_4 [("votes", .int self_1.votes), ("over", .int self_1.over), ("noughts", .int self_1.noughts)]) :: (dx_4, .own a_2) :: []) ++ []) eB (Own.cv O (by first | with_reducible rfl | simp only [List.map_nil, List.flatten_cons, List.flatten_nil, List.cons_append, List.nil_append, List.append_nil, List.append_assoc])) ⟨_, rfl, ⟨rfl, rfl⟩⟩
def m_SpeakTail_says (self_1 : S_SpeakTail) : Option (Int) :=
  some (1 : Int)
def sp_SpeakTail_says (K : PySem.W.Frag) (ad : Ad) : Sp := fun vs H Q _ => ∃ (self_1 : S_SpeakTail) (a_2 : Addr) (L_3 : List Cell) (R0 : Hp) (r : Int), vs = [.ref a_2] ∧ Own R0 H (L_3 ++ []) ∧ (o_SpeakTail ad) R0 a_2 L_3 self_1 ∧ m_SpeakTail_says self_1 = some r ∧ RetX R0 (hsub H (L_3 ++ [])) (dK L_3 (dV (.int r))) Q
abbrev N_SpeakTail_says : List Str := ["self"]
theorem sc_SpeakTail_says : FnScope N_SpeakTail_says ["self"] (defScope s_SpeakTail_says) := ⟨rfl, rfl, rfl, by decide +kernel, rfl, by decide +kernel, by decide +kernel⟩
theorem ok_SpeakTail_says {ad : Ad} (T : Txt K mg ad) : FnOk P w K mg base CX0 1 ad.f_SpeakTail_says ad.fd_SpeakTail_says ["self"] (sp_SpeakTail_says K ad) := by
  refine T.F_SpeakTail_says.ok sc_SpeakTail_says (fun vs H Q E h => ?_) (fun cdv A outer s H vs Q E hr h => ?_)
  · obtain ⟨_, _, _, _, _, rfl, _⟩ := h
    rfl
  · obtain ⟨self_1, a_2, L_3, R0, r, rfl, OO, hb_a_2, hm, k⟩ := h
    unfold m_SpeakTail_says at hm
    obtain ⟨Hb, hHb⟩ : ∃ Hb : Hp, Hb = hsub H (L_3 ++ []) := ⟨_, rfl⟩
    obtain ⟨H0, hH0⟩ : ∃ H0 : Hp, H0 = Hb := ⟨Hb, rfl⟩
    have O : Own H0 H (L_3 ++ []) := by rw [hH0, hHb]; exact OO.startX
    have eR : Ex R0 Hb := by rw [hHb]; exact OO.subR
    rw [← hHb] at k
    have eB : Ex Hb H0 := by rw [hH0]; exact Ex.refl _
    have eS : Ex R0 (ovr R0 Hb H0) := by rw [hH0]; exact ovr_start eR
    replace hb_a_2 := (mo_SpeakTail ad) _ _ _ _ _ eS hb_a_2
    clear hH0
    refine ⟨_, (pss_one (ps_ret pe_int)), ?_⟩
    obtain ⟨dx_4, rfl⟩ := hb_a_2
    replace O : Own H0 H [(a_2, .ins ad.c_SpeakTail dx_4 [("votes", .int self_1.votes), ("over", .int self_1.over), ("noughts", .int self_1.noughts)]), (dx_4, .own a_2)] := Own.cv O (by first | with_reducible rfl | simp only [List.map_nil, List.flatten_cons, List.flatten_nil, List.cons_append, List.nil_append, List.append_nil, List.append_assoc])
    -- 19
    refine o_ret ?_
    refine o_c ?_
    obtain rfl := Option.some.inj hm
    exact k _ _ H0 (((a_2, .ins ad.c_SpeakTail dx_4 [("votes", .int self_1.votes), ("over", .int self_1.over), ("noughts", .int self_1.noughts)]) :: (dx_4, .own a_2) :: []) ++ []) eB (Own.cv O (by first | with_reducible rfl | simp only [List.map_nil, List.flatten_cons, List.flatten_nil, List.cons_append, List.nil_append, List.append_nil, List.append_assoc])) ⟨_, rfl, ⟨rfl, rfl⟩⟩
def m_Seat_seat_says_ReadTail (self_1 : S_Seat) (v_4 : S_ReadTail) : Option (Int) :=
  ifB (decide (self_1.verdict = ("more" : Str))) (
    bnd (m_ReadTail_says v_4) fun says_11 =>
    some says_11) (
    bnd (ifB (decide ((0 : Int) < self_1.flags)) ( some ((0 : Int) : Int)) ( some ((1 : Int) : Int))) fun z_17 =>
    some z_17)
def sp_Seat_seat_says_ReadTail (K : PySem.W.Frag) (ad : Ad) : Sp := fun vs H Q _ => ∃ (self_1 : S_Seat) (a_2 : Addr) (L_3 : List Cell) (v_4 : S_ReadTail) (R0 : Hp) (r : Int), vs = [.ref a_2] ∧ Own R0 H (L_3 ++ []) ∧ self_1.tail = .ReadTail v_4 ∧ (o_Seat ad) R0 a_2 L_3 self_1 ∧ m_Seat_seat_says_ReadTail self_1 v_4 = some r ∧ RetX R0 (hsub H (L_3 ++ [])) (dK L_3 (dV (.int r))) Q
abbrev N_Seat_seat_says : List Str := ["self"]
theorem sc_Seat_seat_says : FnScope N_Seat_seat_says ["self"] (defScope s_Seat_seat_says) := ⟨rfl, rfl, rfl, by decide +kernel, rfl, by decide +kernel, by decide +kernel⟩
theorem ok_Seat_seat_says_ReadTail {ad : Ad} (T : Txt K mg ad) : FnOk P w K mg base CX0 2 ad.f_Seat_seat_says ad.fd_Seat_seat_says ["self"] (sp_Seat_seat_says_ReadTail K ad) := by
  have G_ReadTail_says := ok_ReadTail_says (P := P) (w := w) (base := base) T
  refine T.F_Seat_seat_says.ok sc_Seat_seat_says (fun vs H Q E h => ?_) (fun cdv A outer s H vs Q E hr h => ?_)
  · obtain ⟨_, _, _, _, _, _, rfl, _⟩ := h
    rfl
  · obtain ⟨self_1, a_2, L_3, v_4, R0, r, rfl, OO, hvar_, hb_a_2, hm, k⟩ := h
    unfold m_Seat_seat_says_ReadTail at hm
    obtain ⟨Hb, hHb⟩ : ∃ Hb : Hp, Hb = hsub H (L_3 ++ []) := ⟨_, rfl⟩
    obtain ⟨H0, hH0⟩ : ∃ H0 : Hp, H0 = Hb := ⟨Hb, rfl⟩
    have O : Own H0 H (L_3 ++ []) := by rw [hH0, hHb]; exact OO.startX
    have eR : Ex R0 Hb := by rw [hHb]; exact OO.subR
    rw [← hHb] at k
    have eB : Ex Hb H0 := by rw [hH0]; exact Ex.refl _
    have eS : Ex R0 (ovr R0 Hb H0) := by rw [hH0]; exact ovr_start eR
    replace hb_a_2 := (mo_Seat ad) _ _ _ _ _ eS hb_a_2
    clear hH0
    refine ⟨_, (pss_cons (ps_if (pt_cmpR op_eq (pe_fld (pv 0) rfl) pe_str (nomark _)) (pss_one (ps_ret (pe_meth0 (pe_fld (pv 0) rfl) T.C_ReadTail T.M_ReadTail_says G_ReadTail_says (hr.mono (by decide)) T.b_ReadTail_says .nil pass0))) pss_nil) (pss_one (ps_ret (pe_ifExp (pt_cmpR op_gt (pe_fld (pv 0) rfl) pe_int (nomark _)) pe_int pe_int)))), ?_⟩
    obtain ⟨dx_5, a_6, L_7, rfl, h8⟩ := hb_a_2
    rw [hvar_] at h8
    obtain ⟨dx_9, rfl⟩ := h8
    replace O : Own H0 H [(a_2, .ins ad.c_Seat dx_5 [("tail", .ref a_6), ("verdict", .str self_1.verdict), ("flags", .int self_1.flags)]), (dx_5, .own a_2), (a_6, .ins ad.c_ReadTail dx_9 [("votes", .int v_4.votes), ("over", .int v_4.over), ("noughts", .int v_4.noughts)]), (dx_9, .own a_6)] := Own.cv O (by first | with_reducible rfl | simp only [List.map_nil, List.flatten_cons, List.flatten_nil, List.cons_append, List.nil_append, List.append_nil, List.append_assoc])
    -- 66
    refine o_seq ?_
    refine o_ifs ?_
    refine ⟨_, rfl, a_2, ad.c_Seat, dx_5, [("tail", .ref a_6), ("verdict", .str self_1.verdict), ("flags", .int self_1.flags)], (.str self_1.verdict), rfl, (O.mem (List.Mem.head _)), T.C_Seat, T.N_Seat_verdict, (lk_skip (by decide) lk_hit), ?_⟩
    refine o_c ?_
    refine k_eqS ?_
    refine ⟨_, rfl, ?_⟩
    refine iteS (c := (decide (self_1.verdict = ("more" : Str)))) (fun h10 => ?_) (fun h10 => ?_)
    · replace hm := ifT hm h10
      -- 67
      refine o_ret ?_
      refine ⟨_, rfl, a_2, ad.c_Seat, dx_5, [("tail", .ref a_6), ("verdict", .str self_1.verdict), ("flags", .int self_1.flags)], (.ref a_6), rfl, (O.mem (List.Mem.head _)), T.C_Seat, T.N_Seat_tail, lk_hit, a_6, dx_9, [("votes", .int v_4.votes), ("over", .int v_4.over), ("noughts", .int v_4.noughts)], rfl, (O.mem (List.Mem.tail _ (List.Mem.tail _ (List.Mem.head _)))), (lk_skip (by decide) (lk_skip (by decide) (lk_skip (by decide) lk_nil))), ?_⟩
      refine x_nil ?_
      obtain ⟨says_11, h12, hm⟩ := bndE hm
      have Oc : Own H0 H ((((a_6, .ins ad.c_ReadTail dx_9 [("votes", .int v_4.votes), ("over", .int v_4.over), ("noughts", .int v_4.noughts)]) :: (dx_9, .own a_6) :: []) ++ []) ++ [(a_2, .ins ad.c_Seat dx_5 [("tail", .ref a_6), ("verdict", .str self_1.verdict), ("flags", .int self_1.flags)]), (dx_5, .own a_2)]) := Own.cv (O.sel (L' := [(a_6, .ins ad.c_ReadTail dx_9 [("votes", .int v_4.votes), ("over", .int v_4.over), ("noughts", .int v_4.noughts)]), (dx_9, .own a_6), (a_2, .ins ad.c_Seat dx_5 [("tail", .ref a_6), ("verdict", .str self_1.verdict), ("flags", .int self_1.flags)]), (dx_5, .own a_2)]) [2, 3, 0, 1] (by decide) rfl) (by first | with_reducible rfl | simp only [List.map_nil, List.flatten_cons, List.flatten_nil, List.cons_append, List.nil_append, List.append_nil, List.append_assoc])
      refine ⟨v_4, a_6, ((a_6, .ins ad.c_ReadTail dx_9 [("votes", .int v_4.votes), ("over", .int v_4.over), ("noughts", .int v_4.noughts)]) :: (dx_9, .own a_6) :: []), ovr R0 Hb H0, says_11, rfl, (Own.shrink Oc.left ovr_ex), ⟨dx_9, rfl⟩, h12, ?_⟩
      refine Oc.retXO (mdK mdV) eB fun w_13 H H0 L_14 O e_ d_ => ?_
      replace eB := eB.trans e_
      obtain ⟨L_15, rfl, ⟨rfl, rfl⟩⟩ := d_
      replace O : Own H0 H [(a_6, .ins ad.c_ReadTail dx_9 [("votes", .int v_4.votes), ("over", .int v_4.over), ("noughts", .int v_4.noughts)]), (dx_9, .own a_6), (a_2, .ins ad.c_Seat dx_5 [("tail", .ref a_6), ("verdict", .str self_1.verdict), ("flags", .int self_1.flags)]), (dx_5, .own a_2)] := Own.cv O (by first | with_reducible rfl | simp only [List.map_nil, List.flatten_cons, List.flatten_nil, List.cons_append, List.nil_append, List.append_nil, List.append_assoc])
      obtain rfl := Option.some.inj hm
      exact k _ _ H0 (((a_2, .ins ad.c_Seat dx_5 [("tail", .ref a_6), ("verdict", .str self_1.verdict), ("flags", .int self_1.flags)]) :: (dx_5, .own a_2) :: (((a_6, .ins ad.c_ReadTail dx_9 [("votes", .int v_4.votes), ("over", .int v_4.over), ("noughts", .int v_4.noughts)]) :: (dx_9, .own a_6) :: []) ++ [])) ++ []) eB (Own.cv (O.sel (L' := [(a_2, .ins ad.c_Seat dx_5 [("tail", .ref a_6), ("verdict", .str self_1.verdict), ("flags", .int self_1.flags)]), (dx_5, .own a_2), (a_6, .ins ad.c_ReadTail dx_9 [("votes", .int v_4.votes), ("over", .int v_4.over), ("noughts", .int v_4.noughts)]), (dx_9, .own a_6)]) [2, 3, 0, 1] (by decide) rfl) (by first | with_reducible rfl | simp only [List.map_nil, List.flatten_cons, List.flatten_nil, List.cons_append, List.nil_append, List.append_nil, List.append_assoc])) ⟨_, rfl, ⟨rfl, rfl⟩⟩
    · replace hm := ifF hm h10
      refine o_next ?_
      -- 68
      refine o_ret ?_
      obtain ⟨z_17, h18, hm⟩ := bndE hm
      refine x_ifP (c := decide ((0 : Int) < self_1.flags)) (fun H => ∃ (R_ : Hp), Ex H0 R_ ∧ Own R_ H [(a_2, .ins ad.c_Seat dx_5 [("tail", .ref a_6), ("verdict", .str self_1.verdict), ("flags", .int self_1.flags)]), (dx_5, .own a_2), (a_6, .ins ad.c_ReadTail dx_9 [("votes", .int v_4.votes), ("over", .int v_4.over), ("noughts", .int v_4.noughts)]), (dx_9, .own a_6)]) (fun v_ H => ∃ (R_ : Hp), Ex H0 R_ ∧ Own R_ H [(a_2, .ins ad.c_Seat dx_5 [("tail", .ref a_6), ("verdict", .str self_1.verdict), ("flags", .int self_1.flags)]), (dx_5, .own a_2), (a_6, .ins ad.c_ReadTail dx_9 [("votes", .int v_4.votes), ("over", .int v_4.over), ("noughts", .int v_4.noughts)]), (dx_9, .own a_6)] ∧ rI (ovr R0 Hb R_) v_ z_17) (fun Q1 k1 => ?_) (fun h19 H hJ Q2 k2 => ?_) (fun h19 H hJ Q2 k2 => ?_) (fun w_20 H hJ => ?_)
      · have eJ16 : Ex H0 H0 := Ex.refl _
        refine ⟨_, rfl, a_2, ad.c_Seat, dx_5, [("tail", .ref a_6), ("verdict", .str self_1.verdict), ("flags", .int self_1.flags)], (.int self_1.flags), rfl, (O.mem (List.Mem.head _)), T.C_Seat, T.N_Seat_flags, (lk_skip (by decide) (lk_skip (by decide) lk_hit)), _, _, rfl, rfl, _, rfl, ?_⟩
        exact k1 _ ⟨H0, eJ16, O⟩
      · replace hm := ifT h18 h19
        obtain rfl := Option.some.inj hm
        obtain ⟨H0, eJ16, O⟩ := hJ
        replace eB := eB.trans eJ16
        refine o_c ?_
        exact k2 _ _ ⟨H0, eJ16, O, rfl⟩
      · replace hm := ifF h18 h19
        obtain rfl := Option.some.inj hm
        obtain ⟨H0, eJ16, O⟩ := hJ
        replace eB := eB.trans eJ16
        refine o_c ?_
        exact k2 _ _ ⟨H0, eJ16, O, rfl⟩
      obtain ⟨H0, eJ16, O, h21⟩ := hJ
      replace eB := eB.trans eJ16
      obtain rfl := h21
      obtain rfl := Option.some.inj hm
      exact k _ _ H0 (((a_2, .ins ad.c_Seat dx_5 [("tail", .ref a_6), ("verdict", .str self_1.verdict), ("flags", .int self_1.flags)]) :: (dx_5, .own a_2) :: (((a_6, .ins ad.c_ReadTail dx_9 [("votes", .int v_4.votes), ("over", .int v_4.over), ("noughts", .int v_4.noughts)]) :: (dx_9, .own a_6) :: []) ++ [])) ++ []) eB (Own.cv O (by first | with_reducible rfl | simp only [List.map_nil, List.flatten_cons, List.flatten_nil, List.cons_append, List.nil_append, List.append_nil, List.append_assoc])) ⟨_, rfl, ⟨rfl, rfl⟩⟩
def m_Seat_seat_says_SpeakTail (self_1 : S_Seat) (v_4 : S_SpeakTail) : Option (Int) :=
  ifB (decide (self_1.verdict = ("more" : Str))) (
    bnd (m_SpeakTail_says v_4) fun says_11 =>
    some says_11) (
    bnd (ifB (decide ((0 : Int) < self_1.flags)) ( some ((0 : Int) : Int)) ( some ((1 : Int) : Int))) fun z_17 =>
    some z_17)
def sp_Seat_seat_says_SpeakTail (K : PySem.W.Frag) (ad : Ad) : Sp := fun vs H Q _ => ∃ (self_1 : S_Seat) (a_2 : Addr) (L_3 : List Cell) (v_4 : S_SpeakTail) (R0 : Hp) (r : Int), vs = [.ref a_2] ∧ Own R0 H (L_3 ++ []) ∧ self_1.tail = .SpeakTail v_4 ∧ (o_Seat ad) R0 a_2 L_3 self_1 ∧ m_Seat_seat_says_SpeakTail self_1 v_4 = some r ∧ RetX R0 (hsub H (L_3 ++ [])) (dK L_3 (dV (.int r))) Q
theorem ok_Seat_seat_says_SpeakTail {ad : Ad} (T : Txt K mg ad) : FnOk P w K mg base CX0 2 ad.f_Seat_seat_says ad.fd_Seat_seat_says ["self"] (sp_Seat_seat_says_SpeakTail K ad) := by
  have G_SpeakTail_says := ok_SpeakTail_says (P := P) (w := w) (base := base) T
  refine T.F_Seat_seat_says.ok sc_Seat_seat_says (fun vs H Q E h => ?_) (fun cdv A outer s H vs Q E hr h => ?_)
  · obtain ⟨_, _, _, _, _, _, rfl, _⟩ := h
    rfl
  · obtain ⟨self_1, a_2, L_3, v_4, R0, r, rfl, OO, hvar_, hb_a_2, hm, k⟩ := h
    unfold m_Seat_seat_says_SpeakTail at hm
    obtain ⟨Hb, hHb⟩ : ∃ Hb : Hp, Hb = hsub H (L_3 ++ []) := ⟨_, rfl⟩
    obtain ⟨H0, hH0⟩ : ∃ H0 : Hp, H0 = Hb := ⟨Hb, rfl⟩
    have O : Own H0 H (L_3 ++ []) := by rw [hH0, hHb]; exact OO.startX
    have eR : Ex R0 Hb := by rw [hHb]; exact OO.subR
    rw [← hHb] at k
    have eB : Ex Hb H0 := by rw [hH0]; exact Ex.refl _
    have eS : Ex R0 (ovr R0 Hb H0) := by rw [hH0]; exact ovr_start eR
    replace hb_a_2 := (mo_Seat ad) _ _ _ _ _ eS hb_a_2
    clear hH0
    refine ⟨_, (pss_cons (ps_if (pt_cmpR op_eq (pe_fld (pv 0) rfl) pe_str (nomark _)) (pss_one (ps_ret (pe_meth0 (pe_fld (pv 0) rfl) T.C_SpeakTail T.M_SpeakTail_says G_SpeakTail_says (hr.mono (by decide)) T.b_SpeakTail_says .nil pass0))) pss_nil) (pss_one (ps_ret (pe_ifExp (pt_cmpR op_gt (pe_fld (pv 0) rfl) pe_int (nomark _)) pe_int pe_int)))), ?_⟩
    obtain ⟨dx_5, a_6, L_7, rfl, h8⟩ := hb_a_2
    rw [hvar_] at h8
    obtain ⟨dx_9, rfl⟩ := h8
    replace O : Own H0 H [(a_2, .ins ad.c_Seat dx_5 [("tail", .ref a_6), ("verdict", .str self_1.verdict), ("flags", .int self_1.flags)]), (dx_5, .own a_2), (a_6, .ins ad.c_SpeakTail dx_9 [("votes", .int v_4.votes), ("over", .int v_4.over), ("noughts", .int v_4.noughts)]), (dx_9, .own a_6)] := Own.cv O (by first | with_reducible rfl | simp only [List.map_nil, List.flatten_cons, List.flatten_nil, List.cons_append, List.nil_append, List.append_nil, List.append_assoc])
    -- 66
    refine o_seq ?_
    refine o_ifs ?_
    refine ⟨_, rfl, a_2, ad.c_Seat, dx_5, [("tail", .ref a_6), ("verdict", .str self_1.verdict), ("flags", .int self_1.flags)], (.str self_1.verdict), rfl, (O.mem (List.Mem.head _)), T.C_Seat, T.N_Seat_verdict, (lk_skip (by decide) lk_hit), ?_⟩
    refine o_c ?_
    refine k_eqS ?_
    refine ⟨_, rfl, ?_⟩
    refine iteS (c := (decide (self_1.verdict = ("more" : Str)))) (fun h10 => ?_) (fun h10 => ?_)
    · replace hm := ifT hm h10
      -- 67
      refine o_ret ?_
      refine ⟨_, rfl, a_2, ad.c_Seat, dx_5, [("tail", .ref a_6), ("verdict", .str self_1.verdict), ("flags", .int self_1.flags)], (.ref a_6), rfl, (O.mem (List.Mem.head _)), T.C_Seat, T.N_Seat_tail, lk_hit, a_6, dx_9, [("votes", .int v_4.votes), ("over", .int v_4.over), ("noughts", .int v_4.noughts)], rfl, (O.mem (List.Mem.tail _ (List.Mem.tail _ (List.Mem.head _)))), (lk_skip (by decide) (lk_skip (by decide) (lk_skip (by decide) lk_nil))), ?_⟩
      refine x_nil ?_
      obtain ⟨says_11, h12, hm⟩ := bndE hm
      have Oc : Own H0 H ((((a_6, .ins ad.c_SpeakTail dx_9 [("votes", .int v_4.votes), ("over", .int v_4.over), ("noughts", .int v_4.noughts)]) :: (dx_9, .own a_6) :: []) ++ []) ++ [(a_2, .ins ad.c_Seat dx_5 [("tail", .ref a_6), ("verdict", .str self_1.verdict), ("flags", .int self_1.flags)]), (dx_5, .own a_2)]) := Own.cv (O.sel (L' := [(a_6, .ins ad.c_SpeakTail dx_9 [("votes", .int v_4.votes), ("over", .int v_4.over), ("noughts", .int v_4.noughts)]), (dx_9, .own a_6), (a_2, .ins ad.c_Seat dx_5 [("tail", .ref a_6), ("verdict", .str self_1.verdict), ("flags", .int self_1.flags)]), (dx_5, .own a_2)]) [2, 3, 0, 1] (by decide) rfl) (by first | with_reducible rfl | simp only [List.map_nil, List.flatten_cons, List.flatten_nil, List.cons_append, List.nil_append, List.append_nil, List.append_assoc])
      refine ⟨v_4, a_6, ((a_6, .ins ad.c_SpeakTail dx_9 [("votes", .int v_4.votes), ("over", .int v_4.over), ("noughts", .int v_4.noughts)]) :: (dx_9, .own a_6) :: []), ovr R0 Hb H0, says_11, rfl, (Own.shrink Oc.left ovr_ex), ⟨dx_9, rfl⟩, h12, ?_⟩
      refine Oc.retXO (mdK mdV) eB fun w_13 H H0 L_14 O e_ d_ => ?_
      replace eB := eB.trans e_
      obtain ⟨L_15, rfl, ⟨rfl, rfl⟩⟩ := d_
      replace O : Own H0 H [(a_6, .ins ad.c_SpeakTail dx_9 [("votes", .int v_4.votes), ("over", .int v_4.over), ("noughts", .int v_4.noughts)]), (dx_9, .own a_6), (a_2, .ins ad.c_Seat dx_5 [("tail", .ref a_6), ("verdict", .str self_1.verdict), ("flags", .int self_1.flags)]), (dx_5, .own a_2)] := Own.cv O (by first | with_reducible rfl | simp only [List.map_nil, List.flatten_cons, List.flatten_nil, List.cons_append, List.nil_append, List.append_nil, List.append_assoc])
      obtain rfl := Option.some.inj hm
      exact k _ _ H0 (((a_2, .ins ad.c_Seat dx_5 [("tail", .ref a_6), ("verdict", .str self_1.verdict), ("flags", .int self_1.flags)]) :: (dx_5, .own a_2) :: (((a_6, .ins ad.c_SpeakTail dx_9 [("votes", .int v_4.votes), ("over", .int v_4.over), ("noughts", .int v_4.noughts)]) :: (dx_9, .own a_6) :: []) ++ [])) ++ []) eB (Own.cv (O.sel (L' := [(a_2, .ins ad.c_Seat dx_5 [("tail", .ref a_6), ("verdict", .str self_1.verdict), ("flags", .int self_1.flags)]), (dx_5, .own a_2), (a_6, .ins ad.c_SpeakTail dx_9 [("votes", .int v_4.votes), ("over", .int v_4.over), ("noughts", .int v_4.noughts)]), (dx_9, .own a_6)]) [2, 3, 0, 1] (by decide) rfl) (by first | with_reducible rfl | simp only [List.map_nil, List.flatten_cons, List.flatten_nil, List.cons_append, List.nil_append, List.append_nil, List.append_assoc])) ⟨_, rfl, ⟨rfl, rfl⟩⟩
    · replace hm := ifF hm h10
      refine o_next ?_
      -- 68
      refine o_ret ?_
      obtain ⟨z_17, h18, hm⟩ := bndE hm
      refine x_ifP (c := decide ((0 : Int) < self_1.flags)) (fun H => ∃ (R_ : Hp), Ex H0 R_ ∧ Own R_ H [(a_2, .ins ad.c_Seat dx_5 [("tail", .ref a_6), ("verdict", .str self_1.verdict), ("flags", .int self_1.flags)]), (dx_5, .own a_2), (a_6, .ins ad.c_SpeakTail dx_9 [("votes", .int v_4.votes), ("over", .int v_4.over), ("noughts", .int v_4.noughts)]), (dx_9, .own a_6)]) (fun v_ H => ∃ (R_ : Hp), Ex H0 R_ ∧ Own R_ H [(a_2, .ins ad.c_Seat dx_5 [("tail", .ref a_6), ("verdict", .str self_1.verdict), ("flags", .int self_1.flags)]), (dx_5, .own a_2), (a_6, .ins ad.c_SpeakTail dx_9 [("votes", .int v_4.votes), ("over", .int v_4.over), ("noughts", .int v_4.noughts)]), (dx_9, .own a_6)] ∧ rI (ovr R0 Hb R_) v_ z_17) (fun Q1 k1 => ?_) (fun h19 H hJ Q2 k2 => ?_) (fun h19 H hJ Q2 k2 => ?_) (fun w_20 H hJ => ?_)
      · have eJ16 : Ex H0 H0 := Ex.refl _
        refine ⟨_, rfl, a_2, ad.c_Seat, dx_5, [("tail", .ref a_6), ("verdict", .str self_1.verdict), ("flags", .int self_1.flags)], (.int self_1.flags), rfl, (O.mem (List.Mem.head _)), T.C_Seat, T.N_Seat_flags, (lk_skip (by decide) (lk_skip (by decide) lk_hit)), _, _, rfl, rfl, _, rfl, ?_⟩
        exact k1 _ ⟨H0, eJ16, O⟩
      · replace hm := ifT h18 h19
        obtain rfl := Option.some.inj hm
        obtain ⟨H0, eJ16, O⟩ := hJ
        replace eB := eB.trans eJ16
        refine o_c ?_
        exact k2 _ _ ⟨H0, eJ16, O, rfl⟩
      · replace hm := ifF h18 h19
        obtain rfl := Option.some.inj hm
        obtain ⟨H0, eJ16, O⟩ := hJ
        replace eB := eB.trans eJ16
        refine o_c ?_
        exact k2 _ _ ⟨H0, eJ16, O, rfl⟩
      obtain ⟨H0, eJ16, O, h21⟩ := hJ
      replace eB := eB.trans eJ16
      obtain rfl := h21
      obtain rfl := Option.some.inj hm
      exact k _ _ H0 (((a_2, .ins ad.c_Seat dx_5 [("tail", .ref a_6), ("verdict", .str self_1.verdict), ("flags", .int self_1.flags)]) :: (dx_5, .own a_2) :: (((a_6, .ins ad.c_SpeakTail dx_9 [("votes", .int v_4.votes), ("over", .int v_4.over), ("noughts", .int v_4.noughts)]) :: (dx_9, .own a_6) :: []) ++ [])) ++ []) eB (Own.cv O (by first | with_reducible rfl | simp only [List.map_nil, List.flatten_cons, List.flatten_nil, List.cons_append, List.nil_append, List.append_nil, List.append_assoc])) ⟨_, rfl, ⟨rfl, rfl⟩⟩
def m_Seat_seat_says (self_ : S_Seat) : Option (Int) := match self_.tail with
  | .ReadTail t_ => m_Seat_seat_says_ReadTail self_ t_
  | .SpeakTail t_ => m_Seat_seat_says_SpeakTail self_ t_
def sp_Seat_seat_says (K : PySem.W.Frag) (ad : Ad) : Sp := fun vs H Q _ => ∃ (self_ : S_Seat) (a_self : Addr) (L_self : List Cell) (R0 : Hp) (r : Int), vs = [.ref a_self] ∧ Own R0 H (L_self ++ []) ∧ (o_Seat ad) R0 a_self L_self self_ ∧ m_Seat_seat_says self_ = some r ∧ RetX R0 (hsub H (L_self ++ [])) (dK L_self (dV (.int r))) Q
theorem ok_Seat_seat_says {ad : Ad} (T : Txt K mg ad) : FnOk P w K mg base CX0 2 ad.f_Seat_seat_says ad.fd_Seat_seat_says ["self"] (sp_Seat_seat_says K ad) := by
  have G_ReadTail := ok_Seat_seat_says_ReadTail (P := P) (w := w) (base := base) T
  have G_SpeakTail := ok_Seat_seat_says_SpeakTail (P := P) (w := w) (base := base) T
  refine ⟨fun vs H Q E h => ?_, fun A outer s H args us vs Q E hr e0 hb hv h => ?_⟩
  · obtain ⟨_, _, _, _, _, rfl, _⟩ := h
    rfl
  · obtain ⟨self_, a_self, L_self, R0, r, rfl, OO, hf0, hm, k⟩ := h
    unfold m_Seat_seat_says at hm
    cases hv2 : self_.tail with
    | ReadTail t_ =>
      rw [hv2] at hm
      exact G_ReadTail.run A outer s H args us _ Q E (hr.mono (by decide)) e0 hb hv ⟨self_, a_self, L_self, t_, R0, _, rfl, OO, hv2, hf0, hm, k⟩
    | SpeakTail t_ =>
      rw [hv2] at hm
      exact G_SpeakTail.run A outer s H args us _ Q E (hr.mono (by decide)) e0 hb hv ⟨self_, a_self, L_self, t_, R0, _, rfl, OO, hv2, hf0, hm, k⟩
def m_verdicts_W0c (many_1 : Int) (votes_2 : Int) (seats_29 : List S_Seat) : Option Bool :=
  some (decide ((List.length seats_29 : Int) < many_1))
def m_verdicts_W0 (many_1 : Int) (votes_2 : Int) (seats_29 : List S_Seat) : Option ((List S_Seat)) :=
  bnd (m_ReadTail_init votes_2) fun readta_37 =>
  bnd (m_Seat_init (.ReadTail readta_37)) fun seat_44 =>
  bnd (appG seats_29 seat_44) fun l_52 =>
  some l_52
def m_verdicts_C2 (seats_61 : List S_Seat) (seat_78 : Int) : Option Int :=
  bnd (atI seats_61 seat_78) fun o_87 =>
  bnd (m_Seat_seat_says o_87) fun seat_s_99 =>
  some seat_s_99
def m_verdicts_L3 (wrong_3 : List (Int × Int)) (place_72 : Int) (m_104 : Int) (post_116 : Int) (seat_117 : Int) (seats_107 : List S_Seat) : Option ((List S_Seat)) :=
  bnd (atI seats_107 seat_117) fun o_122 =>
  bnd (ifB (inL (post_116, place_72) wrong_3) ( some (((1 : Int) - m_104) : Int)) ( some (m_104 : Int))) fun z_135 =>
  bnd (m_Seat_seat_hears o_122 z_135) fun self_144 =>
  bnd (setG seats_107 seat_117 self_144) fun ys_152 =>
  some ys_152
def m_verdicts_L1 (wrong_3 : List (Int × Int)) (place_72 : Int) (seats_61 : List S_Seat) : Option ((List S_Seat)) :=
  bnd (compM (m_verdicts_C2 seats_61) (rangeI 0 (List.length seats_61 : Int)) []) fun l_79 =>
  bnd (minG l_79) fun m_104 =>
  bnd (loopM (fun q_ s => m_verdicts_L3 wrong_3 place_72 m_104 q_.1 q_.2 s) (enumI 0 (rangeI 0 (List.length seats_61 : Int))) seats_61) fun seats_112 =>
  some seats_112
def m_verdicts_C4 (seats_68 : List S_Seat) (seat_157 : Int) : Option Str :=
  bnd (atI seats_68 seat_157) fun o_166 =>
  some o_166.verdict
def m_verdicts (many_1 : Int) (votes_2 : Int) (wrong_3 : List (Int × Int)) : Option (Rs (List Str)) :=
  bndR (m_ask_seats many_1 votes_2 wrong_3) fun ask_se_5 =>
  bnd (m_SpeakTail_init votes_2) fun speakt_11 =>
  bnd (m_Seat_init (.SpeakTail speakt_11)) fun seat_18 =>
  bnd (whileM (fun s => m_verdicts_W0c many_1 votes_2 s) (fun s => m_verdicts_W0 many_1 votes_2 s) FUEL ([seat_18])) fun seats_32 =>
  bnd (rng1 ((9 : Int) + votes_2)) fun rg_58 =>
  bnd (loopM (fun place_72 s => m_verdicts_L1 wrong_3 place_72 s) rg_58 seats_32) fun seats_68 =>
  bnd (compM (m_verdicts_C4 seats_68) (rangeI 0 (List.length seats_68 : Int)) []) fun l_158 =>
  some (.ok l_158)
def sp_verdicts (K : PySem.W.Frag) (d : Eds) : Sp := fun vs H Q E => ∃ (many_1 : Int) (votes_2 : Int) (wrong_3 : List (Int × Int)) (a_4 : Addr) (r : Rs (List Str)), vs = [.int many_1, .int votes_2, .ref a_4] ∧ (rL (rT2 rI rI)) H (.ref a_4) wrong_3 ∧ m_verdicts many_1 votes_2 wrong_3 = some r ∧ RetR (fun r => RetL (List.map V.str r) H Q) d r H E
abbrev N_verdicts : List Str := ["many", "votes", "wrong", "seats", "place", "bit", "post", "seat"]
theorem sc_verdicts : FnScope N_verdicts ["many", "votes", "wrong"] (defScope s_verdicts) := ⟨rfl, rfl, rfl, by decide +kernel, rfl, by decide +kernel, by decide +kernel⟩
theorem ok_verdicts {ad : Ad} (T : Txt K mg ad) : FnOk P w K mg base (L2N.CX P w) 4 ad.f_verdicts ad.fd_verdicts ["many", "votes", "wrong"] (sp_verdicts K ad.es) := by
  have G_ReadTail_init := ok_ReadTail_init (P := P) (w := w) (base := base) T
  have G_Seat_init := ok_Seat_init (P := P) (w := w) (base := base) T
  have G_Seat_seat_hears := ok_Seat_seat_hears (P := P) (w := w) (base := base) T
  have G_Seat_seat_says := ok_Seat_seat_says (P := P) (w := w) (base := base) T
  have G_SpeakTail_init := ok_SpeakTail_init (P := P) (w := w) (base := base) T
  have G_ask_seats := ok_ask_seats (P := P) (w := w) (base := base) T
  refine okN T.F_verdicts sc_verdicts (fun vs H Q E h => ?_) (fun cdv A outer s H vs Q E hr h => ?_)
  · obtain ⟨_, _, _, _, _, rfl, _⟩ := h
    rfl
  · obtain ⟨many_1, votes_2, wrong_3, a_4, r, rfl, hn_a_4, hm, k⟩ := h
    unfold m_verdicts at hm
    obtain ⟨Hb, hHb⟩ : ∃ Hb : Hp, Hb = H := ⟨H, rfl⟩
    obtain ⟨H0, hH0⟩ : ∃ H0 : Hp, H0 = Hb := ⟨Hb, rfl⟩
    have O : Own H0 H [] := by rw [hH0, hHb]; exact Own.start H
    rw [← hHb] at k hn_a_4
    rw [← hH0] at hn_a_4
    have eB : Ex Hb H0 := by rw [hH0]; exact Ex.refl _
    clear hH0 hHb
    refine ⟨_, (pss_cons (ps_expr (pe_call G_ask_seats (hr.mono (by decide)) (by rfl) T.g_ask_seats T.F_ask_seats.kp T.b_ask_seats .nil (E := E) (L2N.passes_call (L2N.takes_of rfl rfl rfl rfl) fun _ _ _ _ h => h) (pa_cons (pv 0) (pa_cons (pv 1) (pa_cons (pv 2) pa_nil))))) (pss_cons (ps_set (i := 3) sc_verdicts.nd rfl (Or.inl rfl) (pe_lstQ (pe_lst (pa_cons (pe_make T.K_Seat G_Seat_init (hr.mono (by decide)) (by rfl) T.k_Seat T.b_Seat_init .nil pass0 (pa_cons (pe_make T.K_SpeakTail G_SpeakTail_init (hr.mono (by decide)) (by rfl) T.k_SpeakTail T.b_SpeakTail_init .nil pass0 (pa_cons (pv 1) pa_nil)) pa_nil)) pa_nil)))) (pss_cons (ps_while (passes_of rfl) (pt_cmpR op_lt (pe_callB (r := rLenQ K) call_lenQ (by rfl) T.z_len PySem.boot_len (pa_cons (pv 3) pa_nil)) (pv 0) (nomark _)) (pss_one (ps_expr (pe_bm PySem.F.plainAttrs_list PySem.F.slot_list_append PySem.F.type_list_append mt_append (pv 3) (pa_cons (pe_make T.K_Seat G_Seat_init (hr.mono (by decide)) (by rfl) T.k_Seat T.b_Seat_init .nil pass0 (pa_cons (pe_make T.K_ReadTail G_ReadTail_init (hr.mono (by decide)) (by rfl) T.k_ReadTail T.b_ReadTail_init .nil pass0 (pa_cons (pv 1) pa_nil)) pa_nil)) pa_nil))))) (pss_cons (ps_for (passes_of rfl) rfl (pi_range1 (by rfl) T.z_range (pa_cons (pe_op op_add (pe_gv rfl T.g_BARE_verdicts) (pv 1)) pa_nil)) (pg_name (i := 4) sc_verdicts.nd rfl (Or.inl rfl)) (pss_cons (ps_set (i := 5) sc_verdicts.nd rfl (Or.inl rfl) (pe_callB (r := rMin K) (cr_min rfl) (by rfl) T.z_min (by decide +kernel) (pa_cons (pe_lc (own := [("seat", 7)]) (g := gName 7) (tt := tYes) rfl sc_verdicts.nd (pi_list (pv 3)) (blkOk_by (own := [("seat", 7)]) (N := N_verdicts) (sc := defScope s_verdicts) (by decide +kernel)) (fun _ _ _ _ _ => pg_name (i := 7) sc_verdicts.nd rfl (Or.inl rfl)) (fun _ _ _ _ _ => pts_nil) (fun _ _ _ _ _ => (pe_meth0 (pv 7) T.C_Seat T.M_Seat_seat_says G_Seat_seat_says (hr.mono (by decide)) T.b_Seat_seat_says .nil pass0))) pa_nil))) (pss_one (ps_for (passes_of rfl) rfl (pi_enum (by rfl) T.z_enumerate (pa_cons (pv 3) pa_nil)) (pg_tup rfl (pgs_cons (pg_name (i := 6) sc_verdicts.nd rfl (Or.inl rfl)) (pgs_cons (pg_name (i := 7) sc_verdicts.nd rfl (Or.inl rfl)) pgs_nil))) (pss_one (ps_expr (pe_meth (pv 7) T.C_Seat T.M_Seat_seat_hears G_Seat_seat_hears (hr.mono (by decide)) T.b_Seat_seat_hears .nil pass0 (pa_cons (pe_ifExp (pt_cmpR (r := rInD K) (op_inD (room65 hr)) (pe_tupQ (pe_tup (pa_cons (pv 6) (pa_cons (pv 4) pa_nil)))) (pv 2) (by rfl)) (pe_op op_sub pe_int (pv 5)) (pv 5)) pa_nil)))))))) (pss_one (ps_ret (pe_lc (own := [("seat", 7)]) (g := gName 7) (tt := tYes) rfl sc_verdicts.nd (pi_list (pv 3)) (blkOk_by (own := [("seat", 7)]) (N := N_verdicts) (sc := defScope s_verdicts) (by decide +kernel)) (fun _ _ _ _ _ => pg_name (i := 7) sc_verdicts.nd rfl (Or.inl rfl)) (fun _ _ _ _ _ => pts_nil) (fun _ _ _ _ _ => (pe_fld2 (K := K) rfl (pv 7) rfl))))))))), ?_⟩
    -- 83
    refine o_seq ?_
    refine o_drop ?_
    obtain ⟨x_7, h6, hm⟩ := bndRE hm
    refine ⟨_, rfl, _, rfl, _, rfl, ?_⟩
    refine x_nil ?_
    refine ⟨_, _, wrong_3, _, x_7, rfl, ((mL (mT2 mI mI)) _ _ _ _ O.ex hn_a_4), h6, ?_⟩
    refine RetR.split (fun e_ h8 => ?_) (fun ask_se_5 h8 => ?_)
    · subst h8
      obtain rfl := erR hm
      exact RetE.go (RetE.up k eB) O
    subst h8
    replace hm := okR hm
    refine O.retV fun H O => ?_
    -- 84
    refine o_seq ?_
    refine o_asg ?_
    refine ⟨_, rfl, ?_⟩
    refine x_nil ?_
    refine k_make O fun a_9 dx_10 H O => ?_
    obtain ⟨speakt_11, h12, hm⟩ := bndE hm
    have Oc : Own H0 H (((a_9, .ins ad.c_SpeakTail dx_10 []) :: (dx_10, .own a_9) :: []) ++ []) := Own.cv O (by first | with_reducible rfl | simp only [List.map_nil, List.flatten_cons, List.flatten_nil, List.cons_append, List.nil_append, List.append_nil, List.append_assoc])
    refine ⟨a_9, dx_10, votes_2, H0, speakt_11, rfl, Oc.left, h12, ?_⟩
    refine Oc.retX (mdI (mo_SpeakTail ad)) fun v_ H H0 L_14 O e_ d_ => ?_
    replace hn_a_4 := (mL (mT2 mI mI)) _ _ _ _ e_ hn_a_4
    replace eB := eB.trans e_
    obtain ⟨rfl, h13⟩ := d_
    refine ⟨rfl, ?_⟩
    obtain ⟨dx_15, rfl⟩ := h13
    replace O : Own H0 H [(a_9, .ins ad.c_SpeakTail dx_15 [("votes", .int speakt_11.votes), ("over", .int speakt_11.over), ("noughts", .int speakt_11.noughts)]), (dx_15, .own a_9)] := Own.cv O (by first | with_reducible rfl | simp only [List.map_nil, List.flatten_cons, List.flatten_nil, List.cons_append, List.nil_append, List.append_nil, List.append_assoc])
    refine x_nil ?_
    refine k_make O fun a_16 dx_17 H O => ?_
    obtain ⟨seat_18, h19, hm⟩ := bndE hm
    have Oc : Own H0 H (((a_16, .ins ad.c_Seat dx_17 []) :: (dx_17, .own a_16) :: (((a_9, .ins ad.c_SpeakTail dx_15 [("votes", .int speakt_11.votes), ("over", .int speakt_11.over), ("noughts", .int speakt_11.noughts)]) :: (dx_15, .own a_9) :: []) ++ [])) ++ []) := Own.cv O (by first | with_reducible rfl | simp only [List.map_nil, List.flatten_cons, List.flatten_nil, List.cons_append, List.nil_append, List.append_nil, List.append_assoc])
    refine ⟨a_16, dx_17, (.SpeakTail speakt_11), a_9, ((a_9, .ins ad.c_SpeakTail dx_15 [("votes", .int speakt_11.votes), ("over", .int speakt_11.over), ("noughts", .int speakt_11.noughts)]) :: (dx_15, .own a_9) :: []), H0, seat_18, rfl, Oc.left, ⟨dx_15, rfl⟩, h19, ?_⟩
    refine Oc.retX (mdI (mo_Seat ad)) fun v_ H H0 L_21 O e_ d_ => ?_
    replace hn_a_4 := (mL (mT2 mI mI)) _ _ _ _ e_ hn_a_4
    replace eB := eB.trans e_
    obtain ⟨rfl, h20⟩ := d_
    refine ⟨rfl, ?_⟩
    obtain ⟨dx_22, a_23, L_24, rfl, h25⟩ := h20
    replace O := Own.cv (L' := ((a_16, .ins ad.c_Seat dx_22 [("tail", .ref a_23), ("verdict", .str seat_18.verdict), ("flags", .int seat_18.flags)]) :: ((dx_22, .own a_16) :: (L_24 ++ [])))) O (by first | with_reducible rfl | simp only [List.map_nil, List.flatten_cons, List.flatten_nil, List.cons_append, List.nil_append, List.append_nil, List.append_assoc])
    refine x_nil ?_
    refine n_lstV O (by show 1 ≤ sizeLine; decide) fun p_26 H O => ?_
    have h27 : (oLs (o_Seat ad)) (H0) p_26 ((p_26, .lst ([.ref a_16] : List V)) :: (((a_16, .ins ad.c_Seat dx_22 [("tail", .ref a_23), ("verdict", .str seat_18.verdict), ("flags", .int seat_18.flags)]) :: (dx_22, .own a_16) :: (L_24 ++ [])) ++ [])) [seat_18] := ⟨[a_16], [((a_16, .ins ad.c_Seat dx_22 [("tail", .ref a_23), ("verdict", .str seat_18.verdict), ("flags", .int seat_18.flags)]) :: (dx_22, .own a_16) :: (L_24 ++ []))], List.Perm.refl _, (.cons ⟨dx_22, a_23, L_24, rfl, h25⟩ .nil)⟩
    obtain ⟨L_28, hLb_⟩ : ∃ L_ : List Cell, L_ = ((p_26, .lst ([.ref a_16] : List V)) :: (((a_16, .ins ad.c_Seat dx_22 [("tail", .ref a_23), ("verdict", .str seat_18.verdict), ("flags", .int seat_18.flags)]) :: (dx_22, .own a_16) :: (L_24 ++ [])) ++ [])) := ⟨_, rfl⟩
    rw [← hLb_] at h27
    replace O : Own H0 H (L_28 ++ []) := by rw [hLb_]; exact Own.cv O (by first | with_reducible rfl | simp only [List.map_nil, List.flatten_cons, List.flatten_nil, List.cons_append, List.nil_append, List.append_nil, List.append_assoc])
    clear hLb_
    replace O := Own.cv (L' := (L_28 ++ [])) O (by first | with_reducible rfl | simp only [List.map_nil, List.flatten_cons, List.flatten_nil, List.cons_append, List.nil_append, List.append_nil, List.append_assoc])
    -- 85
    refine o_seq ?_
    obtain ⟨seats_32, h33, hm⟩ := bndE hm
    refine o_while (fun m σ H => ∃ (R_ : Hp) (seats_29 : List S_Seat) (B_30 : List Cell), σ = [some (.int many_1), some (.int votes_2), some (.ref a_4), some (.ref p_26), none, none, none, none] ∧ Ex H0 R_ ∧ Own R_ H (B_30 ++ []) ∧ (oLs (o_Seat ad)) (R_) p_26 B_30 seats_29 ∧ whileM (fun s => m_verdicts_W0c many_1 votes_2 s) (fun s => m_verdicts_W0 many_1 votes_2 s) m seats_29 = some seats_32) FUEL ⟨H0, _, L_28, rfl, Ex.refl _, (Own.cv (Own.cv (L' := (L_28 ++ [])) (Own.selB (Bs := [L_28]) (Bs' := [L_28]) (Own.cv O (by first | with_reducible rfl | simp only [List.map_nil, List.flatten_cons, List.flatten_nil, List.cons_append, List.nil_append, List.append_nil, List.append_assoc])) [0] (by decide) rfl) (by first | with_reducible rfl | simp only [List.map_nil, List.flatten_cons, List.flatten_nil, List.cons_append, List.nil_append, List.append_nil, List.append_assoc])) (by first | with_reducible rfl | simp only [List.map_nil, List.flatten_cons, List.flatten_nil, List.cons_append, List.nil_append, List.append_nil, List.append_assoc])), h27, h33⟩ ?_ ?_
    · rintro σ H ⟨H0, seats_29, B_30, rfl, eJ_, O, h31, hL⟩
      exact whileM_zero hL
    rintro m σ H ⟨H0, seats_29, B_30, rfl, eL31, O, h31, hL⟩
    replace hn_a_4 := (mL (mT2 mI mI)) _ _ _ _ eL31 hn_a_4
    replace eB := eB.trans eL31
    have h57 := hm
    obtain ⟨b_, hm, hL⟩ := whileM_succ hL
    replace hm : m_verdicts_W0c many_1 votes_2 seats_29 = some b_ := hm
    unfold m_verdicts_W0c at hm
    refine ⟨_, rfl, ?_⟩
    refine x_nil ?_
    refine n_lenO (oLs.sq O h31 (fun c_ h_ => List.mem_append_left _ h_)) ?_
    refine ⟨_, rfl, _, _, rfl, rfl, _, rfl, ?_⟩
    obtain rfl := Option.some.inj hm
    refine iteS (c := decide ((List.length seats_29 : Int) < many_1)) (fun h56 => ?_) (fun h56 => ?_)
    · obtain ⟨s_, hm, hL⟩ := bndE (ifT hL h56)
      replace hm : m_verdicts_W0 many_1 votes_2 seats_29 = some s_ := hm
      unfold m_verdicts_W0 at hm
      refine o_turn ?_
      -- 86
      refine o_drop ?_
      refine ⟨_, rfl, ?_⟩
      obtain ⟨_, h34, _⟩ := oLs.sq (K := K) O h31 (fun c_ h_ => List.mem_append_left _ h_)
      refine ⟨.inl ⟨rfl, _, h34⟩, _, rfl, ?_⟩
      refine x_nil ?_
      refine k_make O fun a_35 dx_36 H O => ?_
      obtain ⟨readta_37, h38, hm⟩ := bndE hm
      have Oc : Own H0 H (((a_35, .ins ad.c_ReadTail dx_36 []) :: (dx_36, .own a_35) :: []) ++ (B_30 ++ [])) := Own.cv (Own.cv (L' := ((a_35, .ins ad.c_ReadTail dx_36 []) :: ((dx_36, .own a_35) :: (B_30 ++ [])))) (Own.selB (Bs := [[(a_35, .ins ad.c_ReadTail dx_36 [])], [(dx_36, .own a_35)], B_30]) (Bs' := [[(a_35, .ins ad.c_ReadTail dx_36 [])], [(dx_36, .own a_35)], B_30]) (Own.cv O (by first | with_reducible rfl | simp only [List.map_nil, List.flatten_cons, List.flatten_nil, List.cons_append, List.nil_append, List.append_nil, List.append_assoc])) [0, 1, 2] (by decide) rfl) (by first | with_reducible rfl | simp only [List.map_nil, List.flatten_cons, List.flatten_nil, List.cons_append, List.nil_append, List.append_nil, List.append_assoc])) (by first | with_reducible rfl | simp only [List.map_nil, List.flatten_cons, List.flatten_nil, List.cons_append, List.nil_append, List.append_nil, List.append_assoc])
      refine ⟨a_35, dx_36, votes_2, H0, readta_37, rfl, Oc.left, h38, ?_⟩
      refine Oc.retX (mdI (mo_ReadTail ad)) fun v_ H H0 L_40 O e_ d_ => ?_
      replace hn_a_4 := (mL (mT2 mI mI)) _ _ _ _ e_ hn_a_4
      replace h31 := (moLs (mo_Seat ad)) _ _ _ _ _ e_ h31
      replace eB := eB.trans e_
      replace eL31 := eL31.trans e_
      obtain ⟨rfl, h39⟩ := d_
      refine ⟨rfl, ?_⟩
      obtain ⟨dx_41, rfl⟩ := h39
      replace O := Own.cv (L' := ((a_35, .ins ad.c_ReadTail dx_41 [("votes", .int readta_37.votes), ("over", .int readta_37.over), ("noughts", .int readta_37.noughts)]) :: ((dx_41, .own a_35) :: (B_30 ++ [])))) O (by first | with_reducible rfl | simp only [List.map_nil, List.flatten_cons, List.flatten_nil, List.cons_append, List.nil_append, List.append_nil, List.append_assoc])
      refine x_nil ?_
      refine k_make O fun a_42 dx_43 H O => ?_
      obtain ⟨seat_44, h45, hm⟩ := bndE hm
      have Oc : Own H0 H (((a_42, .ins ad.c_Seat dx_43 []) :: (dx_43, .own a_42) :: (((a_35, .ins ad.c_ReadTail dx_41 [("votes", .int readta_37.votes), ("over", .int readta_37.over), ("noughts", .int readta_37.noughts)]) :: (dx_41, .own a_35) :: []) ++ [])) ++ (B_30 ++ [])) := Own.cv (Own.cv (L' := ((a_42, .ins ad.c_Seat dx_43 []) :: ((dx_43, .own a_42) :: ((a_35, .ins ad.c_ReadTail dx_41 [("votes", .int readta_37.votes), ("over", .int readta_37.over), ("noughts", .int readta_37.noughts)]) :: ((dx_41, .own a_35) :: (B_30 ++ [])))))) (Own.selB (Bs := [[(a_42, .ins ad.c_Seat dx_43 [])], [(dx_43, .own a_42)], [(a_35, .ins ad.c_ReadTail dx_41 [("votes", .int readta_37.votes), ("over", .int readta_37.over), ("noughts", .int readta_37.noughts)])], [(dx_41, .own a_35)], B_30]) (Bs' := [[(a_42, .ins ad.c_Seat dx_43 [])], [(dx_43, .own a_42)], [(a_35, .ins ad.c_ReadTail dx_41 [("votes", .int readta_37.votes), ("over", .int readta_37.over), ("noughts", .int readta_37.noughts)])], [(dx_41, .own a_35)], B_30]) (Own.cv O (by first | with_reducible rfl | simp only [List.map_nil, List.flatten_cons, List.flatten_nil, List.cons_append, List.nil_append, List.append_nil, List.append_assoc])) [0, 1, 2, 3, 4] (by decide) rfl) (by first | with_reducible rfl | simp only [List.map_nil, List.flatten_cons, List.flatten_nil, List.cons_append, List.nil_append, List.append_nil, List.append_assoc])) (by first | with_reducible rfl | simp only [List.map_nil, List.flatten_cons, List.flatten_nil, List.cons_append, List.nil_append, List.append_nil, List.append_assoc])
      refine ⟨a_42, dx_43, (.ReadTail readta_37), a_35, ((a_35, .ins ad.c_ReadTail dx_41 [("votes", .int readta_37.votes), ("over", .int readta_37.over), ("noughts", .int readta_37.noughts)]) :: (dx_41, .own a_35) :: []), H0, seat_44, rfl, Oc.left, ⟨dx_41, rfl⟩, h45, ?_⟩
      refine Oc.retX (mdI (mo_Seat ad)) fun v_ H H0 L_47 O e_ d_ => ?_
      replace hn_a_4 := (mL (mT2 mI mI)) _ _ _ _ e_ hn_a_4
      replace h31 := (moLs (mo_Seat ad)) _ _ _ _ _ e_ h31
      replace eB := eB.trans e_
      replace eL31 := eL31.trans e_
      obtain ⟨rfl, h46⟩ := d_
      refine ⟨rfl, ?_⟩
      obtain ⟨dx_48, a_49, L_50, rfl, h51⟩ := h46
      replace O := Own.cv (L' := ((a_42, .ins ad.c_Seat dx_48 [("tail", .ref a_49), ("verdict", .str seat_44.verdict), ("flags", .int seat_44.flags)]) :: ((dx_48, .own a_42) :: (L_50 ++ (B_30 ++ []))))) O (by first | with_reducible rfl | simp only [List.map_nil, List.flatten_cons, List.flatten_nil, List.cons_append, List.nil_append, List.append_nil, List.append_assoc])
      obtain ⟨l_52, h53, hm⟩ := bndE hm
      refine x_nil ?_
      replace O := (Own.cv (L' := (B_30 ++ ((a_42, .ins ad.c_Seat dx_48 [("tail", .ref a_49), ("verdict", .str seat_44.verdict), ("flags", .int seat_44.flags)]) :: ((dx_48, .own a_42) :: (L_50 ++ []))))) (Own.selB (Bs := [[(a_42, .ins ad.c_Seat dx_48 [("tail", .ref a_49), ("verdict", .str seat_44.verdict), ("flags", .int seat_44.flags)])], [(dx_48, .own a_42)], L_50, B_30]) (Bs' := [B_30, [(a_42, .ins ad.c_Seat dx_48 [("tail", .ref a_49), ("verdict", .str seat_44.verdict), ("flags", .int seat_44.flags)])], [(dx_48, .own a_42)], L_50]) (Own.cv O (by first | with_reducible rfl | simp only [List.map_nil, List.flatten_cons, List.flatten_nil, List.cons_append, List.nil_append, List.append_nil, List.append_assoc])) [3, 0, 1, 2] (by decide) rfl) (by first | with_reducible rfl | simp only [List.map_nil, List.flatten_cons, List.flatten_nil, List.cons_append, List.nil_append, List.append_nil, List.append_assoc]))
      refine k_appO (Own.cv (L' := (B_30 ++ (((a_42, .ins ad.c_Seat dx_48 [("tail", .ref a_49), ("verdict", .str seat_44.verdict), ("flags", .int seat_44.flags)]) :: (dx_48, .own a_42) :: (L_50 ++ [])) ++ []))) O (by first | with_reducible rfl | simp only [List.map_nil, List.flatten_cons, List.flatten_nil, List.cons_append, List.nil_append, List.append_nil, List.append_assoc])) h31 ⟨dx_48, a_49, L_50, rfl, h51⟩ h53 fun H L_54 O h55 => ?_
      replace O := Own.cv (L' := (L_54 ++ [])) O (by first | with_reducible rfl | simp only [List.map_nil, List.flatten_cons, List.flatten_nil, List.cons_append, List.nil_append, List.append_nil, List.append_assoc])
      have Oz := O
      obtain rfl := Option.some.inj hm
      exact ⟨H0, _, L_54, rfl, eL31, (Own.cv (Own.cv (L' := (L_54 ++ [])) (Own.selB (Bs := [L_54]) (Bs' := [L_54]) (Own.cv Oz (by first | with_reducible rfl | simp only [List.map_nil, List.flatten_cons, List.flatten_nil, List.cons_append, List.nil_append, List.append_nil, List.append_assoc])) [0] (by decide) rfl) (by first | with_reducible rfl | simp only [List.map_nil, List.flatten_cons, List.flatten_nil, List.cons_append, List.nil_append, List.append_nil, List.append_assoc])) (by first | with_reducible rfl | simp only [List.map_nil, List.flatten_cons, List.flatten_nil, List.cons_append, List.nil_append, List.append_nil, List.append_assoc])), h55, hL⟩
    cases whileM_end hL h56
    replace hm := h57
    -- 87
    refine o_seq ?_
    refine o_for ?_
    obtain ⟨rg_58, h59, hm⟩ := bndE hm
    refine ⟨_, rfl, _, _, rfl, rfl, ?_⟩
    refine x_nil ?_
    obtain ⟨c1, c2, rfl⟩ := rng1E h59
    obtain ⟨seats_68, h69, hm⟩ := bndE hm
    refine ⟨_, rfl, c1, c2, q_forR (fun r σ H => ∃ (R_ : Hp) (seats_61 : List S_Seat) (B_62 : List Cell) (j_60 : Option V) (j_64 : Option V) (j_65 : Option V) (j_66 : Option V) (j_67 : Option V), σ = [j_60, some (.int votes_2), some (.ref a_4), some (.ref p_26), j_64, j_65, j_66, j_67] ∧ Ex H0 R_ ∧ Own R_ H (B_62 ++ []) ∧ (oLs (o_Seat ad)) (R_) p_26 B_62 seats_61 ∧ loopM (fun place_72 s => m_verdicts_L1 wrong_3 place_72 s) r seats_61 = some seats_68) ⟨H0, _, B_30, _, _, _, _, _, rfl, Ex.refl _, (Own.cv (Own.cv (L' := (B_30 ++ [])) (Own.selB (Bs := [B_30]) (Bs' := [B_30]) (Own.cv O (by first | with_reducible rfl | simp only [List.map_nil, List.flatten_cons, List.flatten_nil, List.cons_append, List.nil_append, List.append_nil, List.append_assoc])) [0] (by decide) rfl) (by first | with_reducible rfl | simp only [List.map_nil, List.flatten_cons, List.flatten_nil, List.cons_append, List.nil_append, List.append_nil, List.append_assoc])) (by first | with_reducible rfl | simp only [List.map_nil, List.flatten_cons, List.flatten_nil, List.cons_append, List.nil_append, List.append_nil, List.append_assoc])), h31, h69⟩ ?_ ?_⟩
    · rintro place_72 r σ H ⟨H0, seats_61, B_62, j_60, j_64, j_65, j_66, j_67, rfl, eL73, O, h63, hL⟩
      replace hn_a_4 := (mL (mT2 mI mI)) _ _ _ _ eL73 hn_a_4
      replace eB := eB.trans eL73
      obtain ⟨s_, hm, h71⟩ := loopM_cons hL
      replace hm : m_verdicts_L1 wrong_3 place_72 seats_61 = some s_ := hm
      unfold m_verdicts_L1 at hm
      -- 88
      refine o_seq ?_
      refine o_asg ?_
      refine ⟨_, rfl, ?_⟩
      obtain ⟨vs_76, h77⟩ := oLs.fix h63
      obtain ⟨l_79, h80, hm⟩ := bndE hm
      refine ⟨_, rfl, ⟨_, (SqL.of (oLv.at O h77 (fun c_ h_ => List.mem_append_left _ h_)))⟩, fun p_81 hD => k_lcA (ixs_of vs_76 (oLv.len h77)) (fun r H => ∃ (R_ : Hp) (acc : List Int), Ex H0 R_ ∧ Own R_ H ((p_81, .lst (List.map V.int acc)) :: (B_62 ++ [])) ∧ compM (m_verdicts_C2 seats_61) r acc = some l_79) ⟨H0, [], Ex.refl _, O.new hD, h80⟩ (by rintro r H ⟨H0, acc, eC81, O, hC⟩; exact (SqL.of (oLv.at O h77 (fun c_ h_ => List.Mem.tail _ (List.mem_append_left _ h_))))) ?_ ?_⟩
      · rintro seat_78 w_84 r H h85 ⟨H0, acc, eC81, O, hC⟩
        replace hn_a_4 := (mL (mT2 mI mI)) _ _ _ _ eC81 hn_a_4
        replace h77 := (moLv (mo_Seat ad)) _ _ _ _ _ eC81 h77
        replace eB := eB.trans eC81
        replace eL73 := eL73.trans eC81
        obtain ⟨y, hm, hz, hC⟩ := compM_cons hC
        refine ⟨rfl, ?_⟩
        refine o_yes ?_
        unfold m_verdicts_C2 at hm
        obtain ⟨a_86, rfl⟩ := oLv.isref h77 h85
        obtain ⟨o_87, h88, hm⟩ := bndE hm
        refine ⟨_, rfl, ?_⟩
        replace O := (Own.cv (L' := (B_62 ++ ((p_81, .lst (List.map V.int acc)) :: []))) (Own.selB (Bs := [[(p_81, .lst (List.map V.int acc))], B_62]) (Bs' := [B_62, [(p_81, .lst (List.map V.int acc))]]) (Own.cv O (by first | with_reducible rfl | simp only [List.map_nil, List.flatten_cons, List.flatten_nil, List.cons_append, List.nil_append, List.append_nil, List.append_assoc])) [1, 0] (by decide) rfl) (by first | with_reducible rfl | simp only [List.map_nil, List.flatten_cons, List.flatten_nil, List.cons_append, List.nil_append, List.append_nil, List.append_assoc]))
        obtain ⟨L_89, L_90, h91, h94, O, h92, h93⟩ := Own.lsAtV (A := []) (mo_Seat ad) O h77 h88 h85
        replace O := Own.cv (L' := (L_89 ++ (L_90 ++ ((p_81, .lst (List.map V.int acc)) :: [])))) O (by first | with_reducible rfl | simp only [List.map_nil, List.flatten_cons, List.flatten_nil, List.cons_append, List.nil_append, List.append_nil, List.append_assoc])
        replace O := (Own.cv (L' := ((p_81, .lst (List.map V.int acc)) :: (L_89 ++ (L_90 ++ [])))) (Own.selB (Bs := [L_89, L_90, [(p_81, .lst (List.map V.int acc))]]) (Bs' := [[(p_81, .lst (List.map V.int acc))], L_89, L_90]) (Own.cv O (by first | with_reducible rfl | simp only [List.map_nil, List.flatten_cons, List.flatten_nil, List.cons_append, List.nil_append, List.append_nil, List.append_assoc])) [2, 0, 1] (by decide) rfl) (by first | with_reducible rfl | simp only [List.map_nil, List.flatten_cons, List.flatten_nil, List.cons_append, List.nil_append, List.append_nil, List.append_assoc]))
        obtain ⟨dx_95, a_96, L_97, rfl, h98⟩ := h91
        replace O := Own.cv (L' := ((p_81, .lst (List.map V.int acc)) :: ((a_86, .ins ad.c_Seat dx_95 [("tail", .ref a_96), ("verdict", .str o_87.verdict), ("flags", .int o_87.flags)]) :: ((dx_95, .own a_86) :: (L_97 ++ (L_90 ++ [])))))) O (by first | with_reducible rfl | simp only [List.map_nil, List.flatten_cons, List.flatten_nil, List.cons_append, List.nil_append, List.append_nil, List.append_assoc])
        refine ⟨a_86, dx_95, [("tail", .ref a_96), ("verdict", .str o_87.verdict), ("flags", .int o_87.flags)], rfl, (O.mem (List.Mem.tail _ (List.Mem.head _))), (lk_skip (by decide) (lk_skip (by decide) (lk_skip (by decide) lk_nil))), ?_⟩
        refine x_nil ?_
        obtain ⟨seat_s_99, h100, hm⟩ := bndE hm
        have Oc : Own H0 H ((((a_86, .ins ad.c_Seat dx_95 [("tail", .ref a_96), ("verdict", .str o_87.verdict), ("flags", .int o_87.flags)]) :: (dx_95, .own a_86) :: (L_97 ++ [])) ++ []) ++ ((p_81, .lst (List.map V.int acc)) :: (L_90 ++ []))) := Own.cv (Own.cv (L' := ((a_86, .ins ad.c_Seat dx_95 [("tail", .ref a_96), ("verdict", .str o_87.verdict), ("flags", .int o_87.flags)]) :: ((dx_95, .own a_86) :: (L_97 ++ ((p_81, .lst (List.map V.int acc)) :: (L_90 ++ [])))))) (Own.selB (Bs := [[(p_81, .lst (List.map V.int acc))], [(a_86, .ins ad.c_Seat dx_95 [("tail", .ref a_96), ("verdict", .str o_87.verdict), ("flags", .int o_87.flags)])], [(dx_95, .own a_86)], L_97, L_90]) (Bs' := [[(a_86, .ins ad.c_Seat dx_95 [("tail", .ref a_96), ("verdict", .str o_87.verdict), ("flags", .int o_87.flags)])], [(dx_95, .own a_86)], L_97, [(p_81, .lst (List.map V.int acc))], L_90]) (Own.cv O (by first | with_reducible rfl | simp only [List.map_nil, List.flatten_cons, List.flatten_nil, List.cons_append, List.nil_append, List.append_nil, List.append_assoc])) [1, 2, 3, 0, 4] (by decide) rfl) (by first | with_reducible rfl | simp only [List.map_nil, List.flatten_cons, List.flatten_nil, List.cons_append, List.nil_append, List.append_nil, List.append_assoc])) (by first | with_reducible rfl | simp only [List.map_nil, List.flatten_cons, List.flatten_nil, List.cons_append, List.nil_append, List.append_nil, List.append_assoc])
        refine ⟨o_87, a_86, ((a_86, .ins ad.c_Seat dx_95 [("tail", .ref a_96), ("verdict", .str o_87.verdict), ("flags", .int o_87.flags)]) :: (dx_95, .own a_86) :: (L_97 ++ [])), H0, seat_s_99, rfl, Oc.left, ⟨dx_95, a_96, L_97, rfl, h98⟩, h100, ?_⟩
        refine Oc.retX (mdK mdV) fun w_101 H H0 L_102 O e_ d_ => ?_
        replace hn_a_4 := (mL (mT2 mI mI)) _ _ _ _ e_ hn_a_4
        replace h77 := (moLv (mo_Seat ad)) _ _ _ _ _ e_ h77
        replace h92 := fun F_ L_ x_ q_ => h92 F_ L_ x_ (e_.trans q_)
        replace h93 := fun F_ L_ q_ => h93 F_ L_ (e_.trans q_)
        replace h98 := (mo_ReadTail_SpeakTail ad) _ _ _ _ _ e_ h98
        replace eB := eB.trans e_
        replace eL73 := eL73.trans e_
        replace eC81 := eC81.trans e_
        obtain ⟨L_103, rfl, ⟨rfl, rfl⟩⟩ := d_
        replace O := Own.cv (L' := ((a_86, .ins ad.c_Seat dx_95 [("tail", .ref a_96), ("verdict", .str o_87.verdict), ("flags", .int o_87.flags)]) :: ((dx_95, .own a_86) :: (L_97 ++ ((p_81, .lst (List.map V.int acc)) :: (L_90 ++ [])))))) O (by first | with_reducible rfl | simp only [List.map_nil, List.flatten_cons, List.flatten_nil, List.cons_append, List.nil_append, List.append_nil, List.append_assoc])
        replace O := (Own.cv (L' := ((a_86, .ins ad.c_Seat dx_95 [("tail", .ref a_96), ("verdict", .str o_87.verdict), ("flags", .int o_87.flags)]) :: ((dx_95, .own a_86) :: ((p_81, .lst (List.map V.int acc)) :: (L_97 ++ (L_90 ++ [])))))) (Own.selB (Bs := [[(a_86, .ins ad.c_Seat dx_95 [("tail", .ref a_96), ("verdict", .str o_87.verdict), ("flags", .int o_87.flags)])], [(dx_95, .own a_86)], L_97, [(p_81, .lst (List.map V.int acc))], L_90]) (Bs' := [[(a_86, .ins ad.c_Seat dx_95 [("tail", .ref a_96), ("verdict", .str o_87.verdict), ("flags", .int o_87.flags)])], [(dx_95, .own a_86)], [(p_81, .lst (List.map V.int acc))], L_97, L_90]) (Own.cv O (by first | with_reducible rfl | simp only [List.map_nil, List.flatten_cons, List.flatten_nil, List.cons_append, List.nil_append, List.append_nil, List.append_assoc])) [0, 1, 3, 2, 4] (by decide) rfl) (by first | with_reducible rfl | simp only [List.map_nil, List.flatten_cons, List.flatten_nil, List.cons_append, List.nil_append, List.append_nil, List.append_assoc]))
        replace O := (Own.cv (L' := ((a_86, .ins ad.c_Seat dx_95 [("tail", .ref a_96), ("verdict", .str o_87.verdict), ("flags", .int o_87.flags)]) :: ((dx_95, .own a_86) :: (L_97 ++ (L_90 ++ ((p_81, .lst (List.map V.int acc)) :: [])))))) (Own.selB (Bs := [[(a_86, .ins ad.c_Seat dx_95 [("tail", .ref a_96), ("verdict", .str o_87.verdict), ("flags", .int o_87.flags)])], [(dx_95, .own a_86)], [(p_81, .lst (List.map V.int acc))], L_97, L_90]) (Bs' := [[(a_86, .ins ad.c_Seat dx_95 [("tail", .ref a_96), ("verdict", .str o_87.verdict), ("flags", .int o_87.flags)])], [(dx_95, .own a_86)], L_97, L_90, [(p_81, .lst (List.map V.int acc))]]) (Own.cv O (by first | with_reducible rfl | simp only [List.map_nil, List.flatten_cons, List.flatten_nil, List.cons_append, List.nil_append, List.append_nil, List.append_assoc])) [0, 1, 3, 4, 2] (by decide) rfl) (by first | with_reducible rfl | simp only [List.map_nil, List.flatten_cons, List.flatten_nil, List.cons_append, List.nil_append, List.append_nil, List.append_assoc]))
        replace O : Own H0 H (B_62 ++ [(p_81, .lst (List.map V.int acc))]) := Own.unls (A := []) (Own.cv (L' := [] ++ (((a_86, .ins ad.c_Seat dx_95 [("tail", .ref a_96), ("verdict", .str o_87.verdict), ("flags", .int o_87.flags)]) :: (dx_95, .own a_86) :: (L_97 ++ [])) ++ (L_90 ++ [(p_81, .lst (List.map V.int acc))]))) O (by first | with_reducible rfl | simp only [List.map_nil, List.flatten_cons, List.flatten_nil, List.cons_append, List.nil_append, List.append_nil, List.append_assoc])) h94
        replace O := Own.cv (L' := (B_62 ++ ((p_81, .lst (List.map V.int acc)) :: []))) O (by first | with_reducible rfl | simp only [List.map_nil, List.flatten_cons, List.flatten_nil, List.cons_append, List.nil_append, List.append_nil, List.append_assoc])
        replace O := (Own.cv (L' := ((p_81, .lst (List.map V.int acc)) :: (B_62 ++ []))) (Own.selB (Bs := [B_62, [(p_81, .lst (List.map V.int acc))]]) (Bs' := [[(p_81, .lst (List.map V.int acc))], B_62]) (Own.cv O (by first | with_reducible rfl | simp only [List.map_nil, List.flatten_cons, List.flatten_nil, List.cons_append, List.nil_append, List.append_nil, List.append_assoc])) [1, 0] (by decide) rfl) (by first | with_reducible rfl | simp only [List.map_nil, List.flatten_cons, List.flatten_nil, List.cons_append, List.nil_append, List.append_nil, List.append_assoc]))
        replace O := Own.cv (L' := ((p_81, .lst (List.map V.int acc)) :: (B_62 ++ []))) O (by first | with_reducible rfl | simp only [List.map_nil, List.flatten_cons, List.flatten_nil, List.cons_append, List.nil_append, List.append_nil, List.append_assoc])
        obtain rfl := Option.some.inj hm
        refine ⟨_, O.mem (List.Mem.head _), (by rw [List.length_map]; exact hz), H0, _, eC81, ?_, hC⟩
        rw [map_snoc]
        exact O.put0
      rintro H ⟨H0, acc, eC81, O, hC⟩
      replace hn_a_4 := (mL (mT2 mI mI)) _ _ _ _ eC81 hn_a_4
      replace h77 := (moLv (mo_Seat ad)) _ _ _ _ _ eC81 h77
      replace eB := eB.trans eC81
      replace eL73 := eL73.trans eC81
      obtain rfl := compM_nil hC
      obtain ⟨m_104, h105, hm⟩ := bndE hm
      refine x_nil ?_
      refine k_min (SqL.of (O.mem (List.Mem.head _))) h105 ?_
      -- 89
      refine o_for ?_
      refine ⟨_, rfl, ?_⟩
      refine x_nil ?_
      obtain ⟨seats_112, h113, hm⟩ := bndE hm
      refine ⟨_, _, rfl, (SqL.of (oLv.at O h77 (fun c_ h_ => List.Mem.tail _ (List.mem_append_left _ h_)))), q_forEA (b := fun _ _ => False) (k := fun _ _ => False) (KK := K) (ixs_of vs_76 (oLv.len h77)) (fun r σ H => ∃ (R_ : Hp) (seats_107 : List S_Seat) (B_108 : List Cell) (j_106 : Option V) (j_110 : Option V) (j_111 : Option V), σ = [j_106, some (.int votes_2), some (.ref a_4), some (.ref p_26), some (.int place_72), some (.int m_104), j_110, j_111] ∧ Ex H0 R_ ∧ Own R_ H (B_108 ++ []) ∧ (oLv vs_76 (o_Seat ad)) (R_) p_26 B_108 seats_107 ∧ loopM (fun q_ s => m_verdicts_L3 wrong_3 place_72 m_104 q_.1 q_.2 s) r seats_107 = some seats_112) ⟨H0, _, B_62, _, _, _, rfl, Ex.refl _, (Own.cv (Own.cv (L' := (B_62 ++ [])) (Own.selB (Bs := [[(p_81, .lst (List.map V.int l_79))], B_62]) (Bs' := [B_62]) (Own.cv O (by first | with_reducible rfl | simp only [List.map_nil, List.flatten_cons, List.flatten_nil, List.cons_append, List.nil_append, List.append_nil, List.append_assoc])) [1] (by decide) rfl) (by first | with_reducible rfl | simp only [List.map_nil, List.flatten_cons, List.flatten_nil, List.cons_append, List.nil_append, List.append_nil, List.append_assoc])) (by first | with_reducible rfl | simp only [List.map_nil, List.flatten_cons, List.flatten_nil, List.cons_append, List.nil_append, List.append_nil, List.append_assoc])), h77, h113⟩ (by rintro r σ H ⟨H0, seats_107, B_108, j_106, j_110, j_111, rfl, eJ_, O, h109, hL⟩; exact (SqL.of (oLv.at O h109 (fun c_ h_ => List.mem_append_left _ h_)))) (by rintro r σ H H2 ⟨R_, seats_107, B_108, j_106, j_110, j_111, rfl, eJ_, O, h109, hL⟩ hE; exact ⟨R_, seats_107, B_108, j_106, j_110, j_111, rfl, eJ_, O.ext hE, h109, hL⟩) ?_ ?_⟩
      · rintro post_116 seat_117 w_119 r σ H h120 ⟨H0, seats_107, B_108, j_106, j_110, j_111, rfl, eL118, O, h109, hL⟩
        replace hn_a_4 := (mL (mT2 mI mI)) _ _ _ _ eL118 hn_a_4
        replace eB := eB.trans eL118
        replace eL73 := eL73.trans eL118
        obtain ⟨s_, hm, h115⟩ := loopM_cons hL
        replace hm : m_verdicts_L3 wrong_3 place_72 m_104 post_116 seat_117 seats_107 = some s_ := hm
        unfold m_verdicts_L3 at hm
        obtain ⟨a_121, rfl⟩ := oLv.isref h109 h120
        -- 90
        refine o_drop ?_
        obtain ⟨o_122, h123, hm⟩ := bndE hm
        refine ⟨_, rfl, ?_⟩
        obtain ⟨L_124, L_125, h126, h129, O, h127, h128⟩ := Own.lsAtV (A := []) (mo_Seat ad) O h109 h123 h120
        replace O := Own.cv (L' := (L_124 ++ (L_125 ++ []))) O (by first | with_reducible rfl | simp only [List.map_nil, List.flatten_cons, List.flatten_nil, List.cons_append, List.nil_append, List.append_nil, List.append_assoc])
        obtain ⟨dx_130, a_131, L_132, rfl, h133⟩ := h126
        replace O := Own.cv (L' := ((a_121, .ins ad.c_Seat dx_130 [("tail", .ref a_131), ("verdict", .str o_122.verdict), ("flags", .int o_122.flags)]) :: ((dx_130, .own a_121) :: (L_132 ++ (L_125 ++ []))))) O (by first | with_reducible rfl | simp only [List.map_nil, List.flatten_cons, List.flatten_nil, List.cons_append, List.nil_append, List.append_nil, List.append_assoc])
        refine ⟨a_121, dx_130, [("tail", .ref a_131), ("verdict", .str o_122.verdict), ("flags", .int o_122.flags)], rfl, (O.mem (List.Mem.head _)), (lk_skip (by decide) (lk_skip (by decide) (lk_skip (by decide) lk_nil))), ?_⟩
        refine o_cons ?_
        obtain ⟨z_135, h136, hm⟩ := bndE hm
        refine x_ifP (c := (inL (post_116, place_72) wrong_3)) (fun H => ∃ (R_ : Hp), Ex H0 R_ ∧ Own R_ H ((a_121, .ins ad.c_Seat dx_130 [("tail", .ref a_131), ("verdict", .str o_122.verdict), ("flags", .int o_122.flags)]) :: ((dx_130, .own a_121) :: (L_132 ++ (L_125 ++ []))))) (fun v_ H => ∃ (R_ : Hp), Ex H0 R_ ∧ Own R_ H ((a_121, .ins ad.c_Seat dx_130 [("tail", .ref a_131), ("verdict", .str o_122.verdict), ("flags", .int o_122.flags)]) :: ((dx_130, .own a_121) :: (L_132 ++ (L_125 ++ [])))) ∧ rI (R_) v_ z_135) (fun Q1 k1 => ?_) (fun h137 H hJ Q2 k2 => ?_) (fun h137 H hJ Q2 k2 => ?_) (fun w_142 H hJ => ?_)
        · have eJ134 : Ex H0 H0 := Ex.refl _
          refine ⟨_, rfl, _, rfl, ?_⟩
          refine x_nil ?_
          refine n_tup O (by show 2 ≤ sizeLine; decide) fun p_138 H O => ?_
          refine ⟨_, rfl, ?_⟩
          obtain ⟨vs_139, h140, h141⟩ := rL_at hn_a_4
          refine k_inJ (x := (post_116, place_72)) (deT2 deI deI) (mT2 mI mI) (by decide) ⟨_, _, _, rfl, (O.mem (List.Mem.head _)), rfl, rfl⟩ (Ex.refl _) (SqL.of (O.ex _ _ h140)) h141 O.ex ?_
          refine ⟨_, rfl, ?_⟩
          replace O := (Own.cv (L' := ((a_121, .ins ad.c_Seat dx_130 [("tail", .ref a_131), ("verdict", .str o_122.verdict), ("flags", .int o_122.flags)]) :: ((dx_130, .own a_121) :: (L_132 ++ (L_125 ++ []))))) (Own.selB (Bs := [[(p_138, .tup [V.int post_116, V.int place_72])], [(a_121, .ins ad.c_Seat dx_130 [("tail", .ref a_131), ("verdict", .str o_122.verdict), ("flags", .int o_122.flags)])], [(dx_130, .own a_121)], L_132, L_125]) (Bs' := [[(a_121, .ins ad.c_Seat dx_130 [("tail", .ref a_131), ("verdict", .str o_122.verdict), ("flags", .int o_122.flags)])], [(dx_130, .own a_121)], L_132, L_125]) (Own.cv O (by first | with_reducible rfl | simp only [List.map_nil, List.flatten_cons, List.flatten_nil, List.cons_append, List.nil_append, List.append_nil, List.append_assoc])) [1, 2, 3, 4] (by decide) rfl) (by first | with_reducible rfl | simp only [List.map_nil, List.flatten_cons, List.flatten_nil, List.cons_append, List.nil_append, List.append_nil, List.append_assoc]))
          exact k1 _ ⟨H0, eJ134, (Own.cv (L' := ((a_121, .ins ad.c_Seat dx_130 [("tail", .ref a_131), ("verdict", .str o_122.verdict), ("flags", .int o_122.flags)]) :: ((dx_130, .own a_121) :: (L_132 ++ (L_125 ++ []))))) (Own.selB (Bs := [[(a_121, .ins ad.c_Seat dx_130 [("tail", .ref a_131), ("verdict", .str o_122.verdict), ("flags", .int o_122.flags)])], [(dx_130, .own a_121)], L_132, L_125]) (Bs' := [[(a_121, .ins ad.c_Seat dx_130 [("tail", .ref a_131), ("verdict", .str o_122.verdict), ("flags", .int o_122.flags)])], [(dx_130, .own a_121)], L_132, L_125]) (Own.cv O (by first | with_reducible rfl | simp only [List.map_nil, List.flatten_cons, List.flatten_nil, List.cons_append, List.nil_append, List.append_nil, List.append_assoc])) [0, 1, 2, 3] (by decide) rfl) (by first | with_reducible rfl | simp only [List.map_nil, List.flatten_cons, List.flatten_nil, List.cons_append, List.nil_append, List.append_nil, List.append_assoc]))⟩
        · replace hm := ifT h136 h137
          obtain rfl := Option.some.inj hm
          obtain ⟨H0, eJ134, O⟩ := hJ
          replace hn_a_4 := (mL (mT2 mI mI)) _ _ _ _ eJ134 hn_a_4
          replace h109 := (moLv (mo_Seat ad)) _ _ _ _ _ eJ134 h109
          replace h127 := fun F_ L_ x_ q_ => h127 F_ L_ x_ (eJ134.trans q_)
          replace h128 := fun F_ L_ q_ => h128 F_ L_ (eJ134.trans q_)
          replace h133 := (mo_ReadTail_SpeakTail ad) _ _ _ _ _ eJ134 h133
          replace eB := eB.trans eJ134
          replace eL73 := eL73.trans eJ134
          replace eL118 := eL118.trans eJ134
          refine ⟨_, rfl, _, _, rfl, rfl, ?_⟩
          exact k2 _ _ ⟨H0, eJ134, (Own.cv (L' := ((a_121, .ins ad.c_Seat dx_130 [("tail", .ref a_131), ("verdict", .str o_122.verdict), ("flags", .int o_122.flags)]) :: ((dx_130, .own a_121) :: (L_132 ++ (L_125 ++ []))))) (Own.selB (Bs := [[(a_121, .ins ad.c_Seat dx_130 [("tail", .ref a_131), ("verdict", .str o_122.verdict), ("flags", .int o_122.flags)])], [(dx_130, .own a_121)], L_132, L_125]) (Bs' := [[(a_121, .ins ad.c_Seat dx_130 [("tail", .ref a_131), ("verdict", .str o_122.verdict), ("flags", .int o_122.flags)])], [(dx_130, .own a_121)], L_132, L_125]) (Own.cv O (by first | with_reducible rfl | simp only [List.map_nil, List.flatten_cons, List.flatten_nil, List.cons_append, List.nil_append, List.append_nil, List.append_assoc])) [0, 1, 2, 3] (by decide) rfl) (by first | with_reducible rfl | simp only [List.map_nil, List.flatten_cons, List.flatten_nil, List.cons_append, List.nil_append, List.append_nil, List.append_assoc])), rfl⟩
        · replace hm := ifF h136 h137
          obtain rfl := Option.some.inj hm
          obtain ⟨H0, eJ134, O⟩ := hJ
          replace hn_a_4 := (mL (mT2 mI mI)) _ _ _ _ eJ134 hn_a_4
          replace h109 := (moLv (mo_Seat ad)) _ _ _ _ _ eJ134 h109
          replace h127 := fun F_ L_ x_ q_ => h127 F_ L_ x_ (eJ134.trans q_)
          replace h128 := fun F_ L_ q_ => h128 F_ L_ (eJ134.trans q_)
          replace h133 := (mo_ReadTail_SpeakTail ad) _ _ _ _ _ eJ134 h133
          replace eB := eB.trans eJ134
          replace eL73 := eL73.trans eJ134
          replace eL118 := eL118.trans eJ134
          refine ⟨_, rfl, ?_⟩
          exact k2 _ _ ⟨H0, eJ134, (Own.cv (L' := ((a_121, .ins ad.c_Seat dx_130 [("tail", .ref a_131), ("verdict", .str o_122.verdict), ("flags", .int o_122.flags)]) :: ((dx_130, .own a_121) :: (L_132 ++ (L_125 ++ []))))) (Own.selB (Bs := [[(a_121, .ins ad.c_Seat dx_130 [("tail", .ref a_131), ("verdict", .str o_122.verdict), ("flags", .int o_122.flags)])], [(dx_130, .own a_121)], L_132, L_125]) (Bs' := [[(a_121, .ins ad.c_Seat dx_130 [("tail", .ref a_131), ("verdict", .str o_122.verdict), ("flags", .int o_122.flags)])], [(dx_130, .own a_121)], L_132, L_125]) (Own.cv O (by first | with_reducible rfl | simp only [List.map_nil, List.flatten_cons, List.flatten_nil, List.cons_append, List.nil_append, List.append_nil, List.append_assoc])) [0, 1, 2, 3] (by decide) rfl) (by first | with_reducible rfl | simp only [List.map_nil, List.flatten_cons, List.flatten_nil, List.cons_append, List.nil_append, List.append_nil, List.append_assoc])), rfl⟩
        obtain ⟨H0, eJ134, O, h143⟩ := hJ
        replace hn_a_4 := (mL (mT2 mI mI)) _ _ _ _ eJ134 hn_a_4
        replace h109 := (moLv (mo_Seat ad)) _ _ _ _ _ eJ134 h109
        replace h127 := fun F_ L_ x_ q_ => h127 F_ L_ x_ (eJ134.trans q_)
        replace h128 := fun F_ L_ q_ => h128 F_ L_ (eJ134.trans q_)
        replace h133 := (mo_ReadTail_SpeakTail ad) _ _ _ _ _ eJ134 h133
        replace eB := eB.trans eJ134
        replace eL73 := eL73.trans eJ134
        replace eL118 := eL118.trans eJ134
        obtain rfl := h143
        refine x_nil ?_
        obtain ⟨self_144, h145, hm⟩ := bndE hm
        have Oc : Own H0 H ((((a_121, .ins ad.c_Seat dx_130 [("tail", .ref a_131), ("verdict", .str o_122.verdict), ("flags", .int o_122.flags)]) :: (dx_130, .own a_121) :: (L_132 ++ [])) ++ []) ++ (L_125 ++ [])) := Own.cv (Own.cv (L' := ((a_121, .ins ad.c_Seat dx_130 [("tail", .ref a_131), ("verdict", .str o_122.verdict), ("flags", .int o_122.flags)]) :: ((dx_130, .own a_121) :: (L_132 ++ (L_125 ++ []))))) (Own.selB (Bs := [[(a_121, .ins ad.c_Seat dx_130 [("tail", .ref a_131), ("verdict", .str o_122.verdict), ("flags", .int o_122.flags)])], [(dx_130, .own a_121)], L_132, L_125]) (Bs' := [[(a_121, .ins ad.c_Seat dx_130 [("tail", .ref a_131), ("verdict", .str o_122.verdict), ("flags", .int o_122.flags)])], [(dx_130, .own a_121)], L_132, L_125]) (Own.cv O (by first | with_reducible rfl | simp only [List.map_nil, List.flatten_cons, List.flatten_nil, List.cons_append, List.nil_append, List.append_nil, List.append_assoc])) [0, 1, 2, 3] (by decide) rfl) (by first | with_reducible rfl | simp only [List.map_nil, List.flatten_cons, List.flatten_nil, List.cons_append, List.nil_append, List.append_nil, List.append_assoc])) (by first | with_reducible rfl | simp only [List.map_nil, List.flatten_cons, List.flatten_nil, List.cons_append, List.nil_append, List.append_nil, List.append_assoc])
        refine ⟨o_122, a_121, ((a_121, .ins ad.c_Seat dx_130 [("tail", .ref a_131), ("verdict", .str o_122.verdict), ("flags", .int o_122.flags)]) :: (dx_130, .own a_121) :: (L_132 ++ [])), z_135, H0, self_144, rfl, Oc.left, ⟨dx_130, a_131, L_132, rfl, h133⟩, h145, ?_⟩
        refine Oc.retX (mdX (mo_Seat ad) mdV) fun w_146 H H0 L_147 O e_ d_ => ?_
        replace hn_a_4 := (mL (mT2 mI mI)) _ _ _ _ e_ hn_a_4
        replace h109 := (moLv (mo_Seat ad)) _ _ _ _ _ e_ h109
        replace h127 := fun F_ L_ x_ q_ => h127 F_ L_ x_ (e_.trans q_)
        replace h128 := fun F_ L_ q_ => h128 F_ L_ (e_.trans q_)
        replace h133 := (mo_ReadTail_SpeakTail ad) _ _ _ _ _ e_ h133
        replace eB := eB.trans e_
        replace eL73 := eL73.trans e_
        replace eL118 := eL118.trans e_
        obtain ⟨L_148, L_150, rfl, h149, ⟨rfl, rfl⟩⟩ := d_
        replace O := Own.cv (L' := (L_148 ++ (L_125 ++ []))) O (by first | with_reducible rfl | simp only [List.map_nil, List.flatten_cons, List.flatten_nil, List.cons_append, List.nil_append, List.append_nil, List.append_assoc])
        obtain ⟨ys_152, h153, hm⟩ := bndE hm
        have h151 := h127 _ _ _ (Ex.refl _) h149 _ h153
        obtain ⟨L_154, hLb_⟩ : ∃ L_ : List Cell, L_ = (L_148 ++ L_125) := ⟨_, rfl⟩
        rw [← hLb_] at h151
        replace O : Own H0 H (L_154 ++ []) := by rw [hLb_]; exact Own.cv O (by first | with_reducible rfl | simp only [List.map_nil, List.flatten_cons, List.flatten_nil, List.cons_append, List.nil_append, List.append_nil, List.append_assoc])
        clear hLb_
        replace O := Own.cv (L' := (L_154 ++ [])) O (by first | with_reducible rfl | simp only [List.map_nil, List.flatten_cons, List.flatten_nil, List.cons_append, List.nil_append, List.append_nil, List.append_assoc])
        have Oz := O
        obtain rfl := Option.some.inj hm
        exact ⟨H0, _, L_154, _, _, _, rfl, eL118, (Own.cv (Own.cv (L' := (L_154 ++ [])) (Own.selB (Bs := [L_154]) (Bs' := [L_154]) (Own.cv Oz (by first | with_reducible rfl | simp only [List.map_nil, List.flatten_cons, List.flatten_nil, List.cons_append, List.nil_append, List.append_nil, List.append_assoc])) [0] (by decide) rfl) (by first | with_reducible rfl | simp only [List.map_nil, List.flatten_cons, List.flatten_nil, List.cons_append, List.nil_append, List.append_nil, List.append_assoc])) (by first | with_reducible rfl | simp only [List.map_nil, List.flatten_cons, List.flatten_nil, List.cons_append, List.nil_append, List.append_nil, List.append_assoc])), h151, h115⟩
      rintro σ H ⟨H0, seats_107, B_108, j_106, j_110, j_111, rfl, eJ_, O, h109, hL⟩
      replace hn_a_4 := (mL (mT2 mI mI)) _ _ _ _ eJ_ hn_a_4
      replace eB := eB.trans eJ_
      replace eL73 := eL73.trans eJ_
      cases loopM_nil hL
      have Oz := O
      obtain rfl := Option.some.inj hm
      exact ⟨H0, _, B_108, _, _, _, _, _, rfl, eL73, (Own.cv (Own.cv (L' := (B_108 ++ [])) (Own.selB (Bs := [B_108]) (Bs' := [B_108]) (Own.cv Oz (by first | with_reducible rfl | simp only [List.map_nil, List.flatten_cons, List.flatten_nil, List.cons_append, List.nil_append, List.append_nil, List.append_assoc])) [0] (by decide) rfl) (by first | with_reducible rfl | simp only [List.map_nil, List.flatten_cons, List.flatten_nil, List.cons_append, List.nil_append, List.append_nil, List.append_assoc])) (by first | with_reducible rfl | simp only [List.map_nil, List.flatten_cons, List.flatten_nil, List.cons_append, List.nil_append, List.append_nil, List.append_assoc])), (oLv.un h109), h71⟩
    rintro σ H ⟨H0, seats_61, B_62, j_60, j_64, j_65, j_66, j_67, rfl, eJ_, O, h63, hL⟩
    replace hn_a_4 := (mL (mT2 mI mI)) _ _ _ _ eJ_ hn_a_4
    replace eB := eB.trans eJ_
    cases loopM_nil hL
    -- 91
    refine o_ret ?_
    refine ⟨_, rfl, ?_⟩
    obtain ⟨vs_155, h156⟩ := oLs.fix h63
    obtain ⟨l_158, h159, hm⟩ := bndE hm
    refine ⟨_, rfl, ⟨_, (SqL.of (oLv.at O h156 (fun c_ h_ => List.mem_append_left _ h_)))⟩, fun p_160 hD => k_lcA (ixs_of vs_155 (oLv.len h156)) (fun r H => ∃ (R_ : Hp) (acc : List Str), Ex H0 R_ ∧ Own R_ H ((p_160, .lst (List.map V.str acc)) :: (B_62 ++ [])) ∧ compM (m_verdicts_C4 seats_68) r acc = some l_158) ⟨H0, [], Ex.refl _, O.new hD, h159⟩ (by rintro r H ⟨H0, acc, eC160, O, hC⟩; exact (SqL.of (oLv.at O h156 (fun c_ h_ => List.Mem.tail _ (List.mem_append_left _ h_))))) ?_ ?_⟩
    · rintro seat_157 w_163 r H h164 ⟨H0, acc, eC160, O, hC⟩
      replace hn_a_4 := (mL (mT2 mI mI)) _ _ _ _ eC160 hn_a_4
      replace h156 := (moLv (mo_Seat ad)) _ _ _ _ _ eC160 h156
      replace eB := eB.trans eC160
      obtain ⟨y, hm, hz, hC⟩ := compM_cons hC
      refine ⟨rfl, ?_⟩
      refine o_yes ?_
      unfold m_verdicts_C4 at hm
      obtain ⟨a_165, rfl⟩ := oLv.isref h156 h164
      obtain ⟨o_166, h167, hm⟩ := bndE hm
      refine ⟨_, rfl, ?_⟩
      replace O := (Own.cv (L' := (B_62 ++ ((p_160, .lst (List.map V.str acc)) :: []))) (Own.selB (Bs := [[(p_160, .lst (List.map V.str acc))], B_62]) (Bs' := [B_62, [(p_160, .lst (List.map V.str acc))]]) (Own.cv O (by first | with_reducible rfl | simp only [List.map_nil, List.flatten_cons, List.flatten_nil, List.cons_append, List.nil_append, List.append_nil, List.append_assoc])) [1, 0] (by decide) rfl) (by first | with_reducible rfl | simp only [List.map_nil, List.flatten_cons, List.flatten_nil, List.cons_append, List.nil_append, List.append_nil, List.append_assoc]))
      obtain ⟨L_168, L_169, h170, h173, O, h171, h172⟩ := Own.lsAtV (A := []) (mo_Seat ad) O h156 h167 h164
      replace O := Own.cv (L' := (L_168 ++ (L_169 ++ ((p_160, .lst (List.map V.str acc)) :: [])))) O (by first | with_reducible rfl | simp only [List.map_nil, List.flatten_cons, List.flatten_nil, List.cons_append, List.nil_append, List.append_nil, List.append_assoc])
      replace O := (Own.cv (L' := ((p_160, .lst (List.map V.str acc)) :: (L_168 ++ (L_169 ++ [])))) (Own.selB (Bs := [L_168, L_169, [(p_160, .lst (List.map V.str acc))]]) (Bs' := [[(p_160, .lst (List.map V.str acc))], L_168, L_169]) (Own.cv O (by first | with_reducible rfl | simp only [List.map_nil, List.flatten_cons, List.flatten_nil, List.cons_append, List.nil_append, List.append_nil, List.append_assoc])) [2, 0, 1] (by decide) rfl) (by first | with_reducible rfl | simp only [List.map_nil, List.flatten_cons, List.flatten_nil, List.cons_append, List.nil_append, List.append_nil, List.append_assoc]))
      obtain ⟨dx_174, a_175, L_176, rfl, h177⟩ := h170
      replace O := Own.cv (L' := ((p_160, .lst (List.map V.str acc)) :: ((a_165, .ins ad.c_Seat dx_174 [("tail", .ref a_175), ("verdict", .str o_166.verdict), ("flags", .int o_166.flags)]) :: ((dx_174, .own a_165) :: (L_176 ++ (L_169 ++ [])))))) O (by first | with_reducible rfl | simp only [List.map_nil, List.flatten_cons, List.flatten_nil, List.cons_append, List.nil_append, List.append_nil, List.append_assoc])
      refine ⟨a_165, ad.c_Seat, dx_174, [("tail", .ref a_175), ("verdict", .str o_166.verdict), ("flags", .int o_166.flags)], (.str o_166.verdict), rfl, (O.mem (List.Mem.tail _ (List.Mem.head _))), T.C_Seat, T.N_Seat_verdict, (lk_skip (by decide) lk_hit), ?_⟩
      replace O := Own.cv (L' := ((p_160, .lst (List.map V.str acc)) :: ((a_165, .ins ad.c_Seat dx_174 [("tail", .ref a_175), ("verdict", .str o_166.verdict), ("flags", .int o_166.flags)]) :: ((dx_174, .own a_165) :: (L_176 ++ (L_169 ++ [])))))) O (by first | with_reducible rfl | simp only [List.map_nil, List.flatten_cons, List.flatten_nil, List.cons_append, List.nil_append, List.append_nil, List.append_assoc])
      replace O := (Own.cv (L' := ((a_165, .ins ad.c_Seat dx_174 [("tail", .ref a_175), ("verdict", .str o_166.verdict), ("flags", .int o_166.flags)]) :: ((dx_174, .own a_165) :: (L_176 ++ (L_169 ++ ((p_160, .lst (List.map V.str acc)) :: [])))))) (Own.selB (Bs := [[(p_160, .lst (List.map V.str acc))], [(a_165, .ins ad.c_Seat dx_174 [("tail", .ref a_175), ("verdict", .str o_166.verdict), ("flags", .int o_166.flags)])], [(dx_174, .own a_165)], L_176, L_169]) (Bs' := [[(a_165, .ins ad.c_Seat dx_174 [("tail", .ref a_175), ("verdict", .str o_166.verdict), ("flags", .int o_166.flags)])], [(dx_174, .own a_165)], L_176, L_169, [(p_160, .lst (List.map V.str acc))]]) (Own.cv O (by first | with_reducible rfl | simp only [List.map_nil, List.flatten_cons, List.flatten_nil, List.cons_append, List.nil_append, List.append_nil, List.append_assoc])) [1, 2, 3, 4, 0] (by decide) rfl) (by first | with_reducible rfl | simp only [List.map_nil, List.flatten_cons, List.flatten_nil, List.cons_append, List.nil_append, List.append_nil, List.append_assoc]))
      replace O : Own H0 H (B_62 ++ [(p_160, .lst (List.map V.str acc))]) := Own.unls (A := []) (Own.cv (L' := [] ++ (((a_165, .ins ad.c_Seat dx_174 [("tail", .ref a_175), ("verdict", .str o_166.verdict), ("flags", .int o_166.flags)]) :: (dx_174, .own a_165) :: (L_176 ++ [])) ++ (L_169 ++ [(p_160, .lst (List.map V.str acc))]))) O (by first | with_reducible rfl | simp only [List.map_nil, List.flatten_cons, List.flatten_nil, List.cons_append, List.nil_append, List.append_nil, List.append_assoc])) h173
      replace O := Own.cv (L' := (B_62 ++ ((p_160, .lst (List.map V.str acc)) :: []))) O (by first | with_reducible rfl | simp only [List.map_nil, List.flatten_cons, List.flatten_nil, List.cons_append, List.nil_append, List.append_nil, List.append_assoc])
      replace O := (Own.cv (L' := ((p_160, .lst (List.map V.str acc)) :: (B_62 ++ []))) (Own.selB (Bs := [B_62, [(p_160, .lst (List.map V.str acc))]]) (Bs' := [[(p_160, .lst (List.map V.str acc))], B_62]) (Own.cv O (by first | with_reducible rfl | simp only [List.map_nil, List.flatten_cons, List.flatten_nil, List.cons_append, List.nil_append, List.append_nil, List.append_assoc])) [1, 0] (by decide) rfl) (by first | with_reducible rfl | simp only [List.map_nil, List.flatten_cons, List.flatten_nil, List.cons_append, List.nil_append, List.append_nil, List.append_assoc]))
      obtain rfl := Option.some.inj hm
      refine ⟨_, O.mem (List.Mem.head _), (by rw [List.length_map]; exact hz), H0, _, eC160, ?_, hC⟩
      rw [map_snoc]
      exact O.put0
    rintro H ⟨H0, acc, eC160, O, hC⟩
    replace hn_a_4 := (mL (mT2 mI mI)) _ _ _ _ eC160 hn_a_4
    replace h156 := (moLv (mo_Seat ad)) _ _ _ _ _ eC160 h156
    replace eB := eB.trans eC160
    obtain rfl := compM_nil hC
    obtain rfl := Option.some.inj hm
    exact RetL.goR k O eB (List.Mem.head _)
def m_parting_L0 (many_1 : Int) (votes_2 : Int) (row_28 : List (Int × Int)) (parted_20 : List (List (Int × Int))) : Option (Fl ((List (List (Int × Int)))) (Rs (List (List (Int × Int))))) :=
  bndRF (m_verdicts many_1 votes_2 row_28) fun verdic_33 =>
  bnd (okD (dqL dqS).d verdic_33) fun u_38 =>
  bnd (okD dqS.d ("taken" : Str)) fun u_40 =>
  ifB (decide ((0 : Int) < (cntL verdic_33 ("taken" : Str))) && decide ((cntL verdic_33 ("taken" : Str)) < many_1)) (
    bnd (appG parted_20 row_28) fun l_44 =>
    some (.nx l_44)) (
    some (.nx parted_20))
def m_parting (many_1 : Int) (votes_2 : Int) (places_3 : List (Int × Int)) (most_5 : Int) : Option (Rs (List (List (Int × Int)))) :=
  bndR (m_ask_seats many_1 votes_2 places_3) fun ask_se_6 =>
  bnd (m_rows_of places_3 most_5) fun rows_o_11 =>
  fin (loopF (fun row_28 s => m_parting_L0 many_1 votes_2 row_28 s) rows_o_11 ([] : List (List (Int × Int)))) fun parted_20 =>
  some (.ok parted_20)
def sp_parting (K : PySem.W.Frag) (ad : Ad) (d : Eds) : Sp := fun vs H Q E => ∃ (many_1 : Int) (votes_2 : Int) (places_3 : List (Int × Int)) (a_4 : Addr) (most_5 : Int) (R0 : Hp) (r : Rs (List (List (Int × Int)))), vs = [.int many_1, .int votes_2, .ref a_4, .int most_5] ∧ Own R0 H [] ∧ (rL (rT2 rI rI)) R0 (.ref a_4) places_3 ∧ m_parting many_1 votes_2 places_3 most_5 = some r ∧ RetR (fun r => RetX R0 (hsub H []) (dP (rL (rL (rT2 rI rI))) r) Q) d r H E
abbrev N_parting : List Str := ["many", "votes", "places", "most", "parted", "row", "words"]
theorem sc_parting : FnScope N_parting ["many", "votes", "places", "most"] (defScope s_parting) := ⟨rfl, rfl, rfl, by decide +kernel, rfl, by decide +kernel, by decide +kernel⟩
theorem ok_parting {ad : Ad} (T : Txt K mg ad) : FnOk P w K mg base (L2N.CX P w) 5 ad.f_parting ad.fd_parting ["many", "votes", "places", "most"] (sp_parting K ad ad.es) := by
  have G_ask_seats := ok_ask_seats (P := P) (w := w) (base := base) T
  have G_rows_of := ok_rows_of (P := P) (w := w) (base := base) T
  have G_verdicts := ok_verdicts (P := P) (w := w) (base := base) T
  refine okN T.F_parting sc_parting (fun vs H Q E h => ?_) (fun cdv A outer s H vs Q E hr h => ?_)
  · obtain ⟨_, _, _, _, _, _, _, rfl, _⟩ := h
    rfl
  · obtain ⟨many_1, votes_2, places_3, a_4, most_5, R0, r, rfl, OO, hn_a_4, hm, k⟩ := h
    unfold m_parting at hm
    obtain ⟨Hb, hHb⟩ : ∃ Hb : Hp, Hb = hsub H [] := ⟨_, rfl⟩
    obtain ⟨H0, hH0⟩ : ∃ H0 : Hp, H0 = Hb := ⟨Hb, rfl⟩
    have O : Own H0 H [] := by rw [hH0, hHb]; exact OO.startX
    have eR : Ex R0 Hb := by rw [hHb]; exact OO.subR
    rw [← hHb] at k
    have eB : Ex Hb H0 := by rw [hH0]; exact Ex.refl _
    have eS : Ex R0 (ovr R0 Hb H0) := by rw [hH0]; exact ovr_start eR
    replace hn_a_4 := (mL (mT2 mI mI)) _ _ _ _ eS hn_a_4
    clear hH0
    refine ⟨_, (pss_cons (ps_expr (pe_call G_ask_seats (hr.mono (by decide)) (by rfl) T.g_ask_seats T.F_ask_seats.kp T.b_ask_seats .nil (E := E) (L2N.passes_call (L2N.takes_of rfl rfl rfl rfl) fun _ _ _ _ h => h) (pa_cons (pv 0) (pa_cons (pv 1) (pa_cons (pv 2) pa_nil))))) (pss_cons (ps_set (i := 4) sc_parting.nd rfl (Or.inl rfl) (pe_lstQ (pe_lst pa_nil))) (pss_cons (ps_for (passes_of rfl) rfl (pi_list (pe_call G_rows_of (hr.mono (by decide)) (by rfl) T.g_rows_of T.F_rows_of.kp T.b_rows_of .nil pass0 (pa_cons (pv 2) (pa_cons (pv 3) pa_nil)))) (pg_name (i := 5) sc_parting.nd rfl (Or.inl rfl)) (pss_cons (ps_set (i := 6) sc_parting.nd rfl (Or.inl rfl) (pe_call G_verdicts (hr.mono (by decide)) (by rfl) T.g_verdicts T.F_verdicts.kp T.b_verdicts .nil (E := E) (L2N.passes_call (L2N.takes_of rfl rfl rfl rfl) fun _ _ _ _ h => h) (pa_cons (pv 0) (pa_cons (pv 1) (pa_cons (pv 5) pa_nil))))) (pss_one (ps_if (pt_chain op_lt op_lt pe_int (pe_bm (r := rCountD K) PySem.F.plainAttrs_list PySem.F.slot_list_count PySem.F.type_list_count (mt_countD (room65 hr)) (pv 6) (pa_cons pe_str pa_nil)) (pv 0)) (pss_one (ps_expr (pe_bm PySem.F.plainAttrs_list PySem.F.slot_list_append PySem.F.type_list_append mt_append (pv 4) (pa_cons (pv 5) pa_nil)))) pss_nil)))) (pss_one (ps_ret (pv 4)))))), ?_⟩
    -- 103
    refine o_seq ?_
    refine o_drop ?_
    obtain ⟨x_8, h7, hm⟩ := bndRE hm
    refine ⟨_, rfl, _, rfl, _, rfl, ?_⟩
    refine x_nil ?_
    refine ⟨_, _, places_3, _, x_8, rfl, ((mL (mT2 mI mI)) _ _ _ _ (ovr_ex.trans O.ex) hn_a_4), h7, ?_⟩
    refine RetR.split (fun e_ h9 => ?_) (fun ask_se_6 h9 => ?_)
    · subst h9
      obtain rfl := erR hm
      exact RetE.up k (Own.whole OO hHb eB (Own.cv (L' := [] ++ []) O (by first | with_reducible rfl | simp only [List.map_nil, List.flatten_cons, List.flatten_nil, List.cons_append, List.nil_append, List.append_nil, List.append_assoc])))
    subst h9
    replace hm := okR hm
    refine O.retV fun H O => ?_
    -- 104
    refine o_seq ?_
    refine o_asg ?_
    refine x_nil ?_
    refine n_lst (f := V.int) (xs := ([] : List Int)) O rfl (Nat.zero_le _) fun p_10 H O => ?_
    -- 105
    refine o_seq ?_
    refine o_for ?_
    obtain ⟨rows_o_11, h12, hm⟩ := bndE hm
    refine ⟨_, rfl, _, rfl, ?_⟩
    refine x_nil ?_
    have Oc : Own H0 H ([] ++ [(p_10, .lst (List.map V.int ([] : List Int)))]) := Own.cv O (by first | with_reducible rfl | simp only [List.map_nil, List.flatten_cons, List.flatten_nil, List.cons_append, List.nil_append, List.append_nil, List.append_assoc])
    refine ⟨places_3, _, most_5, ovr R0 Hb H0, rows_o_11, rfl, (Own.shrink Oc.left ovr_ex), hn_a_4, h12, ?_⟩
    refine Oc.retXO (mdP (mL (mL (mT2 mI mI)))) eB fun w_13 H H0 L_14 O e_ d_ => ?_
    replace hn_a_4 := (mL (mT2 mI mI)) _ _ _ _ (ovr_mono e_) hn_a_4
    replace eB := eB.trans e_
    obtain ⟨rfl, h15⟩ := d_
    replace O : Own H0 H [(p_10, .lst (List.map V.int ([] : List Int)))] := Own.cv O (by first | with_reducible rfl | simp only [List.map_nil, List.flatten_cons, List.flatten_nil, List.cons_append, List.nil_append, List.append_nil, List.append_assoc])
    obtain ⟨p_16, rfl⟩ := rL_ref h15
    have hn_p_16 := h15
    obtain ⟨vs_17, h18, h19⟩ := rL_at hn_p_16
    obtain ⟨out_29, h25, h26⟩ := bndE hm
    refine ⟨_, rfl, ⟨_, (SqL.of ((ovr_ex.trans O.ex) _ _ h18))⟩, q_forA (b := fun _ _ => False) (k := fun _ _ => False) h19 (fun r σ H => ∃ (R_ : Hp) (parted_20 : List (List (Int × Int))) (vs_21 : List V) (j_22 : Option V) (j_23 : Option V), σ = [some (.int many_1), some (.int votes_2), some (.ref a_4), some (.int most_5), some (.ref p_10), j_22, j_23] ∧ Ex H0 R_ ∧ Own R_ H [(p_10, .lst vs_21)] ∧ All2 ((rL (rT2 rI rI)) (ovr R0 Hb R_)) vs_21 parted_20 ∧ loopF (fun row_28 s => m_parting_L0 many_1 votes_2 row_28 s) r parted_20 = some out_29) ⟨H0, ([] : List (List (Int × Int))), ([] : List V), _, _, rfl, Ex.refl _, O, .nil, h25⟩ (by rintro r σ H ⟨H0, parted_20, vs_21, j_22, j_23, rfl, eJ_, O, ha_p_10, hL⟩; exact (SqL.of ((O.ex _ _ ((ovr_ex.trans eJ_) _ _ h18))))) ?_ ?_⟩
    · rintro row_28 w_30 r σ H h31 ⟨H0, parted_20, vs_21, j_22, j_23, rfl, eL29, O, ha_p_10, hL⟩
      replace hn_a_4 := (mL (mT2 mI mI)) _ _ _ _ (ovr_mono eL29) hn_a_4
      replace eB := eB.trans eL29
      obtain ⟨s_, hm, h27⟩ := loopF_cons hL
      replace hm : m_parting_L0 many_1 votes_2 row_28 parted_20 = some s_ := hm
      unfold m_parting_L0 at hm
      replace h31 := (mL (mT2 mI mI)) _ _ _ _ (ovr_mono eL29) h31
      obtain ⟨p_32, rfl⟩ := rL_ref h31
      have hn_p_32 := h31
      -- 106
      refine o_seq ?_
      refine o_asg ?_
      obtain ⟨x_35, h34, hm⟩ := bndRFE hm
      refine ⟨_, rfl, _, rfl, _, rfl, ?_⟩
      refine x_nil ?_
      refine ⟨_, _, row_28, _, x_35, rfl, ((mL (mT2 mI mI)) _ _ _ _ (ovr_ex.trans O.ex) hn_p_32), h34, ?_⟩
      refine RetR.split (fun e_ h36 => ?_) (fun verdic_33 h36 => ?_)
      · subst h36
        obtain rfl := erRF hm
        obtain rfl := contRt h27
        obtain rfl := finRt h26
        exact RetE.up k (Own.whole OO hHb eB (Own.cv (L' := [] ++ [(p_10, .lst vs_21)]) O (by first | with_reducible rfl | simp only [List.map_nil, List.flatten_cons, List.flatten_nil, List.cons_append, List.nil_append, List.append_nil, List.append_assoc])))
      subst h36
      replace hm := okRF hm
      refine O.retL fun p_37 H O => ?_
      -- 107
      refine o_ifs ?_
      obtain ⟨u_38, h39, hm⟩ := bndE hm
      obtain ⟨u_40, h41, hm⟩ := bndE hm
      refine x_chain (x := .int (0 : Int)) (y := .int (cntL verdic_33 ("taken" : Str))) (z := .int many_1) (c := decide ((0 : Int) < (cntL verdic_33 ("taken" : Str)))) (e := decide ((cntL verdic_33 ("taken" : Str)) < many_1)) (d := (decide ((0 : Int) < (cntL verdic_33 ("taken" : Str))) && decide ((cntL verdic_33 ("taken" : Str)) < many_1))) O (fun Q1 k1 => ?_) (fun H O Q1 k1 => ?_) (fun _ _ k1 => ⟨_, _, rfl, rfl, k1⟩) (fun h42 => ⟨by rw [h42]; rfl, fun H O Q1 k1 => ?_⟩) (fun _ _ k1 => ⟨_, _, rfl, rfl, k1⟩) (fun h42 => by rw [h42]; rfl) (fun H O => ?_)
      · refine o_c ?_
        exact k1 _ O
      · refine ⟨_, rfl, .inl ⟨rfl, _, (SqL.of (O.mem (List.Mem.head _)))⟩, ?_⟩
        refine o_cons ?_
        refine o_c ?_
        refine x_nil ?_
        refine k_countD dqS (by decide) (okDE h39) (okDE h41) (gS (O.mem (List.Mem.head _))) rfl ?_
        exact k1 _ O
      · refine ⟨_, rfl, ?_⟩
        exact k1 _ O
      refine ⟨_, rfl, ?_⟩
      refine iteS (c := (decide ((0 : Int) < (cntL verdic_33 ("taken" : Str))) && decide ((cntL verdic_33 ("taken" : Str)) < many_1))) (fun h43 => ?_) (fun h43 => ?_)
      · replace hm := ifT hm h43
        -- 108
        refine o_drop ?_
        refine ⟨_, rfl, .inl ⟨rfl, _, (SqL.of (O.mem (List.Mem.tail _ (List.Mem.head _))))⟩, _, rfl, ?_⟩
        refine x_nil ?_
        obtain ⟨l_44, h45, hm⟩ := bndE hm
        refine k_appA (O.mem (List.Mem.tail _ (List.Mem.head _))) ha_p_10 (fun _ => O.put1) h45 hn_p_32 fun H O ha_p_10 => ?_
        have Oz := O
        obtain rfl := Option.some.inj hm
        exact ⟨H0, _, ((vs_21 ++ [.ref p_32])), _, _, rfl, eL29, (Oz.sel (L' := [(p_10, .lst (vs_21 ++ [.ref p_32]))]) [1] (by decide) rfl), ha_p_10, h27⟩
      · replace hm := ifF hm h43
        refine o_next ?_
        have Oz := O
        obtain rfl := Option.some.inj hm
        exact ⟨H0, _, (vs_21), _, _, rfl, eL29, (Oz.sel (L' := [(p_10, .lst vs_21)]) [1] (by decide) rfl), ha_p_10, h27⟩
    rintro σ H ⟨H0, parted_20, vs_21, j_22, j_23, rfl, eJ_, O, ha_p_10, hL⟩
    replace hn_a_4 := (mL (mT2 mI mI)) _ _ _ _ (ovr_mono eJ_) hn_a_4
    replace eB := eB.trans eJ_
    obtain rfl := loopF_nil hL
    replace hm := finNx h26
    -- 109
    refine o_ret ?_
    refine ⟨_, rfl, ?_⟩
    obtain rfl := Option.some.inj hm
    obtain ⟨H0, O, e_, hp_p_10⟩ := O.frzO (R0 := R0) eB
    replace hn_a_4 := (mL (mT2 mI mI)) _ _ _ _ (ovr_mono e_) hn_a_4
    replace ha_p_10 := mA (mL (mT2 mI mI)) (ovr_mono e_) ha_p_10
    replace eB := eB.trans e_
    have hn_p_10 : (rL (rL (rT2 rI rI))) (ovr R0 Hb H0) (.ref p_10) parted_20 := ⟨_, _, rfl, hp_p_10, ha_p_10⟩
    exact k _ _ H0 [] eB (Own.cv O (by first | with_reducible rfl | simp only [List.map_nil, List.flatten_cons, List.flatten_nil, List.cons_append, List.nil_append, List.append_nil, List.append_assoc])) ⟨rfl, hn_p_10⟩
def m__law_standings_C0 (pairs_3 : List (Int × Int)) (pair_8 : Int × Int) : Option Int :=
  bnd (idxL pairs_3 pair_8) fun j_24 =>
  some j_24
def m__law_standings_C0t (pairs_3 : List (Int × Int)) (pair_8 : Int × Int) : Option Bool :=
  some (inL pair_8 pairs_3)
def m__law_standings (row_1 : List (Int × Int)) (pairs_3 : List (Int × Int)) : Option (List Int) :=
  bnd (compT (m__law_standings_C0t pairs_3) (m__law_standings_C0 pairs_3) row_1 []) fun l_9 =>
  some l_9
def sp__law_standings (K : PySem.W.Frag) : Sp := fun vs H Q _ => ∃ (row_1 : List (Int × Int)) (a_2 : Addr) (pairs_3 : List (Int × Int)) (a_4 : Addr) (r : List Int), vs = [.ref a_2, .ref a_4] ∧ (rL (rT2 rI rI)) H (.ref a_2) row_1 ∧ (rL (rT2 rI rI)) H (.ref a_4) pairs_3 ∧ m__law_standings row_1 pairs_3 = some r ∧ RetL (List.map V.int r) H Q
abbrev N__law_standings : List Str := ["row", "pairs", "pair"]
theorem sc__law_standings : FnScope N__law_standings ["row", "pairs"] (defScope s__law_standings) := ⟨rfl, rfl, rfl, by decide +kernel, rfl, by decide +kernel, by decide +kernel⟩
theorem ok__law_standings {ad : Ad} (T : Txt K mg ad) : FnOk P w K mg base CX0 1 ad.f__law_standings ad.fd__law_standings ["row", "pairs"] (sp__law_standings K) := by
  refine T.F__law_standings.ok sc__law_standings (fun vs H Q E h => ?_) (fun cdv A outer s H vs Q E hr h => ?_)
  · obtain ⟨_, _, _, _, _, rfl, _⟩ := h
    rfl
  · obtain ⟨row_1, a_2, pairs_3, a_4, r, rfl, hn_a_2, hn_a_4, hm, k⟩ := h
    unfold m__law_standings at hm
    obtain ⟨Hb, hHb⟩ : ∃ Hb : Hp, Hb = H := ⟨H, rfl⟩
    obtain ⟨H0, hH0⟩ : ∃ H0 : Hp, H0 = Hb := ⟨Hb, rfl⟩
    have O : Own H0 H [] := by rw [hH0, hHb]; exact Own.start H
    rw [← hHb] at k hn_a_2 hn_a_4
    rw [← hH0] at hn_a_2 hn_a_4
    have eB : Ex Hb H0 := by rw [hH0]; exact Ex.refl _
    clear hH0 hHb
    refine ⟨_, (pss_one (ps_ret (pe_lc (own := [("pair", 2)]) (g := gName 2) rfl sc__law_standings.nd (pi_list (pv 0)) (blkOk_by (own := [("pair", 2)]) (N := N__law_standings) (sc := defScope s__law_standings) (by decide +kernel)) (fun _ _ _ _ _ => pg_name (i := 2) sc__law_standings.nd rfl (Or.inl rfl)) (fun _ _ _ _ _ => pts_one (pt_cmpR (r := rInD K) (op_inD (room65 hr)) (pv 2) (pv 1) (by rfl))) (fun _ _ _ _ _ => (pe_bm2 (K := K) rfl (r := rIndexD K) PySem.F.plainAttrs_list PySem.F.slot_list_index PySem.F.type_list_index (mt_indexD (room65 hr)) (pv 1) (pa_cons (pv 2) pa_nil)))))), ?_⟩
    -- 127
    refine o_ret ?_
    refine ⟨_, rfl, ?_⟩
    obtain ⟨vs_5, h6, h7⟩ := rL_at hn_a_2
    obtain ⟨l_9, h10, hm⟩ := bndE hm
    refine ⟨_, rfl, ⟨_, (SqL.of (O.ex _ _ h6))⟩, fun p_11 hD => k_lcA h7 (fun r H => ∃ (R_ : Hp) (acc : List Int), Ex H0 R_ ∧ Own R_ H [(p_11, .lst (List.map V.int acc))] ∧ compT (m__law_standings_C0t pairs_3) (m__law_standings_C0 pairs_3) r acc = some l_9) ⟨H0, [], Ex.refl _, O.new hD, h10⟩ (by rintro r H ⟨H0, acc, eC11, O, hC⟩; exact (SqL.of (O.ex _ _ (eC11 _ _ h6)))) ?_ ?_⟩
    · rintro pair_8 w_14 r H h15 ⟨H0, acc, eC11, O, hC⟩
      replace hn_a_2 := (mL (mT2 mI mI)) _ _ _ _ eC11 hn_a_2
      replace hn_a_4 := (mL (mT2 mI mI)) _ _ _ _ eC11 hn_a_4
      replace eB := eB.trans eC11
      obtain ⟨b_, hm, hC⟩ := compT_cons hC
      refine ⟨rfl, ?_⟩
      unfold m__law_standings_C0t at hm
      have hw2_ := h15
      replace h15 := (mT2 mI mI) _ _ _ _ eC11 h15
      obtain ⟨p_16, rfl⟩ := rT2_ref h15
      have hn_p_16 := h15
      refine ⟨_, rfl, _, rfl, ?_⟩
      obtain ⟨vs_17, h18, h19⟩ := rL_at hn_a_4
      refine k_inJ (x := pair_8) (deT2 deI deI) (mT2 mI mI) (by decide) ((mT2 mI mI) _ _ _ _ O.ex hn_p_16) (Ex.refl _) (SqL.of (O.ex _ _ h18)) h19 O.ex ?_
      refine ⟨_, rfl, ?_⟩
      obtain rfl := Option.some.inj hm
      refine iteS (c := (inL pair_8 pairs_3)) (fun h26 => ?_) (fun h26 => ?_)
      · obtain ⟨y, hm, hz, hC⟩ := compT_yes (ifT hC h26)
        have h15 := hw2_
        unfold m__law_standings_C0 at hm
        replace h15 := (mT2 mI mI) _ _ _ _ eC11 h15
        obtain ⟨p_20, e_⟩ := rT2_ref h15
        have e_ := V.ref.inj e_.symm
        subst e_
        have hn_p_20 := h15
        refine ⟨_, rfl, ?_⟩
        obtain ⟨vs_21, h22, h23⟩ := rL_at hn_a_4
        refine ⟨.inl ⟨rfl, _, (SqL.of (O.ex _ _ h22))⟩, _, rfl, ?_⟩
        refine x_nil ?_
        obtain ⟨j_24, h25, hm⟩ := bndE hm
        refine k_indexD (De.q (deT2 deI deI)) (by decide) (okDeL (deT2 deI deI) pairs_3) (okDe (deT2 deI deI) pair_8) ((mL (mT2 mI mI)) _ _ _ _ O.ex hn_a_4) ((mT2 mI mI) _ _ _ _ O.ex hn_p_20) h25 ?_
        obtain rfl := Option.some.inj hm
        refine ⟨_, O.mem (List.Mem.head _), (by rw [List.length_map]; exact hz), H0, _, eC11, ?_, hC⟩
        rw [map_snoc]
        exact O.put0
      · exact ⟨H0, acc, eC11, O, ifF hC h26⟩
    rintro H ⟨H0, acc, eC11, O, hC⟩
    replace hn_a_2 := (mL (mT2 mI mI)) _ _ _ _ eC11 hn_a_2
    replace hn_a_4 := (mL (mT2 mI mI)) _ _ _ _ eC11 hn_a_4
    replace eB := eB.trans eC11
    obtain rfl := compT_nil hC
    obtain rfl := Option.some.inj hm
    exact RetL.goR k O eB (List.Mem.head _)
def m_law_C0 (votes_9 : Int) (law_dr_11 : Int) (law_dr_21 : Int) (k_25 : Int) : Option (Int × Int) :=
  bnd (modG (law_dr_21 + k_25) votes_9) fun t_33 =>
  some (law_dr_11, ((9 : Int) + t_33))
def m_law_C1  (pair_39 : Int × Int) : Option (Int × Int) :=
  
  some pair_39
def m_law_C1t (l_26 : List (Int × Int)) (pair_39 : Int × Int) : Option Bool :=
  some (inL pair_39 l_26)
def m_law_L2 (votes_9 : Int) (law_dr_13 : Int) (law_li_15 : List (Int × Int)) (row_79 : List (Int × Int)) (before_71 : Int × (List Int)) : Option (Fl ((Int × (List Int))) (Bool)) :=
  ifB ((!true) || (decide ((List.length row_79 : Int) ≤ (votes_9 / (2 : Int))) || decide (law_dr_13 < (List.length row_79 : Int)))) (
    some (.rt false)) (
    bnd (m__law_standings row_79 law_li_15) fun law_st_97 =>
    bnd (ifB (!decide ((List.length law_st_97 : Int) = (List.length row_79 : Int))) (some true) (bnd (ifB (!decide ((srtI law_st_97) = law_st_97)) (some true) (bnd (lenSet law_st_97) fun n_108 => some (!decide (n_108 = (List.length row_79 : Int))))) fun c_113 => some c_113)) fun c_115 =>
    ifB c_115 (
      some (.rt false)) (
      ifB (!ltIL before_71 ((List.length row_79 : Int), law_st_97)) (
        some (.rt false)) (
        some (.nx ((List.length row_79 : Int), law_st_97)))))
def m_law (script_1 : List Int) : Option (Bool) :=
  bnd (m__law_draw script_1 (0 : Int) (4 : Int)) fun law_dr_3 =>
  ltv (((2 : Int) + law_dr_3)) fun many_5 =>
  bnd (m__law_draw script_1 (1 : Int) (3 : Int)) fun law_dr_7 =>
  ltv (((1 : Int) + ((2 : Int) * law_dr_7))) fun votes_9 =>
  bnd (m__law_draw script_1 (2 : Int) many_5) fun law_dr_11 =>
  bnd (m__law_draw script_1 (3 : Int) (4 : Int)) fun law_dr_13 =>
  bnd (m__law_list script_1 law_dr_11 many_5 votes_9) fun law_li_15 =>
  bnd (m__law_draw script_1 (4 : Int) votes_9) fun law_dr_21 =>
  bnd (rng1 ((votes_9 / (2 : Int)) + (1 : Int))) fun rg_23 =>
  bnd (compM (m_law_C0 votes_9 law_dr_11 law_dr_21) rg_23 []) fun l_26 =>
  bnd (compT (m_law_C1t l_26) (m_law_C1) law_li_15 []) fun l_40 =>
  bndO (m_parting many_5 votes_9 law_li_15 law_dr_13) fun partin_54 =>
  ifB (!true) (
    some false) (
    fin (loopF (fun row_79 s => m_law_L2 votes_9 law_dr_13 law_li_15 row_79 s) partin_54 ((0 : Int), ([] : List Int))) fun before_71 =>
    some (decide ((inL l_40 partin_54) = decide ((votes_9 / (2 : Int)) < law_dr_13))))
def sp_law (K : PySem.W.Frag) : Sp := fun vs H Q _ => ∃ (script_1 : List Int) (a_2 : Addr) (r : Bool), vs = [.ref a_2] ∧ SqL K H a_2 (List.map V.int script_1) ∧ m_law script_1 = some r ∧ RetV (.bl r) H Q
abbrev N_law : List Str := ["script", "many", "votes", "post", "most", "pairs", "first", "own", "found", "before", "row", "standings", "k", "pair"]
theorem sc_law : FnScope N_law ["script"] (defScope s_law) := ⟨rfl, rfl, rfl, by decide +kernel, rfl, by decide +kernel, by decide +kernel⟩
theorem ok_law {ad : Ad} (T : Txt K mg ad) : FnOk P w K mg base CX0 6 ad.f_law ad.fd_law ["script"] (sp_law K) := by
  have G__law_draw := ok__law_draw (P := P) (w := w) (base := base) T
  have G__law_list := ok__law_list (P := P) (w := w) (base := base) T
  have G__law_standings := ok__law_standings (P := P) (w := w) (base := base) T
  have G_parting := ok_parting (P := P) (w := w) (base := base) T
  refine T.F_law.ok sc_law (fun vs H Q E h => ?_) (fun cdv A outer s H vs Q E hr h => ?_)
  · obtain ⟨_, _, _, rfl, _⟩ := h
    rfl
  · obtain ⟨script_1, a_2, r, rfl, hp_a_2, hm, k⟩ := h
    unfold m_law at hm
    obtain ⟨Hb, hHb⟩ : ∃ Hb : Hp, Hb = H := ⟨H, rfl⟩
    obtain ⟨H0, hH0⟩ : ∃ H0 : Hp, H0 = Hb := ⟨Hb, rfl⟩
    have O : Own H0 H [] := by rw [hH0, hHb]; exact Own.start H
    rw [← hHb] at k hp_a_2
    rw [← hH0] at hp_a_2
    have eB : Ex Hb H0 := by rw [hH0]; exact Ex.refl _
    clear hH0 hHb
    refine ⟨_, (pss_cons (ps_set (i := 1) sc_law.nd rfl (Or.inl rfl) (pe_op op_add pe_int (pe_call G__law_draw (hr.mono (by decide)) (by rfl) T.g__law_draw T.F__law_draw.kp T.b__law_draw .nil pass0 (pa_cons (pv 0) (pa_cons pe_int (pa_cons pe_int pa_nil)))))) (pss_cons (ps_set (i := 2) sc_law.nd rfl (Or.inr rfl) (pe_op op_add pe_int (pe_op op_mul pe_int (pe_call G__law_draw (hr.mono (by decide)) (by rfl) T.g__law_draw T.F__law_draw.kp T.b__law_draw .nil pass0 (pa_cons (pv 0) (pa_cons pe_int (pa_cons pe_int pa_nil))))))) (pss_cons (ps_set (i := 3) sc_law.nd rfl (Or.inr rfl) (pe_call G__law_draw (hr.mono (by decide)) (by rfl) T.g__law_draw T.F__law_draw.kp T.b__law_draw .nil pass0 (pa_cons (pv 0) (pa_cons pe_int (pa_cons (pv 1) pa_nil))))) (pss_cons (ps_set (i := 4) sc_law.nd rfl (Or.inl rfl) (pe_call G__law_draw (hr.mono (by decide)) (by rfl) T.g__law_draw T.F__law_draw.kp T.b__law_draw .nil pass0 (pa_cons (pv 0) (pa_cons pe_int (pa_cons pe_int pa_nil))))) (pss_cons (ps_set (i := 5) sc_law.nd rfl (Or.inl rfl) (pe_call G__law_list (hr.mono (by decide)) (by rfl) T.g__law_list T.F__law_list.kp T.b__law_list .nil pass0 (pa_cons (pv 0) (pa_cons (pv 3) (pa_cons (pv 1) (pa_cons (pv 2) pa_nil)))))) (pss_cons (ps_set (i := 6) sc_law.nd rfl (Or.inr rfl) (pe_call G__law_draw (hr.mono (by decide)) (by rfl) T.g__law_draw T.F__law_draw.kp T.b__law_draw .nil pass0 (pa_cons (pv 0) (pa_cons pe_int (pa_cons (pv 2) pa_nil))))) (pss_cons (ps_set (i := 7) sc_law.nd rfl (Or.inr rfl) (pe_lc (own := [("k", 12)]) (g := gName 12) (tt := tYes) rfl sc_law.nd (pi_range1 (by rfl) T.z_range (pa_cons (pe_op op_add (pe_op op_fdiv (pv 2) pe_int) pe_int) pa_nil)) (blkOk_by (own := [("k", 12)]) (N := N_law) (sc := defScope s_law) (by decide +kernel)) (fun _ _ _ _ _ => pg_name (i := 12) sc_law.nd rfl (Or.inl rfl)) (fun _ _ _ _ _ => pts_nil) (fun _ _ _ _ _ => (pe_tup2 (pe_tup (pa_cons (pv 3) (pa_cons (pe_op op_add pe_int (pe_op op_mod (pe_op op_add (pv 6) (pv 12)) (pv 2))) pa_nil))))))) (pss_cons (ps_set (i := 7) sc_law.nd rfl (Or.inr rfl) (pe_lc (own := [("pair", 13)]) (g := gName 13) rfl sc_law.nd (pi_list (pv 5)) (blkOk_by (own := [("pair", 13)]) (N := N_law) (sc := defScope s_law) (by decide +kernel)) (fun _ _ _ _ _ => pg_name (i := 13) sc_law.nd rfl (Or.inl rfl)) (fun _ _ _ _ _ => pts_one (pt_cmpR (r := rInD K) (op_inD (room65 hr)) (pv 13) (pv 7) (by rfl))) (fun _ _ _ _ _ => (pv 13)))) (pss_cons (ps_set (i := 8) sc_law.nd rfl (Or.inl rfl) (pe_call G_parting (hr.mono (by decide)) (by rfl) T.g_parting T.F_parting.kp T.b_parting .nil passN (pa_cons (pv 1) (pa_cons (pv 2) (pa_cons (pe_callTy (r := rListQ K) call_listQ (by rfl) T.z_list (by decide +kernel) (pa_cons (pv 5) pa_nil)) (pa_cons (pv 4) pa_nil)))))) (pss_cons (ps_if (pt_not (pt_val (pe_callB (r := rIsi K) call_isi (by rfl) T.z_isinstance (by decide +kernel) (pa_cons (pv 8) (pa_cons (pe_bltn (v := V.ty "list") (u := .type "list") (by rfl) T.z_list (by decide +kernel) rfl) pa_nil))))) (pss_one (ps_ret pe_bl)) pss_nil) (pss_cons (ps_set (i := 9) sc_law.nd rfl (Or.inl rfl) (pe_tupQ (pe_tup (pa_cons pe_int (pa_cons (pe_lstQ (pe_lst pa_nil)) pa_nil))))) (pss_cons (ps_for PassesOwn.never rfl (pi_list (pv 8)) (pg_name (i := 10) sc_law.nd rfl (Or.inl rfl)) (pss_cons (ps_if (PW.pt (pw_or (pt_not (pt_val (pe_callB (r := rIsi K) call_isi (by rfl) T.z_isinstance (by decide +kernel) (pa_cons (pv 10) (pa_cons (pe_bltn (v := V.ty "list") (u := .type "list") (by rfl) T.z_list (by decide +kernel) rfl) pa_nil))))) (pw_or (pt_cmpR op_le (pe_callB (r := rLenQ K) call_lenQ (by rfl) T.z_len PySem.boot_len (pa_cons (pv 10) pa_nil)) (pe_op op_fdiv (pv 2) pe_int) (nomark _)) (pw_or1 (pt_cmpR op_gt (pe_callB (r := rLenQ K) call_lenQ (by rfl) T.z_len PySem.boot_len (pa_cons (pv 10) pa_nil)) (pv 4) (nomark _)))))) (pss_one (ps_ret pe_bl)) pss_nil) (pss_cons (ps_set (i := 11) sc_law.nd rfl (Or.inl rfl) (pe_call G__law_standings (hr.mono (by decide)) (by rfl) T.g__law_standings T.F__law_standings.kp T.b__law_standings .nil pass0 (pa_cons (pv 10) (pa_cons (pv 5) pa_nil)))) (pss_cons (ps_if (PW.pt (pw_or (pt_cmpR op_ne (pe_callB (r := rLenQ K) call_lenQ (by rfl) T.z_len PySem.boot_len (pa_cons (pv 11) pa_nil)) (pe_callB (r := rLenQ K) call_lenQ (by rfl) T.z_len PySem.boot_len (pa_cons (pv 10) pa_nil)) (nomark _)) (pw_or (pt_cmpR (r := rNeD K) (op_neD hr.units) (pe_callB (r := rSortedI K) cr_sortedI (by rfl) T.z_sorted (by decide +kernel) (pa_cons (pv 11) pa_nil)) (pv 11) (nomark _)) (pw_or1 (pt_cmpR op_ne (pe_lenSetN (by rfl) T.z_len (by rfl) T.z_set (pv 11)) (pe_callB (r := rLenQ K) call_lenQ (by rfl) T.z_len PySem.boot_len (pa_cons (pv 10) pa_nil)) (nomark _)))))) (pss_one (ps_ret pe_bl)) pss_nil) (pss_cons (ps_if (pt_cmpR (r := rGeIL K) (op_geIL (room65 hr)) (pv 9) (pe_tupQ (pe_tup (pa_cons (pe_callB (r := rLenQ K) call_lenQ (by rfl) T.z_len PySem.boot_len (pa_cons (pv 10) pa_nil)) (pa_cons (pv 11) pa_nil)))) (nomark _)) (pss_one (ps_ret pe_bl)) pss_nil) (pss_one (ps_set (i := 9) sc_law.nd rfl (Or.inl rfl) (pe_tupQ (pe_tup (pa_cons (pe_callB (r := rLenQ K) call_lenQ (by rfl) T.z_len PySem.boot_len (pa_cons (pv 10) pa_nil)) (pa_cons (pv 11) pa_nil))))))))))) (pss_one (ps_ret (pe_cmpR op_eq (pe_cmpR (r := rInD K) (op_inD (room65 hr)) (pv 7) (pv 8) (by rfl)) (pe_cmpR op_gt (pv 4) (pe_op op_fdiv (pv 2) pe_int) (nomark _)) (nomark _)))))))))))))))), ?_⟩
    -- 129
    refine o_seq ?_
    refine o_asg ?_
    obtain ⟨law_dr_3, h4, hm⟩ := bndE hm
    refine ⟨_, rfl, ?_⟩
    refine o_cons ?_
    refine o_c ?_
    refine o_cons ?_
    refine o_c ?_
    refine x_nil ?_
    refine ⟨_, _, _, _, law_dr_3, rfl, (O.ex.l hp_a_2), h4, ?_⟩
    refine O.retV fun H O => ?_
    refine ⟨_, _, rfl, rfl, ?_⟩
    obtain ⟨many_5, h6, hm⟩ := ltvE hm
    refine a_set (congrArg V.int h6) ?_
    -- 130
    refine o_seq ?_
    refine o_asg ?_
    obtain ⟨law_dr_7, h8, hm⟩ := bndE hm
    refine ⟨_, rfl, ?_⟩
    refine o_cons ?_
    refine o_c ?_
    refine o_cons ?_
    refine o_c ?_
    refine x_nil ?_
    refine ⟨_, _, _, _, law_dr_7, rfl, (O.ex.l hp_a_2), h8, ?_⟩
    refine O.retV fun H O => ?_
    refine ⟨_, _, rfl, rfl, .inl ⟨by decide, by decide⟩, _, _, rfl, rfl, ?_⟩
    obtain ⟨votes_9, h10, hm⟩ := ltvE hm
    refine a_set (congrArg V.int h10) ?_
    -- 131
    refine o_seq ?_
    refine o_asg ?_
    obtain ⟨law_dr_11, h12, hm⟩ := bndE hm
    refine ⟨_, rfl, _, rfl, ?_⟩
    refine x_nil ?_
    refine ⟨_, _, _, _, law_dr_11, rfl, (O.ex.l hp_a_2), h12, ?_⟩
    refine O.retV fun H O => ?_
    -- 132
    refine o_seq ?_
    refine o_asg ?_
    obtain ⟨law_dr_13, h14, hm⟩ := bndE hm
    refine ⟨_, rfl, ?_⟩
    refine o_cons ?_
    refine o_c ?_
    refine o_cons ?_
    refine o_c ?_
    refine x_nil ?_
    refine ⟨_, _, _, _, law_dr_13, rfl, (O.ex.l hp_a_2), h14, ?_⟩
    refine O.retV fun H O => ?_
    -- 133
    refine o_seq ?_
    refine o_asg ?_
    obtain ⟨law_li_15, h16, hm⟩ := bndE hm
    refine ⟨_, rfl, _, rfl, _, rfl, _, rfl, ?_⟩
    refine x_nil ?_
    have Oc : Own H0 H ([] ++ []) := Own.cv O (by first | with_reducible rfl | simp only [List.map_nil, List.flatten_cons, List.flatten_nil, List.cons_append, List.nil_append, List.append_nil, List.append_assoc])
    refine ⟨script_1, a_2, law_dr_11, many_5, votes_9, H0, law_li_15, rfl, Oc.left, (Oc.left.subR.l hp_a_2), h16, ?_⟩
    refine Oc.retX (mdP (mL (mT2 mI mI))) fun w_17 H H0 L_18 O e_ d_ => ?_
    replace hp_a_2 := e_.l hp_a_2
    replace eB := eB.trans e_
    obtain ⟨rfl, h19⟩ := d_
    replace O : Own H0 H [] := Own.cv O (by first | with_reducible rfl | simp only [List.map_nil, List.flatten_cons, List.flatten_nil, List.cons_append, List.nil_append, List.append_nil, List.append_assoc])
    obtain ⟨p_20, rfl⟩ := rL_ref h19
    have hn_p_20 := h19
    -- 134
    refine o_seq ?_
    refine o_asg ?_
    obtain ⟨law_dr_21, h22, hm⟩ := bndE hm
    refine ⟨_, rfl, _, rfl, ?_⟩
    refine x_nil ?_
    refine ⟨_, _, _, _, law_dr_21, rfl, (O.ex.l hp_a_2), h22, ?_⟩
    refine O.retV fun H O => ?_
    -- 135
    refine o_seq ?_
    refine o_asg ?_
    obtain ⟨rg_23, h24, hm⟩ := bndE hm
    refine ⟨_, rfl, _, _, rfl, rfl, ⟨by decide, by decide⟩, _, _, rfl, rfl, ?_⟩
    refine x_nil ?_
    obtain ⟨c1, c2, rfl⟩ := rng1E h24
    obtain ⟨l_26, h27, hm⟩ := bndE hm
    refine ⟨_, rfl, c1, c2, fun p_28 hD => k_lcR (fun r H => ∃ (R_ : Hp) (vs_29 : List V) (acc : List (Int × Int)), Ex H0 R_ ∧ Own R_ H [(p_28, .lst vs_29)] ∧ All2 ((rT2 rI rI) (R_)) vs_29 acc ∧ compM (m_law_C0 votes_9 law_dr_11 law_dr_21) r acc = some l_26) ⟨H0, ([] : List V), [], Ex.refl _, O.new hD, .nil, h27⟩ ?_ ?_⟩
    · rintro k_25 r H ⟨H0, vs_29, acc, eC28, O, ha_p_28, hC⟩
      replace hp_a_2 := eC28.l hp_a_2
      replace hn_p_20 := (mL (mT2 mI mI)) _ _ _ _ eC28 hn_p_20
      replace eB := eB.trans eC28
      obtain ⟨y, hm, hz, hC⟩ := compM_cons hC
      refine ⟨rfl, ?_⟩
      unfold m_law_C0 at hm
      obtain ⟨t_33, h34, hm⟩ := bndE hm
      refine ⟨_, rfl, _, rfl, _, rfl, _, _, rfl, rfl, _, rfl, ?_⟩
      refine k_mod h34 ?_
      refine ⟨_, _, rfl, rfl, ?_⟩
      refine x_nil ?_
      refine n_tup O (by show 2 ≤ sizeLine; decide) fun p_35 H O => ?_
      obtain ⟨H0, O, e_, hp_p_35⟩ := O.frz
      replace hp_a_2 := e_.l hp_a_2
      replace hn_p_20 := (mL (mT2 mI mI)) _ _ _ _ e_ hn_p_20
      replace ha_p_28 := mA (mT2 mI mI) e_ ha_p_28
      replace eB := eB.trans e_
      replace eC28 := eC28.trans e_
      have hn_p_35 : (rT2 rI rI) (H0) (.ref p_35) (law_dr_11, ((9 : Int) + t_33)) := ⟨_, _, _, rfl, hp_p_35, rfl, rfl⟩
      obtain rfl := Option.some.inj hm
      exact ⟨_, O.mem (List.Mem.head _), (by rw [ha_p_28.len]; exact hz), H0, _, _, eC28, O.put0, ha_p_28.snoc hn_p_35, hC⟩
    rintro H ⟨H0, vs_29, acc, eC28, O, ha_p_28, hC⟩
    replace hp_a_2 := eC28.l hp_a_2
    replace hn_p_20 := (mL (mT2 mI mI)) _ _ _ _ eC28 hn_p_20
    replace eB := eB.trans eC28
    obtain rfl := compM_nil hC
    -- 136
    refine o_seq ?_
    refine o_asg ?_
    refine ⟨_, rfl, ?_⟩
    obtain ⟨vs_36, h37, h38⟩ := rL_at hn_p_20
    obtain ⟨l_40, h41, hm⟩ := bndE hm
    refine ⟨_, rfl, ⟨_, (SqL.of (O.ex _ _ h37))⟩, fun p_42 hD => k_lcA h38 (fun r H => ∃ (R_ : Hp) (vs_43 : List V) (acc : List (Int × Int)), Ex H0 R_ ∧ Own R_ H [(p_42, .lst vs_43), (p_28, .lst vs_29)] ∧ All2 ((rT2 rI rI) (R_)) vs_43 acc ∧ compT (m_law_C1t l_26) (m_law_C1) r acc = some l_40) ⟨H0, ([] : List V), [], Ex.refl _, O.new hD, .nil, h41⟩ (by rintro r H ⟨H0, vs_43, acc, eC42, O, ha_p_42, hC⟩; exact (SqL.of (O.ex _ _ (eC42 _ _ h37)))) ?_ ?_⟩
    · rintro pair_39 w_45 r H h46 ⟨H0, vs_43, acc, eC42, O, ha_p_42, hC⟩
      replace hp_a_2 := eC42.l hp_a_2
      replace hn_p_20 := (mL (mT2 mI mI)) _ _ _ _ eC42 hn_p_20
      replace ha_p_28 := mA (mT2 mI mI) eC42 ha_p_28
      replace eB := eB.trans eC42
      obtain ⟨b_, hm, hC⟩ := compT_cons hC
      refine ⟨rfl, ?_⟩
      unfold m_law_C1t at hm
      have hw2_ := h46
      replace h46 := (mT2 mI mI) _ _ _ _ eC42 h46
      obtain ⟨p_47, rfl⟩ := rT2_ref h46
      have hn_p_47 := h46
      refine ⟨_, rfl, _, rfl, ?_⟩
      refine k_inJ (x := pair_39) (deT2 deI deI) (mT2 mI mI) (by decide) ((mT2 mI mI) _ _ _ _ O.ex hn_p_47) (Ex.refl _) (SqL.of (O.mem (List.Mem.tail _ (List.Mem.head _)))) ha_p_28 O.ex ?_
      refine ⟨_, rfl, ?_⟩
      obtain rfl := Option.some.inj hm
      refine iteS (c := (inL pair_39 l_26)) (fun h49 => ?_) (fun h49 => ?_)
      · obtain ⟨y, hm, hz, hC⟩ := compT_yes (ifT hC h49)
        have h46 := hw2_
        unfold m_law_C1 at hm
        replace h46 := (mT2 mI mI) _ _ _ _ eC42 h46
        obtain ⟨p_48, e_⟩ := rT2_ref h46
        have e_ := V.ref.inj e_.symm
        subst e_
        have hn_p_48 := h46
        refine ⟨_, rfl, ?_⟩
        obtain rfl := Option.some.inj hm
        exact ⟨_, O.mem (List.Mem.head _), (by rw [ha_p_42.len]; exact hz), H0, _, _, eC42, O.put0, ha_p_42.snoc hn_p_48, hC⟩
      · exact ⟨H0, _, acc, eC42, O, ha_p_42, ifF hC h49⟩
    rintro H ⟨H0, vs_43, acc, eC42, O, ha_p_42, hC⟩
    replace hp_a_2 := eC42.l hp_a_2
    replace hn_p_20 := (mL (mT2 mI mI)) _ _ _ _ eC42 hn_p_20
    replace ha_p_28 := mA (mT2 mI mI) eC42 ha_p_28
    replace eB := eB.trans eC42
    obtain rfl := compT_nil hC
    -- 137
    refine o_seq ?_
    refine o_asg ?_
    refine ⟨_, rfl, _, rfl, _, rfl, ?_⟩
    refine x_nil ?_
    obtain ⟨vs_51, h52, h53⟩ := rL_at hn_p_20
    refine n_list O (SqL.of (O.ex _ _ h52)) fun p_50 H O => ?_
    have ha_p_50 := h53
    obtain ⟨partin_54, h55, hm⟩ := bndOE hm
    refine ⟨_, rfl, ?_⟩
    refine x_nil ?_
    obtain ⟨H0, O, e_, hp_p_50⟩ := O.frz
    replace hp_a_2 := e_.l hp_a_2
    replace hn_p_20 := (mL (mT2 mI mI)) _ _ _ _ e_ hn_p_20
    replace ha_p_28 := mA (mT2 mI mI) e_ ha_p_28
    replace ha_p_42 := mA (mT2 mI mI) e_ ha_p_42
    replace ha_p_50 := mA (mT2 mI mI) e_ ha_p_50
    replace eB := eB.trans e_
    have hn_p_50 : (rL (rT2 rI rI)) (H0) (.ref p_50) law_li_15 := ⟨_, _, rfl, hp_p_50, ha_p_50⟩
    have Oc : Own H0 H ([] ++ [(p_42, .lst vs_43), (p_28, .lst vs_29)]) := Own.cv O (by first | with_reducible rfl | simp only [List.map_nil, List.flatten_cons, List.flatten_nil, List.cons_append, List.nil_append, List.append_nil, List.append_assoc])
    refine ⟨many_5, votes_9, law_li_15, _, law_dr_13, H0, (.ok partin_54), rfl, Oc.left, hn_p_50, h55, ?_⟩
    refine RetR.ok ?_
    refine Oc.retX (mdP (mL (mL (mT2 mI mI)))) fun w_56 H H0 L_57 O e_ d_ => ?_
    replace hp_a_2 := e_.l hp_a_2
    replace hn_p_20 := (mL (mT2 mI mI)) _ _ _ _ e_ hn_p_20
    replace ha_p_28 := mA (mT2 mI mI) e_ ha_p_28
    replace ha_p_42 := mA (mT2 mI mI) e_ ha_p_42
    replace hn_p_50 := (mL (mT2 mI mI)) _ _ _ _ e_ hn_p_50
    replace eB := eB.trans e_
    obtain ⟨rfl, h58⟩ := d_
    replace O : Own H0 H [(p_42, .lst vs_43), (p_28, .lst vs_29)] := Own.cv O (by first | with_reducible rfl | simp only [List.map_nil, List.flatten_cons, List.flatten_nil, List.cons_append, List.nil_append, List.append_nil, List.append_assoc])
    obtain ⟨p_59, rfl⟩ := rL_ref h58
    have hn_p_59 := h58
    -- 138
    refine o_seq ?_
    refine o_ifs ?_
    refine ⟨_, rfl, ?_⟩
    obtain ⟨_, h60, _⟩ := rL_at hn_p_59
    refine ⟨_, _, _, _, true, rfl, .ty _, .base (.lst (O.ex _ _ h60)), kit_ty (by decide +kernel), _, rfl, ?_⟩
    refine iteS (c := (!true)) (fun h61 => ?_) (fun h61 => ?_)
    · replace hm := ifT hm h61
      -- 139
      refine o_ret ?_
      refine o_c ?_
      obtain rfl := Option.some.inj hm
      exact RetV.goR k O eB
    · replace hm := ifF hm h61
      refine o_next ?_
      -- 140
      refine o_seq ?_
      refine o_asg ?_
      refine o_cons ?_
      refine o_c ?_
      refine o_cons ?_
      refine x_nil ?_
      refine n_lst (f := V.int) (xs := ([] : List Int)) O rfl (Nat.zero_le _) fun p_62 H O => ?_
      refine x_nil ?_
      obtain ⟨H0, O, e_, hp_p_62⟩ := O.frz
      replace hp_a_2 := e_.l hp_a_2
      replace hn_p_20 := (mL (mT2 mI mI)) _ _ _ _ e_ hn_p_20
      replace ha_p_28 := mA (mT2 mI mI) e_ ha_p_28
      replace ha_p_42 := mA (mT2 mI mI) e_ ha_p_42
      replace hn_p_50 := (mL (mT2 mI mI)) _ _ _ _ e_ hn_p_50
      replace hn_p_59 := (mL (mL (mT2 mI mI))) _ _ _ _ e_ hn_p_59
      replace eB := eB.trans e_
      refine n_tup O (by show 2 ≤ sizeLine; decide) fun p_63 H O => ?_
      obtain ⟨H0, O, e_, hp_p_63⟩ := O.frz
      replace hp_a_2 := e_.l hp_a_2
      replace hn_p_20 := (mL (mT2 mI mI)) _ _ _ _ e_ hn_p_20
      replace ha_p_28 := mA (mT2 mI mI) e_ ha_p_28
      replace ha_p_42 := mA (mT2 mI mI) e_ ha_p_42
      replace hn_p_50 := (mL (mT2 mI mI)) _ _ _ _ e_ hn_p_50
      replace hn_p_59 := (mL (mL (mT2 mI mI))) _ _ _ _ e_ hn_p_59
      replace hp_p_62 := e_ _ _ hp_p_62
      replace eB := eB.trans e_
      have hn_p_63 : (rT2 rI (rL rI)) (H0) (.ref p_63) (((0 : Int), ([] : List Int)) : Int × (List Int)) := ⟨_, _, _, rfl, hp_p_63, rfl, (gI hp_p_62)⟩
      -- 141
      refine o_seq ?_
      refine o_for ?_
      refine ⟨_, rfl, ?_⟩
      obtain ⟨vs_64, h65, h66⟩ := rL_at hn_p_59
      obtain ⟨out_80, h76, h77⟩ := bndE hm
      refine ⟨_, rfl, ⟨_, (SqL.of (O.ex _ _ h65))⟩, q_forA (b := fun _ _ => False) (k := fun _ _ => False) h66 (fun r σ H => ∃ (R_ : Hp) (before_71 : Int × (List Int)) (w_72 : V) (j_67 : Option V) (j_68 : Option V) (j_69 : Option V) (j_70 : Option V) (j_73 : Option V) (j_74 : Option V), σ = [j_67, j_68, some (.int votes_9), j_69, some (.int law_dr_13), some (.ref p_20), j_70, some (.ref p_42), some (.ref p_59), some (w_72), j_73, j_74, none, none] ∧ Ex H0 R_ ∧ Own R_ H [(p_42, .lst vs_43)] ∧ (rT2 rI (rL rI)) (R_) w_72 before_71 ∧ loopF (fun row_79 s => m_law_L2 votes_9 law_dr_13 law_li_15 row_79 s) r before_71 = some out_80) ⟨H0, _, (.ref p_63), _, _, _, _, _, _, rfl, Ex.refl _, (O.sel (L' := [(p_42, .lst vs_43)]) [0] (by decide) rfl), hn_p_63, h76⟩ (by rintro r σ H ⟨H0, before_71, w_72, j_67, j_68, j_69, j_70, j_73, j_74, rfl, eJ_, O, hn_w_72, hL⟩; exact (SqL.of (O.ex _ _ (eJ_ _ _ h65)))) ?_ ?_⟩
      · rintro row_79 w_81 r σ H h82 ⟨H0, before_71, w_72, j_67, j_68, j_69, j_70, j_73, j_74, rfl, eL80, O, hn_w_72, hL⟩
        replace hn_p_20 := (mL (mT2 mI mI)) _ _ _ _ eL80 hn_p_20
        replace hn_p_59 := (mL (mL (mT2 mI mI))) _ _ _ _ eL80 hn_p_59
        replace ha_p_42 := mA (mT2 mI mI) eL80 ha_p_42
        replace eB := eB.trans eL80
        obtain ⟨s_, hm, h78⟩ := loopF_cons hL
        replace hm : m_law_L2 votes_9 law_dr_13 law_li_15 row_79 before_71 = some s_ := hm
        unfold m_law_L2 at hm
        replace h82 := (mL (mT2 mI mI)) _ _ _ _ eL80 h82
        obtain ⟨p_83, rfl⟩ := rL_ref h82
        have hn_p_83 := h82
        obtain ⟨p_84, rfl⟩ := rT2_ref hn_w_72
        have hn_p_84 := hn_w_72
        -- 142
        refine o_seq ?_
        refine o_ifs ?_
        refine x_orJ (c := (!true)) (e := (decide ((List.length row_79 : Int) ≤ (votes_9 / (2 : Int))) || decide (law_dr_13 < (List.length row_79 : Int)))) (d := ((!true) || (decide ((List.length row_79 : Int) ≤ (votes_9 / (2 : Int))) || decide (law_dr_13 < (List.length row_79 : Int))))) (fun H => ∃ (R_ : Hp), Ex H0 R_ ∧ Own R_ H [(p_42, .lst vs_43)]) (fun Q1 k1 => ?_) (fun h85 => ⟨by rw [h85]; rfl, fun H hJ Q2 k2 => ?_⟩) (fun h85 => by rw [h85]; rfl) (fun H hJ => ?_)
        · have eJ86 : Ex H0 H0 := Ex.refl _
          refine ⟨_, rfl, ?_⟩
          obtain ⟨_, h87, _⟩ := rL_at hn_p_83
          refine ⟨_, _, _, _, true, rfl, .ty _, .base (.lst (O.ex _ _ h87)), kit_ty (by decide +kernel), _, rfl, ?_⟩
          exact k1 _ ⟨H0, eJ86, O⟩
        · obtain ⟨H0, eJ86, O⟩ := hJ
          replace hn_p_20 := (mL (mT2 mI mI)) _ _ _ _ eJ86 hn_p_20
          replace hn_p_59 := (mL (mL (mT2 mI mI))) _ _ _ _ eJ86 hn_p_59
          replace ha_p_42 := mA (mT2 mI mI) eJ86 ha_p_42
          replace hn_p_83 := (mL (mT2 mI mI)) _ _ _ _ eJ86 hn_p_83
          replace hn_p_84 := (mT2 mI (mL mI)) _ _ _ _ eJ86 hn_p_84
          replace eB := eB.trans eJ86
          replace eL80 := eL80.trans eJ86
          refine x_orJ (c := decide ((List.length row_79 : Int) ≤ (votes_9 / (2 : Int)))) (e := decide (law_dr_13 < (List.length row_79 : Int))) (d := (decide ((List.length row_79 : Int) ≤ (votes_9 / (2 : Int))) || decide (law_dr_13 < (List.length row_79 : Int)))) (fun H => ∃ (R_ : Hp), Ex H0 R_ ∧ Own R_ H [(p_42, .lst vs_43)]) (fun Q1 k1 => ?_) (fun h88 => ⟨by rw [h88]; rfl, fun H hJ Q2 k2 => ?_⟩) (fun h88 => by rw [h88]; rfl) (fun H hJ => ?_)
          · have eJ89 : Ex H0 H0 := Ex.refl _
            refine ⟨_, rfl, ?_⟩
            refine x_nil ?_
            obtain ⟨vs_90, h91, h92⟩ := rL_at hn_p_83
            refine n_lenA (SqL.of (O.ex _ _ h91)) h92 ?_
            refine ⟨_, rfl, _, _, rfl, rfl, ⟨by decide, by decide⟩, _, _, rfl, rfl, _, rfl, ?_⟩
            exact k1 _ ⟨H0, eJ89, O⟩
          · obtain ⟨H0, eJ89, O⟩ := hJ
            replace hn_p_20 := (mL (mT2 mI mI)) _ _ _ _ eJ89 hn_p_20
            replace hn_p_59 := (mL (mL (mT2 mI mI))) _ _ _ _ eJ89 hn_p_59
            replace ha_p_42 := mA (mT2 mI mI) eJ89 ha_p_42
            replace hn_p_83 := (mL (mT2 mI mI)) _ _ _ _ eJ89 hn_p_83
            replace hn_p_84 := (mT2 mI (mL mI)) _ _ _ _ eJ89 hn_p_84
            replace eB := eB.trans eJ89
            replace eL80 := eL80.trans eJ89
            replace eJ86 := eJ86.trans eJ89
            refine ⟨_, rfl, ?_⟩
            refine x_nil ?_
            obtain ⟨vs_93, h94, h95⟩ := rL_at hn_p_83
            refine n_lenA (SqL.of (O.ex _ _ h94)) h95 ?_
            refine ⟨_, rfl, _, _, rfl, rfl, _, rfl, ?_⟩
            exact k2 _ ⟨H0, eJ89, O⟩
          obtain ⟨H0, eJ89, O⟩ := hJ
          replace hn_p_20 := (mL (mT2 mI mI)) _ _ _ _ eJ89 hn_p_20
          replace hn_p_59 := (mL (mL (mT2 mI mI))) _ _ _ _ eJ89 hn_p_59
          replace ha_p_42 := mA (mT2 mI mI) eJ89 ha_p_42
          replace hn_p_83 := (mL (mT2 mI mI)) _ _ _ _ eJ89 hn_p_83
          replace hn_p_84 := (mT2 mI (mL mI)) _ _ _ _ eJ89 hn_p_84
          replace eB := eB.trans eJ89
          replace eL80 := eL80.trans eJ89
          replace eJ86 := eJ86.trans eJ89
          exact k2 _ ⟨H0, eJ86, O⟩
        obtain ⟨H0, eJ86, O⟩ := hJ
        replace hn_p_20 := (mL (mT2 mI mI)) _ _ _ _ eJ86 hn_p_20
        replace hn_p_59 := (mL (mL (mT2 mI mI))) _ _ _ _ eJ86 hn_p_59
        replace ha_p_42 := mA (mT2 mI mI) eJ86 ha_p_42
        replace hn_p_83 := (mL (mT2 mI mI)) _ _ _ _ eJ86 hn_p_83
        replace hn_p_84 := (mT2 mI (mL mI)) _ _ _ _ eJ86 hn_p_84
        replace eB := eB.trans eJ86
        replace eL80 := eL80.trans eJ86
        refine iteS (c := ((!true) || (decide ((List.length row_79 : Int) ≤ (votes_9 / (2 : Int))) || decide (law_dr_13 < (List.length row_79 : Int))))) (fun h96 => ?_) (fun h96 => ?_)
        · replace hm := ifT hm h96
          -- 143
          refine o_ret ?_
          refine o_c ?_
          obtain rfl := Option.some.inj hm
          obtain rfl := contRt h78
          obtain rfl := finRt h77
          exact RetV.goR k O eB
        · replace hm := ifF hm h96
          refine o_next ?_
          -- 144
          refine o_seq ?_
          refine o_asg ?_
          obtain ⟨law_st_97, h98, hm⟩ := bndE hm
          refine ⟨_, rfl, _, rfl, ?_⟩
          refine x_nil ?_
          refine ⟨row_79, _, law_li_15, _, law_st_97, rfl, ((mL (mT2 mI mI)) _ _ _ _ O.ex hn_p_83), ((mL (mT2 mI mI)) _ _ _ _ O.ex hn_p_20), h98, ?_⟩
          refine O.retL fun p_99 H O => ?_
          -- 145
          refine o_seq ?_
          refine o_ifs ?_
          obtain ⟨c_115, h116, hm⟩ := bndE hm
          refine x_orJ (c := (!decide ((List.length law_st_97 : Int) = (List.length row_79 : Int)))) (e := c_115) (d := c_115) (fun H => ∃ (R_ : Hp), Ex H0 R_ ∧ Own R_ H [(p_99, .lst (List.map V.int law_st_97)), (p_42, .lst vs_43)]) (fun Q1 k1 => ?_) (fun h100 => ⟨rfl, fun H hJ Q2 k2 => ?_⟩) (fun h100 => Option.some.inj (ifT h116 h100)) (fun H hJ => ?_)
          · have eJ101 : Ex H0 H0 := Ex.refl _
            refine ⟨_, rfl, ?_⟩
            refine x_nil ?_
            refine n_len (SqL.of (O.mem (List.Mem.head _))) ?_
            refine ⟨_, rfl, ?_⟩
            refine x_nil ?_
            obtain ⟨vs_102, h103, h104⟩ := rL_at hn_p_83
            refine n_lenA (SqL.of (O.ex _ _ h103)) h104 ?_
            refine k_neI ?_
            refine ⟨_, rfl, ?_⟩
            exact k1 _ ⟨H0, eJ101, O⟩
          · replace hm := ifF h116 h100
            obtain ⟨c_113, h114, hm⟩ := bndE hm
            obtain rfl := Option.some.inj hm
            obtain ⟨H0, eJ101, O⟩ := hJ
            replace hn_p_20 := (mL (mT2 mI mI)) _ _ _ _ eJ101 hn_p_20
            replace hn_p_59 := (mL (mL (mT2 mI mI))) _ _ _ _ eJ101 hn_p_59
            replace ha_p_42 := mA (mT2 mI mI) eJ101 ha_p_42
            replace hn_p_83 := (mL (mT2 mI mI)) _ _ _ _ eJ101 hn_p_83
            replace hn_p_84 := (mT2 mI (mL mI)) _ _ _ _ eJ101 hn_p_84
            replace eB := eB.trans eJ101
            replace eL80 := eL80.trans eJ101
            refine x_orJ (c := (!decide ((srtI law_st_97) = law_st_97))) (e := c_113) (d := c_113) (fun H => ∃ (R_ : Hp), Ex H0 R_ ∧ Own R_ H [(p_99, .lst (List.map V.int law_st_97)), (p_42, .lst vs_43)]) (fun Q1 k1 => ?_) (fun h105 => ⟨rfl, fun H hJ Q2 k2 => ?_⟩) (fun h105 => Option.some.inj (ifT h114 h105)) (fun H hJ => ?_)
            · have eJ106 : Ex H0 H0 := Ex.refl _
              refine ⟨_, rfl, ?_⟩
              refine x_nil ?_
              refine k_sorted O (SqL.of (O.mem (List.Mem.head _))) fun p_107 H O => ?_
              refine ⟨_, rfl, ?_⟩
              refine k_neLI (SqL.of (O.mem (List.Mem.head _))) (SqL.of (O.mem (List.Mem.tail _ (List.Mem.head _)))) ?_
              refine ⟨_, rfl, ?_⟩
              replace O := O.tl
              exact k1 _ ⟨H0, eJ106, O⟩
            · replace hm := ifF h114 h105
              obtain ⟨n_108, h109, hm⟩ := bndE hm
              obtain rfl := Option.some.inj hm
              obtain ⟨H0, eJ106, O⟩ := hJ
              replace hn_p_20 := (mL (mT2 mI mI)) _ _ _ _ eJ106 hn_p_20
              replace hn_p_59 := (mL (mL (mT2 mI mI))) _ _ _ _ eJ106 hn_p_59
              replace ha_p_42 := mA (mT2 mI mI) eJ106 ha_p_42
              replace hn_p_83 := (mL (mT2 mI mI)) _ _ _ _ eJ106 hn_p_83
              replace hn_p_84 := (mT2 mI (mL mI)) _ _ _ _ eJ106 hn_p_84
              replace eB := eB.trans eJ106
              replace eL80 := eL80.trans eJ106
              replace eJ101 := eJ101.trans eJ106
              refine ⟨_, rfl, ?_⟩
              refine k_lset (SqL.of (O.mem (List.Mem.head _))) h109 ?_
              refine ⟨_, rfl, ?_⟩
              refine x_nil ?_
              obtain ⟨vs_110, h111, h112⟩ := rL_at hn_p_83
              refine n_lenA (SqL.of (O.ex _ _ h111)) h112 ?_
              refine k_neI ?_
              refine ⟨_, rfl, ?_⟩
              exact k2 _ ⟨H0, eJ106, O⟩
            obtain ⟨H0, eJ106, O⟩ := hJ
            replace hn_p_20 := (mL (mT2 mI mI)) _ _ _ _ eJ106 hn_p_20
            replace hn_p_59 := (mL (mL (mT2 mI mI))) _ _ _ _ eJ106 hn_p_59
            replace ha_p_42 := mA (mT2 mI mI) eJ106 ha_p_42
            replace hn_p_83 := (mL (mT2 mI mI)) _ _ _ _ eJ106 hn_p_83
            replace hn_p_84 := (mT2 mI (mL mI)) _ _ _ _ eJ106 hn_p_84
            replace eB := eB.trans eJ106
            replace eL80 := eL80.trans eJ106
            replace eJ101 := eJ101.trans eJ106
            exact k2 _ ⟨H0, eJ101, O⟩
          obtain ⟨H0, eJ101, O⟩ := hJ
          replace hn_p_20 := (mL (mT2 mI mI)) _ _ _ _ eJ101 hn_p_20
          replace hn_p_59 := (mL (mL (mT2 mI mI))) _ _ _ _ eJ101 hn_p_59
          replace ha_p_42 := mA (mT2 mI mI) eJ101 ha_p_42
          replace hn_p_83 := (mL (mT2 mI mI)) _ _ _ _ eJ101 hn_p_83
          replace hn_p_84 := (mT2 mI (mL mI)) _ _ _ _ eJ101 hn_p_84
          replace eB := eB.trans eJ101
          replace eL80 := eL80.trans eJ101
          refine iteS (c := c_115) (fun h117 => ?_) (fun h117 => ?_)
          · replace hm := ifT hm h117
            -- 146
            refine o_ret ?_
            refine o_c ?_
            obtain rfl := Option.some.inj hm
            obtain rfl := contRt h78
            obtain rfl := finRt h77
            exact RetV.goR k O eB
          · replace hm := ifF hm h117
            refine o_next ?_
            -- 147
            refine o_seq ?_
            refine o_ifs ?_
            refine ⟨_, rfl, _, rfl, ?_⟩
            refine x_nil ?_
            obtain ⟨vs_118, h119, h120⟩ := rL_at hn_p_83
            refine n_lenA (SqL.of (O.ex _ _ h119)) h120 ?_
            refine ⟨_, rfl, ?_⟩
            refine x_nil ?_
            obtain ⟨H0, O, e_, hp_p_99⟩ := O.frz
            replace hn_p_20 := (mL (mT2 mI mI)) _ _ _ _ e_ hn_p_20
            replace hn_p_59 := (mL (mL (mT2 mI mI))) _ _ _ _ e_ hn_p_59
            replace ha_p_42 := mA (mT2 mI mI) e_ ha_p_42
            replace hn_p_83 := (mL (mT2 mI mI)) _ _ _ _ e_ hn_p_83
            replace hn_p_84 := (mT2 mI (mL mI)) _ _ _ _ e_ hn_p_84
            replace eB := eB.trans e_
            replace eL80 := eL80.trans e_
            refine n_tup O (by show 2 ≤ sizeLine; decide) fun p_121 H O => ?_
            obtain ⟨H0, O, e_, hp_p_121⟩ := O.frz
            replace hn_p_20 := (mL (mT2 mI mI)) _ _ _ _ e_ hn_p_20
            replace hn_p_59 := (mL (mL (mT2 mI mI))) _ _ _ _ e_ hn_p_59
            replace ha_p_42 := mA (mT2 mI mI) e_ ha_p_42
            replace hn_p_83 := (mL (mT2 mI mI)) _ _ _ _ e_ hn_p_83
            replace hn_p_84 := (mT2 mI (mL mI)) _ _ _ _ e_ hn_p_84
            replace hp_p_99 := e_ _ _ hp_p_99
            replace eB := eB.trans e_
            replace eL80 := eL80.trans e_
            have hn_p_121 : (rT2 rI (rL rI)) (H0) (.ref p_121) (((List.length row_79 : Int), law_st_97) : Int × (List Int)) := ⟨_, _, _, rfl, hp_p_121, rfl, (gI hp_p_99)⟩
            refine k_geIL ((mT2 mI (mL mI)) _ _ _ _ O.ex hn_p_84) ((mT2 mI (mL mI)) _ _ _ _ O.ex hn_p_121) ?_
            refine ⟨_, rfl, ?_⟩
            refine iteS (c := (!ltIL before_71 ((List.length row_79 : Int), law_st_97))) (fun h122 => ?_) (fun h122 => ?_)
            · replace hm := ifT hm h122
              -- 148
              refine o_ret ?_
              refine o_c ?_
              obtain rfl := Option.some.inj hm
              obtain rfl := contRt h78
              obtain rfl := finRt h77
              exact RetV.goR k O eB
            · replace hm := ifF hm h122
              refine o_next ?_
              -- 149
              refine o_asg ?_
              refine ⟨_, rfl, ?_⟩
              refine x_nil ?_
              obtain ⟨vs_123, h124, h125⟩ := rL_at hn_p_83
              refine n_lenA (SqL.of (O.ex _ _ h124)) h125 ?_
              refine ⟨_, rfl, ?_⟩
              refine x_nil ?_
              refine n_tup O (by show 2 ≤ sizeLine; decide) fun p_126 H O => ?_
              obtain ⟨H0, O, e_, hp_p_126⟩ := O.frz
              replace hn_p_20 := (mL (mT2 mI mI)) _ _ _ _ e_ hn_p_20
              replace hn_p_59 := (mL (mL (mT2 mI mI))) _ _ _ _ e_ hn_p_59
              replace ha_p_42 := mA (mT2 mI mI) e_ ha_p_42
              replace hn_p_83 := (mL (mT2 mI mI)) _ _ _ _ e_ hn_p_83
              replace hn_p_84 := (mT2 mI (mL mI)) _ _ _ _ e_ hn_p_84
              replace hp_p_99 := e_ _ _ hp_p_99
              replace hp_p_121 := e_ _ _ hp_p_121
              replace hn_p_121 := (mT2 mI (mL mI)) _ _ _ _ e_ hn_p_121
              replace eB := eB.trans e_
              replace eL80 := eL80.trans e_
              have hn_p_126 : (rT2 rI (rL rI)) (H0) (.ref p_126) (((List.length row_79 : Int), law_st_97) : Int × (List Int)) := ⟨_, _, _, rfl, hp_p_126, rfl, (gI hp_p_99)⟩
              have Oz := O
              obtain rfl := Option.some.inj hm
              exact ⟨H0, _, (.ref p_126), _, _, _, _, _, _, rfl, eL80, Oz, hn_p_126, h78⟩
      rintro σ H ⟨H0, before_71, w_72, j_67, j_68, j_69, j_70, j_73, j_74, rfl, eJ_, O, hn_w_72, hL⟩
      replace hn_p_20 := (mL (mT2 mI mI)) _ _ _ _ eJ_ hn_p_20
      replace hn_p_59 := (mL (mL (mT2 mI mI))) _ _ _ _ eJ_ hn_p_59
      replace ha_p_42 := mA (mT2 mI mI) eJ_ ha_p_42
      replace eB := eB.trans eJ_
      obtain rfl := loopF_nil hL
      replace hm := finNx h77
      obtain ⟨p_127, rfl⟩ := rT2_ref hn_w_72
      have hn_p_127 := hn_w_72
      -- 150
      refine o_ret ?_
      refine ⟨_, rfl, _, rfl, ?_⟩
      obtain ⟨vs_128, h129, h130⟩ := rL_at hn_p_59
      refine k_inJ (x := l_40) (deL (deT2 deI deI)) (mL (mT2 mI mI)) (by decide) ⟨_, _, rfl, (O.mem (List.Mem.head _)), (mA (mT2 mI mI) O.ex ha_p_42)⟩ (Ex.refl _) (SqL.of (O.ex _ _ h129)) h130 O.ex ?_
      refine ⟨_, rfl, _, rfl, _, _, rfl, rfl, ⟨by decide, by decide⟩, _, _, rfl, rfl, ?_⟩
      refine k_eqB ?_
      obtain rfl := Option.some.inj hm
      exact RetV.goR k O eB
end
theorem walk {l : PySem.W.OpenLaw} {q : Program} {loose : List Str} {XP : (Str → Option Value) → Heap → Prop} {YP : World → Heap → Prop} {d : DefRec} {K : Params → PySem.W.Frag} (M : ∀ ns : List Int, ns.length ≤ 63 → m_law ns = some true) (hn : l.most = some 63) (hdf : d.params.defaults = [])
    (hY : ∀ (w : World) (h : Heap), YP w h → (K w.params).In h)
    (F : ∀ (w : World) (mg : Str → Option Value) (fa : Addr) (h : Heap), (K w.params).In h → h.Ns mainGlobals mg → mg d.name = some (.ref fa) →
      ∃ fd : FuncData, (∀ (s : Shared) (u : Value), BindsTo s fd ⟨[u], []⟩ [("script", u)]) ∧ ∀ base : Heap, (K w.params).In base → base.Ns mainGlobals mg → FnOk l.prog w (K w.params) mg base CX0 6 fa fd ["script"] (sp_law (K w.params))) :
    PySem.W.WalkO q loose XP YP l.row.toRowW d [] (fun f vs => PySem.call f vs) :=
  L2.walk_of (n := 63) (k := 6) (x := "script") (CX := fun _ => CX0) (sp := fun w => sp_law (K w.params)) hn (by decide) hdf ⟨rfl, by decide, by decide⟩ hY F (fun _ _ a ns hl _ hS => ⟨ns, a, true, rfl, hS, M ns hl, fun _ _ => rfl⟩) fun _ _ _ _ _ z => z
theorem packc {K : PySem.W.Frag} {h : Heap} {mg : Str → Option Value} (X : K.In h) (G : h.Ns mainGlobals mg) {C_ReadTail C_SpeakTail C_Seat : Addr} {q_Seat_init : Addr} {oc_Seat_init kV_Seat_init doc_Seat_init pm_Seat_init cdv_Seat_init ct_Seat_init : Value} {od_Seat_init an_Seat_init : Option Addr} {osl_Seat_init : Array (Option Value)} {q_SpeakTail_init : Addr} {oc_SpeakTail_init kV_SpeakTail_init doc_SpeakTail_init pm_SpeakTail_init cdv_SpeakTail_init ct_SpeakTail_init : Value} {od_SpeakTail_init an_SpeakTail_init : Option Addr} {osl_SpeakTail_init : Array (Option Value)} {q_ReadTail_answered : Addr} {oc_ReadTail_answered kV_ReadTail_answered doc_ReadTail_answered pm_ReadTail_answered cdv_ReadTail_answered ct_ReadTail_answered : Value} {od_ReadTail_answered an_ReadTail_answered : Option Addr} {osl_ReadTail_answered : Array (Option Value)} {q_ReadTail_voted : Addr} {oc_ReadTail_voted kV_ReadTail_voted doc_ReadTail_voted pm_ReadTail_voted cdv_ReadTail_voted ct_ReadTail_voted : Value} {od_ReadTail_voted an_ReadTail_voted : Option Addr} {osl_ReadTail_voted : Array (Option Value)} {q_ReadTail_hear : Addr} {oc_ReadTail_hear kV_ReadTail_hear doc_ReadTail_hear pm_ReadTail_hear cdv_ReadTail_hear ct_ReadTail_hear : Value} {od_ReadTail_hear an_ReadTail_hear : Option Addr} {osl_ReadTail_hear : Array (Option Value)} {q_SpeakTail_answered : Addr} {oc_SpeakTail_answered kV_SpeakTail_answered doc_SpeakTail_answered pm_SpeakTail_answered cdv_SpeakTail_answered ct_SpeakTail_answered : Value} {od_SpeakTail_answered an_SpeakTail_answered : Option Addr} {osl_SpeakTail_answered : Array (Option Value)} {q_SpeakTail_voted : Addr} {oc_SpeakTail_voted kV_SpeakTail_voted doc_SpeakTail_voted pm_SpeakTail_voted cdv_SpeakTail_voted ct_SpeakTail_voted : Value} {od_SpeakTail_voted an_SpeakTail_voted : Option Addr} {osl_SpeakTail_voted : Array (Option Value)} {q_SpeakTail_hear : Addr} {oc_SpeakTail_hear kV_SpeakTail_hear doc_SpeakTail_hear pm_SpeakTail_hear cdv_SpeakTail_hear ct_SpeakTail_hear : Value} {od_SpeakTail_hear an_SpeakTail_hear : Option Addr} {osl_SpeakTail_hear : Array (Option Value)} {q_Seat_seat_hears : Addr} {oc_Seat_seat_hears kV_Seat_seat_hears doc_Seat_seat_hears pm_Seat_seat_hears cdv_Seat_seat_hears ct_Seat_seat_hears : Value} {od_Seat_seat_hears an_Seat_seat_hears : Option Addr} {osl_Seat_seat_hears : Array (Option Value)} {q_ReadTail_init : Addr} {oc_ReadTail_init kV_ReadTail_init doc_ReadTail_init pm_ReadTail_init cdv_ReadTail_init ct_ReadTail_init : Value} {od_ReadTail_init an_ReadTail_init : Option Addr} {osl_ReadTail_init : Array (Option Value)} {q_ReadTail_says : Addr} {oc_ReadTail_says kV_ReadTail_says doc_ReadTail_says pm_ReadTail_says cdv_ReadTail_says ct_ReadTail_says : Value} {od_ReadTail_says an_ReadTail_says : Option Addr} {osl_ReadTail_says : Array (Option Value)} {q_SpeakTail_says : Addr} {oc_SpeakTail_says kV_SpeakTail_says doc_SpeakTail_says pm_SpeakTail_says cdv_SpeakTail_says ct_SpeakTail_says : Value} {od_SpeakTail_says an_SpeakTail_says : Option Addr} {osl_SpeakTail_says : Array (Option Value)} {q_Seat_seat_says : Addr} {oc_Seat_seat_says kV_Seat_seat_says doc_Seat_seat_says pm_Seat_seat_says cdv_Seat_seat_says ct_Seat_seat_says : Value} {od_Seat_seat_says an_Seat_seat_says : Option Addr} {osl_Seat_seat_says : Array (Option Value)} (a_ReadTail : PySem.W.nsIn K mainGlobals "ReadTail" = some (some (.ref C_ReadTail))) (pg_ReadTail : PySem.W.plainGet K C_ReadTail Str.empty = true) (hd_ReadTail : PySem.W.hasDictIn K C_ReadTail = true) (po_ReadTail : PySem.W.plainOver K C_ReadTail = true) (sa_ReadTail : PySem.W.findIn K (.ref C_ReadTail) "__setattr__" = some (some (.builtin "object.__setattr__"))) (a_SpeakTail : PySem.W.nsIn K mainGlobals "SpeakTail" = some (some (.ref C_SpeakTail))) (pg_SpeakTail : PySem.W.plainGet K C_SpeakTail Str.empty = true) (hd_SpeakTail : PySem.W.hasDictIn K C_SpeakTail = true) (po_SpeakTail : PySem.W.plainOver K C_SpeakTail = true) (sa_SpeakTail : PySem.W.findIn K (.ref C_SpeakTail) "__setattr__" = some (some (.builtin "object.__setattr__"))) (a_Seat : PySem.W.nsIn K mainGlobals "Seat" = some (some (.ref C_Seat))) (pg_Seat : PySem.W.plainGet K C_Seat Str.empty = true) (hd_Seat : PySem.W.hasDictIn K C_Seat = true) (po_Seat : PySem.W.plainOver K C_Seat = true) (sa_Seat : PySem.W.findIn K (.ref C_Seat) "__setattr__" = some (some (.builtin "object.__setattr__"))) (n_ReadTail_noughts : PySem.W.findIn K (.ref C_ReadTail) "noughts" = some none) (n_ReadTail_over : PySem.W.findIn K (.ref C_ReadTail) "over" = some none) (n_ReadTail_votes : PySem.W.findIn K (.ref C_ReadTail) "votes" = some none) (n_Seat_flags : PySem.W.findIn K (.ref C_Seat) "flags" = some none) (n_Seat_tail : PySem.W.findIn K (.ref C_Seat) "tail" = some none) (n_Seat_verdict : PySem.W.findIn K (.ref C_Seat) "verdict" = some none) (n_SpeakTail_noughts : PySem.W.findIn K (.ref C_SpeakTail) "noughts" = some none) (n_SpeakTail_over : PySem.W.findIn K (.ref C_SpeakTail) "over" = some none) (n_SpeakTail_votes : PySem.W.findIn K (.ref C_SpeakTail) "votes" = some none) (at_Seat_init : PySem.W.findIn K (.ref C_Seat) "__init__" = some (some (.ref q_Seat_init))) (if_Seat_init : PySem.W.isFn K (.ref q_Seat_init) = true) (il_Seat_init : K.lookup q_Seat_init = some ⟨oc_Seat_init, od_Seat_init, .func (PySem.W.fnOf "__init__" "Seat.__init__" (defArgs s_Seat_init) (defBody s_Seat_init) (defScope s_Seat_init) .none kV_Seat_init doc_Seat_init pm_Seat_init an_Seat_init cdv_Seat_init ct_Seat_init), osl_Seat_init⟩) (ic_Seat_init : PySem.W.codeIn K cdv_Seat_init "Seat.__init__" = true) (ik_Seat_init : PySem.W.keepIn K (.ref q_Seat_init) = true) (at_SpeakTail_init : PySem.W.findIn K (.ref C_SpeakTail) "__init__" = some (some (.ref q_SpeakTail_init))) (if_SpeakTail_init : PySem.W.isFn K (.ref q_SpeakTail_init) = true) (il_SpeakTail_init : K.lookup q_SpeakTail_init = some ⟨oc_SpeakTail_init, od_SpeakTail_init, .func (PySem.W.fnOf "__init__" "Tail.__init__" (defArgs s_SpeakTail_init) (defBody s_SpeakTail_init) (defScope s_SpeakTail_init) .none kV_SpeakTail_init doc_SpeakTail_init pm_SpeakTail_init an_SpeakTail_init cdv_SpeakTail_init ct_SpeakTail_init), osl_SpeakTail_init⟩) (ic_SpeakTail_init : PySem.W.codeIn K cdv_SpeakTail_init "Tail.__init__" = true) (ik_SpeakTail_init : PySem.W.keepIn K (.ref q_SpeakTail_init) = true) (at_ReadTail_answered : PySem.W.findIn K (.ref C_ReadTail) "answered" = some (some (.ref q_ReadTail_answered))) (if_ReadTail_answered : PySem.W.isFn K (.ref q_ReadTail_answered) = true) (il_ReadTail_answered : K.lookup q_ReadTail_answered = some ⟨oc_ReadTail_answered, od_ReadTail_answered, .func (PySem.W.fnOf "answered" "Tail.answered" (defArgs s_ReadTail_answered) (defBody s_ReadTail_answered) (defScope s_ReadTail_answered) .none kV_ReadTail_answered doc_ReadTail_answered pm_ReadTail_answered an_ReadTail_answered cdv_ReadTail_answered ct_ReadTail_answered), osl_ReadTail_answered⟩) (ic_ReadTail_answered : PySem.W.codeIn K cdv_ReadTail_answered "Tail.answered" = true) (ik_ReadTail_answered : PySem.W.keepIn K (.ref q_ReadTail_answered) = true) (at_ReadTail_voted : PySem.W.findIn K (.ref C_ReadTail) "voted" = some (some (.ref q_ReadTail_voted))) (if_ReadTail_voted : PySem.W.isFn K (.ref q_ReadTail_voted) = true) (il_ReadTail_voted : K.lookup q_ReadTail_voted = some ⟨oc_ReadTail_voted, od_ReadTail_voted, .func (PySem.W.fnOf "voted" "Tail.voted" (defArgs s_ReadTail_voted) (defBody s_ReadTail_voted) (defScope s_ReadTail_voted) .none kV_ReadTail_voted doc_ReadTail_voted pm_ReadTail_voted an_ReadTail_voted cdv_ReadTail_voted ct_ReadTail_voted), osl_ReadTail_voted⟩) (ic_ReadTail_voted : PySem.W.codeIn K cdv_ReadTail_voted "Tail.voted" = true) (ik_ReadTail_voted : PySem.W.keepIn K (.ref q_ReadTail_voted) = true) (at_ReadTail_hear : PySem.W.findIn K (.ref C_ReadTail) "hear" = some (some (.ref q_ReadTail_hear))) (if_ReadTail_hear : PySem.W.isFn K (.ref q_ReadTail_hear) = true) (il_ReadTail_hear : K.lookup q_ReadTail_hear = some ⟨oc_ReadTail_hear, od_ReadTail_hear, .func (PySem.W.fnOf "hear" "Tail.hear" (defArgs s_ReadTail_hear) (defBody s_ReadTail_hear) (defScope s_ReadTail_hear) .none kV_ReadTail_hear doc_ReadTail_hear pm_ReadTail_hear an_ReadTail_hear cdv_ReadTail_hear ct_ReadTail_hear), osl_ReadTail_hear⟩) (ic_ReadTail_hear : PySem.W.codeIn K cdv_ReadTail_hear "Tail.hear" = true) (ik_ReadTail_hear : PySem.W.keepIn K (.ref q_ReadTail_hear) = true) (at_SpeakTail_answered : PySem.W.findIn K (.ref C_SpeakTail) "answered" = some (some (.ref q_SpeakTail_answered))) (if_SpeakTail_answered : PySem.W.isFn K (.ref q_SpeakTail_answered) = true) (il_SpeakTail_answered : K.lookup q_SpeakTail_answered = some ⟨oc_SpeakTail_answered, od_SpeakTail_answered, .func (PySem.W.fnOf "answered" "SpeakTail.answered" (defArgs s_SpeakTail_answered) (defBody s_SpeakTail_answered) (defScope s_SpeakTail_answered) .none kV_SpeakTail_answered doc_SpeakTail_answered pm_SpeakTail_answered an_SpeakTail_answered cdv_SpeakTail_answered ct_SpeakTail_answered), osl_SpeakTail_answered⟩) (ic_SpeakTail_answered : PySem.W.codeIn K cdv_SpeakTail_answered "SpeakTail.answered" = true) (ik_SpeakTail_answered : PySem.W.keepIn K (.ref q_SpeakTail_answered) = true) (at_SpeakTail_voted : PySem.W.findIn K (.ref C_SpeakTail) "voted" = some (some (.ref q_SpeakTail_voted))) (if_SpeakTail_voted : PySem.W.isFn K (.ref q_SpeakTail_voted) = true) (il_SpeakTail_voted : K.lookup q_SpeakTail_voted = some ⟨oc_SpeakTail_voted, od_SpeakTail_voted, .func (PySem.W.fnOf "voted" "Tail.voted" (defArgs s_SpeakTail_voted) (defBody s_SpeakTail_voted) (defScope s_SpeakTail_voted) .none kV_SpeakTail_voted doc_SpeakTail_voted pm_SpeakTail_voted an_SpeakTail_voted cdv_SpeakTail_voted ct_SpeakTail_voted), osl_SpeakTail_voted⟩) (ic_SpeakTail_voted : PySem.W.codeIn K cdv_SpeakTail_voted "Tail.voted" = true) (ik_SpeakTail_voted : PySem.W.keepIn K (.ref q_SpeakTail_voted) = true) (at_SpeakTail_hear : PySem.W.findIn K (.ref C_SpeakTail) "hear" = some (some (.ref q_SpeakTail_hear))) (if_SpeakTail_hear : PySem.W.isFn K (.ref q_SpeakTail_hear) = true) (il_SpeakTail_hear : K.lookup q_SpeakTail_hear = some ⟨oc_SpeakTail_hear, od_SpeakTail_hear, .func (PySem.W.fnOf "hear" "Tail.hear" (defArgs s_SpeakTail_hear) (defBody s_SpeakTail_hear) (defScope s_SpeakTail_hear) .none kV_SpeakTail_hear doc_SpeakTail_hear pm_SpeakTail_hear an_SpeakTail_hear cdv_SpeakTail_hear ct_SpeakTail_hear), osl_SpeakTail_hear⟩) (ic_SpeakTail_hear : PySem.W.codeIn K cdv_SpeakTail_hear "Tail.hear" = true) (ik_SpeakTail_hear : PySem.W.keepIn K (.ref q_SpeakTail_hear) = true) (at_Seat_seat_hears : PySem.W.findIn K (.ref C_Seat) "seat_hears" = some (some (.ref q_Seat_seat_hears))) (if_Seat_seat_hears : PySem.W.isFn K (.ref q_Seat_seat_hears) = true) (il_Seat_seat_hears : K.lookup q_Seat_seat_hears = some ⟨oc_Seat_seat_hears, od_Seat_seat_hears, .func (PySem.W.fnOf "seat_hears" "Seat.seat_hears" (defArgs s_Seat_seat_hears) (defBody s_Seat_seat_hears) (defScope s_Seat_seat_hears) .none kV_Seat_seat_hears doc_Seat_seat_hears pm_Seat_seat_hears an_Seat_seat_hears cdv_Seat_seat_hears ct_Seat_seat_hears), osl_Seat_seat_hears⟩) (ic_Seat_seat_hears : PySem.W.codeIn K cdv_Seat_seat_hears "Seat.seat_hears" = true) (ik_Seat_seat_hears : PySem.W.keepIn K (.ref q_Seat_seat_hears) = true) (at_ReadTail_init : PySem.W.findIn K (.ref C_ReadTail) "__init__" = some (some (.ref q_ReadTail_init))) (if_ReadTail_init : PySem.W.isFn K (.ref q_ReadTail_init) = true) (il_ReadTail_init : K.lookup q_ReadTail_init = some ⟨oc_ReadTail_init, od_ReadTail_init, .func (PySem.W.fnOf "__init__" "Tail.__init__" (defArgs s_ReadTail_init) (defBody s_ReadTail_init) (defScope s_ReadTail_init) .none kV_ReadTail_init doc_ReadTail_init pm_ReadTail_init an_ReadTail_init cdv_ReadTail_init ct_ReadTail_init), osl_ReadTail_init⟩) (ic_ReadTail_init : PySem.W.codeIn K cdv_ReadTail_init "Tail.__init__" = true) (ik_ReadTail_init : PySem.W.keepIn K (.ref q_ReadTail_init) = true) (at_ReadTail_says : PySem.W.findIn K (.ref C_ReadTail) "says" = some (some (.ref q_ReadTail_says))) (if_ReadTail_says : PySem.W.isFn K (.ref q_ReadTail_says) = true) (il_ReadTail_says : K.lookup q_ReadTail_says = some ⟨oc_ReadTail_says, od_ReadTail_says, .func (PySem.W.fnOf "says" "ReadTail.says" (defArgs s_ReadTail_says) (defBody s_ReadTail_says) (defScope s_ReadTail_says) .none kV_ReadTail_says doc_ReadTail_says pm_ReadTail_says an_ReadTail_says cdv_ReadTail_says ct_ReadTail_says), osl_ReadTail_says⟩) (ic_ReadTail_says : PySem.W.codeIn K cdv_ReadTail_says "ReadTail.says" = true) (ik_ReadTail_says : PySem.W.keepIn K (.ref q_ReadTail_says) = true) (at_SpeakTail_says : PySem.W.findIn K (.ref C_SpeakTail) "says" = some (some (.ref q_SpeakTail_says))) (if_SpeakTail_says : PySem.W.isFn K (.ref q_SpeakTail_says) = true) (il_SpeakTail_says : K.lookup q_SpeakTail_says = some ⟨oc_SpeakTail_says, od_SpeakTail_says, .func (PySem.W.fnOf "says" "Tail.says" (defArgs s_SpeakTail_says) (defBody s_SpeakTail_says) (defScope s_SpeakTail_says) .none kV_SpeakTail_says doc_SpeakTail_says pm_SpeakTail_says an_SpeakTail_says cdv_SpeakTail_says ct_SpeakTail_says), osl_SpeakTail_says⟩) (ic_SpeakTail_says : PySem.W.codeIn K cdv_SpeakTail_says "Tail.says" = true) (ik_SpeakTail_says : PySem.W.keepIn K (.ref q_SpeakTail_says) = true) (at_Seat_seat_says : PySem.W.findIn K (.ref C_Seat) "seat_says" = some (some (.ref q_Seat_seat_says))) (if_Seat_seat_says : PySem.W.isFn K (.ref q_Seat_seat_says) = true) (il_Seat_seat_says : K.lookup q_Seat_seat_says = some ⟨oc_Seat_seat_says, od_Seat_seat_says, .func (PySem.W.fnOf "seat_says" "Seat.seat_says" (defArgs s_Seat_seat_says) (defBody s_Seat_seat_says) (defScope s_Seat_seat_says) .none kV_Seat_seat_says doc_Seat_seat_says pm_Seat_seat_says an_Seat_seat_says cdv_Seat_seat_says ct_Seat_seat_says), osl_Seat_seat_says⟩) (ic_Seat_seat_says : PySem.W.codeIn K cdv_Seat_seat_says "Seat.seat_says" = true) (ik_Seat_seat_says : PySem.W.keepIn K (.ref q_Seat_seat_says) = true) (mk_ReadTail : PySem.W.makesIn K C_ReadTail = true) (kc_ReadTail : PySem.W.keepIn K (.ref C_ReadTail) = true) (mk_Seat : PySem.W.makesIn K C_Seat = true) (kc_Seat : PySem.W.keepIn K (.ref C_Seat) = true) (mk_SpeakTail : PySem.W.makesIn K C_SpeakTail = true) (kc_SpeakTail : PySem.W.keepIn K (.ref C_SpeakTail) = true) :
  ∃ (c_ReadTail c_SpeakTail c_Seat f_Seat_init f_SpeakTail_init f_ReadTail_answered f_ReadTail_voted f_ReadTail_hear f_SpeakTail_answered f_SpeakTail_voted f_SpeakTail_hear f_Seat_seat_hears f_ReadTail_init f_ReadTail_says f_SpeakTail_says f_Seat_seat_says : Addr) (fd_Seat_init fd_SpeakTail_init fd_ReadTail_answered fd_ReadTail_voted fd_ReadTail_hear fd_SpeakTail_answered fd_SpeakTail_voted fd_SpeakTail_hear fd_Seat_seat_hears fd_ReadTail_init fd_ReadTail_says fd_SpeakTail_says fd_Seat_seat_says : FuncData), Cls K c_ReadTail ∧ Cls K c_SpeakTail ∧ Cls K c_Seat ∧ NoAttr K c_ReadTail "noughts" ∧ NoAttr K c_ReadTail "over" ∧ NoAttr K c_ReadTail "votes" ∧ NoAttr K c_Seat "flags" ∧ NoAttr K c_Seat "tail" ∧ NoAttr K c_Seat "verdict" ∧ NoAttr K c_SpeakTail "noughts" ∧ NoAttr K c_SpeakTail "over" ∧ NoAttr K c_SpeakTail "votes" ∧ L2.Fun K "__init__" "Seat.__init__" s_Seat_init f_Seat_init fd_Seat_init ∧ L2.Fun K "__init__" "Tail.__init__" s_SpeakTail_init f_SpeakTail_init fd_SpeakTail_init ∧ L2.Fun K "answered" "Tail.answered" s_ReadTail_answered f_ReadTail_answered fd_ReadTail_answered ∧ L2.Fun K "voted" "Tail.voted" s_ReadTail_voted f_ReadTail_voted fd_ReadTail_voted ∧ L2.Fun K "hear" "Tail.hear" s_ReadTail_hear f_ReadTail_hear fd_ReadTail_hear ∧ L2.Fun K "answered" "SpeakTail.answered" s_SpeakTail_answered f_SpeakTail_answered fd_SpeakTail_answered ∧ L2.Fun K "voted" "Tail.voted" s_SpeakTail_voted f_SpeakTail_voted fd_SpeakTail_voted ∧ L2.Fun K "hear" "Tail.hear" s_SpeakTail_hear f_SpeakTail_hear fd_SpeakTail_hear ∧ L2.Fun K "seat_hears" "Seat.seat_hears" s_Seat_seat_hears f_Seat_seat_hears fd_Seat_seat_hears ∧ L2.Fun K "__init__" "Tail.__init__" s_ReadTail_init f_ReadTail_init fd_ReadTail_init ∧ L2.Fun K "says" "ReadTail.says" s_ReadTail_says f_ReadTail_says fd_ReadTail_says ∧ L2.Fun K "says" "Tail.says" s_SpeakTail_says f_SpeakTail_says fd_SpeakTail_says ∧ L2.Fun K "seat_says" "Seat.seat_says" s_Seat_seat_says f_Seat_seat_says fd_Seat_seat_says ∧ Meth K c_ReadTail "answered" f_ReadTail_answered ∧ Meth K c_ReadTail "hear" f_ReadTail_hear ∧ Meth K c_ReadTail "says" f_ReadTail_says ∧ Meth K c_ReadTail "voted" f_ReadTail_voted ∧ Meth K c_Seat "seat_hears" f_Seat_seat_hears ∧ Meth K c_Seat "seat_says" f_Seat_seat_says ∧ Meth K c_SpeakTail "answered" f_SpeakTail_answered ∧ Meth K c_SpeakTail "hear" f_SpeakTail_hear ∧ Meth K c_SpeakTail "says" f_SpeakTail_says ∧ Meth K c_SpeakTail "voted" f_SpeakTail_voted ∧ Mk K c_ReadTail f_ReadTail_init ∧ mg "ReadTail" = some (.ref c_ReadTail) ∧ Mk K c_Seat f_Seat_init ∧ mg "Seat" = some (.ref c_Seat) ∧ Mk K c_SpeakTail f_SpeakTail_init ∧ mg "SpeakTail" = some (.ref c_SpeakTail) :=
  ⟨C_ReadTail, C_SpeakTail, C_Seat, q_Seat_init, q_SpeakTail_init, q_ReadTail_answered, q_ReadTail_voted, q_ReadTail_hear, q_SpeakTail_answered, q_SpeakTail_voted, q_SpeakTail_hear, q_Seat_seat_hears, q_ReadTail_init, q_ReadTail_says, q_SpeakTail_says, q_Seat_seat_says, _, _, _, _, _, _, _, _, _, _, _, _, _, ⟨pg_ReadTail, hd_ReadTail, po_ReadTail, sa_ReadTail⟩, ⟨pg_SpeakTail, hd_SpeakTail, po_SpeakTail, sa_SpeakTail⟩, ⟨pg_Seat, hd_Seat, po_Seat, sa_Seat⟩, n_ReadTail_noughts, n_ReadTail_over, n_ReadTail_votes, n_Seat_flags, n_Seat_tail, n_Seat_verdict, n_SpeakTail_noughts, n_SpeakTail_over, n_SpeakTail_votes, L2.fun_mk il_Seat_init ic_Seat_init ik_Seat_init, L2.fun_mk il_SpeakTail_init ic_SpeakTail_init ik_SpeakTail_init, L2.fun_mk il_ReadTail_answered ic_ReadTail_answered ik_ReadTail_answered, L2.fun_mk il_ReadTail_voted ic_ReadTail_voted ik_ReadTail_voted, L2.fun_mk il_ReadTail_hear ic_ReadTail_hear ik_ReadTail_hear, L2.fun_mk il_SpeakTail_answered ic_SpeakTail_answered ik_SpeakTail_answered, L2.fun_mk il_SpeakTail_voted ic_SpeakTail_voted ik_SpeakTail_voted, L2.fun_mk il_SpeakTail_hear ic_SpeakTail_hear ik_SpeakTail_hear, L2.fun_mk il_Seat_seat_hears ic_Seat_seat_hears ik_Seat_seat_hears, L2.fun_mk il_ReadTail_init ic_ReadTail_init ik_ReadTail_init, L2.fun_mk il_ReadTail_says ic_ReadTail_says ik_ReadTail_says, L2.fun_mk il_SpeakTail_says ic_SpeakTail_says ik_SpeakTail_says, L2.fun_mk il_Seat_seat_says ic_Seat_seat_says ik_Seat_seat_says, ⟨at_ReadTail_answered, if_ReadTail_answered, ik_ReadTail_answered⟩, ⟨at_ReadTail_hear, if_ReadTail_hear, ik_ReadTail_hear⟩, ⟨at_ReadTail_says, if_ReadTail_says, ik_ReadTail_says⟩, ⟨at_ReadTail_voted, if_ReadTail_voted, ik_ReadTail_voted⟩, ⟨at_Seat_seat_hears, if_Seat_seat_hears, ik_Seat_seat_hears⟩, ⟨at_Seat_seat_says, if_Seat_seat_says, ik_Seat_seat_says⟩, ⟨at_SpeakTail_answered, if_SpeakTail_answered, ik_SpeakTail_answered⟩, ⟨at_SpeakTail_hear, if_SpeakTail_hear, ik_SpeakTail_hear⟩, ⟨at_SpeakTail_says, if_SpeakTail_says, ik_SpeakTail_says⟩, ⟨at_SpeakTail_voted, if_SpeakTail_voted, ik_SpeakTail_voted⟩, ⟨mk_ReadTail, at_ReadTail_init, if_ReadTail_init, kc_ReadTail⟩, PySem.W.mg_of X G a_ReadTail, ⟨mk_Seat, at_Seat_init, if_Seat_init, kc_Seat⟩, PySem.W.mg_of X G a_Seat, ⟨mk_SpeakTail, at_SpeakTail_init, if_SpeakTail_init, kc_SpeakTail⟩, PySem.W.mg_of X G a_SpeakTail⟩
theorem pack {K : PySem.W.Frag} {h : Heap} {mg : Str → Option Value} (X : K.In h) (G : h.Ns mainGlobals mg) {A_NoPost : Addr} (a_NoPost : PySem.W.nsIn K mainGlobals "NoPost" = some (some (.ref A_NoPost))) (e_NoPost : PySem.W.excIn K A_NoPost [.type "ValueError", .type "Exception", .type "BaseException", .type "object"] "ValueError.__new__" = true) (k_NoPost : PySem.W.keepIn K (.ref A_NoPost) = true) (s_NoPost : PySem.W.subIn K (.ref A_NoPost) (.type "BaseException") = some true) (t_NoPost : PySem.W.typeIn K (.ref A_NoPost) = some (.type "type")) :
  ∃ (es : Eds), mg "NoPost" = some (.ref es.NoPost) ∧ ErrC K mg "NoPost" es.NoPost :=
  ⟨(⟨A_NoPost, A_NoPost, A_NoPost, A_NoPost, A_NoPost, A_NoPost, A_NoPost, A_NoPost, A_NoPost, A_NoPost, A_NoPost⟩ : Eds), PySem.W.mg_of X G a_NoPost, ⟨PySem.W.mg_of X G a_NoPost, e_NoPost, k_NoPost, s_NoPost, t_NoPost⟩⟩
end Bt

/-! Sums without carries, over Nat. -/
namespace Bt
open PySem L2
theorem bx (a b : Nat) : Builtin.bitXor (a : Int) (b : Int) = ((a ^^^ b : Nat) : Int) := Bits.bitXor_pp (Int.natCast_nonneg a) (Int.natCast_nonneg b)
theorem ba (a b : Nat) : Builtin.bitAnd (a : Int) (b : Int) = ((a &&& b : Nat) : Int) := PyProof.Rows.bitAnd_pp (Int.natCast_nonneg a) (Int.natCast_nonneg b)
theorem ba1 (a : Nat) : Builtin.bitAnd (a : Int) 1 = ((a % 2 : Nat) : Int) := by
  have h := ba a 1
  rw [Nat.and_one_is_mod] at h
  exact h
/-- the product without carries -/
def clm (a b : Nat) : Nat := if h : b = 0 then 0 else (if b % 2 = 1 then a else 0) ^^^ clm (2 * a) (b / 2)
termination_by b
decreasing_by omega
theorem clm_zero (a : Nat) : clm a 0 = 0 := by unfold clm; rfl
theorem clm_step (a b : Nat) : clm a b = (if b % 2 = 1 then a else 0) ^^^ clm (2 * a) (b / 2) := by
  by_cases h : b = 0
  · subst h
    rw [clm_zero]
    simp [clm_zero]
  · rw [clm]
    simp [h]
theorem xor4 (a b c d : Nat) : (a ^^^ b) ^^^ (c ^^^ d) = (a ^^^ c) ^^^ (b ^^^ d) := by
  rw [Nat.xor_assoc, Nat.xor_assoc, ← Nat.xor_assoc b c d, Nat.xor_comm b c, Nat.xor_assoc c b d]
theorem two_xor (a b : Nat) : 2 * (a ^^^ b) = (2 * a) ^^^ (2 * b) := by
  have h1 := Nat.xor_div_two (a := 2 * a) (b := 2 * b)
  have h2 := Nat.xor_mod_two_eq_one (a := 2 * a) (b := 2 * b)
  rw [show 2 * a / 2 = a from by omega, show 2 * b / 2 = b from by omega] at h1
  have h3 : ¬ (2 * a ^^^ 2 * b) % 2 = 1 := by rw [h2]; omega
  omega
theorem two_xor1 (k : Nat) : (2 * k) ^^^ 1 = 2 * k + 1 := by
  have h1 := Nat.xor_div_two (a := 2 * k) (b := 1)
  have h2 := Nat.xor_mod_two_eq_one (a := 2 * k) (b := 1)
  rw [show 2 * k / 2 = k from by omega, show 1 / 2 = 0 from rfl, Nat.xor_zero] at h1
  have h3 : (2 * k ^^^ 1) % 2 = 1 := by rw [h2]; omega
  omega
theorem clm_xor_right : ∀ (n : Nat) (a b c : Nat), b + c ≤ n → clm a (b ^^^ c) = clm a b ^^^ clm a c
  | 0, a, b, c, h => by
    obtain ⟨rfl, rfl⟩ : b = 0 ∧ c = 0 := by omega
    simp [clm_zero]
  | n + 1, a, b, c, h => by
    by_cases h0 : b = 0 ∧ c = 0
    · obtain ⟨rfl, rfl⟩ := h0
      simp [clm_zero]
    rw [clm_step a (b ^^^ c), clm_step a b, clm_step a c, Nat.xor_div_two, clm_xor_right n (2 * a) (b / 2) (c / 2) (by omega), xor4]
    congr 1
    have hm := Nat.xor_mod_two_eq_one (a := b) (b := c)
    by_cases h1 : b % 2 = 1 <;> by_cases h2 : c % 2 = 1
    · rw [if_neg (by rw [hm]; simp [h1, h2]), if_pos h1, if_pos h2, Nat.xor_self]
    · rw [if_pos (by rw [hm]; simp [h1, h2]), if_pos h1, if_neg h2, Nat.xor_zero]
    · rw [if_pos (by rw [hm]; simp [h1, h2]), if_neg h1, if_pos h2, Nat.zero_xor]
    · rw [if_neg (by rw [hm]; simp [h1, h2]), if_neg h1, if_neg h2, Nat.xor_zero]
theorem clm_xr (a b c : Nat) : clm a (b ^^^ c) = clm a b ^^^ clm a c := clm_xor_right _ a b c (Nat.le_refl _)
theorem clm_two : ∀ (n a b : Nat), b ≤ n → clm (2 * a) b = 2 * clm a b
  | 0, a, b, h => by
    obtain rfl : b = 0 := by omega
    rw [clm_zero, clm_zero]
  | n + 1, a, b, h => by
    by_cases h0 : b = 0
    · subst h0; rw [clm_zero, clm_zero]
    rw [clm_step (2 * a) b, clm_step a b, clm_two n (2 * a) (b / 2) (by omega), two_xor]
    congr 1
    by_cases h1 : b % 2 = 1
    · rw [if_pos h1, if_pos h1]
    · rw [if_neg h1, if_neg h1]
theorem clm_tl (a b : Nat) : clm (2 * a) b = 2 * clm a b := clm_two b a b (Nat.le_refl _)
theorem clm_xl : ∀ (n a b c : Nat), c ≤ n → clm (a ^^^ b) c = clm a c ^^^ clm b c
  | 0, a, b, c, h => by
    obtain rfl : c = 0 := by omega
    simp [clm_zero]
  | n + 1, a, b, c, h => by
    by_cases h0 : c = 0
    · subst h0; simp [clm_zero]
    rw [clm_step (a ^^^ b) c, clm_step a c, clm_step b c, two_xor, clm_xl n (2 * a) (2 * b) (c / 2) (by omega), xor4]
    congr 1
    by_cases h1 : c % 2 = 1
    · rw [if_pos h1, if_pos h1, if_pos h1]
    · rw [if_neg h1, if_neg h1, if_neg h1, Nat.xor_zero]
theorem clm_xl' (a b c : Nat) : clm (a ^^^ b) c = clm a c ^^^ clm b c := clm_xl c a b c (Nat.le_refl _)
theorem clm_tr (a b : Nat) : clm a (2 * b) = 2 * clm a b := by
  rw [clm_step a (2 * b), if_neg (by omega), Nat.zero_xor, show 2 * b / 2 = b from by omega, clm_tl]
theorem zero_clm : ∀ (n b : Nat), b ≤ n → clm 0 b = 0
  | 0, b, h => by
    obtain rfl : b = 0 := by omega
    exact clm_zero 0
  | n + 1, b, h => by
    by_cases h0 : b = 0
    · subst h0; exact clm_zero 0
    rw [clm_step, zero_clm n (b / 2) (by omega)]
    split <;> rfl
theorem clm_zl (b : Nat) : clm 0 b = 0 := zero_clm b b (Nat.le_refl _)
theorem one_clm : ∀ (n b : Nat), b ≤ n → clm 1 b = b
  | 0, b, h => by
    obtain rfl : b = 0 := by omega
    exact clm_zero 1
  | n + 1, b, h => by
    by_cases h0 : b = 0
    · subst h0; exact clm_zero 1
    rw [clm_step, clm_tl 1, one_clm n (b / 2) (by omega)]
    by_cases h1 : b % 2 = 1
    · rw [if_pos h1]
      rw [Nat.xor_comm, two_xor1]
      omega
    · rw [if_neg h1, Nat.zero_xor]
      omega
theorem clm_ol (b : Nat) : clm 1 b = b := one_clm b b (Nat.le_refl _)
theorem clm_or (a : Nat) : clm a 1 = a := by
  rw [clm_step, if_pos rfl, show 1 / 2 = 0 from rfl, clm_zero, Nat.xor_zero]
theorem split_bit (b : Nat) : b = (2 * (b / 2)) ^^^ (b % 2) := by
  rcases Nat.mod_two_eq_zero_or_one b with h | h
  · rw [h, Nat.xor_zero]; omega
  · rw [h, two_xor1]
    omega
theorem clm_cm : ∀ (n a b : Nat), b ≤ n → clm a b = clm b a
  | 0, a, b, h => by
    obtain rfl : b = 0 := by omega
    rw [clm_zero, clm_zl]
  | n + 1, a, b, h => by
    by_cases h0 : b = 0
    · subst h0; rw [clm_zero, clm_zl]
    have e := split_bit b
    have ih := clm_cm n a (b / 2) (by omega)
    have h1 : clm a b = 2 * clm a (b / 2) ^^^ clm a (b % 2) := by
      conv => lhs; rw [e]
      rw [clm_xr, clm_tr]
    have h2 : clm b a = 2 * clm (b / 2) a ^^^ clm (b % 2) a := by
      conv => lhs; rw [e]
      rw [clm_xl', clm_tl]
    rw [h1, h2, ih]
    congr 1
    rcases Nat.mod_two_eq_zero_or_one b with q | q
    · rw [q, clm_zero, clm_zl]
    · rw [q, clm_or, clm_ol]
theorem clm_comm (a b : Nat) : clm a b = clm b a := clm_cm b a b (Nat.le_refl _)
/-- the same, power by power -/
def pws (a b : Nat) : Nat → Nat
  | 0 => 0
  | n + 1 => pws a b n ^^^ (if b / 2 ^ n % 2 = 1 then a * 2 ^ n else 0)
theorem pws_shift (a b : Nat) : ∀ n : Nat, pws a b (n + 1) = (if b % 2 = 1 then a else 0) ^^^ pws (2 * a) (b / 2) n
  | 0 => by simp [pws]
  | n + 1 => by
    have ih := pws_shift a b n
    show pws a b (n + 1) ^^^ _ = _ ^^^ (pws (2 * a) (b / 2) n ^^^ _)
    rw [ih, Nat.xor_assoc]
    have e1 : b / 2 ^ (n + 1) = b / 2 / 2 ^ n := by rw [Nat.div_div_eq_div_mul, Nat.pow_succ, Nat.mul_comm]
    have e2 : a * 2 ^ (n + 1) = 2 * a * 2 ^ n := by rw [Nat.pow_succ]; ac_rfl
    rw [e1, e2]
theorem pws_clm : ∀ (n a b : Nat), b < 2 ^ n → pws a b n = clm a b
  | 0, a, b, h => by
    obtain rfl : b = 0 := by simp at h; omega
    rw [clm_zero]; rfl
  | n + 1, a, b, h => by
    rw [pws_shift, clm_step, pws_clm n (2 * a) (b / 2) (by rw [Nat.pow_succ] at h; omega)]
end Bt
namespace Bt
open PySem L2
theorem shrN (a k : Nat) : shrG (a : Int) (k : Int) = some ((a / 2 ^ k : Nat) : Int) := by
  rw [shrG_ok (by omega), Int.toNat_natCast, Int.natCast_ediv, Int.natCast_pow]; rfl
theorem shlN {a n : Nat} (k : Nat) (h : a < 2 ^ n) (hn : n + k ≤ 90000000) : shlG (a : Int) (k : Int) = some ((a * 2 ^ k : Nat) : Int) := by
  rw [shlG_ok (n := n) (by omega) (by omega) (by omega), Int.toNat_natCast, Int.natCast_mul, Int.natCast_pow]; rfl
theorem emod_nat {z m : Int} (hm : 0 < m) : ∃ n : Nat, z % m = (n : Int) ∧ (n : Int) < m := by
  obtain ⟨n, hn⟩ := Int.eq_ofNat_of_zero_le (Int.emod_nonneg z (by omega : m ≠ 0))
  exact ⟨n, hn, by rw [← hn]; exact Int.emod_lt_of_pos z hm⟩
theorem testBit_div (x k : Nat) : x.testBit k = decide (x / 2 ^ k % 2 = 1) := by
  rw [Nat.testBit_eq_decide_div_mod_eq]
end Bt

/-! The laws' own draw: the same text in all of them. -/
namespace Bt
open PySem L2
theorem draw_ok (ns : List Int) (k many : Int) (hk : 0 ≤ k) (hk2 : k ≤ 1000000000) (hm : 0 < many) : ∃ v, m__law_draw ns k many = some v ∧ 0 ≤ v ∧ v < many := by
  have hc : ∃ c, (ifB (decide ((0 : Int) < (List.length ns : Int))) (bnd (modG k (List.length ns : Int)) fun t => bnd (atI ns t) fun e => some e) (some (0 : Int))) = some c := by
    by_cases h : (0 : Int) < (List.length ns : Int)
    · rw [decide_eq_true h, ifB_t, modG_ok h, bnd_some]
      obtain ⟨x, hx, _⟩ := atI_mem (xs := ns) (i := k % (ns.length : Int)) (Int.emod_nonneg _ (by omega)) (Int.emod_lt_of_pos _ h)
      exact ⟨x, by rw [hx]; rfl⟩
    · rw [decide_eq_false h]
      exact ⟨0, rfl⟩
  obtain ⟨c, hc⟩ := hc
  refine ⟨(((c % 1000003 + 31 * k * k + 1) * 48271 % 999983) * 7919 % 524287) % many, ?_, Int.emod_nonneg _ (by omega), Int.emod_lt_of_pos _ hm⟩
  unfold m__law_draw
  rw [bnd_of hc, mulG_ok (a := 40) (b := 40) (by omega) (by omega) (by omega), bnd_some, ltv_eq, modG_ok hm, bnd_some]
end Bt

namespace Bt
open PySem L2
def Bits (xs : List Int) : Prop := ∀ b ∈ xs, b = 0 ∨ b = 1
theorem Bits.app {xs ys : List Int} (h : Bits xs) (k : Bits ys) : Bits (xs ++ ys) := fun b hb => by
  rcases List.mem_append.mp hb with q | q
  · exact h b q
  · exact k b q
theorem Bits.one {b : Int} (h : b = 0 ∨ b = 1) : Bits [b] := fun c hc => by rw [List.mem_singleton.mp hc]; exact h
theorem Bits.drop {xs : List Int} (h : Bits xs) (n : Nat) : Bits (xs.drop n) := fun b hb => h b (List.mem_of_mem_drop hb)
theorem Bits.rep {b : Int} (h : b = 0 ∨ b = 1) (n : Nat) : Bits (List.replicate n b) := fun c hc => by rw [List.eq_of_mem_replicate hc]; exact h
def ci (qs : List Nat) : List Int := qs.map fun (q : Nat) => (q : Int)
theorem ci_of : ∀ (l : List Int) (m : Nat), (∀ y ∈ l, ∃ n : Nat, y = (n : Int) ∧ n < m) → ∃ D, l = ci D ∧ ∀ d ∈ D, d < m
  | [], _, _ => ⟨[], rfl, fun _ h => (nomatch h)⟩
  | y :: r, m, h => by
    obtain ⟨n, rfl, hn⟩ := h y (List.Mem.head _)
    obtain ⟨D, rfl, hD⟩ := ci_of r m fun z hz => h z (List.Mem.tail _ hz)
    refine ⟨n :: D, rfl, fun d hd => ?_⟩
    rcases List.mem_cons.mp hd with rfl | hd
    · exact hn
    · exact hD d hd
theorem ci_len (D : List Nat) : (ci D).length = D.length := by simp [ci]
theorem ci_mem {D : List Nat} {x : Int} (h : x ∈ ci D) : ∃ d ∈ D, x = (d : Int) := by
  obtain ⟨d, hd, rfl⟩ := List.mem_map.mp h
  exact ⟨d, hd, rfl⟩
theorem cut_mem {α : Type} {xs : List α} {lo hi : Option Int} {x : α} (h : x ∈ cutL xs lo hi) : x ∈ xs := by
  unfold cutL at h
  exact List.mem_of_mem_drop (List.mem_of_mem_take h)
theorem cut_len {α : Type} (xs : List α) (lo hi : Option Int) : (cutL xs lo hi).length ≤ xs.length := by
  unfold cutL
  rw [List.length_take, List.length_drop]
  omega
theorem draw2 (ns : List Int) (k : Int) (hk : 0 ≤ k) (hk2 : k ≤ 1000000000) : ∃ v, m__law_draw ns k 2 = some v ∧ (v = 0 ∨ v = 1) := by
  obtain ⟨v, h1, h2, h3⟩ := draw_ok ns k 2 hk hk2 (by decide)
  exact ⟨v, h1, by omega⟩
end Bt

/-! Seats in a tail: the program's verdicts. -/
namespace Bt
open PySem L2
def TT (j : Nat) (v k n : Int) : M_ReadTail_SpeakTail := if j = 0 then .SpeakTail ⟨v, k, n⟩ else .ReadTail ⟨v, k, n⟩
/-- the word behind the places of a tail that had no fault -/
def wd (v : Int) (k : Nat) (n : Int) : Str := if (k : Int) < 9 + v then "more" else if v / 2 < n then "refused" else "taken"
/-- a post: f the place of its fault or -1, n the noughts it heard at the votes -/
def RS (v : Int) (k j : Nat) (f n : Int) (s : S_Seat) : Prop :=
  (f = -1 ∧ s = ⟨TT j v k n, wd v k n, 0⟩) ∨ (0 ≤ f ∧ f < k ∧ f < 9 ∧ ∃ t, s = ⟨t, "fault", if (k : Int) ≤ f + 7 then f + 7 - k else 0⟩)
/-- the bit said -/
def sd (k j : Nat) (f : Int) : Int := if f < 0 then (if k = 1 ∧ 0 < j then 0 else 1) else if (k : Int) - f ≤ 6 then 0 else 1
/-- a fault at place k -/
def fl (k j : Nat) (b : Int) : Bool := if k = 1 then decide (j = 0) && decide (b = 1) else decide (k < 9) && decide (b = 0)
def nf (k j : Nat) (b f : Int) : Int := if f < 0 ∧ fl k j b = true then k else f
def nz (k : Nat) (b n : Int) : Int := if 8 < k then n + 1 - b else n
theorem wd_more {v : Int} {k : Nat} {n : Int} (h : (k : Int) < 9 + v) : wd v k n = "more" := by unfold wd; rw [if_pos h]
theorem says_ok {v : Int} {k j : Nat} {f n : Int} {s : S_Seat} (h : RS v k j f n s) (hk : (k : Int) < 9 + v) : m_Seat_seat_says s = some (sd k j f) := by
  unfold sd
  rcases h with ⟨rfl, rfl⟩ | ⟨h0, h1, h2, t, rfl⟩
  · rw [if_pos (by decide), wd_more hk]
    unfold TT
    by_cases hj : j = 0
    · rw [if_pos hj, if_neg (by omega)]
      rfl
    · rw [if_neg hj]
      unfold m_Seat_seat_says m_Seat_seat_says_ReadTail m_ReadTail_says
      by_cases h1 : k = 1
      · subst h1
        rw [if_pos ⟨rfl, by omega⟩]
        rfl
      · rw [if_neg (by omega)]
        dsimp only
        rw [decide_eq_true rfl, ifB_t, decide_eq_false (by omega), ifB_f, bnd_some]
  · rw [if_neg (show ¬ f < 0 by omega)]
    have e : ∀ z : Int, (bnd (ifB (decide ((0 : Int) < z)) (some ((0 : Int) : Int)) (some ((1 : Int) : Int))) fun z => some z) = some (if 0 < z then 0 else 1) := fun z => by
      by_cases hz : 0 < z
      · rw [decide_eq_true hz, ifB_t, if_pos hz]; rfl
      · rw [decide_eq_false hz, ifB_f, if_neg hz]; rfl
    have e2 : (if (0 : Int) < (if (k : Int) ≤ f + 7 then f + 7 - k else 0) then (0 : Int) else 1) = if (k : Int) - f ≤ 6 then 0 else 1 := by
      by_cases h : (k : Int) ≤ f + 7
      · rw [if_pos h]
        split <;> split <;> omega
      · rw [if_neg h, if_neg (by omega), if_neg (by omega)]
    have hd : decide (("fault" : Str) = "more") = false := by decide
    cases t with
    | ReadTail t =>
      unfold m_Seat_seat_says m_Seat_seat_says_ReadTail
      dsimp only
      rw [hd, ifB_f, e, e2]
    | SpeakTail t =>
      unfold m_Seat_seat_says m_Seat_seat_says_SpeakTail
      dsimp only
      rw [hd, ifB_f, e, e2]
theorem z_of (w : Str) (h : w ≠ "fault") : (bnd (ifB (decide (w = ("fault" : Str))) (some ((6 : Int) : Int)) (some ((0 : Int) : Int))) fun z => some z) = some (0 : Int) := by
  rw [decide_eq_false h]
  rfl
theorem wd_ne (v : Int) (k : Nat) (n : Int) : wd v k n ≠ "fault" := by
  unfold wd
  split
  · decide
  · split <;> decide
theorem hears_ok {v : Int} {k j : Nat} {f n b : Int} {s : S_Seat} (h : RS v k j f n s) (hk : (k : Int) < 9 + v) (hv : 1 ≤ v) (hb : b = 0 ∨ b = 1) :
    ∃ s', m_Seat_seat_hears s b = some s' ∧ RS v (k + 1) j (nf k j b f) (nz k b n) s' := by
  rcases h with ⟨rfl, rfl⟩ | ⟨h0, h1, h2, t, rfl⟩
  · rw [wd_more hk]
    have hcast : (((k + 1 : Nat)) : Int) = (k : Int) + 1 := rfl
    -- what the tail answers
    have hT : ∀ (w : Str), (fl k j b = true → w = "fault") → (fl k j b = false → w = wd v (k + 1) (nz k b n)) → ∀ t', (fl k j b = false → t' = TT j v (k + 1) (nz k b n)) →
        ∀ z : Int, z = (if w = "fault" then 6 else 0) → RS v (k + 1) j (nf k j b (-1)) (nz k b n) ⟨t', w, z⟩ := fun w h1 h2 t' h3 z hz => by
      unfold nf
      cases hf : fl k j b with
      | true =>
        have hk9 : k < 9 := by
          unfold fl at hf
          split at hf
          · omega
          · simp at hf
            omega
        rw [if_pos ⟨by decide, rfl⟩]
        refine .inr ⟨by omega, by omega, by omega, t', ?_⟩
        rw [h1 hf] at hz ⊢
        rw [if_pos rfl] at hz
        rw [if_pos (by omega), hz]
        congr 1
        omega
      | false =>
        rw [if_neg (by simp)]
        refine .inl ⟨rfl, ?_⟩
        have hw := h2 hf
        rw [h3 hf, hz, if_neg (by rw [hw]; exact wd_ne _ _ _), hw, hcast]
    by_cases hj : j = 0
    · subst hj
      have hh : ∃ w t', m_SpeakTail_hear ⟨v, k, n⟩ b = some (t', w) ∧ (fl k 0 b = true → w = "fault") ∧ (fl k 0 b = false → w = wd v (k + 1) (nz k b n)) ∧ (fl k 0 b = false → t' = ⟨v, k + 1, nz k b n⟩) := by
        unfold m_SpeakTail_hear
        simp only [ltv_eq]
        by_cases hk1 : k = 1
        · subst hk1
          have e1 : decide (((1 : Nat) : Int) = 1) = true := rfl
          rw [e1, ifB_t]
          unfold m_SpeakTail_answered
          rcases hb with rfl | rfl
          · exact ⟨"more", ⟨v, 1 + 1, n⟩, rfl, fun h => absurd h (by decide), fun _ => by rw [wd_more (by omega)], fun _ => rfl⟩
          · exact ⟨"fault", ⟨v, 1 + 1, n⟩, rfl, fun _ => rfl, fun h => absurd h (by decide), fun h => absurd h (by decide)⟩
        · rw [decide_eq_false (show ¬ (k : Int) = 1 by omega), ifB_f]
          by_cases hk9 : 9 ≤ k
          · have hfl : fl k 0 b = false := by unfold fl; rw [if_neg hk1, decide_eq_false (by omega)]; rfl
            rw [decide_eq_true (show (9 : Int) ≤ (k : Int) by omega), ifB_t]
            unfold m_SpeakTail_voted
            have e1 : (bnd (ifB (decide (b = (0 : Int))) (ltv (n + 1) fun noughts_9 => some (S_SpeakTail.mk v ((k : Int) + 1) noughts_9)) (some (S_SpeakTail.mk v ((k : Int) + 1) n))) some) = some ⟨v, (k : Int) + 1, nz k b n⟩ := by
              unfold nz
              rw [if_pos (by omega)]
              rcases hb with rfl | rfl
              · rw [decide_eq_true rfl, ifB_t, ltv_eq, bnd_some, show n + 1 - 0 = n + 1 by omega]
              · rw [decide_eq_false (by decide), ifB_f, bnd_some, show n + 1 - 1 = n by omega]
            have hbs : ∀ {α β : Type} (u : Option α) (f : α → Option β), bnd u f = bnd (bnd u some) f := fun u f => by cases u <;> rfl
            dsimp only
            simp only [ltv_eq] at e1 ⊢
            rw [hbs (ifB (decide (b = (0 : Int))) _ _), e1, bnd_some]
            dsimp only
            refine ⟨wd v (k + 1) (nz k b n), ⟨v, (k : Int) + 1, nz k b n⟩, ?_, fun h => absurd h (by rw [hfl]; decide), fun _ => rfl, fun _ => rfl⟩
            unfold wd
            by_cases h9 : (k : Int) + 1 < 9 + v
            · rw [decide_eq_true h9, ifB_t, bnd_some, if_pos (by omega)]
            · rw [decide_eq_false h9, ifB_f, if_neg (by omega)]
              by_cases hn : v / 2 < nz k b n
              · rw [decide_eq_true hn, ifB_t, bnd_some, if_pos hn]
              · rw [decide_eq_false hn, ifB_f, bnd_some, if_neg hn]
          · rw [decide_eq_false (show ¬ (9 : Int) ≤ (k : Int) by omega), ifB_f]
            have hz : nz k b n = n := by unfold nz; rw [if_neg (by omega)]
            have hw : wd v (k + 1) (nz k b n) = "more" := wd_more (by omega)
            rw [hw, hz]
            rcases hb with rfl | rfl
            · have hfl : fl k 0 0 = true := by unfold fl; rw [if_neg hk1, decide_eq_true (by omega)]; rfl
              rw [decide_eq_true rfl, ifB_t]
              exact ⟨_, _, rfl, fun _ => rfl, fun h => absurd h (by rw [hfl]; decide), fun h => absurd h (by rw [hfl]; decide)⟩
            · have hfl : fl k 0 1 = false := by unfold fl; rw [if_neg hk1, decide_eq_true (by omega)]; rfl
              rw [decide_eq_false (by decide), ifB_f]
              exact ⟨_, _, rfl, fun h => absurd h (by rw [hfl]; decide), fun _ => rfl, fun _ => rfl⟩
      obtain ⟨w, t', e1, e2, e3, e4⟩ := hh
      unfold TT
      rw [if_pos rfl]
      unfold m_Seat_seat_hears m_Seat_seat_hears_SpeakTail
      dsimp only
      rw [decide_eq_true rfl, ifB_t, e1, bnd_some]
      dsimp only
      refine ⟨⟨.SpeakTail t', w, if w = "fault" then 6 else 0⟩, ?_, hT w e2 e3 _ (fun h => by rw [e4 h]; unfold TT; rw [if_pos rfl]) _ rfl⟩
      by_cases hw : w = "fault"
      · rw [decide_eq_true hw, ifB_t, bnd_some, if_pos hw]
      · rw [decide_eq_false hw, ifB_f, bnd_some, if_neg hw]
    · have hh : ∃ w t', m_ReadTail_hear ⟨v, k, n⟩ b = some (t', w) ∧ (fl k j b = true → w = "fault") ∧ (fl k j b = false → w = wd v (k + 1) (nz k b n)) ∧ (fl k j b = false → t' = ⟨v, k + 1, nz k b n⟩) := by
        unfold m_ReadTail_hear
        simp only [ltv_eq]
        by_cases hk1 : k = 1
        · subst hk1
          have e1 : decide (((1 : Nat) : Int) = 1) = true := rfl
          have hfl : fl 1 j b = false := by unfold fl; rw [if_pos rfl, decide_eq_false hj]; rfl
          rw [e1, ifB_t]
          unfold m_ReadTail_answered
          exact ⟨"more", ⟨v, 1 + 1, n⟩, rfl, fun h => absurd h (by rw [hfl]; decide), fun _ => by rw [wd_more (by omega)], fun _ => rfl⟩
        · rw [decide_eq_false (show ¬ (k : Int) = 1 by omega), ifB_f]
          by_cases hk9 : 9 ≤ k
          · have hfl : fl k j b = false := by unfold fl; rw [if_neg hk1, decide_eq_false (by omega)]; rfl
            rw [decide_eq_true (show (9 : Int) ≤ (k : Int) by omega), ifB_t]
            unfold m_ReadTail_voted
            have e1 : (bnd (ifB (decide (b = (0 : Int))) (ltv (n + 1) fun noughts_9 => some (S_ReadTail.mk v ((k : Int) + 1) noughts_9)) (some (S_ReadTail.mk v ((k : Int) + 1) n))) some) = some ⟨v, (k : Int) + 1, nz k b n⟩ := by
              unfold nz
              rw [if_pos (by omega)]
              rcases hb with rfl | rfl
              · rw [decide_eq_true rfl, ifB_t, ltv_eq, bnd_some, show n + 1 - 0 = n + 1 by omega]
              · rw [decide_eq_false (by decide), ifB_f, bnd_some, show n + 1 - 1 = n by omega]
            have hbs : ∀ {α β : Type} (u : Option α) (f : α → Option β), bnd u f = bnd (bnd u some) f := fun u f => by cases u <;> rfl
            dsimp only
            simp only [ltv_eq] at e1 ⊢
            rw [hbs (ifB (decide (b = (0 : Int))) _ _), e1, bnd_some]
            dsimp only
            refine ⟨wd v (k + 1) (nz k b n), ⟨v, (k : Int) + 1, nz k b n⟩, ?_, fun h => absurd h (by rw [hfl]; decide), fun _ => rfl, fun _ => rfl⟩
            unfold wd
            by_cases h9 : (k : Int) + 1 < 9 + v
            · rw [decide_eq_true h9, ifB_t, bnd_some, if_pos (by omega)]
            · rw [decide_eq_false h9, ifB_f, if_neg (by omega)]
              by_cases hn : v / 2 < nz k b n
              · rw [decide_eq_true hn, ifB_t, bnd_some, if_pos hn]
              · rw [decide_eq_false hn, ifB_f, bnd_some, if_neg hn]
          · rw [decide_eq_false (show ¬ (9 : Int) ≤ (k : Int) by omega), ifB_f]
            have hz : nz k b n = n := by unfold nz; rw [if_neg (by omega)]
            have hw : wd v (k + 1) (nz k b n) = "more" := wd_more (by omega)
            rw [hw, hz]
            rcases hb with rfl | rfl
            · have hfl : fl k j 0 = true := by unfold fl; rw [if_neg hk1, decide_eq_true (by omega)]; rfl
              rw [decide_eq_true rfl, ifB_t]
              exact ⟨_, _, rfl, fun _ => rfl, fun h => absurd h (by rw [hfl]; decide), fun h => absurd h (by rw [hfl]; decide)⟩
            · have hfl : fl k j 1 = false := by unfold fl; rw [if_neg hk1, decide_eq_true (by omega)]; rfl
              rw [decide_eq_false (by decide), ifB_f]
              exact ⟨_, _, rfl, fun h => absurd h (by rw [hfl]; decide), fun _ => rfl, fun _ => rfl⟩
      obtain ⟨w, t', e1, e2, e3, e4⟩ := hh
      unfold TT
      rw [if_neg hj]
      unfold m_Seat_seat_hears m_Seat_seat_hears_ReadTail
      dsimp only
      rw [decide_eq_true rfl, ifB_t, e1, bnd_some]
      dsimp only
      refine ⟨⟨.ReadTail t', w, if w = "fault" then 6 else 0⟩, ?_, hT w e2 e3 _ (fun h => by rw [e4 h]; unfold TT; rw [if_neg hj]) _ rfl⟩
      by_cases hw : w = "fault"
      · rw [decide_eq_true hw, ifB_t, bnd_some, if_pos hw]
      · rw [decide_eq_false hw, ifB_f, bnd_some, if_neg hw]
  · have hnf : nf k j b f = f := by unfold nf; rw [if_neg (by omega)]
    have hd : decide (("fault" : Str) = "more") = false := by decide
    rw [hnf]
    have key : ∀ t', RS v (k + 1) j f (nz k b n) ⟨t', "fault", if ((k + 1 : Nat) : Int) ≤ f + 7 then f + 7 - ((k + 1 : Nat) : Int) else 0⟩ := fun t' => .inr ⟨h0, by omega, h2, t', rfl⟩
    by_cases hz : (0 : Int) < (if (k : Int) ≤ f + 7 then f + 7 - k else 0)
    · have e : (if (k : Int) ≤ f + 7 then f + 7 - (k : Int) else 0) - 1 = if ((k + 1 : Nat) : Int) ≤ f + 7 then f + 7 - ((k + 1 : Nat) : Int) else 0 := by
        have : (k : Int) ≤ f + 7 := by
          split at hz
          · assumption
          · omega
        rw [if_pos this] at hz ⊢
        split <;> omega
      cases t with
      | ReadTail t =>
        unfold m_Seat_seat_hears m_Seat_seat_hears_ReadTail
        dsimp only
        rw [hd, ifB_f, decide_eq_true hz, ifB_t, ltv_eq, e]
        exact ⟨_, rfl, key _⟩
      | SpeakTail t =>
        unfold m_Seat_seat_hears m_Seat_seat_hears_SpeakTail
        dsimp only
        rw [hd, ifB_f, decide_eq_true hz, ifB_t, ltv_eq, e]
        exact ⟨_, rfl, key _⟩
    · have e : (if (k : Int) ≤ f + 7 then f + 7 - (k : Int) else 0) = if ((k + 1 : Nat) : Int) ≤ f + 7 then f + 7 - ((k + 1 : Nat) : Int) else 0 := by
        by_cases h : (k : Int) ≤ f + 7
        · rw [if_pos h] at hz ⊢
          split <;> omega
        · rw [if_neg h, if_neg (by omega)]
      cases t with
      | ReadTail t =>
        unfold m_Seat_seat_hears m_Seat_seat_hears_ReadTail
        dsimp only
        rw [hd, ifB_f, decide_eq_false hz, ifB_f, e]
        exact ⟨_, rfl, key _⟩
      | SpeakTail t =>
        unfold m_Seat_seat_hears m_Seat_seat_hears_SpeakTail
        dsimp only
        rw [hd, ifB_f, decide_eq_false hz, ifB_f, e]
        exact ⟨_, rfl, key _⟩
end Bt

/-! The program's verdicts, by a plain walk of a tail. -/
namespace Bt
open PySem L2
theorem min01 {xs : List Int} (h : ∀ y ∈ xs, y = 0 ∨ y = 1) (hne : 0 < xs.length) : ∃ m, minG xs = some m ∧ (m = 0 ∨ m = 1) := by
  cases xs with
  | nil => simp at hne
  | cons n ns =>
    refine ⟨_, rfl, h _ ?_⟩
    exact (minG_spec (xs := n :: ns) rfl).2.1
theorem sd01 (k j : Nat) (f : Int) : sd k j f = 0 ∨ sd k j f = 1 := by
  unfold sd
  split <;> split <;> simp
theorem at_nat {α : Type} {xs : List α} {j : Nat} {x : α} (h : xs[j]? = some x) : atI xs (j : Int) = some x := by
  obtain ⟨hl, _⟩ := List.getElem?_eq_some_iff.mp h
  rw [atI_ok (by omega) (by omega)]
  exact h
theorem set_nat {α : Type} {xs : List α} {j : Nat} {y : α} (h : j < xs.length) : setG xs (j : Int) y = some (xs.set j y) := setG_ok (by omega) (by omega)
/-- what a post hears -/
def bitW (pairs : List (Int × Int)) (k j : Nat) (mn : Int) : Int := if inL ((j : Int), (k : Int)) pairs = true then 1 - mn else mn
theorem bitW01 {pairs : List (Int × Int)} {k j : Nat} {mn : Int} (h : mn = 0 ∨ mn = 1) : bitW pairs k j mn = 0 ∨ bitW pairs k j mn = 1 := by
  unfold bitW
  split <;> omega
/-- the least said -/
def lst (m k : Nat) (F : Nat → Int) : Int := if (List.range m).any (fun j => decide (sd k j (F j) = 0)) then 0 else 1
theorem lst01 (m k : Nat) (F : Nat → Int) : lst m k F = 0 ∨ lst m k F = 1 := by
  unfold lst
  split <;> simp
/-- faults and noughts behind k places -/
def FN (pairs : List (Int × Int)) (m : Nat) : Nat → (Nat → Int) × (Nat → Int)
  | 0 => (fun _ => -1, fun _ => 0)
  | k + 1 => (fun j => nf k j (bitW pairs k j (lst m k (FN pairs m k).1)) ((FN pairs m k).1 j), fun j => nz k (bitW pairs k j (lst m k (FN pairs m k).1)) ((FN pairs m k).2 j))
def RQ (v : Int) (k m i : Nat) (F N F' N' : Nat → Int) (S : List S_Seat) : Prop :=
  S.length = m ∧ ∀ j, j < m → ∃ s, S[j]? = some s ∧ if j < i then RS v (k + 1) j (F' j) (N' j) s else RS v k j (F j) (N j) s
theorem RQ.loop {v : Int} {k m : Nat} {mn : Int} {pairs : List (Int × Int)} {F N : Nat → Int} (hk : (k : Int) < 9 + v) (hv : 1 ≤ v) (hm : mn = 0 ∨ mn = 1) : ∀ (d i : Nat) (S : List S_Seat), i + d = m →
    RQ v k m i F N (fun j => nf k j (bitW pairs k j mn) (F j)) (fun j => nz k (bitW pairs k j mn) (N j)) S →
    ∃ S', loopM (fun (q_ : Int × Int) s => m_verdicts_L3 pairs k mn q_.1 q_.2 s) (enumI i (rangeI (i : Int) (m : Int))) S = some S' ∧ RQ v k m m F N (fun j => nf k j (bitW pairs k j mn) (F j)) (fun j => nz k (bitW pairs k j mn) (N j)) S'
  | 0, i, S, e, h => by
    have : i = m := by omega
    subst this
    rw [rangeI_nil (by omega)]
    exact ⟨S, rfl, h⟩
  | d + 1, i, S, e, h => by
    obtain ⟨hl, h4⟩ := h
    obtain ⟨s, c, r⟩ := h4 i (by omega)
    rw [if_neg (by omega)] at r
    have hb := bitW01 (pairs := pairs) (k := k) (j := i) hm
    obtain ⟨s', e1, e2⟩ := hears_ok r hk hv hb
    have hst : m_verdicts_L3 pairs k mn i i S = some (S.set i s') := by
      unfold m_verdicts_L3
      rw [at_nat c, bnd_some]
      have : (bnd (ifB (inL ((i : Int), (k : Int)) pairs) (some (((1 : Int) - mn) : Int)) (some (mn : Int))) some) = some (bitW pairs k i mn) := by
        unfold bitW
        cases inL ((i : Int), (k : Int)) pairs <;> rfl
      have hbs : ∀ {α β : Type} (u : Option α) (f : α → Option β), bnd u f = bnd (bnd u some) f := fun u f => by cases u <;> rfl
      rw [hbs (ifB _ _ _), this, bnd_some, e1, bnd_some, set_nat (by omega), bnd_some]
    have hnx : RQ v k m (i + 1) F N (fun j => nf k j (bitW pairs k j mn) (F j)) (fun j => nz k (bitW pairs k j mn) (N j)) (S.set i s') := by
      refine ⟨by simp [hl], fun j hj => ?_⟩
      by_cases q : j = i
      · subst q
        refine ⟨s', List.getElem?_set_self (by omega), ?_⟩
        rw [if_pos (by omega)]
        exact e2
      · obtain ⟨s2, c2, d2⟩ := h4 j hj
        refine ⟨s2, by rw [List.getElem?_set_ne (by omega)]; exact c2, ?_⟩
        by_cases q2 : j < i
        · rw [if_pos q2] at d2
          rw [if_pos (by omega)]
          exact d2
        · rw [if_neg q2] at d2
          rw [if_neg (by omega)]
          exact d2
    obtain ⟨S2, e3, h2⟩ := RQ.loop hk hv hm d (i + 1) (S.set i s') (by omega) hnx
    refine ⟨S2, ?_, h2⟩
    rw [rangeI_cons (by omega)]
    show loopM _ (((i : Int), (i : Int)) :: enumI (i + 1) (rangeI ((i : Int) + 1) (m : Int))) _ = _
    rw [loopM_go (f := fun (q_ : Int × Int) s => m_verdicts_L3 pairs k mn q_.1 q_.2 s) (x := ((i : Int), (i : Int))) hst]
    exact e3
def RL (v : Int) (k m : Nat) (F N : Nat → Int) (S : List S_Seat) : Prop := S.length = m ∧ ∀ j, j < m → ∃ s, S[j]? = some s ∧ RS v k j (F j) (N j) s
theorem RL.place {v : Int} {k m : Nat} {pairs : List (Int × Int)} {S : List S_Seat} (h : RL v k m (FN pairs m k).1 (FN pairs m k).2 S) (hk : (k : Int) < 9 + v) (hv : 1 ≤ v) (hm : 1 ≤ m) (hm2 : m ≤ 100) :
    ∃ S', m_verdicts_L1 pairs k S = some S' ∧ RL v (k + 1) m (FN pairs m (k + 1)).1 (FN pairs m (k + 1)).2 S' := by
  show ∃ S', m_verdicts_L1 pairs k S = some S' ∧ RL v (k + 1) m (fun j => nf k j (bitW pairs k j (lst m k (FN pairs m k).1)) ((FN pairs m k).1 j)) (fun j => nz k (bitW pairs k j (lst m k (FN pairs m k).1)) ((FN pairs m k).2 j)) S'
  generalize (FN pairs m k).1 = F at h
  generalize (FN pairs m k).2 = N at h
  obtain ⟨h3, h4⟩ := h
  let g : Int → Int := fun x => sd k x.toNat (F x.toNat)
  have c2 := compM_ok (f := m_verdicts_C2 S) (g := g) (rangeI 0 (m : Int)) [] (fun x hx => by
    have hm := mem_rangeI hx
    obtain ⟨j, rfl⟩ : ∃ j : Nat, x = j := ⟨x.toNat, by omega⟩
    obtain ⟨s, c, d⟩ := h4 j (by omega)
    unfold m_verdicts_C2
    rw [at_nat c, bnd_some, says_ok d hk, bnd_some]
    rfl) (by rw [rangeI_length]; simp; omega)
  rw [List.nil_append] at c2
  obtain ⟨mn, e1, e2⟩ := min01 (xs := (rangeI 0 (m : Int)).map g) (fun y hy => by
    obtain ⟨x, _, rfl⟩ := List.mem_map.mp hy
    exact sd01 _ _ _) (by rw [List.length_map, rangeI_length]; omega)
  have hmn : mn = lst m k F := by
    obtain ⟨_, hin, hle⟩ := minG_spec e1
    unfold lst
    split
    · rename_i hany
      obtain ⟨j, hj, hz⟩ := List.any_eq_true.mp hany
      have hj := List.mem_range.mp hj
      have hz := of_decide_eq_true hz
      have := hle (sd k j (F j)) (List.mem_map.mpr ⟨(j : Int), by
        unfold rangeI
        exact List.mem_map.mpr ⟨j, List.mem_range.mpr (by omega), by omega⟩, rfl⟩)
      omega
    · rename_i hany
      obtain ⟨x, hx, rfl⟩ := List.mem_map.mp hin
      have hm := mem_rangeI hx
      rcases sd01 k x.toNat (F x.toNat) with hz | hz
      · exact absurd (List.any_eq_true.mpr ⟨x.toNat, List.mem_range.mpr (by omega), by rw [hz]; rfl⟩) hany
      · exact hz
  subst hmn
  obtain ⟨S', l2, l3⟩ := RQ.loop (pairs := pairs) (F := F) (N := N) hk hv e2 m 0 S (by omega) ⟨h3, fun j hj => by
    obtain ⟨s, c, d⟩ := h4 j hj
    exact ⟨s, c, by rw [if_neg (by omega)]; exact d⟩⟩
  refine ⟨S', ?_, l3.1, fun j hj => ?_⟩
  · unfold m_verdicts_L1
    rw [h3, c2, bnd_some, e1, bnd_some]
    rw [show (((0 : Nat)) : Int) = 0 from rfl] at l2
    rw [l2, bnd_some]
  · obtain ⟨s, c, d⟩ := l3.2 j hj
    rw [if_pos hj] at d
    exact ⟨s, c, d⟩
theorem RL.places {w m : Nat} {pairs : List (Int × Int)} (hv : 1 ≤ w) (hm : 1 ≤ m) (hm2 : m ≤ 100) : ∀ (d k : Nat) (S : List S_Seat), k + d = 9 + w → RL (w : Int) k m (FN pairs m k).1 (FN pairs m k).2 S →
    ∃ S', loopM (fun p s => m_verdicts_L1 pairs p s) (rangeI (k : Int) ((9 : Int) + (w : Int))) S = some S' ∧ RL (w : Int) (9 + w) m (FN pairs m (9 + w)).1 (FN pairs m (9 + w)).2 S'
  | 0, k, S, e, h => by
    have : k = 9 + w := by omega
    subst this
    rw [rangeI_nil (by omega)]
    exact ⟨S, rfl, h⟩
  | d + 1, k, S, e, h => by
    obtain ⟨S1, e2, h1⟩ := h.place (pairs := pairs) (by omega) (by omega) hm hm2
    obtain ⟨S2, e4, h2⟩ := RL.places hv hm hm2 d (k + 1) S1 (by omega) h1
    rw [rangeI_cons (by omega)]
    refine ⟨S2, ?_, h2⟩
    rw [loopM_go (f := fun p s => m_verdicts_L1 pairs p s) e2]
    exact e4
def seatR (w : Nat) : S_Seat := ⟨.ReadTail ⟨w, 0, 0⟩, "more", 0⟩
def seatS (w : Nat) : S_Seat := ⟨.SpeakTail ⟨w, 0, 0⟩, "more", 0⟩
theorem seats_loop (w m : Nat) (hm : m ≤ 100) : ∀ (d : Nat) (S : List S_Seat) (n : Nat), S.length + d = m → d < n → whileM (fun s => m_verdicts_W0c m w s) (fun s => m_verdicts_W0 m w s) n S = some (S ++ List.replicate d (seatR w))
  | 0, S, n, e, hn => by
    obtain ⟨n, rfl⟩ : ∃ k, n = k + 1 := ⟨n - 1, by omega⟩
    rw [whileM_stop (by unfold m_verdicts_W0c; rw [decide_eq_false (by omega)])]
    simp
  | d + 1, S, n, e, hn => by
    obtain ⟨n, rfl⟩ : ∃ k, n = k + 1 := ⟨n - 1, by omega⟩
    have hs : m_verdicts_W0 m w S = some (S ++ [seatR w]) := by
      unfold m_verdicts_W0
      show bnd (appG S (seatR w)) _ = _
      rw [appG_ok (by omega), bnd_some]
    rw [whileM_go (c := fun s => m_verdicts_W0c m w s) (f := fun s => m_verdicts_W0 m w s) (by unfold m_verdicts_W0c; rw [decide_eq_true (by omega)]) hs, seats_loop w m hm d _ n (by simp; omega) (by omega)]
    rw [List.replicate_succ]
    simp
/-- the word of a post at the end -/
def endw (w : Nat) (f n : Int) : Str := if 0 ≤ f then "fault" else if (w : Int) / 2 < n then "refused" else "taken"
theorem word_end {w j : Nat} {f n : Int} {s : S_Seat} (h : RS (w : Int) (9 + w) j f n s) : s.verdict = endw w f n := by
  unfold endw
  rcases h with ⟨rfl, rfl⟩ | ⟨h0, _, _, t, rfl⟩
  · rw [if_neg (by decide)]
    show wd (w : Int) (9 + w) n = _
    unfold wd
    rw [if_neg (by omega)]
  · rw [if_pos h0]
def goodP (m w : Nat) (pairs : List (Int × Int)) : Prop := ∀ q ∈ pairs, 0 ≤ q.1 ∧ q.1 < (m : Int) ∧ 0 ≤ q.2 ∧ q.2 < 9 + (w : Int)
theorem ask_ok {w m : Nat} {pairs : List (Int × Int)} (hw : w = 1 ∨ w = 3 ∨ w = 5) (hm : 2 ≤ m) (hm2 : m ≤ 5) (hp : goodP m w pairs) : m_ask_seats m w pairs = some (.ok ()) := by
  unfold m_ask_seats
  have e1 : (!decide ((w : Int) ∈ ([(1 : Int), (3 : Int), (5 : Int)] : List Int))) = false := by
    rcases hw with rfl | rfl | rfl <;> decide
  rw [decide_eq_false (show ¬ (m : Int) < 2 by omega), decide_eq_false (show ¬ (5 : Int) < (m : Int) by omega), e1]
  rw [show (false || (false || false)) = false from rfl, ifB_f, loopF_unit (fun q hq => ?_), fin_nx]
  obtain ⟨a, b, c, d⟩ := hp q hq
  unfold m_ask_seats_L0
  rw [decide_eq_false (by omega), decide_eq_false (by omega), decide_eq_false (by omega), decide_eq_false (by omega)]
  rfl
theorem verdicts_plain {w m : Nat} {pairs : List (Int × Int)} (hw : w = 1 ∨ w = 3 ∨ w = 5) (hm : 2 ≤ m) (hm2 : m ≤ 5) (hp : goodP m w pairs) :
    m_verdicts m w pairs = some (.ok ((List.range m).map fun j => endw w ((FN pairs m (9 + w)).1 j) ((FN pairs m (9 + w)).2 j))) := by
  have h0 : RL (w : Int) 0 m (FN pairs m 0).1 (FN pairs m 0).2 (seatS w :: List.replicate (m - 1) (seatR w)) := by
    refine ⟨by simp; omega, fun j hj => ⟨if j = 0 then seatS w else seatR w, ?_, ?_⟩⟩
    · cases j with
      | zero => rfl
      | succ j => rw [List.getElem?_cons_succ, List.getElem?_replicate, if_pos (by omega), if_neg (by omega)]
    · refine .inl ⟨rfl, ?_⟩
      unfold TT
      rw [wd_more (by omega)]
      by_cases hj0 : j = 0
      · rw [if_pos hj0, if_pos hj0]; rfl
      · rw [if_neg hj0, if_neg hj0]; rfl
  obtain ⟨S, l2, l3⟩ := RL.places (pairs := pairs) (show 1 ≤ w by omega) (show 1 ≤ m by omega) (by omega) (9 + w) 0 _ (by omega) h0
  rw [show (((0 : Nat)) : Int) = 0 from rfl] at l2
  unfold m_verdicts
  rw [ask_ok hw hm hm2 hp]
  have e1 : m_SpeakTail_init (w : Int) = some ⟨w, 0, 0⟩ := rfl
  have e2 : m_Seat_init (.SpeakTail ⟨(w : Int), 0, 0⟩) = some (seatS w) := rfl
  rw [bndR_ok, e1, bnd_some, e2, bnd_some, seats_loop w m (by omega) (m - 1) [seatS w] FUEL (by simp; omega) (by unfold FUEL; omega), bnd_some]
  rw [show [seatS w] ++ List.replicate (m - 1) (seatR w) = seatS w :: List.replicate (m - 1) (seatR w) from rfl]
  rw [rng1_ok (by omega) (by omega), bnd_some, l2, bnd_some, l3.1]
  have c1 := compM_ok (f := m_verdicts_C4 S) (g := fun x => endw w ((FN pairs m (9 + w)).1 x.toNat) ((FN pairs m (9 + w)).2 x.toNat)) (rangeI 0 (m : Int)) [] (fun x hx => by
    have hm := mem_rangeI hx
    obtain ⟨j, rfl⟩ : ∃ j : Nat, x = j := ⟨x.toNat, by omega⟩
    obtain ⟨s, c, d⟩ := l3.2 j (by omega)
    unfold m_verdicts_C4
    rw [at_nat c, bnd_some, word_end d]
    rfl) (by rw [rangeI_length]; simp; omega)
  rw [c1, bnd_some]
  congr 2
  unfold rangeI
  rw [List.nil_append, List.map_map, show ((m : Int) - 0).toNat = m by omega]
  refine List.map_congr_left fun k _ => ?_
  simp
end Bt

/-! Few wrong bits: all take, or none does. -/
namespace Bt
open PySem L2
theorem inL_iff {α : Type} [DecidableEq α] {x : α} {xs : List α} : inL x xs = true ↔ x ∈ xs := by
  unfold inL
  exact decide_eq_true_iff
def Fk (ps : List (Int × Int)) (m k j : Nat) : Int := (FN ps m k).1 j
def Nk (ps : List (Int × Int)) (m k j : Nat) : Int := (FN ps m k).2 j
def Lk (ps : List (Int × Int)) (m k : Nat) : Int := lst m k (FN ps m k).1
theorem Fk0 (ps : List (Int × Int)) (m j : Nat) : Fk ps m 0 j = -1 := rfl
theorem Nk0 (ps : List (Int × Int)) (m j : Nat) : Nk ps m 0 j = 0 := rfl
theorem FkS (ps : List (Int × Int)) (m k j : Nat) : Fk ps m (k + 1) j = nf k j (bitW ps k j (Lk ps m k)) (Fk ps m k j) := rfl
theorem NkS (ps : List (Int × Int)) (m k j : Nat) : Nk ps m (k + 1) j = nz k (bitW ps k j (Lk ps m k)) (Nk ps m k j) := rfl
theorem Lk01 (ps : List (Int × Int)) (m k : Nat) : Lk ps m k = 0 ∨ Lk ps m k = 1 := lst01 _ _ _
theorem Lk0 {ps : List (Int × Int)} {m k j : Nat} (hj : j < m) (h : sd k j (Fk ps m k j) = 0) : Lk ps m k = 0 := by
  unfold Lk lst
  rw [if_pos (List.any_eq_true.mpr ⟨j, List.mem_range.mpr hj, by unfold Fk at h; rw [h]; rfl⟩)]
theorem Lk1 {ps : List (Int × Int)} {m k : Nat} (h : ∀ j, j < m → sd k j (Fk ps m k j) = 1) : Lk ps m k = 1 := by
  unfold Lk lst
  rw [if_neg (fun hh => by
    obtain ⟨j, hj, hz⟩ := List.any_eq_true.mp hh
    have := h j (List.mem_range.mp hj)
    have hz := of_decide_eq_true hz
    unfold Fk at this
    omega)]
theorem Fk_neg (ps : List (Int × Int)) (m : Nat) : ∀ (k j : Nat), Fk ps m k j = -1 ∨ 0 ≤ Fk ps m k j
  | 0, j => .inl rfl
  | k + 1, j => by
    rw [FkS]
    unfold nf
    split
    · exact .inr (by omega)
    · exact Fk_neg ps m k j
theorem Fk_stay {ps : List (Int × Int)} {m j : Nat} {k : Nat} (h : 0 ≤ Fk ps m k j) : ∀ d, Fk ps m (k + d) j = Fk ps m k j
  | 0 => rfl
  | d + 1 => by
    have ih := Fk_stay h d
    show Fk ps m (k + d + 1) j = _
    rw [FkS]
    unfold nf
    rw [if_neg (by omega)]
    exact ih
theorem Fk_back {ps : List (Int × Int)} {m j k k' : Nat} (h : Fk ps m k' j = -1) (hk : k ≤ k') : Fk ps m k j = -1 := by
  rcases Fk_neg ps m k j with h1 | h1
  · exact h1
  · have := Fk_stay h1 (k' - k)
    rw [show k + (k' - k) = k' by omega] at this
    omega
/-- no fault at place k -/
theorem no_fl {ps : List (Int × Int)} {m j k : Nat} (h : Fk ps m (k + 1) j = -1) : fl k j (bitW ps k j (Lk ps m k)) = false := by
  have h0 := Fk_back h (Nat.le_succ k)
  rw [FkS] at h
  unfold nf at h
  rw [h0] at h
  cases hf : fl k j (bitW ps k j (Lk ps m k)) with
  | false => rfl
  | true =>
    rw [if_pos ⟨by decide, hf⟩] at h
    omega
theorem Nk9 (ps : List (Int × Int)) (m j : Nat) : ∀ k, k ≤ 9 → Nk ps m k j = 0
  | 0, _ => rfl
  | k + 1, h => by
    rw [NkS]
    unfold nz
    rw [if_neg (by omega)]
    exact Nk9 ps m j k (by omega)
def vt (j : Nat) (t : Nat) : Int × Int → Bool := fun q => decide (q.1 = (j : Int)) && (decide ((9 : Int) ≤ q.2) && decide (q.2 < 9 + (t : Int)))
theorem count_more {p q : Int × Int → Bool} {x : Int × Int} (h : ∀ y, p y = true → q y = true) (hx : p x = false) (hq : q x = true) : ∀ l : List (Int × Int), x ∈ l → l.countP p + 1 ≤ l.countP q
  | [], hm => by simp at hm
  | y :: l, hm => by
    rw [List.countP_cons, List.countP_cons]
    by_cases e : y = x
    · subst e
      rw [hx, hq]
      have : l.countP p ≤ l.countP q := List.countP_mono_left fun z _ hz => h z hz
      simp
      omega
    · have hm' : x ∈ l := by
        rcases List.mem_cons.mp hm with h1 | h1
        · exact absurd h1.symm e
        · exact h1
      have ih := count_more h hx hq l hm'
      cases hp : p y with
      | true => rw [h y hp]; simp; omega
      | false => simp; omega
theorem vt_mono (j t : Nat) (y : Int × Int) (h : vt j t y = true) : vt j (t + 1) y = true := by
  unfold vt at h ⊢
  simp at h ⊢
  omega
theorem vt_step (ps : List (Int × Int)) (j t : Nat) : ps.countP (vt j t) ≤ ps.countP (vt j (t + 1)) := List.countP_mono_left fun z _ hz => vt_mono j t z hz
theorem vt_hit {ps : List (Int × Int)} {j t : Nat} (h : ((j : Int), ((9 + t : Nat) : Int)) ∈ ps) : ps.countP (vt j t) + 1 ≤ ps.countP (vt j (t + 1)) :=
  count_more (vt_mono j t) (by unfold vt; simp) (by unfold vt; simp; omega) ps h
theorem bit_in {ps : List (Int × Int)} {k j : Nat} {mn : Int} (h : ((j : Int), (k : Int)) ∈ ps) : bitW ps k j mn = 1 - mn := by
  unfold bitW
  rw [if_pos (inL_iff.mpr h)]
theorem bit_out {ps : List (Int × Int)} {k j : Nat} {mn : Int} (h : ((j : Int), (k : Int)) ∉ ps) : bitW ps k j mn = mn := by
  unfold bitW
  rw [if_neg (fun q => h (inL_iff.mp q))]
/-- none says a nought at the votes: a post's noughts are its wrong bits -/
theorem few_noughts {ps : List (Int × Int)} {m j : Nat} : ∀ t : Nat, (∀ k, 9 ≤ k → k < 9 + t → Lk ps m k = 1) → Nk ps m (9 + t) j ≤ ps.countP (vt j t)
  | 0, _ => by
    rw [Nk9 ps m j 9 (by omega)]
    omega
  | t + 1, h => by
    have ih := few_noughts (j := j) t fun k h1 h2 => h k h1 (by omega)
    show Nk ps m (9 + t + 1) j ≤ _
    rw [NkS]
    unfold nz
    rw [if_pos (by omega), h (9 + t) (by omega) (by omega)]
    have h1 := vt_step ps j t
    by_cases hm : ((j : Int), ((9 + t : Nat) : Int)) ∈ ps
    · have := vt_hit hm
      rw [bit_in hm]
      omega
    · rw [bit_out hm]
      omega
/-- noughts are said at all votes: a post's ones are its wrong bits -/
theorem many_noughts {ps : List (Int × Int)} {m j : Nat} : ∀ t : Nat, (∀ k, 9 ≤ k → k < 9 + t → Lk ps m k = 0) → (t : Int) ≤ Nk ps m (9 + t) j + ps.countP (vt j t)
  | 0, _ => by
    rw [Nk9 ps m j 9 (by omega)]
    omega
  | t + 1, h => by
    have ih := many_noughts (j := j) t fun k h1 h2 => h k h1 (by omega)
    show _ ≤ Nk ps m (9 + t + 1) j + _
    rw [NkS]
    unfold nz
    rw [if_pos (by omega), h (9 + t) (by omega) (by omega)]
    have h1 := vt_step ps j t
    by_cases hm : ((j : Int), ((9 + t : Nat) : Int)) ∈ ps
    · have := vt_hit hm
      rw [bit_in hm]
      omega
    · rw [bit_out hm]
      omega
theorem sd_free {k j : Nat} (h : k ≠ 1) : sd k j (-1) = 1 := by
  unfold sd
  rw [if_pos (by decide), if_neg (by omega)]
/-- a post takes the frame -/
def Takes (ps : List (Int × Int)) (m w j : Nat) : Prop := Fk ps m (9 + w) j = -1 ∧ Nk ps m (9 + w) j ≤ (w : Int) / 2
theorem len3 {a b c : Int × Int} {l : List (Int × Int)} (ha : a ∈ l) (hb : b ∈ l) (hc : c ∈ l) (h1 : a.2 ≠ b.2) (h2 : a.2 ≠ c.2) (h3 : b.2 ≠ c.2) : 3 ≤ l.length := by
  have e1 := count_more (p := fun _ => false) (q := fun y => decide (y.2 = a.2)) (x := a) (fun y h => by simp at h) rfl (by simp) l ha
  have e2 := count_more (p := fun y => decide (y.2 = a.2)) (q := fun y => decide (y.2 = a.2) || decide (y.2 = b.2)) (x := b) (fun y h => by rw [h]; rfl) (by simp; omega) (by simp) l hb
  have e3 := count_more (p := fun y => decide (y.2 = a.2) || decide (y.2 = b.2)) (q := fun _ => true) (x := c) (fun y h => rfl) (by simp; omega) rfl l hc
  have := List.countP_le_length (p := fun _ : Int × Int => true) (l := l)
  omega
/-- the first fault -/
theorem first_fault {ps : List (Int × Int)} {m : Nat} : ∀ n, (∃ j, j < m ∧ 0 ≤ Fk ps m n j) → ∃ p y, p < n ∧ y < m ∧ (∀ j, j < m → Fk ps m p j = -1) ∧ 0 ≤ Fk ps m (p + 1) y
  | 0, ⟨j, _, h⟩ => by
    rw [Fk0] at h
    omega
  | n + 1, ⟨j, hj, h⟩ => by
    by_cases q : ∃ j, j < m ∧ 0 ≤ Fk ps m n j
    · obtain ⟨p, y, h1, h2⟩ := first_fault n q
      exact ⟨p, y, by omega, h2⟩
    · refine ⟨n, j, by omega, hj, fun i hi => ?_, h⟩
      rcases Fk_neg ps m n i with h1 | h1
      · exact h1
      · exact absurd ⟨i, hi, h1⟩ q
theorem fault_wrong {ps : List (Int × Int)} {m p y : Nat} (hm : 2 ≤ m) (hy : y < m) (h0 : ∀ j, j < m → Fk ps m p j = -1) (h1 : 0 ≤ Fk ps m (p + 1) y) : p < 9 ∧ Fk ps m (p + 1) y = p ∧ ((y : Int), (p : Int)) ∈ ps := by
  rw [FkS] at h1 ⊢
  rw [h0 y hy] at h1 ⊢
  unfold nf at h1 ⊢
  by_cases hf : fl p y (bitW ps p y (Lk ps m p)) = true
  · rw [if_pos ⟨by decide, hf⟩]
    unfold fl at hf
    by_cases hp : p = 1
    · subst hp
      rw [if_pos rfl] at hf
      rw [Bool.and_eq_true] at hf
      have hb := of_decide_eq_true hf.2
      have hL : Lk ps m 1 = 0 := Lk0 (j := 1) (by omega) (by rw [h0 1 (by omega)]; rfl)
      rw [hL] at hb
      refine ⟨by decide, rfl, ?_⟩
      by_cases hin : ((y : Int), ((1 : Nat) : Int)) ∈ ps
      · exact hin
      · rw [bit_out hin] at hb
        omega
    · rw [if_neg hp, Bool.and_eq_true] at hf
      have hb := of_decide_eq_true hf.2
      have hp9 := of_decide_eq_true hf.1
      have hL : Lk ps m p = 1 := Lk1 fun j hj => by rw [h0 j hj]; exact sd_free hp
      rw [hL] at hb
      refine ⟨hp9, rfl, ?_⟩
      by_cases hin : ((y : Int), (p : Int)) ∈ ps
      · exact hin
      · rw [bit_out hin] at hb
        omega
  · rw [if_neg (fun q => hf q.2)] at h1
    omega
theorem calm_all {ps : List (Int × Int)} {m w : Nat} (hm : 2 ≤ m) (hl : ps.length ≤ w / 2) (h9 : ∀ j, j < m → Fk ps m 9 j = -1) (j : Nat) (hj : j < m) : Takes ps m w j := by
  have hF : ∀ d i, i < m → Fk ps m (9 + d) i = -1 := fun d => by
    induction d with
    | zero => exact h9
    | succ d ih =>
      intro i hi
      show Fk ps m (9 + d + 1) i = -1
      rw [FkS, ih i hi]
      unfold nf
      have : fl (9 + d) i (bitW ps (9 + d) i (Lk ps m (9 + d))) = false := by
        unfold fl
        rw [if_neg (by omega), decide_eq_false (by omega)]
        rfl
      rw [this, if_neg (by simp)]
  refine ⟨hF w j hj, ?_⟩
  have h1 := few_noughts (ps := ps) (m := m) (j := j) w fun k hk hk2 => Lk1 fun i hi => by
    have := hF (k - 9) i hi
    rw [show 9 + (k - 9) = k by omega] at this
    rw [this]
    exact sd_free (by omega)
  have h2 := List.countP_le_length (p := vt j w) (l := ps)
  omega
theorem few_wrong {ps : List (Int × Int)} {m w : Nat} (hm : 2 ≤ m) (hw : w = 1 ∨ w = 3 ∨ w = 5) (hl : ps.length ≤ w / 2) : (∀ j, j < m → Takes ps m w j) ∨ ((∀ j, j < m → ¬ Takes ps m w j) ∧ ∃ q ∈ ps, q.2 < 9) := by
  by_cases h9 : ∃ j, j < m ∧ 0 ≤ Fk ps m 9 j
  · refine .inr ?_
    obtain ⟨p, y, hp, hy, h0, h1⟩ := first_fault 9 h9
    obtain ⟨_, h2, h3⟩ := fault_wrong hm hy h0 h1
    refine ⟨fun j hj ht => ?_, _, h3, by show (p : Int) < 9; omega⟩
    obtain ⟨t1, t2⟩ := ht
    have hL : ∀ k, p < k → k ≤ p + 6 → Lk ps m k = 0 := fun k hk hk2 => Lk0 hy (by
      have := Fk_stay h1 (k - (p + 1))
      rw [show p + 1 + (k - (p + 1)) = k by omega, h2] at this
      rw [this]
      unfold sd
      rw [if_neg (by omega), if_pos (by omega)])
    have hC : ∀ k, p < k → k ≤ p + 6 → k < 9 → k ≠ 1 → ((j : Int), (k : Int)) ∈ ps := fun k a b c d => by
      by_cases hin : ((j : Int), (k : Int)) ∈ ps
      · exact hin
      · have hf := no_fl (Fk_back (k := k + 1) t1 (by omega))
        rw [hL k a b, bit_out hin] at hf
        unfold fl at hf
        rw [if_neg d, decide_eq_true c] at hf
        exact absurd hf (by decide)
    by_cases hp6 : p ≤ 6
    · have : 3 ≤ ps.length := by
        by_cases hp0 : p = 0
        · exact len3 h3 (hC 2 (by omega) (by omega) (by omega) (by omega)) (hC 3 (by omega) (by omega) (by omega) (by omega)) (by show (p : Int) ≠ ((2 : Nat) : Int); omega) (by show (p : Int) ≠ ((3 : Nat) : Int); omega) (by show ((2 : Nat) : Int) ≠ ((3 : Nat) : Int); omega)
        · exact len3 h3 (hC (p + 1) (by omega) (by omega) (by omega) (by omega)) (hC (p + 2) (by omega) (by omega) (by omega) (by omega)) (by show (p : Int) ≠ ((p + 1 : Nat) : Int); omega) (by show (p : Int) ≠ ((p + 2 : Nat) : Int); omega) (by show ((p + 1 : Nat) : Int) ≠ ((p + 2 : Nat) : Int); omega)
      omega
    · have h4 := many_noughts (ps := ps) (m := m) (j := j) w fun k hk hk2 => hL k (by omega) (by omega)
      have h5 := count_more (p := vt j w) (q := fun _ => true) (x := ((y : Int), (p : Int))) (fun _ _ => rfl) (by unfold vt; simp; omega) rfl ps h3
      have h6 := List.countP_le_length (p := fun _ : Int × Int => true) (l := ps)
      omega
  · refine .inl fun j hj => calm_all hm hl (fun i hi => ?_) j hj
    rcases Fk_neg ps m 9 i with h1 | h1
    · exact h1
    · exact absurd ⟨i, hi, h1⟩ h9
theorem endw_taken {w : Nat} {f n : Int} (h : endw w f n = "taken") : f < 0 ∧ n ≤ (w : Int) / 2 := by
  unfold endw at h
  split at h
  · exact absurd h (by decide)
  · split at h
    · exact absurd h (by decide)
    · omega
end Bt

/-! Rows of pairs. -/
namespace Bt
abbrev RT := Int × Int
def rt0 : RT := (0, 0)
end Bt

/-! All rows of some things, the shorter ones first: the program's and the law's. -/
namespace Bt
open PySem L2
def gt (P : List RT) (k : Int) : RT := P.getD k.toNat rt0
theorem gt_at {P : List RT} {k : Int} (h0 : 0 ≤ k) (h1 : k < P.length) : atI P k = some (gt P k) := by
  rw [atI_ok h0 h1]
  unfold gt
  rw [List.getD_eq_getElem?_getD, List.getElem?_eq_getElem (show k.toNat < P.length by omega)]
  rfl
theorem gt_mem {P : List RT} {k : Int} (h0 : 0 ≤ k) (h1 : k < P.length) : gt P k ∈ P := by
  obtain ⟨x, hx, hm⟩ := atI_mem h0 h1
  rw [gt_at h0 h1] at hx
  cases hx
  exact hm
theorem gt_all (P : List RT) : (rangeI 0 (P.length : Int)).map (gt P) = P := by
  unfold rangeI
  rw [List.map_map, show ((P.length : Int) - 0).toNat = P.length by omega]
  refine List.ext_getElem (by simp) fun i h1 h2 => ?_
  simp only [List.getElem_map, List.getElem_range, Function.comp]
  unfold gt
  rw [List.getD_eq_getElem?_getD, show ((0 : Int) + (i : Int)).toNat = i by omega, List.getElem?_eq_getElem h2]
  rfl
abbrev Rw := List RT × Int
def ext (P : List RT) (z : Rw) : List Rw := (rangeI (z.2 + 1) (P.length : Int)).map fun k => (z.1 ++ [gt P k], k)
def lev (P : List RT) : Nat → List Rw
  | 0 => [([], -1)]
  | d + 1 => (lev P d).flatMap (ext P)
def lvs (P : List RT) (d : Nat) : Nat → List Rw
  | 0 => lev P d
  | e + 1 => lev P d ++ lvs P (d + 1) e
theorem lev_ok (P : List RT) : ∀ (d : Nat) (z : Rw), z ∈ lev P d → z.1.length = d ∧ (-1 ≤ z.2 ∧ z.2 ≤ P.length) ∧ ∀ q ∈ z.1, q ∈ P
  | 0, z, h => by
    rw [List.mem_singleton.mp h]
    exact ⟨rfl, ⟨by decide, by show (-1 : Int) ≤ _; omega⟩, fun _ h => nomatch h⟩
  | d + 1, z, h => by
    obtain ⟨y, hy, hz⟩ := List.mem_flatMap.mp h
    obtain ⟨h1, h2, h3⟩ := lev_ok P d y hy
    obtain ⟨k, hk, rfl⟩ := List.mem_map.mp hz
    have := mem_rangeI hk
    refine ⟨by simp [h1], ⟨by show -1 ≤ k; omega, by show k ≤ _; omega⟩, fun q hq => ?_⟩
    rcases List.mem_append.mp hq with h | h
    · exact h3 q h
    · rw [List.mem_singleton.mp h]
      exact gt_mem (by omega) (by omega)
theorem flat_len {α β : Type} {f : α → List β} {c : Nat} : ∀ (xs : List α), (∀ x ∈ xs, (f x).length ≤ c) → (xs.flatMap f).length ≤ xs.length * c
  | [], _ => by simp
  | x :: r, h => by
    have ih := flat_len (f := f) (c := c) r fun y hy => h y (List.Mem.tail _ hy)
    have h1 := h x (List.Mem.head _)
    rw [List.flatMap_cons, List.length_append, List.length_cons, Nat.succ_mul]
    omega
theorem lev_len (P : List RT) (d : Nat) : (lev P (d + 1)).length ≤ (lev P d).length * P.length := flat_len _ fun z hz => by
  obtain ⟨_, ⟨h, _⟩, _⟩ := lev_ok P d z hz
  unfold ext
  rw [List.length_map, rangeI_length]
  omega
theorem lvs_ok (P : List RT) : ∀ (e d : Nat) (z : Rw), z ∈ lvs P d e → ∀ q ∈ z.1, q ∈ P
  | 0, d, z, h => (lev_ok P d z h).2.2
  | e + 1, d, z, h => by
    rcases List.mem_append.mp h with h | h
    · exact (lev_ok P d z h).2.2
    · exact lvs_ok P e (d + 1) z h
theorem rows_in (P : List RT) (at_ : Nat) (r : List RT) (hr : r.length ≤ 100) : ∀ (n : Nat) (lo : Int) (R : List (List RT)) (E : List Int), ((P.length : Int) - lo).toNat = n → 0 ≤ lo → R[at_]? = some r → R.length = E.length → R.length + n ≤ 16777216 →
    loopM (fun k (s : List (List RT) × List Int) => m_rows_of_L1 P at_ k s.1 s.2) (rangeI lo (P.length : Int)) (R, E) = some (R ++ (rangeI lo (P.length : Int)).map (fun k => r ++ [gt P k]), E ++ rangeI lo (P.length : Int))
  | 0, lo, R, E, e, h0, ha, hl, hz => by
    rw [rangeI_nil (by omega), List.map_nil, List.append_nil, List.append_nil]
    rfl
  | n + 1, lo, R, E, e, h0, ha, hl, hz => by
    obtain ⟨hlt, _⟩ := List.getElem?_eq_some_iff.mp ha
    have hst : m_rows_of_L1 P at_ lo R E = some (R ++ [r ++ [gt P lo]], E ++ [lo]) := by
      unfold m_rows_of_L1
      rw [atI_ok (by omega) (by omega), show ((at_ : Int)).toNat = at_ from rfl, ha, bnd_some, gt_at h0 (by omega), bnd_some, catG_ok (by simp; omega), bnd_some, appG_ok (by omega), bnd_some, appG_ok (by omega), bnd_some]
    rw [rangeI_cons (by omega), loopM_go (f := fun k (s : List (List RT) × List Int) => m_rows_of_L1 P at_ k s.1 s.2) (s := (R, E)) (s' := (R ++ [r ++ [gt P lo]], E ++ [lo])) hst]
    rw [rows_in P at_ r hr n (lo + 1) _ _ (by omega) (by omega) (by rw [List.getElem?_append_left hlt]; exact ha) (by simp [hl]) (by simp; omega)]
    simp
def rowsW (P : List RT) (most : Int) (n : Nat) (Z : List Rw) (at_ : Nat) : Option (List (List RT) × List Int × Int) :=
  whileM (fun s => m_rows_of_W0c P most s.1 s.2.1 s.2.2) (fun s => m_rows_of_W0 P most s.1 s.2.1 s.2.2) n (Z.map Prod.fst, Z.map Prod.snd, (at_ : Int))
theorem rowsW_go {P : List RT} {most : Int} {n : Nat} {Z : List Rw} {at_ : Nat} {z : Rw} (hz : Z[at_]? = some z) (h1 : (z.1.length : Int) < most) (hm : most ≤ 100) (h2 : -1 ≤ z.2) (h3 : z.2 ≤ 1000) (hP : P.length ≤ 1000) (hl : Z.length + (ext P z).length ≤ 16777216) : rowsW P most (n + 1) Z at_ = rowsW P most n (Z ++ ext P z) (at_ + 1) := by
  obtain ⟨hlt, _⟩ := List.getElem?_eq_some_iff.mp hz
  have hf : (Z.map Prod.fst)[at_]? = some z.1 := by rw [List.getElem?_map, hz]; rfl
  have hs : (Z.map Prod.snd)[at_]? = some z.2 := by rw [List.getElem?_map, hz]; rfl
  have hc : m_rows_of_W0c P most (Z.map Prod.fst) (Z.map Prod.snd) (at_ : Int) = some true := by
    unfold m_rows_of_W0c
    rw [decide_eq_true (by simp; omega), ifB_t, atI_ok (by omega) (by simp; omega), show ((at_ : Int)).toNat = at_ from rfl, hf, bnd_some, decide_eq_true h1]
    rfl
  have hb : m_rows_of_W0 P most (Z.map Prod.fst) (Z.map Prod.snd) (at_ : Int) = some ((Z ++ ext P z).map Prod.fst, (Z ++ ext P z).map Prod.snd, ((at_ + 1 : Nat) : Int)) := by
    unfold m_rows_of_W0
    unfold ext at hl ⊢
    rw [List.length_map, rangeI_length] at hl
    rw [atI_ok (by omega) (by simp; omega), show ((at_ : Int)).toNat = at_ from rfl, hs, bnd_some]
    rw [rng2_ok (by omega) (by omega) (by omega) (by omega), bnd_some, rows_in P at_ z.1 (by omega) _ (z.2 + 1) _ _ rfl (by omega) hf (by simp) (by simp; omega), bnd_some]
    simp [List.map_append, List.map_map, Function.comp_def]
  unfold rowsW
  rw [whileM_go (c := fun s => m_rows_of_W0c P most s.1 s.2.1 s.2.2) (f := fun s => m_rows_of_W0 P most s.1 s.2.1 s.2.2) (s := (Z.map Prod.fst, Z.map Prod.snd, (at_ : Int))) hc hb]
theorem rowsW_lev {P : List RT} {most : Int} {d : Nat} (hd : (d : Int) < most) (hm : most ≤ 100) (hP : P.length ≤ 1000) : ∀ (rest A T : List Rw) (n : Nat), (∀ z ∈ rest, z ∈ lev P d) → A.length + rest.length + T.length + (rest.flatMap (ext P)).length ≤ 16777216 →
    rowsW P most (rest.length + n) (A ++ rest ++ T) A.length = rowsW P most n (A ++ rest ++ T ++ rest.flatMap (ext P)) (A.length + rest.length)
  | [], A, T, n, _, _ => by simp
  | z :: r, A, T, n, h, hl => by
    obtain ⟨a1, ⟨a2, a3⟩, _⟩ := lev_ok P d z (h z (List.Mem.head _))
    rw [List.flatMap_cons, List.length_append, List.length_cons] at hl
    rw [List.length_cons, show r.length + 1 + n = (r.length + n) + 1 by omega, rowsW_go (z := z) (by rw [List.append_assoc, List.getElem?_append_right (Nat.le_refl _)]; simp) (by omega) hm a2 (by omega) hP (by simp; omega)]
    have ih := rowsW_lev (P := P) hd hm hP r (A ++ [z]) (T ++ ext P z) n (fun y hy => h y (List.Mem.tail _ hy)) (by simp only [List.length_append, List.length_cons, List.length_nil]; omega)
    rw [show A ++ z :: r ++ T ++ ext P z = A ++ [z] ++ r ++ (T ++ ext P z) by simp, show A.length + 1 = (A ++ [z]).length by simp, ih]
    congr 1
    · simp
    · simp; omega
theorem rowsW_all {P : List RT} {m : Nat} (hm : m ≤ 100) (hP : P.length ≤ 1000) : ∀ (e d : Nat) (A : List Rw) (n : Nat), d + e = m → A.length + (lvs P d e).length ≤ 16777216 → (lvs P d e).length < n →
    ∃ E k, rowsW P m n (A ++ lev P d) A.length = some ((A ++ lvs P d e).map Prod.fst, E, k)
  | 0, d, A, n, e, hl, hn => by
    obtain ⟨n, rfl⟩ : ∃ k, n = k + 1 := ⟨n - 1, by omega⟩
    refine ⟨(A ++ lev P d).map Prod.snd, A.length, ?_⟩
    unfold rowsW
    rw [whileM_stop]
    · rfl
    · unfold m_rows_of_W0c
      dsimp only
      cases hL : lev P d with
      | nil =>
        rw [decide_eq_false (by simp), ifB_f, bnd_some]
      | cons z r =>
        obtain ⟨a1, _, _⟩ := lev_ok P d z (by rw [hL]; exact List.Mem.head _)
        rw [decide_eq_true (by simp; omega), ifB_t, atI_ok (by omega) (by simp; omega), show ((A.length : Int)).toNat = A.length from rfl]
        rw [show ((A ++ z :: r).map Prod.fst)[A.length]? = some z.1 by rw [List.getElem?_map, List.getElem?_append_right (Nat.le_refl _)]; simp, bnd_some, decide_eq_false (by omega)]
        rfl
  | e + 1, d, A, n, h, hl, hn => by
    have hl' : A.length + ((lev P d).length + (lvs P (d + 1) e).length) ≤ 16777216 := by
      rw [← List.length_append]; exact hl
    have hn' : (lev P d).length + (lvs P (d + 1) e).length < n := by
      rw [← List.length_append]; exact hn
    have hsub : (lev P (d + 1)).length ≤ (lvs P (d + 1) e).length := by
      cases e with
      | zero => exact Nat.le_refl _
      | succ e => show _ ≤ (lev P (d + 1) ++ _).length; rw [List.length_append]; omega
    have h1 := rowsW_lev (P := P) (most := (m : Int)) (d := d) (by omega) (by omega) hP (lev P d) A [] (n - (lev P d).length) (fun _ h => h) (by
      show A.length + (lev P d).length + 0 + (lev P (d + 1)).length ≤ _
      omega)
    rw [List.append_nil, show (lev P d).length + (n - (lev P d).length) = n by omega] at h1
    obtain ⟨E, k, h2⟩ := rowsW_all hm hP e (d + 1) (A ++ lev P d) (n - (lev P d).length) (by omega) (by simp; omega) (by omega)
    refine ⟨E, k, ?_⟩
    rw [h1, show A.length + (lev P d).length = (A ++ lev P d).length by simp]
    rw [show (lvs P d (e + 1)) = lev P d ++ lvs P (d + 1) e from rfl, ← List.append_assoc]
    exact h2
theorem rows_of_ok {P : List RT} {m : Nat} (hm : m ≤ 100) (hP : P.length ≤ 1000) (hl : (lvs P 0 m).length < 100000) : m_rows_of P m = some ((lvs P 0 m).map Prod.fst) := by
  obtain ⟨E, k, h⟩ := rowsW_all (P := P) hm hP m 0 [] FUEL (by omega) (by simp; omega) hl
  unfold m_rows_of
  unfold rowsW at h
  rw [show ((([] : List Rw) ++ lev P 0).map Prod.fst) = [[]] from rfl, show ((([] : List Rw) ++ lev P 0).map Prod.snd) = [(-(1 : Int))] from rfl] at h
  rw [show ((([] : List Rw).length : Nat) : Int) = 0 from rfl] at h
  rw [h, bnd_some, List.nil_append]
theorem lvs_small {P : List RT} {m : Nat} (hm : m ≤ 3) (hP : P.length ≤ 12) : ∀ z ∈ lvs P 0 m, z.1.length ≤ 3 := by
  have key : ∀ (e d : Nat) (z : Rw), z ∈ lvs P d e → z.1.length ≤ d + e := fun e => by
    induction e with
    | zero => exact fun d z h => by have := (lev_ok P d z h).1; omega
    | succ e ih =>
      intro d z h
      rcases List.mem_append.mp h with h | h
      · have := (lev_ok P d z h).1; omega
      · have := ih (d + 1) z h; omega
  intro z hz
  have := key m 0 z hz
  omega
theorem lvs_len {P : List RT} {m : Nat} (hm : m ≤ 3) (hP : P.length ≤ 12) : (lvs P 0 m).length ≤ 1885 := by
  have h0 : (lev P 0).length = 1 := rfl
  have h1 : (lev P 1).length ≤ (lev P 0).length * P.length := lev_len P 0
  have h2 : (lev P 2).length ≤ (lev P 1).length * P.length := lev_len P 1
  have h3 : (lev P 3).length ≤ (lev P 2).length * P.length := lev_len P 2
  rw [h0] at h1
  have e1 : (lev P 1).length ≤ 12 := by omega
  have e2 : (lev P 2).length ≤ 144 := Nat.le_trans h2 (Nat.mul_le_mul e1 hP)
  have e3 : (lev P 3).length ≤ 1728 := Nat.le_trans h3 (Nat.mul_le_mul e2 hP)
  obtain rfl | rfl | rfl | rfl : m = 0 ∨ m = 1 ∨ m = 2 ∨ m = 3 := by omega
  · show (lev P 0).length ≤ _; omega
  · show (lev P 0 ++ lev P 1).length ≤ _; rw [List.length_append]; omega
  · show (lev P 0 ++ (lev P 1 ++ lev P 2)).length ≤ _; rw [List.length_append, List.length_append]; omega
  · show (lev P 0 ++ (lev P 1 ++ (lev P 2 ++ lev P 3))).length ≤ _; rw [List.length_append, List.length_append, List.length_append]; omega
end Bt

namespace Bt
open PySem L2
theorem okS {xs : List Str} (h : ∀ x ∈ xs, PyData.strOk x = true) : okD (dqL dqS).d xs = some () := by
  have : PyData.canLay0 ((dqL dqS).d xs) = true := by
    show PyData.canLayAll0 (xs.map PyData.str) = true
    induction xs with
    | nil => rfl
    | cons x r ih =>
      show (PyData.canLay0 (PyData.str x) && PyData.canLayAll0 (r.map PyData.str)) = true
      rw [ih fun y hy => h y (List.Mem.tail _ hy), Bool.and_true]
      exact h x (List.Mem.head _)
  exact grd_of this
theorem okW {xs : List Str} (h : ∀ x ∈ xs, x = "fault" ∨ x = "refused" ∨ x = "taken") : okD (dqL dqS).d xs = some () := okS fun x hx => by
  rcases h x hx with rfl | rfl | rfl <;> decide +kernel
theorem endw3 (w : Nat) (f n : Int) : endw w f n = "fault" ∨ endw w f n = "refused" ∨ endw w f n = "taken" := by
  unfold endw
  split
  · exact .inl rfl
  · split
    · exact .inr (.inl rfl)
    · exact .inr (.inr rfl)
/-- who takes -/
def tk1 (r : List (Int × Int)) (m w j : Nat) : Bool := decide (Fk r m (9 + w) j < 0) && decide (Nk r m (9 + w) j ≤ (w : Int) / 2)
def tkn (r : List (Int × Int)) (m w : Nat) : Nat := (List.range m).countP (tk1 r m w)
def prt (m w : Nat) (r : List (Int × Int)) : Bool := decide (0 < tkn r m w) && decide (tkn r m w < m)
theorem endw_tk (r : List (Int × Int)) (m w j : Nat) : decide (endw w (Fk r m (9 + w) j) (Nk r m (9 + w) j) = "taken") = tk1 r m w j := by
  unfold endw tk1
  by_cases h : 0 ≤ Fk r m (9 + w) j
  · rw [if_pos h, decide_eq_false (show ¬ Fk r m (9 + w) j < 0 by omega)]
    rfl
  · rw [if_neg h, decide_eq_true (show Fk r m (9 + w) j < 0 by omega)]
    by_cases h2 : (w : Int) / 2 < Nk r m (9 + w) j
    · rw [if_pos h2, decide_eq_false (show ¬ Nk r m (9 + w) j ≤ (w : Int) / 2 by omega)]
      rfl
    · rw [if_neg h2, decide_eq_true (show Nk r m (9 + w) j ≤ (w : Int) / 2 by omega)]
      rfl
theorem parted_step {w m : Nat} {r : List (Int × Int)} {acc : List (List (Int × Int))} (hw : w = 1 ∨ w = 3 ∨ w = 5) (hm : 2 ≤ m) (hm2 : m ≤ 5) (hp : goodP m w r) (hl : acc.length < 16777216) :
    m_parting_L0 m w r acc = some (.nx (if prt m w r = true then acc ++ [r] else acc)) := by
  unfold m_parting_L0
  rw [verdicts_plain hw hm hm2 hp]
  show bnd (okD (dqL dqS).d _) _ = _
  rw [okW (fun x hx => by
    obtain ⟨j, _, rfl⟩ := List.mem_map.mp hx
    exact endw3 _ _ _), bnd_some, show okD dqS.d ("taken" : Str) = some () from grd_of (by decide +kernel), bnd_some]
  have hc : cntL ((List.range m).map fun j => endw w ((FN r m (9 + w)).1 j) ((FN r m (9 + w)).2 j)) "taken" = (tkn r m w : Int) := by
    unfold cntL tkn
    rw [List.countP_map]
    congr 1
    refine List.countP_congr fun j _ => ?_
    show decide (endw w (Fk r m (9 + w) j) (Nk r m (9 + w) j) = "taken") = true ↔ _
    rw [endw_tk]
  rw [hc]
  have e : (decide ((0 : Int) < (tkn r m w : Int)) && decide ((tkn r m w : Int) < (m : Int))) = prt m w r := by
    unfold prt
    rw [show decide ((0 : Int) < (tkn r m w : Int)) = decide (0 < tkn r m w) from decide_eq_decide.mpr (by omega), show decide ((tkn r m w : Int) < (m : Int)) = decide (tkn r m w < m) from decide_eq_decide.mpr (by omega)]
  rw [e]
  cases prt m w r with
  | true =>
    rw [ifB_t, appG_ok hl, bnd_some]
    rfl
  | false =>
    rw [ifB_f]
    rfl
theorem parting_ok {w m mo : Nat} {P : List (Int × Int)} (hw : w = 1 ∨ w = 3 ∨ w = 5) (hm : 2 ≤ m) (hm2 : m ≤ 5) (hp : goodP m w P) (hmo : mo ≤ 3) (hP : P.length ≤ 12) :
    m_parting m w P mo = some (.ok (((lvs P 0 mo).map Prod.fst).filter (prt m w))) := by
  have hl := lvs_len hmo hP
  unfold m_parting
  rw [ask_ok hw hm hm2 hp, bndR_ok, rows_of_ok (by omega) (by omega) (by omega), bnd_some]
  have hall : ∀ r ∈ (lvs P 0 mo).map Prod.fst, goodP m w r := fun r hr q hq => by
    obtain ⟨z, hz, rfl⟩ := List.mem_map.mp hr
    exact hp q (lvs_ok P mo 0 z hz q hq)
  have hlen : ((lvs P 0 mo).map Prod.fst).length ≤ 1885 := by rw [List.length_map]; exact hl
  generalize (lvs P 0 mo).map Prod.fst = R at hall hlen
  obtain ⟨out, h1, h2, _, _⟩ := loopF_ok (f := fun row s => m_parting_L0 m w row s) (R := Rs (List (List (Int × Int)))) (fun rest acc => acc ++ rest.filter (prt m w) = R.filter (prt m w) ∧ (∀ r ∈ rest, goodP m w r) ∧ acc.length + rest.length ≤ 1885) (fun x rest acc h => by
    obtain ⟨a1, a2, a3⟩ := h
    rw [List.length_cons] at a3
    refine ⟨_, parted_step hw hm hm2 (a2 x (List.Mem.head _)) (by omega), ?_, fun r hr => a2 r (List.Mem.tail _ hr), ?_⟩
    · rw [← a1, List.filter_cons]
      split
      · simp
      · rfl
    · split
      · simp; omega
      · omega) R [] ⟨by simp, hall, by simpa using hlen⟩
  rw [h1, fin_nx]
  rw [List.filter_nil, List.append_nil] at h2
  rw [h2]
end Bt

namespace Bt
open PySem L2
/-! rows by their places in the list -/
abbrev Iw := List Int × Int
def iext (n : Nat) (z : Iw) : List Iw := (rangeI (z.2 + 1) (n : Int)).map fun k => (z.1 ++ [k], k)
def ilev (n : Nat) : Nat → List Iw
  | 0 => [([], -1)]
  | d + 1 => (ilev n d).flatMap (iext n)
def ilvs (n d : Nat) : Nat → List Iw
  | 0 => ilev n d
  | e + 1 => ilev n d ++ ilvs n (d + 1) e
def gz (P : List RT) (z : Iw) : Rw := (z.1.map (gt P), z.2)
theorem lev_i (P : List RT) : ∀ d, lev P d = (ilev P.length d).map (gz P)
  | 0 => rfl
  | d + 1 => by
    show (lev P d).flatMap (ext P) = ((ilev P.length d).flatMap (iext P.length)).map (gz P)
    rw [lev_i P d, List.flatMap_map, List.map_flatMap]
    congr 1
    funext z
    show (rangeI (z.2 + 1) _).map _ = ((rangeI (z.2 + 1) _).map _).map (gz P)
    rw [List.map_map]
    refine List.map_congr_left fun k _ => ?_
    show _ = ((z.1 ++ [k]).map (gt P), k)
    rw [List.map_append]
    rfl
theorem lvs_i (P : List RT) : ∀ e d, lvs P d e = (ilvs P.length d e).map (gz P)
  | 0, d => lev_i P d
  | e + 1, d => by
    show lev P d ++ lvs P (d + 1) e = (ilev P.length d ++ ilvs P.length (d + 1) e).map (gz P)
    rw [List.map_append, lev_i, lvs_i P e (d + 1)]
/-- rising, within the list -/
def Up (n : Nat) (ix : List Int) : Prop := ix.Pairwise (· < ·) ∧ ∀ k ∈ ix, 0 ≤ k ∧ k < n
theorem ilev_ok (n : Nat) : ∀ (d : Nat) (z : Iw), z ∈ ilev n d → z.1.length = d ∧ Up n z.1 ∧ (∀ k ∈ z.1, k ≤ z.2) ∧ -1 ≤ z.2
  | 0, z, h => by
    rw [List.mem_singleton.mp h]
    exact ⟨rfl, ⟨List.Pairwise.nil, (by intro k hk; cases hk)⟩, (by intro k hk; cases hk), by decide⟩
  | d + 1, z, h => by
    obtain ⟨y, hy, hz⟩ := List.mem_flatMap.mp h
    obtain ⟨h1, ⟨h2, h3⟩, h4, h5⟩ := ilev_ok n d y hy
    obtain ⟨k, hk, rfl⟩ := List.mem_map.mp hz
    have hk := mem_rangeI hk
    refine ⟨by simp [h1], ⟨List.pairwise_append.mpr ⟨h2, List.pairwise_singleton _ _, fun a ha b hb => ?_⟩, fun q hq => ?_⟩, fun q hq => ?_, by show -1 ≤ k; omega⟩
    · rw [List.mem_singleton.mp hb]
      have := h4 a ha
      omega
    · rcases List.mem_append.mp hq with h | h
      · exact h3 q h
      · rw [List.mem_singleton.mp h]; omega
    · show q ≤ k
      rcases List.mem_append.mp hq with h | h
      · have := h4 q h; omega
      · rw [List.mem_singleton.mp h]; omega
theorem ltIs_snoc (i j : Int) (h : i < j) : ∀ x : List Int, ltIs (x ++ [i]) (x ++ [j]) = true
  | [] => by
    show (if i = j then _ else decide (i < j)) = true
    rw [if_neg (by omega), decide_eq_true h]
  | a :: r => by
    show (if a = a then ltIs (r ++ [i]) (r ++ [j]) else _) = true
    rw [if_pos rfl]
    exact ltIs_snoc i j h r
theorem ltIs_app (s t : List Int) : ∀ {x y : List Int}, x.length = y.length → ltIs x y = true → ltIs (x ++ s) (y ++ t) = true
  | [], [], _, h => by cases h
  | [], _ :: _, h, _ => by cases h
  | _ :: _, [], h, _ => by cases h
  | a :: x, b :: y, hl, h => by
    have h' : (if a = b then ltIs x y else decide (a < b)) = true := h
    show (if a = b then ltIs (x ++ s) (y ++ t) else decide (a < b)) = true
    by_cases e : a = b
    · rw [if_pos e] at h' ⊢
      exact ltIs_app s t (by simpa using hl) h'
    · rw [if_neg e] at h' ⊢
      exact h'
theorem rangeI_lt (i j : Int) : (rangeI i j).Pairwise (· < ·) := by
  unfold rangeI
  refine List.pairwise_map.mpr ?_
  exact List.pairwise_lt_range.imp (by intro a b h; omega)
theorem ilev_lt (n : Nat) : ∀ d, (ilev n d).Pairwise fun z y => ltIs z.1 y.1 = true
  | 0 => List.pairwise_singleton _ _
  | d + 1 => by
    show ((ilev n d).flatMap (iext n)).Pairwise _
    refine List.pairwise_flatMap.mpr ⟨fun z hz => ?_, ?_⟩
    · unfold iext
      refine List.pairwise_map.mpr ((rangeI_lt _ _).imp ?_)
      intro a b h
      exact ltIs_snoc a b h _
    · refine List.Pairwise.imp_of_mem (R := fun z y => ltIs z.1 y.1 = true) (fun {z y} hz hy h a ha b hb => ?_) (ilev_lt n d)
      obtain ⟨i, _, rfl⟩ := List.mem_map.mp ha
      obtain ⟨j, _, rfl⟩ := List.mem_map.mp hb
      exact ltIs_app _ _ (by rw [(ilev_ok n d z hz).1, (ilev_ok n d y hy).1]) h
def ltZ (z y : List Int) : Prop := ltIL ((z.length : Int), z) ((y.length : Int), y) = true
theorem ltZ_len {z y : List Int} (h : z.length < y.length) : ltZ z y := by
  show (if (z.length : Int) = (y.length : Int) then _ else decide ((z.length : Int) < (y.length : Int))) = true
  rw [if_neg (by omega), decide_eq_true (by omega)]
theorem ltZ_eq {z y : List Int} (h : z.length = y.length) (k : ltIs z y = true) : ltZ z y := by
  show (if (z.length : Int) = (y.length : Int) then ltIs z y else _) = true
  rw [if_pos (by omega), k]
theorem ilvs_ge (n : Nat) : ∀ (e d : Nat) (z : Iw), z ∈ ilvs n d e → d ≤ z.1.length ∧ z.1.length ≤ d + e ∧ Up n z.1
  | 0, d, z, h => by
    obtain ⟨h1, h2, _⟩ := ilev_ok n d z h
    exact ⟨by omega, by omega, h2⟩
  | e + 1, d, z, h => by
    rcases List.mem_append.mp h with h | h
    · obtain ⟨h1, h2, _⟩ := ilev_ok n d z h
      exact ⟨by omega, by omega, h2⟩
    · obtain ⟨h1, h2, h3⟩ := ilvs_ge n e (d + 1) z h
      exact ⟨by omega, by omega, h3⟩
theorem ilvs_lt (n : Nat) : ∀ (e d : Nat), (ilvs n d e).Pairwise fun z y => ltZ z.1 y.1
  | 0, d => List.Pairwise.imp_of_mem (R := fun z y => ltIs z.1 y.1 = true) (fun {z y} hz hy h => ltZ_eq (by rw [(ilev_ok n d z hz).1, (ilev_ok n d y hy).1]) h) (ilev_lt n d)
  | e + 1, d => by
    refine List.pairwise_append.mpr ⟨ilvs_lt n 0 d, ilvs_lt n e (d + 1), fun z hz y hy => ltZ_len ?_⟩
    have := (ilev_ok n d z hz).1
    have := (ilvs_ge n e (d + 1) y hy).1
    omega
/-- every rising row is there -/
theorem in_ilev {n : Nat} : ∀ (d : Nat) (ix : List Int), ix.length = d → Up n ix → ∃ z ∈ ilev n d, z.1 = ix ∧ ∀ k, (∀ q ∈ ix, q < k) → 0 ≤ k → z.2 < k
  | 0, ix, hl, _ => by
    have : ix = [] := List.eq_nil_of_length_eq_zero hl
    subst this
    exact ⟨([], -1), List.Mem.head _, rfl, fun k _ h => by show (-1 : Int) < k; omega⟩
  | d + 1, ix, hl, ⟨h1, h2⟩ => by
    have hne : ix ≠ [] := fun e => by rw [e] at hl; cases hl
    have e := List.dropLast_concat_getLast hne
    generalize ix.getLast hne = k at e
    generalize ix.dropLast = jx at e
    subst e
    obtain ⟨a1, a2, a3⟩ := List.pairwise_append.mp h1
    obtain ⟨z, hz, rfl, hk⟩ := in_ilev d jx (by simpa using hl) ⟨a1, fun q hq => h2 q (List.mem_append_left _ hq)⟩
    have hk0 := h2 k (List.mem_append_right _ (List.Mem.head _))
    have hk1 := hk k (fun q hq => a3 q hq k (List.Mem.head _)) hk0.1
    refine ⟨(z.1 ++ [k], k), List.mem_flatMap.mpr ⟨z, hz, List.mem_map.mpr ⟨k, ?_, rfl⟩⟩, rfl, fun q hq _ => hq k (List.mem_append_right _ (List.Mem.head _))⟩
    unfold rangeI
    exact List.mem_map.mpr ⟨(k - (z.2 + 1)).toNat, List.mem_range.mpr (by omega), by omega⟩
theorem in_ilvs {n : Nat} {ix : List Int} (h : Up n ix) : ∀ (e d : Nat), d ≤ ix.length → ix.length ≤ d + e → ∃ z ∈ ilvs n d e, z.1 = ix
  | 0, d, h1, h2 => by
    obtain ⟨z, hz, e, _⟩ := in_ilev d ix (by omega) h
    exact ⟨z, hz, e⟩
  | e + 1, d, h1, h2 => by
    by_cases c : ix.length = d
    · obtain ⟨z, hz, e, _⟩ := in_ilev d ix c h
      exact ⟨z, List.mem_append_left _ hz, e⟩
    · obtain ⟨z, hz, e⟩ := in_ilvs h e (d + 1) (by omega) (by omega)
      exact ⟨z, List.mem_append_right _ hz, e⟩
/-! the standings -/
theorem idxL_at {P : List RT} (hn : P.Nodup) : ∀ {j : Nat} {x : RT}, P[j]? = some x → idxL P x = some (j : Int) := by
  induction P with
  | nil => intro j x h; simp at h
  | cons y r ih =>
    intro j x h
    obtain ⟨n1, n2⟩ := List.nodup_cons.mp hn
    unfold idxL
    cases j with
    | zero =>
      cases Option.some.inj h
      rw [if_pos rfl]
      rfl
    | succ j =>
      have h' : r[j]? = some x := by simpa using h
      rw [if_neg (fun e => n1 (by rw [e]; exact List.mem_of_getElem? h')), ih n2 h']
      rfl
theorem standings_ok {P : List RT} (hn : P.Nodup) {ix : List Int} (h : Up P.length ix) (hl : ix.length ≤ 1000) : m__law_standings (ix.map (gt P)) P = some ix := by
  have key : ∀ (jx acc : List Int), (∀ k ∈ jx, 0 ≤ k ∧ k < (P.length : Int)) → acc.length + jx.length ≤ 1000 → compT (m__law_standings_C0t P) (m__law_standings_C0 P) (jx.map (gt P)) acc = some (acc ++ jx) := fun jx => by
    induction jx with
    | nil => intro acc _ _; simp [compT]
    | cons k r ih =>
      intro acc hk hz
      rw [List.length_cons] at hz
      have hk0 := hk k (List.Mem.head _)
      have hin : inL (gt P k) P = true := inL_iff.mpr (gt_mem hk0.1 hk0.2)
      have hix : idxL P (gt P k) = some k := by
        have hg := gt_at hk0.1 hk0.2
        rw [atI_ok hk0.1 hk0.2] at hg
        rw [idxL_at hn hg, Int.toNat_of_nonneg hk0.1]
      show bnd (some (inL (gt P k) P)) (fun b => ifB b (bnd (m__law_standings_C0 P (gt P k)) fun y => if acc.length < 16777216 then compT (m__law_standings_C0t P) (m__law_standings_C0 P) (r.map (gt P)) (acc ++ [y]) else none) _) = _
      rw [hin, bnd_some, ifB_t, show m__law_standings_C0 P (gt P k) = some k by unfold m__law_standings_C0; rw [hix, bnd_some], bnd_some, if_pos (by omega), ih _ (fun q hq => hk q (List.Mem.tail _ hq)) (by simp; omega)]
      simp
  unfold m__law_standings
  rw [key ix [] h.2 (by simpa using hl), bnd_some, List.nil_append]
theorem setL_nodup : ∀ (xs acc : List Int), (acc ++ xs).Nodup → xs.foldl PyProof.Rows.step_dedup acc = acc ++ xs
  | [], acc, _ => by simp
  | x :: r, acc, h => by
    have hx : acc.any (· == x) = false := by
      rw [List.any_eq_false]
      intro y hy
      simp only [beq_iff_eq]
      intro e
      subst e
      exact (List.nodup_append.mp h).2.2 y hy y (List.Mem.head _) rfl
    rw [List.foldl_cons]
    have : PyProof.Rows.step_dedup acc x = acc ++ [x] := by
      unfold PyProof.Rows.step_dedup
      rw [hx]
      rfl
    rw [this, setL_nodup r (acc ++ [x]) (by simpa using h)]
    simp
theorem up_nodup {n : Nat} {ix : List Int} (h : Up n ix) : ix.Nodup := h.1.imp (by intro a b h e; omega)
theorem lenSet_up {n : Nat} {ix : List Int} (h : Up n ix) (hl : ix.length ≤ 1000) : lenSet ix = some (ix.length : Int) := by
  have e : setL ix = ix := by
    unfold setL
    rw [setL_nodup ix [] (by simpa using up_nodup h)]
    rfl
  unfold lenSet
  rw [e]
  exact grd_of (by omega)
theorem srt_up {n : Nat} {ix : List Int} (h : Up n ix) : srtI ix = ix := srt_uniq (srtI_perm ix) (srtI_srt ix) (h.1.imp (by intro a b h; omega))
/-! who takes, by few wrong bits and by the votes' own -/
theorem tk_takes {r : List RT} {m w j : Nat} : tk1 r m w j = true ↔ Takes r m w j := by
  unfold tk1 Takes
  rw [Bool.and_eq_true, decide_eq_true_eq, decide_eq_true_eq]
  have := Fk_neg r m (9 + w) j
  constructor
  · rintro ⟨a, b⟩; exact ⟨by omega, b⟩
  · rintro ⟨a, b⟩; exact ⟨by omega, b⟩
theorem prt_few {r : List RT} {m w : Nat} (hm : 2 ≤ m) (hw : w = 1 ∨ w = 3 ∨ w = 5) (hl : r.length ≤ w / 2) : prt m w r = false := by
  unfold prt tkn
  rcases few_wrong hm hw hl with h | ⟨h, _⟩
  · have : (List.range m).countP (tk1 r m w) = m := by
      have e := (List.countP_eq_length (p := tk1 r m w) (l := List.range m)).mpr fun j hj => tk_takes.mpr (h j (List.mem_range.mp hj))
      rw [e, List.length_range]
    rw [this, decide_eq_false (show ¬ m < m by omega), Bool.and_false]
  · have : (List.range m).countP (tk1 r m w) = 0 := List.countP_eq_zero.mpr fun j hj hh => h j (List.mem_range.mp hj) (tk_takes.mp hh)
    rw [this]
    rfl
theorem vt_up {ps : List RT} {j t : Nat} (hn : ps.Nodup) : ps.countP (vt j (t + 1)) ≤ ps.countP (vt j t) + if ((j : Int), ((9 + t : Nat) : Int)) ∈ ps then 1 else 0 := by
  induction ps with
  | nil => simp
  | cons y r ih =>
    obtain ⟨n1, n2⟩ := List.nodup_cons.mp hn
    have ih := ih n2
    rw [List.countP_cons, List.countP_cons]
    by_cases e : y = ((j : Int), ((9 + t : Nat) : Int))
    · subst e
      rw [if_neg n1] at ih
      rw [if_pos (show ((j : Int), ((9 + t : Nat) : Int)) ∈ ((j : Int), ((9 + t : Nat) : Int)) :: r from List.mem_cons_self), show vt j t ((j : Int), ((9 + t : Nat) : Int)) = false by unfold vt; simp]
      split <;> simp <;> omega
    · have hv : vt j (t + 1) y = vt j t y := by
        obtain ⟨a, b⟩ := y
        unfold vt
        dsimp only
        by_cases ha : a = (j : Int)
        · have hb : b ≠ 9 + (t : Int) := fun hb => e (by rw [ha, hb]; congr 1)
          congr 2
          exact decide_eq_decide.mpr (by omega)
        · rw [decide_eq_false ha, Bool.false_and, Bool.false_and]
      rw [hv]
      have hm : (((j : Int), ((9 + t : Nat) : Int)) ∈ y :: r) ↔ (((j : Int), ((9 + t : Nat) : Int)) ∈ r) := by
        rw [List.mem_cons]
        exact ⟨fun h => h.resolve_left (fun q => e q.symm), .inr⟩
      simp only [hm]
      omega
theorem own_noughts {ps : List RT} {m j : Nat} (hn : ps.Nodup) : ∀ t : Nat, (∀ k, 9 ≤ k → k < 9 + t → Lk ps m k = 1) → (ps.countP (vt j t) : Int) ≤ Nk ps m (9 + t) j
  | 0, _ => by
    have : ps.countP (vt j 0) = 0 := List.countP_eq_zero.mpr fun y _ h => by unfold vt at h; simp at h; omega
    rw [this, Nk9 ps m j 9 (by omega)]
    omega
  | t + 1, h => by
    have ih := own_noughts (j := j) hn t fun k h1 h2 => h k h1 (by omega)
    have hu := vt_up (j := j) (t := t) hn
    show _ ≤ Nk ps m (9 + t + 1) j
    rw [NkS]
    unfold nz
    rw [if_pos (by omega), h (9 + t) (by omega) (by omega)]
    by_cases hm : ((j : Int), ((9 + t : Nat) : Int)) ∈ ps
    · rw [if_pos hm] at hu
      rw [bit_in hm]
      omega
    · rw [if_neg hm] at hu
      rw [bit_out hm]
      omega
theorem prt_own {ps : List RT} {m w p : Nat} (hm : 2 ≤ m) (hp : p < m) (hn : ps.Nodup) (h : ∀ q ∈ ps, q.1 = (p : Int) ∧ 9 ≤ q.2 ∧ q.2 < 9 + (w : Int)) (hl : w / 2 < ps.length) : prt m w ps = true := by
  have hF : ∀ n j, j < m → Fk ps m n j = -1 := fun n j hj => by
    rcases Fk_neg ps m n j with h1 | h1
    · exact h1
    · obtain ⟨a, y, _, hy, h0, h2⟩ := first_fault n ⟨j, hj, h1⟩
      obtain ⟨h3, _, h4⟩ := fault_wrong hm hy h0 h2
      have := (h _ h4).2.1
      omega
  have hL : ∀ k, 9 ≤ k → k < 9 + w → Lk ps m k = 1 := fun k hk _ => Lk1 fun i hi => by
    rw [hF k i hi]
    exact sd_free (by omega)
  have hno : tk1 ps m w p = false := by
    have h1 := own_noughts (j := p) hn w hL
    have h2 : ps.countP (vt p w) = ps.length := List.countP_eq_length.mpr fun q hq => by
      obtain ⟨a, b, c⟩ := h q hq
      unfold vt
      simp [a, b, c]
    rw [h2] at h1
    unfold tk1
    rw [decide_eq_false (show ¬ Nk ps m (9 + w) p ≤ (w : Int) / 2 by omega), Bool.and_false]
  have hyes : ∀ j, j < m → j ≠ p → tk1 ps m w j = true := fun j hj hjp => by
    have h1 := few_noughts (ps := ps) (m := m) (j := j) w hL
    have h2 : ps.countP (vt j w) = 0 := List.countP_eq_zero.mpr fun q hq hh => by
      obtain ⟨a, _, _⟩ := h q hq
      unfold vt at hh
      simp [a] at hh
      omega
    rw [h2] at h1
    exact tk_takes.mpr ⟨hF _ j hj, by omega⟩
  unfold prt tkn
  rw [decide_eq_true, decide_eq_true]
  · rfl
  · have h1 := List.countP_le_length (p := tk1 ps m w) (l := List.range m)
    rw [List.length_range] at h1
    rcases Nat.lt_or_eq_of_le h1 with h2 | h2
    · exact h2
    · have := (List.countP_eq_length (p := tk1 ps m w) (l := List.range m)).mp (by rw [h2, List.length_range]) p (List.mem_range.mpr hp)
      rw [hno] at this
      cases this
  · obtain ⟨j, hj, hjp⟩ : ∃ j, j < m ∧ j ≠ p := by
      by_cases e : p = 0
      · exact ⟨1, by omega, by omega⟩
      · exact ⟨0, by omega, by omega⟩
    exact List.countP_pos_iff.mpr ⟨j, List.mem_range.mpr hj, hyes j hj hjp⟩
/-! the law's list -/
def ownL (p : Nat) (f w : Int) (n : Int) : List RT := (rangeI 0 n).map fun k => ((p : Int), 9 + (f + k) % w)
theorem ownL_nodup {p : Nat} {f w n : Int} (hw : 0 < w) (hn : n ≤ w) : (ownL p f w n).Nodup := by
  unfold ownL
  refine List.pairwise_map.mpr (List.Pairwise.imp_of_mem (R := (· < ·)) (fun {a b} ha hb h e => ?_) (rangeI_lt _ _))
  have ha := mem_rangeI ha
  have hb := mem_rangeI hb
  have e2 := (Prod.mk.inj e).2
  have h1 : (f + b) % w = (f + a) % w := by omega
  have h2 := Int.emod_emod_of_dvd (f + a) (Int.dvd_refl w)
  have h3 : ((f + b) - (f + a)) % w = 0 := Int.emod_eq_emod_iff_emod_sub_eq_zero.mp h1
  have h4 : ((f + b) - (f + a)) = b - a := by omega
  rw [h4, Int.emod_eq_of_lt (by omega) (by omega)] at h3
  omega
theorem ins_perm {xs ys : List RT} {i : Int} {x : RT} (h : insG xs i x = some ys) : ys.Perm (x :: xs) := by
  obtain ⟨_, rfl⟩ := grdE h
  refine List.Perm.trans (List.Perm.append_right _ (List.perm_append_comm)) ?_
  show (x :: (xs.take _ ++ xs.drop _)).Perm _
  rw [List.take_append_drop]
theorem list_ok {ns : List Int} {p m w : Nat} {f : Int} (hw : w = 1 ∨ w = 3 ∨ w = 5) (hm : 2 ≤ m) (hm2 : m ≤ 5) (hp : p < m) (hf : m__law_draw ns 4 w = some f) (f0 : 0 ≤ f) :
    ∃ P, m__law_list ns p m w = some P ∧ P.length ≤ 7 ∧ goodP m w P ∧ P.Nodup ∧ ∀ q ∈ ownL p f w ((w : Int) / 2 + 1), q ∈ P := by
  unfold m__law_list
  rw [hf, bnd_some, rng1_ok (by omega) (by omega), bnd_some]
  obtain ⟨P0, e0, i0, i1⟩ := loopM_rng (f := fun k s => m__law_list_L0 p w f k s) (hi := (w : Int) / 2 + 1) (fun i s => s = ownL p f w i ∧ 0 ≤ i) (by
    rintro i s hi ⟨rfl, h0⟩
    refine ⟨ownL p f w (i + 1), ?_, rfl, by omega⟩
    show m__law_list_L0 p w f i _ = _
    unfold m__law_list_L0
    rw [modG_ok (by omega), bnd_some, appG_ok (by unfold ownL; rw [List.length_map, rangeI_length]; omega), bnd_some]
    congr 1
    unfold ownL
    have : rangeI 0 (i + 1) = rangeI 0 i ++ [i] := by
      unfold rangeI
      rw [show (i + 1 - 0).toNat = (i - 0).toNat + 1 by omega, List.range_succ, List.map_append]
      congr 1
      show [(0 : Int) + ((i - 0).toNat : Int)] = [i]
      congr 1
      omega
    rw [this, List.map_append]
    rfl) ((w : Int) / 2 + 1).toNat 0 [] (by omega) (by omega) ⟨rfl, by omega⟩
  rw [e0, bnd_some]
  obtain ⟨d, e1, d0, d1⟩ := draw_ok ns 5 5 (by decide) (by decide) (by decide)
  rw [e1, bnd_some, rng1_ok (by omega) (by omega), bnd_some]
  have hl0 : P0.length = ((w : Int) / 2 + 1).toNat := by rw [i0]; unfold ownL; rw [List.length_map, rangeI_length]; congr 1
  obtain ⟨P, e2, g1, g2, g3, g4, g5⟩ := loopM_rng (f := fun k s => m__law_list_L1 ns m w k s) (hi := d) (fun i s => 0 ≤ i ∧ (s.length : Int) ≤ ((w : Int) / 2 + 1) + i ∧ goodP m w s ∧ s.Nodup ∧ ∀ q ∈ ownL p f w ((w : Int) / 2 + 1), q ∈ s) (by
    rintro i s hi ⟨h0, h1, h2, h3, h4⟩
    obtain ⟨a, f1, a0, a1⟩ := draw_ok ns (10 + 3 * i) m (by omega) (by omega) (by omega)
    obtain ⟨b, f2, b0, b1⟩ := draw_ok ns (11 + 3 * i) (9 + (w : Int)) (by omega) (by omega) (by omega)
    obtain ⟨c, f3, c0, c1⟩ := draw_ok ns (12 + 3 * i) ((s.length : Int) + 1) (by omega) (by omega) (by omega)
    show ∃ s', m__law_list_L1 ns m w i s = some s' ∧ _
    unfold m__law_list_L1
    rw [f1, bnd_some, f2, bnd_some, f3, bnd_some]
    cases hin : inL (a, b) s with
    | true => exact ⟨s, rfl, by omega, by omega, h2, h3, h4⟩
    | false =>
      have hnm : (a, b) ∉ s := fun q => by rw [inL_iff.mpr q] at hin; cases hin
      obtain ⟨ys, hy⟩ : ∃ ys, insG s c (a, b) = some ys := ⟨_, grd_of ⟨by show s.length < 16777216; omega, c0, by omega⟩⟩
      have hpm := ins_perm hy
      refine ⟨ys, by rw [show (!false) = true from rfl, ifB_t, hy, bnd_some], by omega, by rw [hpm.length_eq]; simp; omega, fun q hq => ?_, hpm.nodup_iff.mpr (List.nodup_cons.mpr ⟨hnm, h3⟩), fun q hq => hpm.mem_iff.mpr (List.Mem.tail _ (h4 q hq))⟩
      rcases List.mem_cons.mp (hpm.mem_iff.mp hq) with rfl | hq
      · exact ⟨a0, a1, b0, b1⟩
      · exact h2 q hq) d.toNat 0 P0 (by omega) (by omega) ⟨by omega, by omega, fun q hq => by
    rw [i0] at hq
    obtain ⟨k, hk, rfl⟩ := List.mem_map.mp hq
    have h1 := Int.emod_nonneg (f + k) (show (w : Int) ≠ 0 by omega)
    have h2 := Int.emod_lt_of_pos (f + k) (show (0 : Int) < w by omega)
    exact ⟨by show (0 : Int) ≤ p; omega, by show (p : Int) < m; omega, by show (0 : Int) ≤ 9 + _; omega, by show 9 + _ < _; omega⟩, by
    rw [i0]
    exact ownL_nodup (by omega) (by omega), fun q hq => by rw [i0]; exact hq⟩
  exact ⟨P, by rw [e2, bnd_some], by omega, g3, g4, g5⟩
theorem law_true (ns : List Int) (hn : ns.length ≤ 63) : m_law ns = some true := by
  unfold m_law
  obtain ⟨a, e1, a0, a1⟩ := draw_ok ns 0 4 (by decide) (by decide) (by decide)
  obtain ⟨b, e2, b0, b1⟩ := draw_ok ns 1 3 (by decide) (by decide) (by decide)
  obtain ⟨m, hm⟩ : ∃ m : Nat, 2 + a = (m : Int) := ⟨(2 + a).toNat, by omega⟩
  obtain ⟨w, hw⟩ : ∃ w : Nat, 1 + 2 * b = (w : Int) := ⟨(1 + 2 * b).toNat, by omega⟩
  have hw3 : w = 1 ∨ w = 3 ∨ w = 5 := by omega
  have m0 : 2 ≤ m := by omega
  have m1 : m ≤ 5 := by omega
  rw [e1, bnd_some, ltv_eq, e2, bnd_some, ltv_eq, hm, hw]
  obtain ⟨c, e3, c0, c1⟩ := draw_ok ns 2 m (by decide) (by decide) (by omega)
  obtain ⟨p, rfl⟩ : ∃ p : Nat, c = (p : Int) := ⟨c.toNat, by omega⟩
  obtain ⟨mo', e4, o0, o1⟩ := draw_ok ns 3 4 (by decide) (by decide) (by decide)
  obtain ⟨mo, rfl⟩ : ∃ mo : Nat, mo' = (mo : Int) := ⟨mo'.toNat, by omega⟩
  obtain ⟨f, e5, f0, f1⟩ := draw_ok ns 4 w (by decide) (by decide) (by omega)
  obtain ⟨P, e6, hP, hg, hnd, hown⟩ := list_ok hw3 m0 m1 (show p < m by omega) e5 f0
  rw [e3, bnd_some, e4, bnd_some, e6, bnd_some, e5, bnd_some, rng1_ok (by omega) (by omega), bnd_some]
  rw [compM_ok (f := m_law_C0 w p f) (g := fun k => ((p : Int), 9 + (f + k) % w)) _ _ (fun k _ => by
    unfold m_law_C0
    rw [modG_ok (by omega), bnd_some]) (by rw [rangeI_length]; simp; omega), bnd_some, List.nil_append]
  rw [show ((rangeI 0 ((w : Int) / 2 + 1)).map fun k => ((p : Int), 9 + (f + k) % (w : Int))) = ownL p f w ((w : Int) / 2 + 1) from rfl]
  rw [compT_ok (c := m_law_C1t (ownL p f w ((w : Int) / 2 + 1))) (f := m_law_C1) (p := fun q => inL q (ownL p f w ((w : Int) / 2 + 1))) (g := fun q => q) P [] (fun q _ => rfl) (fun q _ => rfl) (by simp; omega), bnd_some, List.nil_append, List.map_id']
  have hmo : mo ≤ 3 := by omega
  rw [parting_ok hw3 m0 m1 hg hmo (by omega), bndO_ok]
  show fin _ _ = _
  -- the rows by their standings
  have hrows : ((lvs P 0 mo).map Prod.fst).filter (prt m w) = ((ilvs P.length 0 mo).filter fun z => prt m w (z.1.map (gt P))).map fun z => z.1.map (gt P) := by
    rw [lvs_i, List.map_map, List.filter_map]
    rfl
  have hloop : ∀ (R : List Iw) (bf : Int × List Int), (R.Pairwise fun z y => ltZ z.1 y.1) → (∀ z ∈ R, ltIL bf ((z.1.length : Int), z.1) = true ∧ Up P.length z.1 ∧ z.1.length ≤ mo ∧ w / 2 < z.1.length) →
      ∃ o, loopF (fun row s => m_law_L2 w mo P row s) (R.map fun z => z.1.map (gt P)) bf = some (.nx o) := fun R => by
    induction R with
    | nil => intro bf _ _; exact ⟨bf, rfl⟩
    | cons z r ih =>
      intro bf hpw hz
      obtain ⟨p1, p2⟩ := List.pairwise_cons.mp hpw
      obtain ⟨h1, h2, h3, h4⟩ := hz z (List.Mem.head _)
      have hst : m_law_L2 w mo P (z.1.map (gt P)) bf = some (.nx ((z.1.length : Int), z.1)) := by
        unfold m_law_L2
        rw [List.length_map, decide_eq_false (show ¬ (z.1.length : Int) ≤ (w : Int) / 2 by omega), decide_eq_false (show ¬ (mo : Int) < z.1.length by omega)]
        show bnd (m__law_standings _ _) _ = _
        rw [standings_ok hnd h2 (by omega), bnd_some, decide_eq_true rfl]
        show bnd (bnd (ifB (!decide (srtI z.1 = z.1)) _ _) _) _ = _
        rw [srt_up h2, decide_eq_true rfl]
        show bnd (bnd (bnd (lenSet z.1) _) _) _ = _
        rw [lenSet_up h2 (by omega), bnd_some, decide_eq_true rfl, bnd_some, bnd_some]
        show ifB (!ltIL bf _) _ _ = _
        rw [h1]
        rfl
      rw [List.map_cons, loopF_go (f := fun row s => m_law_L2 w mo P row s) hst]
      exact ih _ p2 fun y hy => ⟨p1 y hy, (hz y (List.Mem.tail _ hy)).2⟩
  rw [hrows]
  obtain ⟨o, ho⟩ := hloop ((ilvs P.length 0 mo).filter fun z => prt m w (z.1.map (gt P))) (0, []) ((ilvs_lt P.length mo 0).filter _) (fun z hz => by
    obtain ⟨h1, h2⟩ := List.mem_filter.mp hz
    obtain ⟨_, h3, h4⟩ := ilvs_ge P.length mo 0 z h1
    have h5 : w / 2 < z.1.length := by
      rcases Nat.lt_or_ge (w / 2) z.1.length with h | h
      · exact h
      · rw [prt_few m0 hw3 (by rw [List.length_map]; exact h)] at h2
        cases h2
    refine ⟨?_, h4, by omega, h5⟩
    show (if (0 : Int) = (z.1.length : Int) then _ else decide ((0 : Int) < (z.1.length : Int))) = true
    rw [if_neg (by omega), decide_eq_true (by omega)])
  rw [ho, fin_nx]
  -- the votes of the one post
  have hix : Up P.length ((rangeI 0 (P.length : Int)).filter fun k => inL (gt P k) (ownL p f w ((w : Int) / 2 + 1))) := ⟨(rangeI_lt _ _).filter _, fun k hk => by
    have := mem_rangeI (List.mem_filter.mp hk).1
    omega⟩
  have hmap : ((rangeI 0 (P.length : Int)).filter fun k => inL (gt P k) (ownL p f w ((w : Int) / 2 + 1))).map (gt P) = P.filter fun q => inL q (ownL p f w ((w : Int) / 2 + 1)) := by
    conv => rhs; rw [← gt_all P]
    rw [List.filter_map]
    rfl
  have hlen : (P.filter fun q => inL q (ownL p f w ((w : Int) / 2 + 1))).length = w / 2 + 1 := by
    have h1 : (P.filter fun q => inL q (ownL p f w ((w : Int) / 2 + 1))).Perm (ownL p f w ((w : Int) / 2 + 1)) := (List.perm_ext_iff_of_nodup (hnd.filter _) (ownL_nodup (by omega) (by omega))).mpr fun q => by
      rw [List.mem_filter, inL_iff]
      exact ⟨fun h => h.2, fun h => ⟨hown q h, h⟩⟩
    rw [h1.length_eq]
    unfold ownL
    rw [List.length_map, rangeI_length]
    omega
  generalize hI : ((rangeI 0 (P.length : Int)).filter fun k => inL (gt P k) (ownL p f w ((w : Int) / 2 + 1))) = ix at hix hmap
  have hpo : prt m w (P.filter fun q => inL q (ownL p f w ((w : Int) / 2 + 1))) = true := prt_own m0 (show p < m by omega) (hnd.filter _) (fun q hq => by
    obtain ⟨k, hk, rfl⟩ := List.mem_map.mp (inL_iff.mp (List.mem_filter.mp hq).2)
    have h1 := Int.emod_nonneg (f + k) (show (w : Int) ≠ 0 by omega)
    have h2 := Int.emod_lt_of_pos (f + k) (show (0 : Int) < w by omega)
    exact ⟨rfl, by show 9 ≤ 9 + _; omega, by show 9 + _ < _; omega⟩) (by rw [hlen]; omega)
  congr 1
  rw [decide_eq_true_eq]
  have hiff : (P.filter fun q => inL q (ownL p f w ((w : Int) / 2 + 1))) ∈ (((ilvs P.length 0 mo).filter fun z => prt m w (z.1.map (gt P))).map fun z => z.1.map (gt P)) ↔ w / 2 + 1 ≤ mo := by
    constructor
    · intro h
      obtain ⟨z, hz, e⟩ := List.mem_map.mp h
      obtain ⟨_, h3, _⟩ := ilvs_ge P.length mo 0 z (List.mem_filter.mp hz).1
      have := congrArg List.length e
      rw [List.length_map, hlen] at this
      omega
    · intro h
      obtain ⟨z, hz, e⟩ := in_ilvs hix mo 0 (by omega) (by
        have := congrArg List.length hmap
        rw [List.length_map, hlen] at this
        omega)
      refine List.mem_map.mpr ⟨z, List.mem_filter.mpr ⟨hz, ?_⟩, ?_⟩
      · rw [e, hmap]; exact hpo
      · rw [e, hmap]
  have e7 : inL (P.filter fun q => inL q (ownL p f w ((w : Int) / 2 + 1))) (((ilvs P.length 0 mo).filter fun z => prt m w (z.1.map (gt P))).map fun z => z.1.map (gt P)) = decide ((w : Int) / 2 < (mo : Int)) := by
    rw [Bool.eq_iff_iff, inL_iff, decide_eq_true_eq, hiff]
    omega
  exact e7
end Bt

open PySem PySem.W PyProof.Rows in
set_option maxRecDepth 100000 in
set_option maxHeartbeats 0 in
theorem PySem.Challenge.cw_bitrail_k64_whole_votes_that_part_holds : PySem.Challenge.rw_bitrail_k64_whole_votes_that_part.Holds := by
  w_on; o_law; k_head; (case hw => w_witness2)
  k_fill
  refine Bt.walk Bt.law_true (l := PySem.Challenge.rw_bitrail_k64_whole_votes_that_part) rfl rfl (fun w h Y => PySem.W.kIn_of Y) ?F
  case F =>
    intro w mg fa h KX G hmg
    obtain ⟨f__law_draw, fd__law_draw, F__law_draw, g__law_draw⟩ : ∃ f fd, L2.Fun _ "_law_draw" "_law_draw" Bt.s__law_draw f fd ∧ mg "_law_draw" = some (.ref f) := by
      refine' Bt.def_mk KX G ?a ?l ?c ?k
      (case a => k_is)
      (case l => k_is)
      (case c => k_is)
      (case k => k_is)
    obtain ⟨f__law_list, fd__law_list, F__law_list, g__law_list⟩ : ∃ f fd, L2.Fun _ "_law_list" "_law_list" Bt.s__law_list f fd ∧ mg "_law_list" = some (.ref f) := by
      refine' Bt.def_mk KX G ?a ?l ?c ?k
      (case a => k_is)
      (case l => k_is)
      (case c => k_is)
      (case k => k_is)
    obtain ⟨f_ask_seats, fd_ask_seats, F_ask_seats, g_ask_seats⟩ : ∃ f fd, L2.Fun _ "ask_seats" "ask_seats" Bt.s_ask_seats f fd ∧ mg "ask_seats" = some (.ref f) := by
      refine' Bt.def_mk KX G ?a ?l ?c ?k
      (case a => k_is)
      (case l => k_is)
      (case c => k_is)
      (case k => k_is)
    obtain ⟨f_rows_of, fd_rows_of, F_rows_of, g_rows_of⟩ : ∃ f fd, L2.Fun _ "rows_of" "rows_of" Bt.s_rows_of f fd ∧ mg "rows_of" = some (.ref f) := by
      refine' Bt.def_mk KX G ?a ?l ?c ?k
      (case a => k_is)
      (case l => k_is)
      (case c => k_is)
      (case k => k_is)
    obtain ⟨f_verdicts, fd_verdicts, F_verdicts, g_verdicts⟩ : ∃ f fd, L2.Fun _ "verdicts" "verdicts" Bt.s_verdicts f fd ∧ mg "verdicts" = some (.ref f) := by
      refine' Bt.def_mk KX G ?a ?l ?c ?k
      (case a => k_is)
      (case l => k_is)
      (case c => k_is)
      (case k => k_is)
    obtain ⟨f_parting, fd_parting, F_parting, g_parting⟩ : ∃ f fd, L2.Fun _ "parting" "parting" Bt.s_parting f fd ∧ mg "parting" = some (.ref f) := by
      refine' Bt.def_mk KX G ?a ?l ?c ?k
      (case a => k_is)
      (case l => k_is)
      (case c => k_is)
      (case k => k_is)
    obtain ⟨f__law_standings, fd__law_standings, F__law_standings, g__law_standings⟩ : ∃ f fd, L2.Fun _ "_law_standings" "_law_standings" Bt.s__law_standings f fd ∧ mg "_law_standings" = some (.ref f) := by
      refine' Bt.def_mk KX G ?a ?l ?c ?k
      (case a => k_is)
      (case l => k_is)
      (case c => k_is)
      (case k => k_is)
    obtain ⟨f_law, fd_law, F_law, g_law⟩ : ∃ f fd, L2.Fun _ "law" "law" Bt.s_law f fd ∧ mg "law" = some (.ref f) := by
      refine' Bt.def_mk KX G ?a ?l ?c ?k
      (case a => k_is)
      (case l => k_is)
      (case c => k_is)
      (case k => k_is)
    have z_enumerate : mg "enumerate" = none := PySem.W.mg_none_of KX G (by k_is)
    have z_isinstance : mg "isinstance" = none := PySem.W.mg_none_of KX G (by k_is)
    have z_len : mg "len" = none := PySem.W.mg_none_of KX G (by k_is)
    have z_list : mg "list" = none := PySem.W.mg_none_of KX G (by k_is)
    have z_min : mg "min" = none := PySem.W.mg_none_of KX G (by k_is)
    have z_range : mg "range" = none := PySem.W.mg_none_of KX G (by k_is)
    have z_set : mg "set" = none := PySem.W.mg_none_of KX G (by k_is)
    have z_sorted : mg "sorted" = none := PySem.W.mg_none_of KX G (by k_is)
    have g_BARE_tails : Bt.Gv mg "BARE_tails" (.int 9) := by
      refine' Bt.gv_int KX G ?a
      (case a => k_is)
    have g_BARE_verdicts : Bt.Gv mg "BARE_verdicts" (.int 9) := by
      refine' Bt.gv_int KX G ?a
      (case a => k_is)
    have g_FLAG : Bt.Gv mg "FLAG" (.int 6) := by
      refine' Bt.gv_int KX G ?a
      (case a => k_is)
    obtain ⟨c_ReadTail, c_SpeakTail, c_Seat, f_Seat_init, f_SpeakTail_init, f_ReadTail_answered, f_ReadTail_voted, f_ReadTail_hear, f_SpeakTail_answered, f_SpeakTail_voted, f_SpeakTail_hear, f_Seat_seat_hears, f_ReadTail_init, f_ReadTail_says, f_SpeakTail_says, f_Seat_seat_says, fd_Seat_init, fd_SpeakTail_init, fd_ReadTail_answered, fd_ReadTail_voted, fd_ReadTail_hear, fd_SpeakTail_answered, fd_SpeakTail_voted, fd_SpeakTail_hear, fd_Seat_seat_hears, fd_ReadTail_init, fd_ReadTail_says, fd_SpeakTail_says, fd_Seat_seat_says, C_ReadTail, C_SpeakTail, C_Seat, N_ReadTail_noughts, N_ReadTail_over, N_ReadTail_votes, N_Seat_flags, N_Seat_tail, N_Seat_verdict, N_SpeakTail_noughts, N_SpeakTail_over, N_SpeakTail_votes, F_Seat_init, F_SpeakTail_init, F_ReadTail_answered, F_ReadTail_voted, F_ReadTail_hear, F_SpeakTail_answered, F_SpeakTail_voted, F_SpeakTail_hear, F_Seat_seat_hears, F_ReadTail_init, F_ReadTail_says, F_SpeakTail_says, F_Seat_seat_says, M_ReadTail_answered, M_ReadTail_hear, M_ReadTail_says, M_ReadTail_voted, M_Seat_seat_hears, M_Seat_seat_says, M_SpeakTail_answered, M_SpeakTail_hear, M_SpeakTail_says, M_SpeakTail_voted, K_ReadTail, k_ReadTail, K_Seat, k_Seat, K_SpeakTail, k_SpeakTail⟩ : ∃ (c_ReadTail c_SpeakTail c_Seat f_Seat_init f_SpeakTail_init f_ReadTail_answered f_ReadTail_voted f_ReadTail_hear f_SpeakTail_answered f_SpeakTail_voted f_SpeakTail_hear f_Seat_seat_hears f_ReadTail_init f_ReadTail_says f_SpeakTail_says f_Seat_seat_says : Addr) (fd_Seat_init fd_SpeakTail_init fd_ReadTail_answered fd_ReadTail_voted fd_ReadTail_hear fd_SpeakTail_answered fd_SpeakTail_voted fd_SpeakTail_hear fd_Seat_seat_hears fd_ReadTail_init fd_ReadTail_says fd_SpeakTail_says fd_Seat_seat_says : FuncData), L2.Cls _ c_ReadTail ∧ L2.Cls _ c_SpeakTail ∧ L2.Cls _ c_Seat ∧ L2.NoAttr _ c_ReadTail "noughts" ∧ L2.NoAttr _ c_ReadTail "over" ∧ L2.NoAttr _ c_ReadTail "votes" ∧ L2.NoAttr _ c_Seat "flags" ∧ L2.NoAttr _ c_Seat "tail" ∧ L2.NoAttr _ c_Seat "verdict" ∧ L2.NoAttr _ c_SpeakTail "noughts" ∧ L2.NoAttr _ c_SpeakTail "over" ∧ L2.NoAttr _ c_SpeakTail "votes" ∧ L2.Fun _ "__init__" "Seat.__init__" Bt.s_Seat_init f_Seat_init fd_Seat_init ∧ L2.Fun _ "__init__" "Tail.__init__" Bt.s_SpeakTail_init f_SpeakTail_init fd_SpeakTail_init ∧ L2.Fun _ "answered" "Tail.answered" Bt.s_ReadTail_answered f_ReadTail_answered fd_ReadTail_answered ∧ L2.Fun _ "voted" "Tail.voted" Bt.s_ReadTail_voted f_ReadTail_voted fd_ReadTail_voted ∧ L2.Fun _ "hear" "Tail.hear" Bt.s_ReadTail_hear f_ReadTail_hear fd_ReadTail_hear ∧ L2.Fun _ "answered" "SpeakTail.answered" Bt.s_SpeakTail_answered f_SpeakTail_answered fd_SpeakTail_answered ∧ L2.Fun _ "voted" "Tail.voted" Bt.s_SpeakTail_voted f_SpeakTail_voted fd_SpeakTail_voted ∧ L2.Fun _ "hear" "Tail.hear" Bt.s_SpeakTail_hear f_SpeakTail_hear fd_SpeakTail_hear ∧ L2.Fun _ "seat_hears" "Seat.seat_hears" Bt.s_Seat_seat_hears f_Seat_seat_hears fd_Seat_seat_hears ∧ L2.Fun _ "__init__" "Tail.__init__" Bt.s_ReadTail_init f_ReadTail_init fd_ReadTail_init ∧ L2.Fun _ "says" "ReadTail.says" Bt.s_ReadTail_says f_ReadTail_says fd_ReadTail_says ∧ L2.Fun _ "says" "Tail.says" Bt.s_SpeakTail_says f_SpeakTail_says fd_SpeakTail_says ∧ L2.Fun _ "seat_says" "Seat.seat_says" Bt.s_Seat_seat_says f_Seat_seat_says fd_Seat_seat_says ∧ L2.Meth _ c_ReadTail "answered" f_ReadTail_answered ∧ L2.Meth _ c_ReadTail "hear" f_ReadTail_hear ∧ L2.Meth _ c_ReadTail "says" f_ReadTail_says ∧ L2.Meth _ c_ReadTail "voted" f_ReadTail_voted ∧ L2.Meth _ c_Seat "seat_hears" f_Seat_seat_hears ∧ L2.Meth _ c_Seat "seat_says" f_Seat_seat_says ∧ L2.Meth _ c_SpeakTail "answered" f_SpeakTail_answered ∧ L2.Meth _ c_SpeakTail "hear" f_SpeakTail_hear ∧ L2.Meth _ c_SpeakTail "says" f_SpeakTail_says ∧ L2.Meth _ c_SpeakTail "voted" f_SpeakTail_voted ∧ L2.Mk _ c_ReadTail f_ReadTail_init ∧ mg "ReadTail" = some (.ref c_ReadTail) ∧ L2.Mk _ c_Seat f_Seat_init ∧ mg "Seat" = some (.ref c_Seat) ∧ L2.Mk _ c_SpeakTail f_SpeakTail_init ∧ mg "SpeakTail" = some (.ref c_SpeakTail) := by
      refine' Bt.packc KX G ?a_ReadTail ?pg_ReadTail ?hd_ReadTail ?po_ReadTail ?sa_ReadTail ?a_SpeakTail ?pg_SpeakTail ?hd_SpeakTail ?po_SpeakTail ?sa_SpeakTail ?a_Seat ?pg_Seat ?hd_Seat ?po_Seat ?sa_Seat ?n_ReadTail_noughts ?n_ReadTail_over ?n_ReadTail_votes ?n_Seat_flags ?n_Seat_tail ?n_Seat_verdict ?n_SpeakTail_noughts ?n_SpeakTail_over ?n_SpeakTail_votes ?at_Seat_init ?if_Seat_init ?il_Seat_init ?ic_Seat_init ?ik_Seat_init ?at_SpeakTail_init ?if_SpeakTail_init ?il_SpeakTail_init ?ic_SpeakTail_init ?ik_SpeakTail_init ?at_ReadTail_answered ?if_ReadTail_answered ?il_ReadTail_answered ?ic_ReadTail_answered ?ik_ReadTail_answered ?at_ReadTail_voted ?if_ReadTail_voted ?il_ReadTail_voted ?ic_ReadTail_voted ?ik_ReadTail_voted ?at_ReadTail_hear ?if_ReadTail_hear ?il_ReadTail_hear ?ic_ReadTail_hear ?ik_ReadTail_hear ?at_SpeakTail_answered ?if_SpeakTail_answered ?il_SpeakTail_answered ?ic_SpeakTail_answered ?ik_SpeakTail_answered ?at_SpeakTail_voted ?if_SpeakTail_voted ?il_SpeakTail_voted ?ic_SpeakTail_voted ?ik_SpeakTail_voted ?at_SpeakTail_hear ?if_SpeakTail_hear ?il_SpeakTail_hear ?ic_SpeakTail_hear ?ik_SpeakTail_hear ?at_Seat_seat_hears ?if_Seat_seat_hears ?il_Seat_seat_hears ?ic_Seat_seat_hears ?ik_Seat_seat_hears ?at_ReadTail_init ?if_ReadTail_init ?il_ReadTail_init ?ic_ReadTail_init ?ik_ReadTail_init ?at_ReadTail_says ?if_ReadTail_says ?il_ReadTail_says ?ic_ReadTail_says ?ik_ReadTail_says ?at_SpeakTail_says ?if_SpeakTail_says ?il_SpeakTail_says ?ic_SpeakTail_says ?ik_SpeakTail_says ?at_Seat_seat_says ?if_Seat_seat_says ?il_Seat_seat_says ?ic_Seat_seat_says ?ik_Seat_seat_says ?mk_ReadTail ?kc_ReadTail ?mk_Seat ?kc_Seat ?mk_SpeakTail ?kc_SpeakTail
      (case a_ReadTail => k_is)
      (case pg_ReadTail => k_is)
      (case hd_ReadTail => k_is)
      (case po_ReadTail => k_is)
      (case sa_ReadTail => k_is)
      (case a_SpeakTail => k_is)
      (case pg_SpeakTail => k_is)
      (case hd_SpeakTail => k_is)
      (case po_SpeakTail => k_is)
      (case sa_SpeakTail => k_is)
      (case a_Seat => k_is)
      (case pg_Seat => k_is)
      (case hd_Seat => k_is)
      (case po_Seat => k_is)
      (case sa_Seat => k_is)
      (case n_ReadTail_noughts => k_is)
      (case n_ReadTail_over => k_is)
      (case n_ReadTail_votes => k_is)
      (case n_Seat_flags => k_is)
      (case n_Seat_tail => k_is)
      (case n_Seat_verdict => k_is)
      (case n_SpeakTail_noughts => k_is)
      (case n_SpeakTail_over => k_is)
      (case n_SpeakTail_votes => k_is)
      (case at_Seat_init => k_is)
      (case if_Seat_init => k_is)
      (case il_Seat_init => k_is)
      (case ic_Seat_init => k_is)
      (case ik_Seat_init => k_is)
      (case at_SpeakTail_init => k_is)
      (case if_SpeakTail_init => k_is)
      (case il_SpeakTail_init => k_is)
      (case ic_SpeakTail_init => k_is)
      (case ik_SpeakTail_init => k_is)
      (case at_ReadTail_answered => k_is)
      (case if_ReadTail_answered => k_is)
      (case il_ReadTail_answered => k_is)
      (case ic_ReadTail_answered => k_is)
      (case ik_ReadTail_answered => k_is)
      (case at_ReadTail_voted => k_is)
      (case if_ReadTail_voted => k_is)
      (case il_ReadTail_voted => k_is)
      (case ic_ReadTail_voted => k_is)
      (case ik_ReadTail_voted => k_is)
      (case at_ReadTail_hear => k_is)
      (case if_ReadTail_hear => k_is)
      (case il_ReadTail_hear => k_is)
      (case ic_ReadTail_hear => k_is)
      (case ik_ReadTail_hear => k_is)
      (case at_SpeakTail_answered => k_is)
      (case if_SpeakTail_answered => k_is)
      (case il_SpeakTail_answered => k_is)
      (case ic_SpeakTail_answered => k_is)
      (case ik_SpeakTail_answered => k_is)
      (case at_SpeakTail_voted => k_is)
      (case if_SpeakTail_voted => k_is)
      (case il_SpeakTail_voted => k_is)
      (case ic_SpeakTail_voted => k_is)
      (case ik_SpeakTail_voted => k_is)
      (case at_SpeakTail_hear => k_is)
      (case if_SpeakTail_hear => k_is)
      (case il_SpeakTail_hear => k_is)
      (case ic_SpeakTail_hear => k_is)
      (case ik_SpeakTail_hear => k_is)
      (case at_Seat_seat_hears => k_is)
      (case if_Seat_seat_hears => k_is)
      (case il_Seat_seat_hears => k_is)
      (case ic_Seat_seat_hears => k_is)
      (case ik_Seat_seat_hears => k_is)
      (case at_ReadTail_init => k_is)
      (case if_ReadTail_init => k_is)
      (case il_ReadTail_init => k_is)
      (case ic_ReadTail_init => k_is)
      (case ik_ReadTail_init => k_is)
      (case at_ReadTail_says => k_is)
      (case if_ReadTail_says => k_is)
      (case il_ReadTail_says => k_is)
      (case ic_ReadTail_says => k_is)
      (case ik_ReadTail_says => k_is)
      (case at_SpeakTail_says => k_is)
      (case if_SpeakTail_says => k_is)
      (case il_SpeakTail_says => k_is)
      (case ic_SpeakTail_says => k_is)
      (case ik_SpeakTail_says => k_is)
      (case at_Seat_seat_says => k_is)
      (case if_Seat_seat_says => k_is)
      (case il_Seat_seat_says => k_is)
      (case ic_Seat_seat_says => k_is)
      (case ik_Seat_seat_says => k_is)
      (case mk_ReadTail => k_is)
      (case kc_ReadTail => k_is)
      (case mk_Seat => k_is)
      (case kc_Seat => k_is)
      (case mk_SpeakTail => k_is)
      (case kc_SpeakTail => k_is)
    obtain ⟨es, n_NoPost, e_NoPost⟩ : ∃ (es : Bt.Eds), mg "NoPost" = some (.ref es.NoPost) ∧ Bt.ErrC _ mg "NoPost" es.NoPost := by
      refine' Bt.pack KX G ?a_NoPost ?e_NoPost ?k_NoPost ?s_NoPost ?t_NoPost
      (case a_NoPost => k_is)
      (case e_NoPost => first | k_exc | k_is | decide +kernel)
      (case k_NoPost => k_is)
      (case s_NoPost => k_is)
      (case t_NoPost => k_is)
    cases hmg.symm.trans g_law
    refine ⟨fd_law, ?_, fun base _ _ => Bt.ok_law (ad := ⟨f__law_draw, fd__law_draw, f__law_list, fd__law_list, f_ask_seats, fd_ask_seats, f_rows_of, fd_rows_of, f_Seat_init, fd_Seat_init, f_SpeakTail_init, fd_SpeakTail_init, f_ReadTail_answered, fd_ReadTail_answered, f_ReadTail_voted, fd_ReadTail_voted, f_ReadTail_hear, fd_ReadTail_hear, f_SpeakTail_answered, fd_SpeakTail_answered, f_SpeakTail_voted, fd_SpeakTail_voted, f_SpeakTail_hear, fd_SpeakTail_hear, f_Seat_seat_hears, fd_Seat_seat_hears, f_ReadTail_init, fd_ReadTail_init, f_ReadTail_says, fd_ReadTail_says, f_SpeakTail_says, fd_SpeakTail_says, f_Seat_seat_says, fd_Seat_seat_says, f_verdicts, fd_verdicts, f_parting, fd_parting, f__law_standings, fd__law_standings, fa, fd_law, c_ReadTail, c_SpeakTail, c_Seat, es⟩) ⟨F__law_draw, g__law_draw, F__law_draw.binds (ps := ["script", "k", "many"]) fun _ _ _ _ _ _ us hl => match us, hl with | [_, _, _], _ => rfl, F__law_list, g__law_list, F__law_list.binds (ps := ["script", "post", "many", "votes"]) fun _ _ _ _ _ _ us hl => match us, hl with | [_, _, _, _], _ => rfl, F_ask_seats, g_ask_seats, F_ask_seats.binds (ps := ["many", "votes", "pairs"]) fun _ _ _ _ _ _ us hl => match us, hl with | [_, _, _], _ => rfl, F_rows_of, g_rows_of, F_rows_of.binds (ps := ["some", "most"]) fun _ _ _ _ _ _ us hl => match us, hl with | [_, _], _ => rfl, F_Seat_init, F_Seat_init.binds (ps := ["self", "tail"]) fun _ _ _ _ _ _ us hl => match us, hl with | [_, _], _ => rfl, F_SpeakTail_init, F_SpeakTail_init.binds (ps := ["self", "votes"]) fun _ _ _ _ _ _ us hl => match us, hl with | [_, _], _ => rfl, F_ReadTail_answered, F_ReadTail_answered.binds (ps := ["self", "bit"]) fun _ _ _ _ _ _ us hl => match us, hl with | [_, _], _ => rfl, F_ReadTail_voted, F_ReadTail_voted.binds (ps := ["self", "bit"]) fun _ _ _ _ _ _ us hl => match us, hl with | [_, _], _ => rfl, F_ReadTail_hear, F_ReadTail_hear.binds (ps := ["self", "bit"]) fun _ _ _ _ _ _ us hl => match us, hl with | [_, _], _ => rfl, F_SpeakTail_answered, F_SpeakTail_answered.binds (ps := ["self", "bit"]) fun _ _ _ _ _ _ us hl => match us, hl with | [_, _], _ => rfl, F_SpeakTail_voted, F_SpeakTail_voted.binds (ps := ["self", "bit"]) fun _ _ _ _ _ _ us hl => match us, hl with | [_, _], _ => rfl, F_SpeakTail_hear, F_SpeakTail_hear.binds (ps := ["self", "bit"]) fun _ _ _ _ _ _ us hl => match us, hl with | [_, _], _ => rfl, F_Seat_seat_hears, F_Seat_seat_hears.binds (ps := ["self", "bit"]) fun _ _ _ _ _ _ us hl => match us, hl with | [_, _], _ => rfl, F_ReadTail_init, F_ReadTail_init.binds (ps := ["self", "votes"]) fun _ _ _ _ _ _ us hl => match us, hl with | [_, _], _ => rfl, F_ReadTail_says, F_ReadTail_says.binds (ps := ["self"]) fun _ _ _ _ _ _ us hl => match us, hl with | [_], _ => rfl, F_SpeakTail_says, F_SpeakTail_says.binds (ps := ["self"]) fun _ _ _ _ _ _ us hl => match us, hl with | [_], _ => rfl, F_Seat_seat_says, F_Seat_seat_says.binds (ps := ["self"]) fun _ _ _ _ _ _ us hl => match us, hl with | [_], _ => rfl, F_verdicts, g_verdicts, F_verdicts.binds (ps := ["many", "votes", "wrong"]) fun _ _ _ _ _ _ us hl => match us, hl with | [_, _, _], _ => rfl, F_parting, g_parting, F_parting.binds (ps := ["many", "votes", "places", "most"]) fun _ _ _ _ _ _ us hl => match us, hl with | [_, _, _, _], _ => rfl, F__law_standings, g__law_standings, F__law_standings.binds (ps := ["row", "pairs"]) fun _ _ _ _ _ _ us hl => match us, hl with | [_, _], _ => rfl, F_law, g_law, F_law.binds (ps := ["script"]) fun _ _ _ _ _ _ us hl => match us, hl with | [_], _ => rfl, z_enumerate, z_isinstance, z_len, z_list, z_min, z_range, z_set, z_sorted, g_BARE_tails, g_BARE_verdicts, g_FLAG, e_NoPost, C_ReadTail, C_SpeakTail, C_Seat, N_ReadTail_noughts, N_ReadTail_over, N_ReadTail_votes, N_Seat_flags, N_Seat_tail, N_Seat_verdict, N_SpeakTail_noughts, N_SpeakTail_over, N_SpeakTail_votes, M_ReadTail_answered, M_ReadTail_hear, M_ReadTail_says, M_ReadTail_voted, M_Seat_seat_hears, M_Seat_seat_says, M_SpeakTail_answered, M_SpeakTail_hear, M_SpeakTail_says, M_SpeakTail_voted, K_ReadTail, k_ReadTail, K_Seat, k_Seat, K_SpeakTail, k_SpeakTail⟩⟩
    obtain ⟨oc, od, kV, doc, pm, an, cdv, ct, osl, rfl, lk, hcd⟩ := F_law.ex
    exact fun s u => .of_eq rfl
