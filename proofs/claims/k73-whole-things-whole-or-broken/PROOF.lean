import PyProof.Rows.All
import Wide.All
import OpenK.AllK
import Wide.FinOn
import HandS.ForMost
import HandS.Exc
import HandS.TryOnly
import HandS.ExcOwn
import HandS.WordsExc
import HandS.IsInst
import HandS.Wide
import HandS.WideBits
import HandS.Flow
import HandS.Evl
import HandS.TryMany
import HandS.Style
import HandS.SortKw
import KE.DatumOrd
import HandS.ExcIs
import HandS.HotCalls
import KE.KExcIs
import HandS.ExcInit
import HandS.ExcField
import HandS.Deep
import HandS.Iter
import HandS.Text
import HandS.Codes
import HandS.StrMore
import HandS.Replace
import PyProof.ListOps
import HandS.More
import PySem.Challenge.RW_bitrail_k73_whole_things_whole_or_broken
set_option Elab.async false
set_option linter.all false
set_option maxRecDepth 100000
set_option maxHeartbeats 4000000
/-! The base of all proofs over bitrail: owned cells over a frame, and the readings' steps, one a construct. -/
namespace Bt
open PySem L2

/-! ### owned cells -/
abbrev Cell := Addr × HO
abbrev Ex (H H' : Hp) : Prop := ∀ a o, H a = some o → H' a = some o
theorem Ex.refl (H : Hp) : Ex H H := fun _ _ h => h
theorem Ex.trans {H H1 H2 : Hp} (a : Ex H H1) (b : Ex H1 H2) : Ex H H2 := fun x o h => b x o (a x o h)
theorem Ex.new {H : Hp} {p : Addr} {o : HO} (h : H p = none) : Ex H (upd H p o) := fun a u e => by
  rw [upd_ne (ne_of_none e h)]
  exact e
theorem Ex.back {H H' : Hp} {p : Addr} (e : Ex H H') (h : H' p = none) : H p = none := by
  cases h1 : H p with
  | none => rfl
  | some o =>
    rw [e p o h1] at h
    cases h
theorem Ex.rd {H H' : Hp} {a : Addr} {u : HO} (e : Ex H H') (h : Rd H a u) : Rd H' a u := by
  rcases h with h | ⟨o, h⟩
  · exact Or.inl (e a _ h)
  · exact Or.inr ⟨o, e a _ h⟩
theorem Ex.l {K : PySem.W.Frag} {H H' : Hp} {a : Addr} {xs : List V} (e : Ex H H') (h : SqL K H a xs) : SqL K H' a xs := by
  rcases h with h | h
  · exact Or.inl (e.rd h)
  · exact Or.inr h
theorem Ex.t {K : PySem.W.Frag} {H H' : Hp} {a : Addr} {xs : List V} (e : Ex H H') (h : SqT K H a xs) : SqT K H' a xs := by
  rcases h with h | h
  · exact Or.inl (e.rd h)
  · exact Or.inr h

/-- H holds the frame R, and beside it the cells L, at unlike places that R does not know -/
structure Own (R H : Hp) (L : List Cell) : Prop where
  ex : Ex R H
  at_ : ∀ c ∈ L, H c.1 = some c.2
  fr : ∀ c ∈ L, R c.1 = none
  nd : (L.map (·.1)).Nodup

section
variable {R H H' : Hp} {L L' A B C : List Cell} {a p q : Addr} {o o' : HO}
theorem Own.start (H : Hp) : Own H H [] := ⟨Ex.refl H, fun _ h => (nomatch h), fun _ h => (nomatch h), List.Pairwise.nil⟩
theorem Own.mem (O : Own R H L) (h : (a, o) ∈ L) : H a = some o := O.at_ _ h
theorem Own.g0 {c1 : Cell} (O : Own R H (c1 :: L)) : H c1.1 = some c1.2 := O.at_ _ (List.Mem.head _)
theorem Own.tl {c1 : Cell} (O : Own R H (c1 :: L)) : Own R H L :=
  ⟨O.ex, fun c h => O.at_ c (List.Mem.tail _ h), fun c h => O.fr c (List.Mem.tail _ h), (List.nodup_cons.mp O.nd).2⟩
theorem Own.ext (O : Own R H L) (e : Ex H H') : Own R H' L := ⟨O.ex.trans e, fun c h => e _ _ (O.at_ c h), O.fr, O.nd⟩
theorem Own.notin (O : Own R H L) (h : H p = none) : p ∉ L.map (·.1) := fun m => by
  obtain ⟨c, hc, e⟩ := List.mem_map.mp m
  have := O.at_ c hc
  rw [e, h] at this
  cases this
theorem Own.ext1 (O : Own R H L) (e : Ex H H') (h : H p = none) (h' : H' p = some o) : Own R H' ((p, o) :: L) :=
  ⟨O.ex.trans e, fun c hc => by
    rcases List.mem_cons.mp hc with rfl | hc
    · exact h'
    · exact e _ _ (O.at_ c hc), fun c hc => by
    rcases List.mem_cons.mp hc with rfl | hc
    · exact O.ex.back h
    · exact O.fr c hc, List.nodup_cons.mpr ⟨O.notin h, O.nd⟩⟩
theorem Own.new (O : Own R H L) (h : H p = none) : Own R (upd H p o) ((p, o) :: L) := O.ext1 (Ex.new h) h upd_same
/-- more cells, owned over H -/
theorem Own.app (O : Own R H L) (N : Own H H' A) : Own R H' (A ++ L) :=
  ⟨O.ex.trans N.ex, fun c hc => by
    rcases List.mem_append.mp hc with hc | hc
    · exact N.at_ c hc
    · exact N.ex _ _ (O.at_ c hc), fun c hc => by
    rcases List.mem_append.mp hc with hc | hc
    · exact O.ex.back (N.fr c hc)
    · exact O.fr c hc, by
    rw [List.map_append]
    refine List.nodup_append.mpr ⟨N.nd, O.nd, fun x hx y hy e => ?_⟩
    subst e
    obtain ⟨c, hc, e⟩ := List.mem_map.mp hx
    have := N.fr c hc
    rw [e] at this
    exact O.notin this hy⟩
theorem Own.put (O : Own R H (A ++ (p, o) :: B)) : Own R (upd H p o') (A ++ (p, o') :: B) := by
  have nd := O.nd
  rw [List.map_append, List.map_cons] at nd
  have nA : p ∉ A.map (·.1) := fun m => by
    have := (List.nodup_append.mp nd).2.2
    exact this _ m p (List.Mem.head _) rfl
  have nB : p ∉ B.map (·.1) := (List.nodup_cons.mp (List.nodup_append.mp nd).2.1).1
  have hp : R p = none := O.fr (p, o) (by simp)
  refine ⟨fun b u e => ?_, fun c hc => ?_, fun c hc => ?_, by rw [List.map_append, List.map_cons]; exact nd⟩
  · rw [upd_ne (ne_of_none e hp)]
    exact O.ex _ _ e
  · rcases List.mem_append.mp hc with hA | hc
    · rw [upd_ne (fun e : c.1 = p => nA (by rw [← e]; exact List.mem_map_of_mem hA))]
      exact O.at_ c (List.mem_append.mpr (Or.inl hA))
    · rcases List.mem_cons.mp hc with rfl | hB
      · exact upd_same
      · rw [upd_ne (fun e : c.1 = p => nB (by rw [← e]; exact List.mem_map_of_mem hB))]
        exact O.at_ c (List.mem_append.mpr (Or.inr (List.mem_cons_of_mem _ hB)))
  · rcases List.mem_append.mp hc with hA | hc
    · exact O.fr c (List.mem_append.mpr (Or.inl hA))
    · rcases List.mem_cons.mp hc with rfl | hB
      · exact hp
      · exact O.fr c (List.mem_append.mpr (Or.inr (List.mem_cons_of_mem _ hB)))
theorem Own.put0 (O : Own R H ((p, o) :: B)) : Own R (upd H p o') ((p, o') :: B) := Own.put (A := []) O
theorem Own.put1 {c1 : Cell} (O : Own R H (c1 :: (p, o) :: B)) : Own R (upd H p o') (c1 :: (p, o') :: B) := Own.put (A := [c1]) O
theorem Own.put2 {c1 c2 : Cell} (O : Own R H (c1 :: c2 :: (p, o) :: B)) : Own R (upd H p o') (c1 :: c2 :: (p, o') :: B) := Own.put (A := [c1, c2]) O
theorem Own.put3 {c1 c2 c3 : Cell} (O : Own R H (c1 :: c2 :: c3 :: (p, o) :: B)) : Own R (upd H p o') (c1 :: c2 :: c3 :: (p, o') :: B) := Own.put (A := [c1, c2, c3]) O
theorem Own.put4 {c1 c2 c3 c4 : Cell} (O : Own R H (c1 :: c2 :: c3 :: c4 :: (p, o) :: B)) : Own R (upd H p o') (c1 :: c2 :: c3 :: c4 :: (p, o') :: B) := Own.put (A := [c1, c2, c3, c4]) O
theorem Own.put5 {c1 c2 c3 c4 c5 : Cell} (O : Own R H (c1 :: c2 :: c3 :: c4 :: c5 :: (p, o) :: B)) : Own R (upd H p o') (c1 :: c2 :: c3 :: c4 :: c5 :: (p, o') :: B) := Own.put (A := [c1, c2, c3, c4, c5]) O
theorem Own.put6 {c1 c2 c3 c4 c5 c6 : Cell} (O : Own R H (c1 :: c2 :: c3 :: c4 :: c5 :: c6 :: (p, o) :: B)) : Own R (upd H p o') (c1 :: c2 :: c3 :: c4 :: c5 :: c6 :: (p, o') :: B) := Own.put (A := [c1, c2, c3, c4, c5, c6]) O
theorem Own.perm (O : Own R H L) (e : L.Perm L') : Own R H L' :=
  ⟨O.ex, fun c h => O.at_ c (e.mem_iff.mpr h), fun c h => O.fr c (e.mem_iff.mpr h), (e.map _).nodup_iff.mp O.nd⟩
/-- fewer cells -/
theorem Own.sub (O : Own R H L) (e : L'.Sublist L) : Own R H L' :=
  ⟨O.ex, fun c h => O.at_ c (e.subset h), fun c h => O.fr c (e.subset h), List.Nodup.sublist (e.map _) O.nd⟩
/-- THE FRAME: what is done to some of the cells, the others being its frame -/
theorem Own.focus (O : Own R H (A ++ B)) : ∃ R', Own R' H A ∧ Ex R R' ∧ (∀ c ∈ B, R' c.1 = some c.2) ∧ ∀ H' A', Own R' H' A' → Own R H' (A' ++ B) := by
  have nd := O.nd
  rw [List.map_append] at nd
  obtain ⟨ndA, ndB, dis⟩ := List.nodup_append.mp nd
  refine ⟨fun b => if b ∈ A.map (·.1) then none else H b, ⟨fun b u e => ?_, fun c h => O.at_ c (List.mem_append.mpr (Or.inl h)), fun c h => if_pos (List.mem_map_of_mem h), ndA⟩, fun b u e => ?_, fun c hc => ?_, fun H' A' O' => ?_⟩
  · by_cases hb : b ∈ A.map (·.1)
    · rw [if_pos hb] at e; cases e
    · rw [if_neg hb] at e; exact e
  · have hb : b ∉ A.map (·.1) := fun m => by
      obtain ⟨c, hc, e1⟩ := List.mem_map.mp m
      have := O.fr c (List.mem_append.mpr (Or.inl hc))
      rw [e1, e] at this
      cases this
    show (if b ∈ A.map (·.1) then none else H b) = some u
    rw [if_neg hb]
    exact O.ex _ _ e
  · have hb : c.1 ∉ A.map (·.1) := fun m => dis _ m _ (List.mem_map_of_mem hc) rfl
    show (if c.1 ∈ A.map (·.1) then none else H c.1) = some c.2
    rw [if_neg hb]
    exact O.at_ c (List.mem_append.mpr (Or.inr hc))
  · have hB : ∀ c ∈ B, (if c.1 ∈ A.map (·.1) then none else H c.1) = some c.2 := fun c hc => by
      have hb : c.1 ∉ A.map (·.1) := fun m => dis _ m _ (List.mem_map_of_mem hc) rfl
      rw [if_neg hb]
      exact O.at_ c (List.mem_append.mpr (Or.inr hc))
    have hR : ∀ b u, R b = some u → (if b ∈ A.map (·.1) then none else H b) = some u := fun b u e => by
      have hb : b ∉ A.map (·.1) := fun m => by
        obtain ⟨c, hc, e1⟩ := List.mem_map.mp m
        have := O.fr c (List.mem_append.mpr (Or.inl hc))
        rw [e1, e] at this
        cases this
      rw [if_neg hb]
      exact O.ex _ _ e
    refine ⟨fun b u e => O'.ex _ _ (hR b u e), fun c hc => ?_, fun c hc => ?_, ?_⟩
    · rcases List.mem_append.mp hc with hc | hc
      · exact O'.at_ c hc
      · exact O'.ex _ _ (hB c hc)
    · rcases List.mem_append.mp hc with hc | hc
      · cases e : R c.1 with
        | none => rfl
        | some u =>
          have := O'.fr c hc
          rw [hR _ _ e] at this
          cases this
      · exact O.fr c (List.mem_append.mpr (Or.inr hc))
    · rw [List.map_append]
      refine List.nodup_append.mpr ⟨O'.nd, ndB, fun x hx y hy e => ?_⟩
      subst e
      obtain ⟨c, hc, e⟩ := List.mem_map.mp hx
      obtain ⟨d, hd, e2⟩ := List.mem_map.mp hy
      have h1 := O'.fr c hc
      have h2 := hB d hd
      rw [e2, ← e, h1] at h2
      cases h2
/-- the frame may be what is there now: all else is kept -/
theorem Own.over (O : Own R H L) : Own H H [] := Own.start H
end

/-! ### what a call hands back: a value; a new list; a new tuple -/
def RetV (v : V) (H : Hp) (Q : VK) : Prop := ∀ H', Ex H H' → Q v H'
def RetL (xs : List V) (H : Hp) (Q : VK) : Prop := ∀ p H', H p = none → Ex H H' → H' p = some (.lst xs) → Q (.ref p) H'
def RetT (xs : List V) (H : Hp) (Q : VK) : Prop := ∀ p H', H p = none → Ex H H' → H' p = some (.tup xs) → Q (.ref p) H'
/-- any new cells, as D says -/
def RetN (D : V → List Cell → Prop) (H : Hp) (Q : VK) : Prop := ∀ v H' L, Own H H' L → D v L → Q v H'
section
variable {R H : Hp} {L : List Cell} {Q : VK} {v : V} {xs : List V}
theorem Own.retV (O : Own R H L) (k : ∀ H', Own R H' L → Q v H') : RetV v H Q := fun H' e => k H' (O.ext e)
theorem Own.retL (O : Own R H L) (k : ∀ p H', Own R H' ((p, .lst xs) :: L) → Q (.ref p) H') : RetL xs H Q := fun p H' h e h' => k p H' (O.ext1 e h h')
theorem Own.retT (O : Own R H L) (k : ∀ p H', Own R H' ((p, .tup xs) :: L) → Q (.ref p) H') : RetT xs H Q := fun p H' h e h' => k p H' (O.ext1 e h h')
theorem Own.retN {D : V → List Cell → Prop} (O : Own R H L) (k : ∀ v H' N, Own R H' (N ++ L) → D v N → Q v H') : RetN D H Q := fun v H' N o d => k v H' N (O.app o) d
/-- the end of a def that started at H: what it hands back is new -/
theorem RetV.go {H0 H : Hp} {L : List Cell} {v : V} {Q : VK} (k : RetV v H0 Q) (O : Own H0 H L) : Q v H := k H O.ex
theorem RetL.go {H0 H : Hp} {L : List Cell} {xs : List V} {Q : VK} {p : Addr} (k : RetL xs H0 Q) (O : Own H0 H L) (h : (p, HO.lst xs) ∈ L) : Q (.ref p) H := k p H (O.fr _ h) O.ex (O.at_ _ h)
theorem RetT.go {H0 H : Hp} {L : List Cell} {xs : List V} {Q : VK} {p : Addr} (k : RetT xs H0 Q) (O : Own H0 H L) (h : (p, HO.tup xs) ∈ L) : Q (.ref p) H := k p H (O.fr _ h) O.ex (O.at_ _ h)
theorem RetN.go {H0 H : Hp} {L N : List Cell} {D : V → List Cell → Prop} {Q : VK} {v : V} (k : RetN D H0 Q) (O : Own H0 H L) (e : N.Sublist L) (d : D v N) : Q v H := k v H N (O.sub e) d
end

end Bt

set_option Elab.async false
set_option linter.all false
set_option maxRecDepth 100000
set_option maxHeartbeats 4000000
/-! The mirror's words (partial functions: none where the program would stop), and the steps that join a reading with its mirror. -/
namespace Bt
open PySem L2

/-! ### the mirror's words -/
section
variable {α β γ S R T : Type}
def ltv (a : α) (f : α → Option β) : Option β := f a
theorem ltvE {a : α} {f : α → Option β} {r : β} (h : ltv a f = some r) : ∃ x, a = x ∧ f x = some r := ⟨a, rfl, h⟩
def bnd (a : Option α) (f : α → Option β) : Option β := match a with
  | some x => f x
  | none => none
theorem bndE {a : Option α} {f : α → Option β} {r : β} (h : bnd a f = some r) : ∃ x, a = some x ∧ f x = some r := by
  cases a with
  | none => cases h
  | some x => exact ⟨x, rfl, h⟩
def ifB (c : Bool) (a b : α) : α := match c with
  | true => a
  | false => b
theorem ifT {c : Bool} {a b r : α} (h : ifB c a b = r) (hc : c = true) : a = r := by subst hc; exact h
theorem ifF {c : Bool} {a b r : α} (h : ifB c a b = r) (hc : c = false) : b = r := by subst hc; exact h
inductive Fl (S R : Type) where
  | nx (s : S)
  | rt (r : R)
  | bk (s : S)
def finK (rest : S → Option R) : Fl S R → Option R
  | .nx s => rest s
  | .rt r => some r
  | .bk _ => none
def fin (a : Option (Fl S R)) (rest : S → Option R) : Option R := bnd a (finK rest)
def floK (rest : S → Option (Fl T R)) : Fl S R → Option (Fl T R)
  | .nx s => rest s
  | .rt r => some (.rt r)
  | .bk _ => none
def flo (a : Option (Fl S R)) (rest : S → Option (Fl T R)) : Option (Fl T R) := bnd a (floK rest)
theorem finRt {rest : S → Option R} {v r : R} (h : finK rest (.rt v) = some r) : v = r := Option.some.inj h
theorem floRt {rest : S → Option (Fl T R)} {v : R} {fl : Fl T R} (h : floK rest (.rt v) = some fl) : Fl.rt v = fl := Option.some.inj h
def loopM (f : α → S → Option S) : List α → S → Option S
  | [], s => some s
  | x :: r, s => bnd (f x s) (loopM f r)
theorem loopM_nil {f : α → S → Option S} {s out : S} (h : loopM f [] s = some out) : out = s := (Option.some.inj h).symm
theorem loopM_cons {f : α → S → Option S} {x : α} {r : List α} {s out : S} (h : loopM f (x :: r) s = some out) : ∃ s', f x s = some s' ∧ loopM f r s' = some out := bndE h
def contF (go : S → Option (Fl S R)) : Fl S R → Option (Fl S R)
  | .nx s => go s
  | .rt r => some (.rt r)
  | .bk s => some (.nx s)
def loopF (f : α → S → Option (Fl S R)) : List α → S → Option (Fl S R)
  | [], s => some (.nx s)
  | x :: r, s => bnd (f x s) (contF (loopF f r))
theorem loopF_nil {f : α → S → Option (Fl S R)} {s : S} {out : Fl S R} (h : loopF f [] s = some out) : Fl.nx s = out := Option.some.inj h
theorem loopF_cons {f : α → S → Option (Fl S R)} {x : α} {r : List α} {s : S} {out : Fl S R} (h : loopF f (x :: r) s = some out) : ∃ fl, f x s = some fl ∧ contF (loopF f r) fl = some out := bndE h
theorem contRt {go : S → Option (Fl S R)} {v : R} {out : Fl S R} (h : contF go (.rt v) = some out) : Fl.rt v = out := Option.some.inj h
theorem contBk {go : S → Option (Fl S R)} {s : S} {out : Fl S R} (h : contF go (.bk s) = some out) : Fl.nx s = out := Option.some.inj h
def whileM (c : S → Option Bool) (f : S → Option S) : Nat → S → Option S
  | 0, _ => none
  | n + 1, s => bnd (c s) fun b => ifB b (bnd (f s) (whileM c f n)) (some s)
theorem whileM_zero {c : S → Option Bool} {f : S → Option S} {s out : S} (h : whileM c f 0 s = some out) : False := nomatch h
theorem whileM_succ {c : S → Option Bool} {f : S → Option S} {n : Nat} {s out : S} (h : whileM c f (n + 1) s = some out) : ∃ b, c s = some b ∧ ifB b (bnd (f s) (whileM c f n)) (some s) = some out := bndE h
def whileF (c : S → Option Bool) (f : S → Option (Fl S R)) : Nat → S → Option (Fl S R)
  | 0, _ => none
  | n + 1, s => bnd (c s) fun b => ifB b (bnd (f s) (contF (whileF c f n))) (some (.nx s))
theorem whileF_succ {c : S → Option Bool} {f : S → Option (Fl S R)} {n : Nat} {s : S} {out : Fl S R} (h : whileF c f (n + 1) s = some out) : ∃ b, c s = some b ∧ ifB b (bnd (f s) (contF (whileF c f n))) (some (.nx s)) = some out := bndE h
/-- a comprehension: what is kept, in order -/
def compM (f : α → Option β) : List α → List β → Option (List β)
  | [], acc => some acc
  | x :: r, acc => bnd (f x) fun y => if acc.length < 16777216 then compM f r (acc ++ [y]) else none
theorem compM_cons {f : α → Option β} {x : α} {r : List α} {acc out : List β} (h : compM f (x :: r) acc = some out) : ∃ y, f x = some y ∧ acc.length < 16777216 ∧ compM f r (acc ++ [y]) = some out := by
  obtain ⟨y, h1, h2⟩ := bndE (show bnd (f x) (fun y => if acc.length < 16777216 then compM f r (acc ++ [y]) else none) = some out from h)
  by_cases c : acc.length < 16777216
  · rw [if_pos c] at h2
    exact ⟨y, h1, c, h2⟩
  · rw [if_neg c] at h2
    cases h2
theorem compM_nil {f : α → Option β} {acc out : List β} (h : compM f [] acc = some out) : out = acc := (Option.some.inj h).symm
/-- .. with a test -/
def compT (c : α → Option Bool) (f : α → Option β) : List α → List β → Option (List β)
  | [], acc => some acc
  | x :: r, acc => bnd (c x) fun b => ifB b (bnd (f x) fun y => if acc.length < 16777216 then compT c f r (acc ++ [y]) else none) (compT c f r acc)
theorem compT_nil {c : α → Option Bool} {f : α → Option β} {acc out : List β} (h : compT c f [] acc = some out) : out = acc := (Option.some.inj h).symm
theorem compT_cons {c : α → Option Bool} {f : α → Option β} {x : α} {r : List α} {acc out : List β} (h : compT c f (x :: r) acc = some out) :
    ∃ b, c x = some b ∧ ifB b (bnd (f x) fun y => if acc.length < 16777216 then compT c f r (acc ++ [y]) else none) (compT c f r acc) = some out := bndE h
theorem compT_yes {c : α → Option Bool} {f : α → Option β} {x : α} {r : List α} {acc out : List β} (h : (bnd (f x) fun y => if acc.length < 16777216 then compT c f r (acc ++ [y]) else none) = some out) :
    ∃ y, f x = some y ∧ acc.length < 16777216 ∧ compT c f r (acc ++ [y]) = some out := by
  obtain ⟨y, h1, h2⟩ := bndE h
  by_cases c : acc.length < 16777216
  · rw [if_pos c] at h2
    exact ⟨y, h1, c, h2⟩
  · rw [if_neg c] at h2
    cases h2
end
section
variable {α : Type}
def grd (c : Prop) [Decidable c] (a : α) : Option α := if c then some a else none
theorem grdE {c : Prop} [Decidable c] {a r : α} (h : grd c a = some r) : c ∧ a = r := by
  unfold grd at h
  by_cases hc : c
  · rw [if_pos hc] at h
    exact ⟨hc, Option.some.inj h⟩
  · rw [if_neg hc] at h
    cases h
theorem grd_of {c : Prop} [Decidable c] {a : α} (h : c) : grd c a = some a := if_pos h
def appG (xs : List α) (y : α) : Option (List α) := grd (xs.length < 16777216) (xs ++ [y])
def catG (xs ys : List α) : Option (List α) := grd (xs.length + ys.length ≤ 16777216) (xs ++ ys)
def repL (xs : List α) : Nat → List α
  | 0 => []
  | n + 1 => xs ++ repL xs n
def repG (xs : List α) (k : Int) : Option (List α) := grd (-(2 ^ 63) ≤ k ∧ k < 2 ^ 63 ∧ xs.length * k.toNat ≤ 16777216) (List.flatten (List.replicate k.toNat xs))
def setG (xs : List α) (i : Int) (y : α) : Option (List α) := match ixN xs.length i with
  | some j => some (xs.set j y)
  | none => none
def cutL (xs : List α) (lo hi : Option Int) : List α := (xs.drop (HT.sIx xs.length 0 lo)).take (HT.sIx xs.length xs.length hi - HT.sIx xs.length 0 lo)
def rangeI (lo hi : Int) : List Int := (List.range (hi - lo).toNat).map fun (i : Nat) => lo + (i : Int)
def rng1 (hi : Int) : Option (List Int) := grd (-(2 ^ 62) ≤ hi ∧ hi < 2 ^ 62) (rangeI 0 hi)
def rng2 (lo hi : Int) : Option (List Int) := grd (-(2 ^ 62) ≤ lo ∧ lo < 2 ^ 62 ∧ -(2 ^ 62) ≤ hi ∧ hi < 2 ^ 62) (rangeI lo hi)
end
def modG (i j : Int) : Option Int := grd (0 < j) (i % j)
def fdivG (i j : Int) : Option Int := grd (0 < j ∧ j.natAbs.log2 < 9000) (i / j)
def mulG (i j : Int) : Option Int := grd (i.natAbs.log2 + j.natAbs.log2 < 1000000) (i * j)
def shlG (i j : Int) : Option Int := grd (0 ≤ j ∧ (Builtin.Int.intBits i : Int) + j ≤ 2 ^ 27) (i * 2 ^ j.toNat)
def shrG (i j : Int) : Option Int := grd (0 ≤ j) (i / 2 ^ j.toNat)
def powG (i j : Int) : Option Int := grd (0 ≤ j ∧ j ≤ 1000000 ∧ i.natAbs < 2 ^ 64) (i ^ j.toNat)

/-! ### the steps -/
section
variable {K : PySem.W.Frag} {σ : St} {H R : Hp} {L : List Cell} {Q : VK} {i j t : Int} {x y z v : V} {a b p q : Addr} {α : Type} {f : α → V} {xs ys zs : List α} {xs' ys' : List Int}
theorem k_mul (h : mulG i j = some t) (k : Q (.int t) H) : rI CMulW (fun i j => .int (i * j)) (.int i) (.int j) H Q := by
  obtain ⟨c, rfl⟩ := grdE h
  exact ⟨_, _, rfl, rfl, c, k⟩
theorem k_mod (h : modG i j = some t) (k : Q (.int t) H) : rI (fun _ j => 0 < j) (fun i j => .int (i % j)) (.int i) (.int j) H Q := by
  obtain ⟨c, rfl⟩ := grdE h
  exact ⟨_, _, rfl, rfl, c, k⟩
theorem k_fdiv (h : fdivG i j = some t) (k : Q (.int t) H) : rI CDivW (fun i j => .int (i / j)) (.int i) (.int j) H Q := by
  obtain ⟨c, rfl⟩ := grdE h
  exact ⟨_, _, rfl, rfl, c, k⟩
theorem k_shl (h : shlG i j = some t) (k : Q (.int t) H) : rI CShl (fun i j => .int (i * 2 ^ j.toNat)) (.int i) (.int j) H Q := by
  obtain ⟨c, rfl⟩ := grdE h
  exact ⟨_, _, rfl, rfl, c, k⟩
theorem k_shr (h : shrG i j = some t) (k : Q (.int t) H) : rI (fun _ j => 0 ≤ j) (fun i j => .int (i / 2 ^ j.toNat)) (.int i) (.int j) H Q := by
  obtain ⟨c, rfl⟩ := grdE h
  exact ⟨_, _, rfl, rfl, c, k⟩
theorem k_pow (h : powG i j = some t) (k : Q (.int t) H) : rI CPow (fun i j => .int (i ^ j.toNat)) (.int i) (.int j) H Q := by
  obtain ⟨c, rfl⟩ := grdE h
  exact ⟨_, _, rfl, rfl, c, k⟩
theorem dec_int (i j : Int) : decide (V.int i = V.int j) = decide (i = j) := by
  by_cases h : i = j
  · subst h; simp
  · have : ¬ V.int i = V.int j := fun e => h (V.int.inj e)
    simp [h, this]
theorem dec_bl (i j : Bool) : decide (V.bl i = V.bl j) = decide (i = j) := by
  by_cases h : i = j
  · subst h; simp
  · have : ¬ V.bl i = V.bl j := fun e => h (V.bl.inj e)
    simp [h, this]
theorem dec_str (i j : Str) : decide (V.str i = V.str j) = decide (i = j) := by
  by_cases h : i = j
  · subst h; simp
  · have : ¬ V.str i = V.str j := fun e => h (V.str.inj e)
    simp [h, this]
theorem k_eqI (k : Q (.bl (decide (i = j))) H) : rEq (.int i) (.int j) H Q := ⟨rfl, by rw [dec_int]; exact k⟩
theorem k_neI (k : Q (.bl (!decide (i = j))) H) : rNe (.int i) (.int j) H Q := ⟨rfl, by rw [dec_int]; exact k⟩
theorem k_eqB {c d : Bool} (k : Q (.bl (decide (c = d))) H) : rEq (.bl c) (.bl d) H Q := ⟨rfl, by rw [dec_bl]; exact k⟩
theorem k_neB {c d : Bool} (k : Q (.bl (!decide (c = d))) H) : rNe (.bl c) (.bl d) H Q := ⟨rfl, by rw [dec_bl]; exact k⟩
theorem k_eqS {c d : Str} (k : Q (.bl (decide (c = d))) H) : rEq (.str c) (.str d) H Q := ⟨rfl, by rw [dec_str]; exact k⟩
theorem k_neS {c d : Str} (k : Q (.bl (!decide (c = d))) H) : rNe (.str c) (.str d) H Q := ⟨rfl, by rw [dec_str]; exact k⟩
/-! deep == of flat lists -/
theorem dpI : ∀ (ns : List Int), DpAll K H (ns.map V.int) (ns.map PyData.int)
  | [] => .nil
  | n :: r => .cons (.int n) (dpI r)
theorem dpB : ∀ (ns : List Bool), DpAll K H (ns.map V.bl) (ns.map PyData.bool)
  | [] => .nil
  | n :: r => .cons (.bl n) (dpB r)
theorem dpS : ∀ (ns : List Str), DpAll K H (ns.map V.str) (ns.map PyData.str)
  | [] => .nil
  | n :: r => .cons (.str n) (dpS r)

theorem sh_I (ns : List Int) : SeqAt.shaped (.list (ns.map PyData.int)) = true := by
  have h1 : ∀ ns : List Int, PyData.canLayAll0 (ns.map PyData.int) = true := fun ns => by
    induction ns with
    | nil => rfl
    | cons n r ih => simpa [PyData.canLayAll0, PyData.canLay0] using ih
  have h2 : ∀ ns : List Int, PyData.depthAll (ns.map PyData.int) = 0 := fun ns => by
    induction ns with
    | nil => rfl
    | cons n r ih => simpa [PyData.depthAll, PyData.depth] using ih
  simp [SeqAt.shaped, PyData.canLay0, h1, PyData.depth, h2]
theorem sh_B (ns : List Bool) : SeqAt.shaped (.list (ns.map PyData.bool)) = true := by
  have h1 : ∀ ns : List Bool, PyData.canLayAll0 (ns.map PyData.bool) = true := fun ns => by
    induction ns with
    | nil => rfl
    | cons n r ih => simpa [PyData.canLayAll0, PyData.canLay0] using ih
  have h2 : ∀ ns : List Bool, PyData.depthAll (ns.map PyData.bool) = 0 := fun ns => by
    induction ns with
    | nil => rfl
    | cons n r ih => simpa [PyData.depthAll, PyData.depth] using ih
  simp [SeqAt.shaped, PyData.canLay0, h1, PyData.depth, h2]
theorem ev_I : ∀ (ns ms : List Int), PyData.eqv (.list (ns.map PyData.int)) (.list (ms.map PyData.int)) = decide (ns = ms) := by
  have h : ∀ (ns ms : List Int), PyData.eqvAll (ns.map PyData.int) (ms.map PyData.int) = decide (ns = ms) := fun ns => by
    induction ns with
    | nil => intro ms; cases ms <;> simp [PyData.eqvAll]
    | cons n r ih =>
      intro ms
      cases ms with
      | nil => simp [PyData.eqvAll]
      | cons m s =>
        simp only [List.map_cons, PyData.eqvAll, PyData.eqv, ih, List.cons.injEq, Bool.decide_and]
        rw [Bool.beq_eq_decide_eq]
  exact fun ns ms => by simpa only [PyData.eqv] using h ns ms
theorem k_eqLI (ha : SqL K H a (xs'.map V.int)) (hb : SqL K H b (ys'.map V.int)) (k : Q (.bl (decide (xs' = ys'))) H) : rEqD K (.ref a) (.ref b) H Q :=
  ⟨_, _, .lst ha (dpI _), .lst hb (dpI _), sh_I _, sh_I _, by rw [ev_I]; exact k⟩
theorem k_neLI (ha : SqL K H a (xs'.map V.int)) (hb : SqL K H b (ys'.map V.int)) (k : Q (.bl (!decide (xs' = ys'))) H) : rNeD K (.ref a) (.ref b) H Q :=
  ⟨_, _, .lst ha (dpI _), .lst hb (dpI _), sh_I _, sh_I _, by rw [ev_I]; exact k⟩
/-! lists -/
theorem k_len (h : SqL K H a (xs.map f)) (k : Q (.int (xs.length : Int)) H) : ∃ p ys, [V.ref a] = [V.ref p] ∧ (SqL K H p ys ∨ SqT K H p ys) ∧ Q (.int ys.length) H :=
  ⟨a, _, rfl, .inl h, by rw [List.length_map]; exact k⟩
theorem k_list (O : Own R H L) {ys : List V} (h : SqL K H a ys) (k : ∀ p H', Own R H' ((p, .lst ys) :: L) → Q (.ref p) H') : ∃ p ys, [V.ref a] = [V.ref p] ∧ (SqL K H p ys ∨ SqT K H p ys) ∧ ∀ l, H l = none → Q (.ref l) (upd H l (.lst ys)) :=
  ⟨a, _, rfl, .inl h, fun l hl => k l _ (O.new hl)⟩
theorem k_sum (h : SqL K H a (xs'.map V.int)) (k : Q (.int xs'.sum) H) : rSum K [.ref a] H Q := ⟨a, _, rfl, h, k⟩
theorem k_new {zs : List V} (O : Own R H L) (k : ∀ p H', Own R H' ((p, .lst zs) :: L) → Q (.ref p) H') : ∀ p, H p = none → Q (.ref p) (upd H p (.lst zs)) := fun p hp => k p _ (O.new hp)
theorem k_newT {zs : List V} (O : Own R H L) (k : ∀ p H', Own R H' ((p, .tup zs) :: L) → Q (.ref p) H') : ∀ p, H p = none → Q (.ref p) (upd H p (.tup zs)) := fun p hp => k p _ (O.new hp)
theorem at_map {xs : List α} {i : Int} {x : α} (h : atI xs i = some x) (f : α → V) : atI (xs.map f) i = some (f x) := by
  unfold atI at h ⊢
  rw [List.length_map]
  cases e : ixN xs.length i with
  | none => rw [e] at h; cases h
  | some j =>
    rw [e] at h
    show (xs.map f)[j]? = some (f x)
    rw [List.getElem?_map, (show xs[j]? = some x from h)]
    rfl
theorem k_ixL {x : α} (hs : SqL K H a (xs.map f)) (h : atI xs i = some x) (k : Q (f x) H) : rIxL K (.ref a) (.int i) H Q := ⟨a, _, i, _, rfl, rfl, hs, at_map h f, k⟩
theorem map_snoc (xs : List α) (x : α) (f : α → V) : xs.map f ++ [f x] = (xs ++ [x]).map f := by rw [List.map_append]; rfl
theorem k_app {x : α} {g : HO → List Cell} (hl : H a = some (.lst (xs.map f))) (hp : ∀ o', Own R (upd H a o') (g o')) (h : appG xs x = some ys) (k : ∀ H', Own R H' (g (.lst (ys.map f))) → Q .non H') : rAppend (.ref a) [f x] H Q := by
  obtain ⟨c, rfl⟩ := grdE h
  refine ⟨a, _, _, rfl, rfl, hl, by rw [List.length_map]; exact c, ?_⟩
  rw [map_snoc]
  exact k _ (hp _)
theorem map_cut (xs : List α) (lo hi : Option Int) (f : α → V) : cutV (xs.map f) lo hi = (cutL xs lo hi).map f := by
  unfold cutV cutL
  rw [List.length_map, ← List.map_drop, ← List.map_take]
theorem k_cut {lo hi : Option Int} (O : Own R H L) (hs : SqL K H a (xs.map f)) (k : ∀ p H', Own R H' ((p, .lst ((cutL xs lo hi).map f)) :: L) → Q (.ref p) H') : rSlL K (.ref a) lo hi H Q :=
  ⟨a, _, rfl, hs, fun p hp => by rw [map_cut]; exact k p _ (O.new hp)⟩
theorem k_cat {ys zs : List α} (O : Own R H L) (h1 : H a = some (.lst (xs.map f))) (h2 : H b = some (.lst (ys.map f))) (h : catG xs ys = some zs) (k : ∀ p H', Own R H' ((p, .lst (zs.map f)) :: L) → Q (.ref p) H') : rCat (.ref a) (.ref b) H Q := by
  obtain ⟨c, rfl⟩ := grdE h
  exact ⟨a, b, _, _, rfl, rfl, h1, h2, by rw [List.length_map, List.length_map]; exact c, fun p hp => by rw [← List.map_append]; exact k p _ (O.new hp)⟩
theorem k_setL {x : α} {g : HO → List Cell} {QH : Hp → Prop} (hl : H a = some (.lst (xs.map f))) (hp : ∀ o', Own R (upd H a o') (g o')) (h : setG xs i x = some ys) (k : ∀ H', Own R H' (g (.lst (ys.map f))) → QH H') : rSetL (.ref a) (.int i) (f x) H QH := by
  unfold setG at h
  cases e : ixN xs.length i with
  | none => rw [e] at h; cases h
  | some j =>
    rw [e] at h
    cases h
    refine ⟨a, _, i, j, rfl, rfl, hl, by rw [List.length_map]; exact e, ?_⟩
    have e2 : (xs.map f).set j (f x) = (xs.set j x).map f := by rw [List.map_set]
    rw [e2]
    exact k _ (hp _)
/-! tests with two sides: what the one is asked for, the other is not seen -/
theorem x_and {c d e : Bool} {tt uu : TT} {QB : Bool → Hp → Prop} (O : Own R H L) (h1 : ∀ Q1 : Bool → Hp → Prop, (∀ H', Own R H' L → Q1 c H') → tt σ H Q1) (h2 : c = true → e = d ∧ ∀ H', Own R H' L → ∀ Q2 : Bool → Hp → Prop, (∀ H'', Own R H'' L → Q2 e H'') → uu σ H' Q2)
    (h3 : c = false → false = d) (k : ∀ H', Own R H' L → QB d H') : tAnd tt uu σ H QB := by
  refine h1 _ fun H' O' => ?_
  cases c with
  | true =>
    obtain ⟨e1, g2⟩ := h2 rfl
    subst e1
    exact g2 H' O' QB k
  | false =>
    rw [← h3 rfl] at k
    exact k H' O'
theorem x_or {c d e : Bool} {tt uu : TT} {QB : Bool → Hp → Prop} (O : Own R H L) (h1 : ∀ Q1 : Bool → Hp → Prop, (∀ H', Own R H' L → Q1 c H') → tt σ H Q1) (h2 : c = false → e = d ∧ ∀ H', Own R H' L → ∀ Q2 : Bool → Hp → Prop, (∀ H'', Own R H'' L → Q2 e H'') → uu σ H' Q2)
    (h3 : c = true → true = d) (k : ∀ H', Own R H' L → QB d H') : tOr tt uu σ H QB := by
  refine h1 _ fun H' O' => ?_
  cases c with
  | false =>
    obtain ⟨e1, g2⟩ := h2 rfl
    subst e1
    exact g2 H' O' QB k
  | true =>
    rw [← h3 rfl] at k
    exact k H' O'
theorem x_andV {c d e : Bool} {tt uu : TE} (O : Own R H L) (h1 : ∀ Q1 : VK, (∀ H', Own R H' L → Q1 (.bl c) H') → tt σ H Q1) (h2 : c = true → e = d ∧ ∀ H', Own R H' L → ∀ Q2 : VK, (∀ H'', Own R H'' L → Q2 (.bl e) H'') → uu σ H' Q2)
    (h3 : c = false → false = d) (k : ∀ H', Own R H' L → Q (.bl d) H') : tAndV tt uu σ H Q := by
  refine h1 _ fun H' O' => ⟨_, rfl, ?_⟩
  cases c with
  | true =>
    obtain ⟨e1, g2⟩ := h2 rfl
    subst e1
    exact g2 H' O' Q k
  | false =>
    rw [← h3 rfl] at k
    exact k H' O'
theorem x_orV {c d e : Bool} {tt uu : TE} (O : Own R H L) (h1 : ∀ Q1 : VK, (∀ H', Own R H' L → Q1 (.bl c) H') → tt σ H Q1) (h2 : c = false → e = d ∧ ∀ H', Own R H' L → ∀ Q2 : VK, (∀ H'', Own R H'' L → Q2 (.bl e) H'') → uu σ H' Q2)
    (h3 : c = true → true = d) (k : ∀ H', Own R H' L → Q (.bl d) H') : tOrV tt uu σ H Q := by
  refine h1 _ fun H' O' => ⟨_, rfl, ?_⟩
  cases c with
  | false =>
    obtain ⟨e1, g2⟩ := h2 rfl
    subst e1
    exact g2 H' O' Q k
  | true =>
    rw [← h3 rfl] at k
    exact k H' O'
/-- a < b < c -/
theorem x_chain {r r' : R2} {c d e : Bool} {ta tb tc : TE} (O : Own R H L) (h1 : ∀ Q1 : VK, (∀ H', Own R H' L → Q1 x H') → ta σ H Q1) (h2 : ∀ H', Own R H' L → ∀ Q1 : VK, (∀ H', Own R H' L → Q1 y H') → tb σ H' Q1) (h3 : ∀ H' (Q1 : VK), Q1 (.bl c) H' → r x y H' Q1)
    (h4 : c = true → e = d ∧ ∀ H', Own R H' L → ∀ Q1 : VK, (∀ H', Own R H' L → Q1 z H') → tc σ H' Q1) (h5 : ∀ H' (Q1 : VK), Q1 (.bl e) H' → r' y z H' Q1) (h6 : c = false → false = d) (k : ∀ H', Own R H' L → Q (.bl d) H') : tChain r r' ta tb tc σ H Q := by
  refine h1 _ fun H1 O1 => h2 H1 O1 _ fun H2 O2 => h3 H2 _ ⟨c, rfl, ?_⟩
  cases c with
  | true =>
    obtain ⟨e1, g4⟩ := h4 rfl
    subst e1
    exact g4 H2 O2 _ fun H3 O3 => h5 H3 _ (k H3 O3)
  | false =>
    rw [← h6 rfl] at k
    exact k H2 O2
/-- a if c else b, a value -/
theorem x_if {c : Bool} {tt : TT} {ta tb : TE} (O : Own R H L) (h1 : ∀ Q1 : Bool → Hp → Prop, (∀ H', Own R H' L → Q1 c H') → tt σ H Q1) (h2 : c = true → x = v ∧ ∀ H', Own R H' L → ∀ Q2 : VK, (∀ H'', Own R H'' L → Q2 x H'') → ta σ H' Q2)
    (h3 : c = false → y = v ∧ ∀ H', Own R H' L → ∀ Q2 : VK, (∀ H'', Own R H'' L → Q2 y H'') → tb σ H' Q2) (k : ∀ H', Own R H' L → Q v H') : tIf tt ta tb σ H Q := by
  refine h1 _ fun H' O' => ?_
  cases c with
  | true =>
    obtain ⟨e1, g2⟩ := h2 rfl
    subst e1
    exact g2 H' O' Q k
  | false =>
    obtain ⟨e1, g3⟩ := h3 rfl
    subst e1
    exact g3 H' O' Q k
theorem iteS {c : Bool} {A B : Prop} (h1 : c = true → A) (h2 : c = false → B) : if c = true then A else B := by
  cases c with
  | true => rw [if_pos rfl]; exact h1 rfl
  | false => rw [if_neg Bool.false_ne_true]; exact h2 rfl
/-! loops -/
theorem k_forL {g : TG} {tb : TS} {D : Ends} (J : List α → St → Hp → Prop) (h0 : J xs σ H) (hl : ∀ r σ H, J r σ H → SqL K H a (xs.map f))
    (hs : ∀ x r σ H, J (x :: r) σ H → g (f x) σ H fun σ2 H2 => tb { D with nx := J r, ct := J r, bk := D.nx } σ2 H2) (hd : ∀ σ H, J [] σ H → D.nx σ H) :
    ∃ W : Nat → Nat → St → Hp → Prop, (∃ m, W 0 m σ H) ∧ ∀ i m σ H, W i m σ H →
      ((Itl K a).stop i H ∧ D.nx σ H) ∨ ((Itl K a).go i H ∧ ∃ N : St → Hp → Prop, (∀ σ' H', N σ' H' → ∃ m', m' < m ∧ W (i + 1) m' σ' H') ∧ ∀ x H', (Itl K a).yld i H x H' → g x σ H' fun σ2 H2 => tb { D with nx := N, ct := N, bk := D.nx } σ2 H2) := by
  refine for_list (xs := xs.map f) (fun i σ H => J (xs.drop i) σ H) h0 (fun i σ H _ => hl _ σ H) (fun i x σ H hi hJ => ?_) fun σ H hJ => ?_
  · rw [List.getElem?_map] at hi
    cases e : xs[i]? with
    | none => rw [e] at hi; cases hi
    | some y =>
      rw [e] at hi
      cases hi
      have e2 : xs.drop i = y :: xs.drop (i + 1) := by
        obtain ⟨h1, h2⟩ := List.getElem?_eq_some_iff.mp e
        rw [← h2]
        exact List.drop_eq_getElem_cons h1
      rw [e2] at hJ
      exact hs y _ σ H hJ
  · rw [List.length_map, List.drop_length] at hJ
    exact hd σ H hJ
theorem k_forR {lo : Int} {n : Nat} {g : TG} {tb : TS} {D : Ends} (J : List Int → St → Hp → Prop) (h0 : J ((List.range n).map fun (i : Nat) => lo + (i : Int)) σ H)
    (hs : ∀ x r σ H, J (x :: r) σ H → g (.int x) σ H fun σ2 H2 => tb { D with nx := J r, ct := J r, bk := D.nx } σ2 H2) (hd : ∀ σ H, J [] σ H → D.nx σ H) :
    ∃ W : Nat → Nat → St → Hp → Prop, (∃ m, W 0 m σ H) ∧ ∀ i m σ H, W i m σ H →
      ((Itr lo n).stop i H ∧ D.nx σ H) ∨ ((Itr lo n).go i H ∧ ∃ N : St → Hp → Prop, (∀ σ' H', N σ' H' → ∃ m', m' < m ∧ W (i + 1) m' σ' H') ∧ ∀ x H', (Itr lo n).yld i H x H' → g x σ H' fun σ2 H2 => tb { D with nx := N, ct := N, bk := D.nx } σ2 H2) := by
  refine for_range (fun i σ H => J (((List.range n).map fun (i : Nat) => lo + (i : Int)).drop i) σ H) h0 (fun i σ H hi hJ => ?_) fun σ H hJ => ?_
  · have e2 : ((List.range n).map fun (i : Nat) => lo + (i : Int)).drop i = (lo + (i : Int)) :: ((List.range n).map fun (i : Nat) => lo + (i : Int)).drop (i + 1) := by
      have h1 : i < ((List.range n).map fun (i : Nat) => lo + (i : Int)).length := by simpa using hi
      rw [List.drop_eq_getElem_cons h1]
      simp
    rw [e2] at hJ
    exact hs _ _ σ H hJ
  · have e : ((List.range n).map fun (i : Nat) => lo + (i : Int)).drop n = [] := List.drop_eq_nil_of_le (by simp)
    rw [e] at hJ
    exact hd σ H hJ
theorem k_rng1 {RJ : It → Hp → Prop} (h : rng1 j = some xs') (k : xs' = ((List.range j.toNat).map fun (i : Nat) => (0 : Int) + (i : Int)) → RJ (Itr 0 j.toNat) H) : ∃ j' : Int, [V.int j] = [V.int j'] ∧ -(2 ^ 62) ≤ j' ∧ j' < 2 ^ 62 ∧ RJ (Itr 0 j'.toNat) H := by
  obtain ⟨⟨c1, c2⟩, rfl⟩ := grdE h
  exact ⟨j, rfl, c1, c2, k (by unfold rangeI; rw [Int.sub_zero])⟩
theorem k_rng2 {RJ : It → Hp → Prop} (h : rng2 i j = some xs') (k : xs' = ((List.range (j - i).toNat).map fun (n : Nat) => i + (n : Int)) → RJ (Itr i (j - i).toNat) H) :
    ∃ i' j' : Int, [V.int i, V.int j] = [V.int i', V.int j'] ∧ (-(2 ^ 62) ≤ i' ∧ i' < 2 ^ 62 ∧ -(2 ^ 62) ≤ j' ∧ j' < 2 ^ 62) ∧ RJ (Itr i' (j' - i').toNat) H := by
  obtain ⟨c, rfl⟩ := grdE h
  exact ⟨i, j, rfl, c, k rfl⟩
/-- while: J, by the turns that the mirror still has -/
theorem k_while {tc : TT} {tb : TS} {D : Ends} (J : Nat → St → Hp → Prop) (n : Nat) (h0 : J n σ H)
    (hs : ∀ n σ H, J n σ H → tc σ H fun b H1 => if b = true then ∃ N : St → Hp → Prop, (∀ σ' H', N σ' H' → ∃ m', m' < n ∧ J m' σ' H') ∧ tb { D with nx := N, ct := N, bk := D.nx } σ H1 else D.nx σ H1) : tWhile tc tb D σ H :=
  ⟨J, ⟨n, h0⟩, hs⟩
/-! comprehensions -/
theorem k_lcL {g : TG} {te : TE} {vs : List Nat} {D : Addr} {Qd : Hp → Prop} (J : List α → Hp → Prop) (h0 : J xs (upd H D (.lst []))) (hl : ∀ r H, J r H → SqL K H a (xs.map f))
    (hs : ∀ x r H, J (x :: r) H → g (f x) (wipe σ vs) H fun σ2 H2 => wipe σ2 vs = wipe σ vs ∧ te σ2 H2 fun y H4 => ∃ acc, H4 D = some (.lst acc) ∧ acc.length < sizeLine ∧ J r (upd H4 D (.lst (acc ++ [y])))) (hd : ∀ H, J [] H → Qd H) :
    ∃ W : Nat → Nat → Hp → Prop, (∃ m, W 0 m (upd H D (.lst []))) ∧ ∀ i m H, W i m H →
      ((Itl K a).stop i H ∧ Qd H) ∨ ((Itl K a).go i H ∧ ∃ Nx : Hp → Prop, (∀ H', Nx H' → ∃ m', m' < m ∧ W (i + 1) m' H') ∧ ∀ x H', (Itl K a).yld i H x H' → g x (wipe σ vs) H' fun σ2 H2 => wipe σ2 vs = wipe σ vs ∧ tYes σ2 H2 fun b H3 =>
        if b = true then te σ2 H3 fun y H4 => ∃ acc, H4 D = some (.lst acc) ∧ acc.length < sizeLine ∧ Nx (upd H4 D (.lst (acc ++ [y]))) else Nx H3) := by
  refine lc_list (xs := xs.map f) (fun i H => J (xs.drop i) H) h0 (fun i H _ => hl _ H) (fun i x H hi hJ => ?_) fun H hJ => ?_
  · rw [List.getElem?_map] at hi
    cases e : xs[i]? with
    | none => rw [e] at hi; cases hi
    | some y =>
      rw [e] at hi
      cases hi
      have e2 : xs.drop i = y :: xs.drop (i + 1) := by
        obtain ⟨h1, h2⟩ := List.getElem?_eq_some_iff.mp e
        rw [← h2]
        exact List.drop_eq_getElem_cons h1
      rw [e2] at hJ
      exact hs y _ H hJ
  · rw [List.length_map, List.drop_length] at hJ
    exact hd H hJ
theorem k_lcR {lo : Int} {n : Nat} {g : TG} {te : TE} {vs : List Nat} {D : Addr} {Qd : Hp → Prop} (J : List Int → Hp → Prop) (h0 : J ((List.range n).map fun (i : Nat) => lo + (i : Int)) (upd H D (.lst [])))
    (hs : ∀ x r H, J (x :: r) H → g (.int x) (wipe σ vs) H fun σ2 H2 => wipe σ2 vs = wipe σ vs ∧ te σ2 H2 fun y H4 => ∃ acc, H4 D = some (.lst acc) ∧ acc.length < sizeLine ∧ J r (upd H4 D (.lst (acc ++ [y])))) (hd : ∀ H, J [] H → Qd H) :
    ∃ W : Nat → Nat → Hp → Prop, (∃ m, W 0 m (upd H D (.lst []))) ∧ ∀ i m H, W i m H →
      ((Itr lo n).stop i H ∧ Qd H) ∨ ((Itr lo n).go i H ∧ ∃ Nx : Hp → Prop, (∀ H', Nx H' → ∃ m', m' < m ∧ W (i + 1) m' H') ∧ ∀ x H', (Itr lo n).yld i H x H' → g x (wipe σ vs) H' fun σ2 H2 => wipe σ2 vs = wipe σ vs ∧ tYes σ2 H2 fun b H3 =>
        if b = true then te σ2 H3 fun y H4 => ∃ acc, H4 D = some (.lst acc) ∧ acc.length < sizeLine ∧ Nx (upd H4 D (.lst (acc ++ [y]))) else Nx H3) := by
  refine lc_range (fun i H => J (((List.range n).map fun (i : Nat) => lo + (i : Int)).drop i) H) h0 (fun i H hi hJ => ?_) fun H hJ => ?_
  · have e2 : ((List.range n).map fun (i : Nat) => lo + (i : Int)).drop i = (lo + (i : Int)) :: ((List.range n).map fun (i : Nat) => lo + (i : Int)).drop (i + 1) := by
      have h1 : i < ((List.range n).map fun (i : Nat) => lo + (i : Int)).length := by simpa using hi
      rw [List.drop_eq_getElem_cons h1]
      simp
    rw [e2] at hJ
    exact hs _ _ H hJ
  · have e : ((List.range n).map fun (i : Nat) => lo + (i : Int)).drop n = [] := List.drop_eq_nil_of_le (by simp)
    rw [e] at hJ
    exact hd H hJ
end
end Bt

set_option Elab.async false
set_option linter.all false
set_option maxRecDepth 100000
set_option maxHeartbeats 4000000
/-! More steps. -/
namespace Bt
open PySem L2
/-- a name of the module that holds a value -/
def Gv (mg : Str → Option Value) (x : Str) (v : V) : Prop := ∃ u, mg x = some u ∧ RelV v u
theorem pe_gv {X : Cx} {x : Str} {v : V} {pos : Pos} (hg : Gl X x) (h : Gv X.mg x v) (hd : (x == ("__debug__" : Str)) = false := by decide) : PE X (.Name x pos) (tC v) := by
  obtain ⟨u, h1, h2⟩ := h
  exact pe_glob hg h1 h2 hd
section
variable {α S T R' : Type}
theorem finNx {rest : S → Option R'} {s : S} {r : R'} (h : finK rest (.nx s) = some r) : rest s = some r := h
theorem floNx {rest : S → Option (Fl T R')} {s : S} {fl : Fl T R'} (h : floK rest (.nx s) = some fl) : rest s = some fl := h
end
section
variable {K : PySem.W.Frag} {σ : St} {H R : Hp} {L L' : List Cell} {Q : VK} {a b p : Addr} {α : Type} {f : α → V} {xs ys zs : List α}
/-- some of the cells, by their places -/
theorem Own.sel (O : Own R H L) (is : List Nat) (hd : is.Nodup) (e : is.map (fun i => L[i]?) = L'.map some) : Own R H L' := by
  have hm : ∀ c ∈ L', c ∈ L := fun c hc => by
    have h1 : some c ∈ is.map (fun i => L[i]?) := by rw [e]; exact List.mem_map_of_mem hc
    obtain ⟨i, _, h2⟩ := List.mem_map.mp h1
    exact List.mem_of_getElem? h2
  refine ⟨O.ex, fun c h => O.at_ c (hm c h), fun c h => O.fr c (hm c h), ?_⟩
  clear hm
  induction is generalizing L' with
  | nil =>
    cases L' with
    | nil => exact List.Pairwise.nil
    | cons c r => simp at e
  | cons i is ih =>
    cases L' with
    | nil => simp at e
    | cons c r =>
      simp only [List.map_cons, List.cons.injEq] at e
      obtain ⟨e1, e2⟩ := e
      obtain ⟨n1, n2⟩ := List.nodup_cons.mp hd
      refine List.nodup_cons.mpr ⟨fun m => ?_, ih n2 e2⟩
      obtain ⟨d, hdm, ed⟩ := List.mem_map.mp m
      have h1 : some d ∈ is.map (fun i => L[i]?) := by rw [e2]; exact List.mem_map_of_mem hdm
      obtain ⟨j, hj, h2⟩ := List.mem_map.mp h1
      have g1 : (L.map (·.1))[i]? = some c.1 := by rw [List.getElem?_map, e1]; rfl
      have g2 : (L.map (·.1))[j]? = some c.1 := by
        rw [List.getElem?_map, h2]
        exact congrArg some ed
      have : i = j := nd_ix O.nd g1 g2
      subst this
      exact n1 hj
theorem a_set {v v' : V} {nx : St → Hp → Prop} {i : Nat} (e : v = v') (k : nx (σ.set i (some v')) H) : nx (σ.set i (some v)) H := by rw [e]; exact k
theorem k_newM {zs : List V} (O : Own R H L) (e : xs.map f = zs) (k : ∀ p H', Own R H' ((p, .lst (xs.map f)) :: L) → Q (.ref p) H') : ∀ p, H p = none → Q (.ref p) (upd H p (.lst zs)) := by
  subst e
  exact fun p hp => k p _ (O.new hp)
theorem k_rep {k : Int} (O : Own R H L) (h1 : H a = some (.lst (xs.map f))) (h : repG xs k = some zs) (q : ∀ p H', Own R H' ((p, .lst (zs.map f)) :: L) → Q (.ref p) H') : rRep (.ref a) (.int k) H Q := by
  obtain ⟨⟨c1, c2, c3⟩, rfl⟩ := grdE h
  refine ⟨a, k, _, rfl, rfl, h1, c1, c2, by rw [List.length_map]; exact c3, fun p hp => ?_⟩
  have e : ∀ n : Nat, (List.replicate n (xs.map f)).flatten = (List.replicate n xs).flatten.map f := fun n => by
    induction n with
    | zero => rfl
    | succ n ih => rw [List.replicate_succ, List.flatten_cons, ih, List.replicate_succ, List.flatten_cons, List.map_append]
  first
    | (rw [e]; exact q p _ (O.new hp))
    | (show Q (.ref p) _; simpa only [e] using q p _ (O.new hp))
end
end Bt
namespace Bt
open PySem L2
/-! readings under a name of their own, so that what follows stands as an argument -/
@[irreducible] def rNewL (xs : List V) (H : Hp) (Q : VK) : Prop := xs.length ≤ sizeLine ∧ ∀ p, H p = none → Q (.ref p) (upd H p (.lst xs))
@[irreducible] def rNewT (xs : List V) (H : Hp) (Q : VK) : Prop := xs.length ≤ sizeLine ∧ ∀ p, H p = none → Q (.ref p) (upd H p (.tup xs))
@[irreducible] def rLenQ (K : PySem.W.Frag) (xs : List V) (H : Hp) (Q : VK) : Prop := ∃ p ys, xs = [V.ref p] ∧ (SqL K H p ys ∨ SqT K H p ys) ∧ Q (.int ys.length) H
@[irreducible] def rListQ (K : PySem.W.Frag) (xs : List V) (H : Hp) (Q : VK) : Prop := ∃ p ys, xs = [V.ref p] ∧ (SqL K H p ys ∨ SqT K H p ys) ∧ ∀ l, H l = none → Q (.ref l) (upd H l (.lst ys))
section
variable {X : Cx}
theorem pe_lstQ {es : List Expr} {t : TA} {pos : Pos} (h : PE X (.List es pos) (tLst t)) : PE X (.List es pos) (fun σ H Q => t σ H fun xs H1 => rNewL xs H1 Q) := by
  unfold rNewL
  exact h
theorem pe_tupQ {es : List Expr} {k : Nat} {t : TA} {pos : Pos} (h : PE X (.Tuple es k pos) (tTup t)) : PE X (.Tuple es k pos) (fun σ H Q => t σ H fun xs H1 => rNewT xs H1 Q) := by
  unfold rNewT
  exact h
theorem call_lenQ : CallR X (.builtin "len") (rLenQ X.K) := by
  have e : rLenQ X.K = fun xs H Q => ∃ p ys, xs = [V.ref p] ∧ (SqL X.K H p ys ∨ SqT X.K H p ys) ∧ Q (.int ys.length) H := by
    funext xs H Q
    unfold rLenQ
    rfl
  rw [e]
  exact call_len_seq
theorem call_listQ : CallR X (.type "list") (rListQ X.K) := by
  have e : rListQ X.K = fun xs H Q => ∃ p ys, xs = [V.ref p] ∧ (SqL X.K H p ys ∨ SqT X.K H p ys) ∧ ∀ l, H l = none → Q (.ref l) (upd H l (.lst ys)) := by
    funext xs H Q
    unfold rListQ
    rfl
  rw [e]
  exact call_list_of
end
section
variable {K : PySem.W.Frag} {σ : St} {H R : Hp} {L L' : List Cell} {Q : VK} {a b p : Addr} {α : Type} {f : α → V} {xs ys zs : List α}
theorem x_nil {QA : List V → Hp → Prop} (h : QA [] H) : tNil σ H QA := h
theorem x_np {QO : Option Int → Hp → Prop} (h : QO none H) : tNoPart σ H QO := h
theorem n_lst {zs : List V} (O : Own R H L) (e : xs.map f = zs) (hz : zs.length ≤ sizeLine) (k : ∀ p H', Own R H' ((p, .lst (xs.map f)) :: L) → Q (.ref p) H') : rNewL zs H Q := by
  subst e
  unfold rNewL
  exact ⟨hz, fun p hp => k p _ (O.new hp)⟩
theorem n_lenT {K : PySem.W.Frag} {H : Hp} {Q : VK} {a : Addr} {ys : List V} {n : Nat} (hs : SqT K H a ys) (hn : ys.length = n) (q : Q (.int (n : Int)) H) : rLenQ K [.ref a] H Q := by
  unfold rLenQ
  exact ⟨a, ys, rfl, .inr hs, by rw [hn]; exact q⟩
theorem n_len (h : SqL K H a (xs.map f)) (k : Q (.int (xs.length : Int)) H) : rLenQ K [.ref a] H Q := by
  unfold rLenQ
  exact ⟨a, _, rfl, .inl h, by rw [List.length_map]; exact k⟩
theorem n_list {ys : List V} (O : Own R H L) (h : SqL K H a ys) (k : ∀ p H', Own R H' ((p, .lst ys) :: L) → Q (.ref p) H') : rListQ K [.ref a] H Q := by
  unfold rListQ
  exact ⟨a, _, rfl, .inl h, fun l hl => k l _ (O.new hl)⟩
theorem rng1E {j : Int} {xs : List Int} (h : rng1 j = some xs) : -(2 ^ 62) ≤ j ∧ j < 2 ^ 62 ∧ ((List.range j.toNat).map fun (i : Nat) => (0 : Int) + (i : Int)) = xs := by
  obtain ⟨⟨c1, c2⟩, rfl⟩ := grdE h
  exact ⟨c1, c2, by unfold rangeI; rw [Int.sub_zero]⟩
theorem rng2E {i j : Int} {xs : List Int} (h : rng2 i j = some xs) : (-(2 ^ 62) ≤ i ∧ i < 2 ^ 62 ∧ -(2 ^ 62) ≤ j ∧ j < 2 ^ 62) ∧ ((List.range (j - i).toNat).map fun (n : Nat) => i + (n : Int)) = xs := by
  obtain ⟨c, rfl⟩ := grdE h
  exact ⟨c, rfl⟩
end
end Bt
namespace Bt
open PySem L2
/-! a reading opened by one step, by its head -/
section
variable {K : PySem.W.Frag} {σ : St} {H : Hp} {Q : VK} {D : Ends} {t u ts : TS} {te ta tb tl : TE} {tr : TA} {c : TT} {v : V} {i : Nat} {r : R2} {QB : Bool → Hp → Prop} {QA : List V → Hp → Prop} {QO : Option Int → Hp → Prop} {R : It → Hp → Prop}
theorem o_seq {n b k : St → Hp → Prop} {w : VK} (h : t (Ends.mk (u (Ends.mk n w b k)) w b k) σ H) : tSeq t u (Ends.mk n w b k) σ H := h
theorem o_asg {n b k : St → Hp → Prop} {w : VK} (h : te σ H fun x H1 => n (σ.set i (some x)) H1) : tAsg te (gName i) (Ends.mk n w b k) σ H := h
theorem o_drop {n b k : St → Hp → Prop} {w : VK} (h : te σ H fun _ H1 => n σ H1) : tDrop te (Ends.mk n w b k) σ H := h
theorem o_ret {n b k : St → Hp → Prop} {w : VK} (h : te σ H w) : tRet te (Ends.mk n w b k) σ H := h
theorem o_ifs {n b k : St → Hp → Prop} {w : VK} (h : c σ H fun z H1 => if z = true then t (Ends.mk n w b k) σ H1 else u (Ends.mk n w b k) σ H1) : tIfS c t u (Ends.mk n w b k) σ H := h
theorem o_next {n b k : St → Hp → Prop} {w : VK} (h : n σ H) : tNext (Ends.mk n w b k) σ H := h
theorem o_brk {n b k : St → Hp → Prop} {w : VK} (h : b σ H) : tBreak (Ends.mk n w b k) σ H := h
theorem o_cont {n b k : St → Hp → Prop} {w : VK} (h : k σ H) : tCont (Ends.mk n w b k) σ H := h
theorem o_retN {n b k : St → Hp → Prop} {w : VK} (h : w .non H) : tRetN (Ends.mk n w b k) σ H := h
theorem o_cut {n b k : St → Hp → Prop} {w : VK} (Mid : St → Hp → Prop) (h1 : t (Ends.mk Mid w b k) σ H) (h2 : ∀ σ' H', Mid σ' H' → u (Ends.mk n w b k) σ' H') : Evl.tCut t u (Ends.mk n w b k) σ H := ⟨Mid, h1, h2⟩
theorem o_op (h : ta σ H fun x H1 => tb σ H1 fun y H2 => r x y H2 Q) : tOp r ta tb σ H Q := h
theorem o_un {r : V → Hp → VK → Prop} (h : ta σ H fun x H1 => r x H1 Q) : tUn r ta σ H Q := h
theorem o_c (h : Q v H) : tC v σ H Q := h
theorem o_test (h : te σ H fun x H' => ∃ k, x = .bl k ∧ QB k H') : tTest te σ H QB := h
theorem o_B (h : te σ H fun x H' => ∃ k, x = .bl k ∧ QB k H') : tB te σ H QB := h
theorem o_not (h : c σ H fun b H1 => QB (!b) H1) : tNot c σ H QB := h
theorem o_notV (h : te σ H fun x H1 => ∃ c, x = .bl c ∧ Q (.bl (!c)) H1) : tNotV te σ H Q := h
theorem o_cons (h : ta σ H fun x H1 => tr σ H1 fun xs H2 => QA (x :: xs) H2) : tCons ta tr σ H QA := h
theorem o_cb {r : List V → Hp → VK → Prop} (h : tr σ H fun vs H1 => r vs H1 Q) : tCB r tr σ H Q := h
theorem o_call {sp : Sp} {dvs : List V} {E : XK} (h : tr σ H fun vs H1 => sp (vs ++ dvs) H1 Q E) : tCall sp dvs E tr σ H Q := h
theorem o_bm {T : String} {r : V → List V → Hp → VK → Prop} (h : te σ H fun x H1 => tyV K T x H1 ∧ tr σ H1 fun xs H2 => r x xs H2 Q) : tBM K T r te tr σ H Q := h
theorem o_bm0 {T : String} {r : V → List V → Hp → VK → Prop} (h : te σ H fun x H1 => tyV K T x H1 ∧ r x [] H1 Q) : tBM0 K T r te σ H Q := h
theorem o_sl {r : V → Option Int → Option Int → Hp → VK → Prop} {t1 t2 : TO} (h : te σ H fun x H1 => t1 σ H1 fun l H2 => t2 σ H2 fun u H3 => r x l u H3 Q) : tSl r te t1 t2 σ H Q := h
theorem o_part (h : te σ H fun x H1 => ∃ i, x = .int i ∧ QO (some i) H1) : tPart te σ H QO := h
theorem o_for {wi : TI} {g : TG} {n b k : St → Hp → Prop} {w : VK} (h : wi σ H fun J H1 => ∃ W : Nat → Nat → St → Hp → Prop, (∃ m, W 0 m σ H1) ∧ ∀ i m σ H, W i m σ H →
    (J.stop i H ∧ n σ H) ∨ (J.go i H ∧ ∃ N : St → Hp → Prop, (∀ σ' H', N σ' H' → ∃ m', m' < m ∧ W (i + 1) m' σ' H') ∧ ∀ x H', J.yld i H x H' → g x σ H' fun σ2 H2 => ts (Ends.mk N w n N) σ2 H2)) : tFor wi g ts (Ends.mk n w b k) σ H := h
theorem o_il (h : tl σ H fun x H1 => ∃ a, x = .ref a ∧ (∃ xs, SqL K H1 a xs) ∧ R (Itl K a) H1) : iList K tl σ H R := h
theorem o_ir1 (h : tr σ H fun vs H1 => ∃ j : Int, vs = [.int j] ∧ -(2 ^ 62) ≤ j ∧ j < 2 ^ 62 ∧ R (Itr 0 j.toNat) H1) : iRng1 tr σ H R := h
theorem o_ir2 (h : tr σ H fun vs H1 => ∃ i j : Int, vs = [.int i, .int j] ∧ (-(2 ^ 62) ≤ i ∧ i < 2 ^ 62 ∧ -(2 ^ 62) ≤ j ∧ j < 2 ^ 62) ∧ R (Itr i (j - i).toNat) H1) : iRng2 tr σ H R := h
theorem o_sub {to ti : TE} {tset : TSet} {n b k : St → Hp → Prop} {w : VK} (h : te σ H fun x H1 => to σ H1 fun o H2 => ti σ H2 fun i H3 => tset o i x H3 fun H4 => n σ H4) : tAsg te (gSub to ti tset) (Ends.mk n w b k) σ H := h
/-! the loops once more, their ends apart -/
variable {α : Type} {f : α → V} {xs : List α} {a : Addr} {g : TG} {n b k : St → Hp → Prop} {w : VK}
theorem q_forL {j : Nat} (J : List α → St → Hp → Prop) (h0 : J xs σ H) (hl : ∀ r σ H, J r σ H → SqL K H a (xs.map f))
    (hs : ∀ x r σ H, J (x :: r) σ H → ts (Ends.mk (J r) w n (J r)) (σ.set j (some (f x))) H) (hd : ∀ σ H, J [] σ H → n σ H) :
    ∃ W : Nat → Nat → St → Hp → Prop, (∃ m, W 0 m σ H) ∧ ∀ i m σ H, W i m σ H →
      ((Itl K a).stop i H ∧ n σ H) ∨ ((Itl K a).go i H ∧ ∃ N : St → Hp → Prop, (∀ σ' H', N σ' H' → ∃ m', m' < m ∧ W (i + 1) m' σ' H') ∧ ∀ x H', (Itl K a).yld i H x H' → gName j x σ H' fun σ2 H2 => ts (Ends.mk N w n N) σ2 H2) :=
  k_forL (D := Ends.mk n w (fun _ _ => False) fun _ _ => False) (g := gName j) (tb := ts) J h0 hl hs hd
theorem q_forR {j : Nat} {lo : Int} {m : Nat} (J : List Int → St → Hp → Prop) (h0 : J ((List.range m).map fun (i : Nat) => lo + (i : Int)) σ H)
    (hs : ∀ x r σ H, J (x :: r) σ H → ts (Ends.mk (J r) w n (J r)) (σ.set j (some (.int x))) H) (hd : ∀ σ H, J [] σ H → n σ H) :
    ∃ W : Nat → Nat → St → Hp → Prop, (∃ m, W 0 m σ H) ∧ ∀ i m' σ H, W i m' σ H →
      ((Itr lo m).stop i H ∧ n σ H) ∨ ((Itr lo m).go i H ∧ ∃ N : St → Hp → Prop, (∀ σ' H', N σ' H' → ∃ m'', m'' < m' ∧ W (i + 1) m'' σ' H') ∧ ∀ x H', (Itr lo m).yld i H x H' → gName j x σ H' fun σ2 H2 => ts (Ends.mk N w n N) σ2 H2) :=
  k_forR (D := Ends.mk n w (fun _ _ => False) fun _ _ => False) (g := gName j) (tb := ts) J h0 hs hd
end
end Bt
namespace Bt
open PySem L2
/-! what the head tells of a def -/
theorem def_mk {K : PySem.W.Frag} {h : Heap} {mg : Str → Option Value} {name qual : Str} {st : Stmt} {f : Addr} {od an : Option Addr} {sl : Array (Option Value)} {oc kV dc pm cd ct : Value} (X : K.In h) (G : h.Ns mainGlobals mg)
    (a : PySem.W.nsIn K mainGlobals name = some (some (.ref f))) (l : K.lookup f = some ⟨oc, od, .func (PySem.W.fnOf name qual (defArgs st) (defBody st) (defScope st) .none kV dc pm an cd ct), sl⟩) (c : PySem.W.codeIn K cd qual = true) (k : PySem.W.keepIn K (.ref f) = true) :
    ∃ f fd, Fun K name qual st f fd ∧ mg name = some (.ref f) := ⟨f, _, fun_mk l c k, PySem.W.mg_of X G a⟩
theorem gv_int {K : PySem.W.Frag} {h : Heap} {mg : Str → Option Value} {x : Str} {i : Int} {t : Tok} (X : K.In h) (G : h.Ns mainGlobals mg) (a : PySem.W.nsIn K mainGlobals x = some (some (.int i t))) : Gv mg x (.int i) := ⟨_, PySem.W.mg_of X G a, _, rfl⟩
end Bt
namespace Bt
open PySem L2
section
variable {K : PySem.W.Frag} {σ : St} {H R : Hp} {L : List Cell} {Q : VK} {a p : Addr} {i : Int} {x v : V} {S R' : Type}
def FUEL : Nat := 100000
theorem whileM_end {c : Bool} {s out : S} {f : Option S} (h : ifB c f (some s) = some out) (hc : c = false) : out = s := (Option.some.inj (ifF h hc)).symm
theorem whileF_end {c : Bool} {s : S} {out : Fl S R'} {f : Option (Fl S R')} (h : ifB c f (some (.nx s)) = some out) (hc : c = false) : Fl.nx s = out := Option.some.inj (ifF h hc)
/-- while: J, by the turns that the mirror still has -/
theorem q_while {tc : TT} {ts : TS} {n b k : St → Hp → Prop} {w : VK} (J : Nat → St → Hp → Prop) (m : Nat) (h0 : J m σ H) (hz : ∀ σ H, J 0 σ H → False)
    (hs : ∀ m σ H, J (m + 1) σ H → tc σ H fun z H1 => if z = true then ts (Ends.mk (J m) w n (J m)) σ H1 else n σ H1) (mono : ∀ σ H (Q Q' : Bool → Hp → Prop), (∀ z H1, Q z H1 → Q' z H1) → tc σ H Q → tc σ H Q') : tWhile tc ts (Ends.mk n w b k) σ H := by
  refine ⟨J, ⟨m, h0⟩, fun m σ H hJ => ?_⟩
  cases m with
  | zero => exact (hz σ H hJ).elim
  | succ m =>
    refine mono σ H _ _ (fun z H1 q => ?_) (hs m σ H hJ)
    cases z with
    | true =>
      rw [if_pos rfl] at q ⊢
      exact ⟨J m, fun σ' H' hJ' => ⟨m, Nat.lt_succ_self m, hJ'⟩, q⟩
    | false =>
      rw [if_neg Bool.false_ne_true] at q ⊢
      exact q
theorem o_while {tc : TT} {ts : TS} {n b k : St → Hp → Prop} {w : VK} (J : Nat → St → Hp → Prop) (m : Nat) (h0 : J m σ H) (hz : ∀ σ H, J 0 σ H → False)
    (hs : ∀ m σ H, J (m + 1) σ H → tc σ H fun z H1 => if z = true then ∃ N : St → Hp → Prop, (∀ σ' H', N σ' H' → ∃ m', m' < m + 1 ∧ J m' σ' H') ∧ ts (Ends.mk N w n N) σ H1 else n σ H1) : tWhile tc ts (Ends.mk n w b k) σ H := by
  refine ⟨J, ⟨m, h0⟩, fun m σ H hJ => ?_⟩
  cases m with
  | zero => exact (hz σ H hJ).elim
  | succ m => exact hs m σ H hJ
theorem o_turn {J : Nat → St → Hp → Prop} {m : Nat} {ts : TS} {n : St → Hp → Prop} {w : VK} (h : ts (Ends.mk (J m) w n (J m)) σ H) :
    ∃ N : St → Hp → Prop, (∀ σ' H', N σ' H' → ∃ m', m' < m + 1 ∧ J m' σ' H') ∧ ts (Ends.mk N w n N) σ H := ⟨J m, fun _ _ hJ => ⟨m, Nat.lt_succ_self m, hJ⟩, h⟩
theorem n_tup {zs : List V} (O : Own R H L) (hz : zs.length ≤ sizeLine) (k : ∀ p H', Own R H' ((p, .tup zs) :: L) → Q (.ref p) H') : rNewT zs H Q := by
  unfold rNewT
  exact ⟨hz, fun p hp => k p _ (O.new hp)⟩
theorem k_ixT {xs : List V} (hs : SqT K H a xs) (h : atI xs i = some v) (k : Q v H) : rIxT K (.ref a) (.int i) H Q := ⟨a, xs, i, v, rfl, rfl, hs, h, k⟩
end
end Bt
namespace Bt
open PySem L2
section
variable {K : PySem.W.Frag} {σ : St} {H R : Hp} {L : List Cell} {Q : VK} {a p : Addr} {i : Int} {x v : V} {α : Type} {f : α → V} {xs : List α}
theorem inV_int (i : Int) : ∀ xs : List Int, inV (.int i) (xs.map V.int) = decide (i ∈ xs)
  | [] => rfl
  | y :: r => by
    have ih := inV_int i r
    have e : inV (.int i) ((y :: r).map V.int) = (eqV (.int y) (.int i) || inV (.int i) (r.map V.int)) := rfl
    rw [e, ih]
    have e2 : eqV (.int y) (.int i) = decide (i = y) := by
      by_cases h : i = y
      · subst h; simp [eqV]
      · have : ¬ y = i := fun q => h q.symm
        simp [eqV, h, this]
    rw [e2]
    simp
theorem flat_int : ∀ xs : List Int, (xs.map V.int).all flatV = true
  | [] => rfl
  | y :: r => by
    have ih := flat_int r
    show (flatV (.int y) && (r.map V.int).all flatV) = true
    rw [ih]
    rfl
theorem k_inL {ns : List Int} (hs : SqL K H a (ns.map V.int)) (k : Q (.bl (decide (i ∈ ns))) H) : rIn K false (.int i) (.ref a) H Q :=
  ⟨a, _, rfl, .inl hs, rfl, flat_int _, by rw [inV_int]; exact k⟩
theorem k_niL {ns : List Int} (hs : SqL K H a (ns.map V.int)) (k : Q (.bl (!decide (i ∈ ns))) H) : rIn K true (.int i) (.ref a) H Q :=
  ⟨a, _, rfl, .inl hs, rfl, flat_int _, by rw [inV_int]; exact k⟩
theorem k_inT {ns : List Int} (hs : SqT K H a (ns.map V.int)) (k : Q (.bl (decide (i ∈ ns))) H) : rIn K false (.int i) (.ref a) H Q :=
  ⟨a, _, rfl, .inr hs, rfl, flat_int _, by rw [inV_int]; exact k⟩
theorem k_niT {ns : List Int} (hs : SqT K H a (ns.map V.int)) (k : Q (.bl (!decide (i ∈ ns))) H) : rIn K true (.int i) (.ref a) H Q :=
  ⟨a, _, rfl, .inr hs, rfl, flat_int _, by rw [inV_int]; exact k⟩
/-! comprehensions with a test -/
theorem k_lcLt {g : TG} {tt : TT} {te : TE} {vs : List Nat} {D : Addr} {Qd : Hp → Prop} (J : List α → Hp → Prop) (h0 : J xs (upd H D (.lst []))) (hl : ∀ r H, J r H → SqL K H a (xs.map f))
    (hs : ∀ x r H, J (x :: r) H → g (f x) (wipe σ vs) H fun σ2 H2 => wipe σ2 vs = wipe σ vs ∧ tt σ2 H2 fun b H3 => if b = true then te σ2 H3 fun y H4 => ∃ acc, H4 D = some (.lst acc) ∧ acc.length < sizeLine ∧ J r (upd H4 D (.lst (acc ++ [y]))) else J r H3) (hd : ∀ H, J [] H → Qd H) :
    ∃ W : Nat → Nat → Hp → Prop, (∃ m, W 0 m (upd H D (.lst []))) ∧ ∀ i m H, W i m H →
      ((Itl K a).stop i H ∧ Qd H) ∨ ((Itl K a).go i H ∧ ∃ Nx : Hp → Prop, (∀ H', Nx H' → ∃ m', m' < m ∧ W (i + 1) m' H') ∧ ∀ x H', (Itl K a).yld i H x H' → g x (wipe σ vs) H' fun σ2 H2 => wipe σ2 vs = wipe σ vs ∧ tt σ2 H2 fun b H3 =>
        if b = true then te σ2 H3 fun y H4 => ∃ acc, H4 D = some (.lst acc) ∧ acc.length < sizeLine ∧ Nx (upd H4 D (.lst (acc ++ [y]))) else Nx H3) := by
  refine lc_list (xs := xs.map f) (fun i H => J (xs.drop i) H) h0 (fun i H _ => hl _ H) (fun i x H hi hJ => ?_) fun H hJ => ?_
  · rw [List.getElem?_map] at hi
    cases e : xs[i]? with
    | none => rw [e] at hi; cases hi
    | some y =>
      rw [e] at hi
      cases hi
      have e2 : xs.drop i = y :: xs.drop (i + 1) := by
        obtain ⟨h1, h2⟩ := List.getElem?_eq_some_iff.mp e
        rw [← h2]
        exact List.drop_eq_getElem_cons h1
      rw [e2] at hJ
      exact hs y _ H hJ
  · rw [List.length_map, List.drop_length] at hJ
    exact hd H hJ
theorem k_lcRt {lo : Int} {n : Nat} {g : TG} {tt : TT} {te : TE} {vs : List Nat} {D : Addr} {Qd : Hp → Prop} (J : List Int → Hp → Prop) (h0 : J ((List.range n).map fun (i : Nat) => lo + (i : Int)) (upd H D (.lst [])))
    (hs : ∀ x r H, J (x :: r) H → g (.int x) (wipe σ vs) H fun σ2 H2 => wipe σ2 vs = wipe σ vs ∧ tt σ2 H2 fun b H3 => if b = true then te σ2 H3 fun y H4 => ∃ acc, H4 D = some (.lst acc) ∧ acc.length < sizeLine ∧ J r (upd H4 D (.lst (acc ++ [y]))) else J r H3) (hd : ∀ H, J [] H → Qd H) :
    ∃ W : Nat → Nat → Hp → Prop, (∃ m, W 0 m (upd H D (.lst []))) ∧ ∀ i m H, W i m H →
      ((Itr lo n).stop i H ∧ Qd H) ∨ ((Itr lo n).go i H ∧ ∃ Nx : Hp → Prop, (∀ H', Nx H' → ∃ m', m' < m ∧ W (i + 1) m' H') ∧ ∀ x H', (Itr lo n).yld i H x H' → g x (wipe σ vs) H' fun σ2 H2 => wipe σ2 vs = wipe σ vs ∧ tt σ2 H2 fun b H3 =>
        if b = true then te σ2 H3 fun y H4 => ∃ acc, H4 D = some (.lst acc) ∧ acc.length < sizeLine ∧ Nx (upd H4 D (.lst (acc ++ [y]))) else Nx H3) := by
  refine lc_range (fun i H => J (((List.range n).map fun (i : Nat) => lo + (i : Int)).drop i) H) h0 (fun i H hi hJ => ?_) fun H hJ => ?_
  · have e2 : ((List.range n).map fun (i : Nat) => lo + (i : Int)).drop i = (lo + (i : Int)) :: ((List.range n).map fun (i : Nat) => lo + (i : Int)).drop (i + 1) := by
      have h1 : i < ((List.range n).map fun (i : Nat) => lo + (i : Int)).length := by simpa using hi
      rw [List.drop_eq_getElem_cons h1]
      simp
    rw [e2] at hJ
    exact hs _ _ H hJ
  · have e : ((List.range n).map fun (i : Nat) => lo + (i : Int)).drop n = [] := List.drop_eq_nil_of_le (by simp)
    rw [e] at hJ
    exact hd H hJ
/-! for i, x in enumerate(xs) -/
def enumI {α : Type} : Nat → List α → List (Int × α)
  | _, [] => []
  | n, x :: r => ((n : Int), x) :: enumI (n + 1) r
theorem enumI_drop {α : Type} : ∀ (xs : List α) (n i : Nat) (x : α), xs[i]? = some x → (enumI n xs).drop i = (((n + i : Nat) : Int), x) :: (enumI n xs).drop (i + 1)
  | [], _, _, _, h => by simp at h
  | y :: r, n, 0, x, h => by
    cases (Option.some.inj h)
    rfl
  | y :: r, n, i + 1, x, h => by
    have ih := enumI_drop r (n + 1) i x (by simpa using h)
    show (enumI (n + 1) r).drop i = _ :: (enumI (n + 1) r).drop (i + 1)
    rw [ih]
    have : n + 1 + i = n + (i + 1) := by omega
    rw [this]
theorem enumI_len {α : Type} : ∀ (xs : List α) (n : Nat), (enumI n xs).length = xs.length
  | [], _ => rfl
  | x :: r, n => by show (enumI (n + 1) r).length + 1 = r.length + 1; rw [enumI_len r]
theorem q_forE {i1 i2 : Nat} {ts : TS} {n b k : St → Hp → Prop} {w : VK} {KK : PySem.W.Frag} (J : List (Int × α) → St → Hp → Prop) (h0 : J (enumI 0 xs) σ H) (hl : ∀ r σ H, J r σ H → SqL K H a (xs.map f)) (hx : ∀ r σ H H', J r σ H → Ex H H' → J r σ H')
    (hs : ∀ j x r σ H, J ((j, x) :: r) σ H → ts (Ends.mk (J r) w n (J r)) ((σ.set i1 (some (.int j))).set i2 (some (f x))) H) (hd : ∀ σ H, J [] σ H → n σ H) :
    ∃ W : Nat → Nat → St → Hp → Prop, (∃ m, W 0 m σ H) ∧ ∀ i m σ H, W i m σ H →
      ((Ite K a).stop i H ∧ n σ H) ∨ ((Ite K a).go i H ∧ ∃ N : St → Hp → Prop, (∀ σ' H', N σ' H' → ∃ m', m' < m ∧ W (i + 1) m' σ' H') ∧ ∀ x H', (Ite K a).yld i H x H' → gTup KK 2 (gCons (gName i1) (gCons (gName i2) gNil)) x σ H' fun σ2 H2 => ts (Ends.mk N w n N) σ2 H2) := by
  refine ⟨fun i m σ H => m = xs.length - i ∧ i ≤ xs.length ∧ J ((enumI 0 xs).drop i) σ H, ⟨xs.length, by simp, Nat.zero_le _, h0⟩, ?_⟩
  rintro i m σ H ⟨rfl, hi, hJ⟩
  have hS := hl _ σ H hJ
  by_cases hlt : i < xs.length
  · have e : xs[i]? = some xs[i] := List.getElem?_eq_getElem hlt
    have e1 : (xs.map f)[i]? = some (f xs[i]) := by rw [List.getElem?_map, e]; rfl
    have e2 := enumI_drop xs 0 i xs[i] e
    rw [e2] at hJ
    refine .inr ⟨⟨_, _, hS, e1⟩, J ((enumI 0 xs).drop (i + 1)), fun σ' H' hJ' => ⟨_, by omega, rfl, hlt, hJ'⟩, fun y H' hy => ?_⟩
    obtain ⟨T, x, rfl, hT, rfl, hq⟩ := hy
    have hxx := hq _ hS
    rw [e1] at hxx
    cases hxx
    refine ⟨T, _, rfl, SqT.of upd_same, rfl, _, _, rfl, _, _, rfl, rfl, ?_⟩
    have hJ2 := hx _ _ _ (upd H T (.tup [.int ((i : Nat) : Int), f xs[i]])) hJ (Ex.new hT)
    have e3 : ((0 + i : Nat) : Int) = (i : Int) := by omega
    rw [e3] at hJ2
    exact hs _ _ _ _ _ hJ2
  · have e : (enumI 0 xs).drop i = [] := List.drop_eq_nil_of_le (by rw [enumI_len]; omega)
    rw [e] at hJ
    exact .inl ⟨⟨_, hS, by rw [List.length_map]; omega⟩, hd σ H hJ⟩
end
end Bt
namespace Bt
open PySem L2
/-! what is refused -/
inductive Er where
  | NoBits | NoName | NoKey | NoFrame | NoPost | NoThing | NoStrip | NoRail
  | NoWire (i : Int) | NoRow (i : Int)
  deriving DecidableEq
structure Eds where
  NoBits : Addr
  NoName : Addr
  NoKey : Addr
  NoFrame : Addr
  NoPost : Addr
  NoThing : Addr
  NoStrip : Addr
  NoRail : Addr
  NoWire : Addr
  NoRow : Addr
  RailError : Addr
def Eds.of (d : Eds) : Er → Addr
  | .NoBits => d.NoBits
  | .NoName => d.NoName
  | .NoKey => d.NoKey
  | .NoFrame => d.NoFrame
  | .NoPost => d.NoPost
  | .NoThing => d.NoThing
  | .NoStrip => d.NoStrip
  | .NoRail => d.NoRail
  | .NoWire _ => d.NoWire
  | .NoRow _ => d.NoRow
inductive Rs (R : Type) where
  | ok (r : R)
  | er (e : Er)
def RetE (d : Eds) (e : Er) (H : Hp) (E : XK) : Prop := match e with
  | .NoWire i => ∀ H' a, H a = none → Ex H H' → H' a = some (.xd [(("at" : Str), .int i)]) → E (.ref d.NoWire) (some a) H'
  | .NoRow i => ∀ H' a, H a = none → Ex H H' → H' a = some (.xd [(("word" : Str), .int i)]) → E (.ref d.NoRow) (some a) H'
  | e => ∀ H', Ex H H' → E (.ref (d.of e)) none H'
def RetR {R : Type} (P : R → Prop) (d : Eds) (r : Rs R) (H : Hp) (E : XK) : Prop := match r with
  | .ok r => P r
  | .er e => RetE d e H E
section
variable {α β S R' : Type} {d : Eds} {H H0 : Hp} {E : XK} {L : List Cell}
theorem RetE.go {e : Er} (k : RetE d e H0 E) (O : Own H0 H L) : RetE d e H E := by
  cases e <;> first
    | exact fun H' h => k H' (O.ex.trans h)
    | exact fun H' a ha h => k H' a (O.ex.back ha) (O.ex.trans h)
theorem RetR.ok {P : α → Prop} {y : α} (h : P y) : RetR P d (.ok y) H E := h
theorem RetR.split {P : α → Prop} {x : Rs α} (h2 : ∀ e, x = .er e → RetE d e H E) (h1 : ∀ y, x = .ok y → P y) : RetR P d x H E := by
  cases x with
  | ok y => exact h1 y rfl
  | er e => exact h2 e rfl
def contR (f : α → Option (Rs β)) : Rs α → Option (Rs β)
  | .ok x => f x
  | .er e => some (.er e)
def bndR (a : Option (Rs α)) (f : α → Option (Rs β)) : Option (Rs β) := bnd a (contR f)
def contRF (f : α → Option (Fl S (Rs β))) : Rs α → Option (Fl S (Rs β))
  | .ok x => f x
  | .er e => some (.rt (.er e))
def bndRF (a : Option (Rs α)) (f : α → Option (Fl S (Rs β))) : Option (Fl S (Rs β)) := bnd a (contRF f)
def contO (f : α → Option β) : Rs α → Option β
  | .ok x => f x
  | .er _ => none
def bndO (a : Option (Rs α)) (f : α → Option β) : Option β := bnd a (contO f)
theorem bndRE {a : Option (Rs α)} {f : α → Option (Rs β)} {r : Rs β} (h : bndR a f = some r) : ∃ x, a = some x ∧ contR f x = some r := bndE h
theorem bndRFE {a : Option (Rs α)} {f : α → Option (Fl S (Rs β))} {r : Fl S (Rs β)} (h : bndRF a f = some r) : ∃ x, a = some x ∧ contRF f x = some r := bndE h
theorem okR {f : α → Option (Rs β)} {y : α} {r : Rs β} (h : contR f (.ok y) = some r) : f y = some r := h
theorem okRF {f : α → Option (Fl S (Rs β))} {y : α} {r : Fl S (Rs β)} (h : contRF f (.ok y) = some r) : f y = some r := h
theorem erR {f : α → Option (Rs β)} {e : Er} {r : Rs β} (h : contR f (.er e) = some r) : Rs.er e = r := Option.some.inj h
theorem erRF {f : α → Option (Fl S (Rs β))} {e : Er} {r : Fl S (Rs β)} (h : contRF f (.er e) = some r) : Fl.rt (Rs.er e) = r := Option.some.inj h
theorem bndOE {a : Option (Rs α)} {f : α → Option β} {r : β} (h : bndO a f = some r) : ∃ y, a = some (.ok y) ∧ f y = some r := by
  obtain ⟨x, h1, h2⟩ := bndE h
  cases x with
  | ok y => exact ⟨y, h1, h2⟩
  | er e => cases h2
end
/-- a class of refusals, as the top has made it -/
structure ErrC (K : PySem.W.Frag) (mg : Str → Option Value) (x : Str) (C : Addr) : Prop where
  g : mg x = some (.ref C)
  ex : PySem.W.excIn K C [.type "ValueError", .type "Exception", .type "BaseException", .type "object"] "ValueError.__new__" = true
  kp : PySem.W.keepIn K (.ref C) = true
  b : PySem.W.subIn K (.ref C) (.type "BaseException") = some true
  t : PySem.W.typeIn K (.ref C) = some (.type "type")
theorem ps_err {X : Cx} {W : WX} {x m : Str} {j : Nat} {p p2 pos pos' : Pos} {C : Addr} (e : ErrC X.K X.mg x C) (tk : Takes X W) (hc : X.calm = true) (hg : Gl X x) (hdb : (x == ("__debug__" : Str)) = false := by decide) :
    PS X (.Raise (some (.Call (.Name x p) [.Constant (.str m) j p2] [] pos)) none pos') (fun _ σ H => W (.ref C) none σ H) :=
  ps_raise hc tk (pmk_own PySem.F.excBase_ValueError e.ex e.g e.kp (raises_own e.b e.t) hg hdb)
end Bt
namespace Bt
open PySem L2
theorem err_mk {K : PySem.W.Frag} {h : Heap} {mg : Str → Option Value} {x : Str} {C : Addr} (X : K.In h) (G : h.Ns mainGlobals mg) (a : PySem.W.nsIn K mainGlobals x = some (some (.ref C)))
    (e : PySem.W.excIn K C [.type "ValueError", .type "Exception", .type "BaseException", .type "object"] "ValueError.__new__" = true) (k : PySem.W.keepIn K (.ref C) = true) (b : PySem.W.subIn K (.ref C) (.type "BaseException") = some true) (t : PySem.W.typeIn K (.ref C) = some (.type "type")) :
    ∃ C, ErrC K mg x C := ⟨C, PySem.W.mg_of X G a, e, k, b, t⟩
end Bt
namespace Bt
open PySem L2
inductive Ek where
  | NoBits | NoName | NoKey | NoFrame | NoPost | NoThing | NoStrip | NoRail | NoWire | NoRow
  deriving DecidableEq
def Er.k : Er → Ek
  | .NoBits => .NoBits
  | .NoName => .NoName
  | .NoKey => .NoKey
  | .NoFrame => .NoFrame
  | .NoPost => .NoPost
  | .NoThing => .NoThing
  | .NoStrip => .NoStrip
  | .NoRail => .NoRail
  | .NoWire _ => .NoWire
  | .NoRow _ => .NoRow
def tryR {α β : Type} (x : Rs α) (f : α → β) (g : Er → β) : β := match x with
  | .ok y => f y
  | .er e => g e
theorem tryOk {α β : Type} {y : α} {f : α → β} {g : Er → β} {r : β} (h : tryR (.ok y) f g = r) : f y = r := h
theorem tryEr {α β : Type} {e : Er} {f : α → β} {g : Er → β} {r : β} (h : tryR (.er e) f g = r) : g e = r := h
theorem exm_mk {K : PySem.W.Frag} {C S : Addr} {r : Bool} (h1 : PySem.W.subIn K (.ref S) (.type "BaseException") = some true) (h2 : (PySem.W.clsIn K S).isSome = true) (h3 : PySem.W.typeIn K (.ref S) = some (.type "type")) (h4 : PySem.W.subIn K (.ref C) (.ref S) = some r) :
    PySem.W.exmOne K (.ref C) (.ref S) = some r := by
  have e1 : (PySem.W.subIn K (.ref S) (.type "BaseException") == some true) = true := by rw [h1] <;> rfl
  have e2 : ((PySem.W.clsIn K S).isSome && PySem.W.typeIn K (.ref S) == some (.type "type")) = true := by
    rw [h2, h3] <;> rfl
  unfold PySem.W.exmOne
  rw [if_pos e1]
  unfold PySem.W.kitCls
  dsimp only
  rw [if_pos e2]
  exact h4
end Bt
namespace Bt
open PySem L2
theorem o_callS {sp : Sp} {E : L2.St → XK} {tr : TA} {σ : L2.St} {H : Hp} {Q : VK} (h : tr σ H fun vs H1 => sp vs H1 Q (E σ)) : tCallS sp E tr σ H Q := h
end Bt
namespace Bt
open PySem L2
section
variable {α : Type} {R H : Hp} {Q : VK} {a : Addr} {xs ys : List α} {y : α} {f : α → V}
def popL (xs : List α) : Option (α × List α) := match xs[xs.length - 1]? with
  | some y => some (y, xs.dropLast)
  | none => none
theorem popE (h : popL xs = some (y, ys)) : xs[xs.length - 1]? = some y ∧ xs.dropLast = ys := by
  unfold popL at h
  split at h
  · rename_i e
    cases h
    exact ⟨e, rfl⟩
  · cases h
theorem popL_ok {xs : List α} {y : α} : popL (xs ++ [y]) = some (y, xs) := by
  unfold popL
  rw [List.length_append, List.length_singleton, Nat.add_sub_cancel, List.getElem?_append_right (Nat.le_refl _), Nat.sub_self]
  simp
theorem k_clr {g : HO → List Cell} (hl : H a = some (.lst (xs.map f))) (hp : ∀ o', Own R (upd H a o') (g o')) (k : ∀ H', Own R H' (g (.lst (([] : List α).map f))) → Q .non H') : rClear (.ref a) [] H Q :=
  ⟨a, _, rfl, rfl, hl, k _ (hp _)⟩
theorem k_pop {g : HO → List Cell} (hl : H a = some (.lst (xs.map f))) (hp : ∀ o', Own R (upd H a o') (g o')) (h : popL xs = some (y, ys)) (k : ∀ H', Own R H' (g (.lst (ys.map f))) → Q (f y) H') : rPop (.ref a) [] H Q := by
  obtain ⟨e, rfl⟩ := popE h
  refine ⟨a, _, f y, rfl, rfl, hl, ?_, ?_⟩
  · rw [List.length_map, List.getElem?_map, e]; rfl
  · rw [← List.map_dropLast]
    exact k _ (hp _)
theorem k_ext {b : Addr} {zs : List α} {g : HO → List Cell} (hl : H a = some (.lst (xs.map f))) (hb : H b = some (.lst (zs.map f))) (hp : ∀ o', Own R (upd H a o') (g o')) (h : catG xs zs = some ys) (k : ∀ H', Own R H' (g (.lst (ys.map f))) → Q .non H') : rExtend (.ref a) [.ref b] H Q := by
  obtain ⟨c, rfl⟩ := grdE h
  refine ⟨a, b, _, _, rfl, rfl, hl, hb, ?_, ?_⟩
  · rw [List.length_map, List.length_map]; exact c
  · rw [← List.map_append]
    exact k _ (hp _)
end
end Bt

set_option Elab.async false
set_option linter.all false
set_option maxRecDepth 100000
set_option maxHeartbeats 4000000
/-! Built-ins that the kit's rules do not name. -/
namespace Bt
open PySem L2 PyProof.Rows
section
variable {X : Cx}
def maxL (d : Int) : List Int → Int
  | [] => d
  | n :: ns => ns.foldl (fun a y => if a < y then y else a) n
def rMaxD (K : PySem.W.Frag) : List V → List V → Hp → VK → Prop := fun xs zs H Q => ∃ a ns d, xs = [.ref a] ∧ zs = [.int d] ∧ SqL K H a (ns.map V.int) ∧ Q (.int (maxL d ns)) H
theorem maxOf_int (x : Int) (xs : List Int) : PySem.W.maxOf x xs = xs.foldl (fun a y => if a < y then y else a) x := by
  unfold PySem.W.maxOf
  congr 1
  funext a y
  show (if decide (a < y) = true then y else a) = _
  by_cases h : a < y
  · rw [if_pos (decide_eq_true h), if_pos h]
  · rw [if_neg (by simpa using h), if_neg h]
theorem cr_maxD (hc : X.calm = true) (hu : X.A.units + 64 < cLine) : CallRK X (.builtin "max") [Str.ofString "default"] (rMaxD X.K) := by
  intro pins s σ H xs zs us ws Q I r1 r2 h
  obtain ⟨a, ns, d, rfl, rfl, hs, q⟩ := h
  obtain ⟨its, rv, hl, _⟩ := I.list hs
  rw [Vals.ref1 r1]
  obtain ⟨w, rfl, t, rfl⟩ := r2.one
  refine PySem.W.max_list_datum_default (α := Int) (I.ok.hd hc) hl.isList (PySem.W.HoldAll.of_ints rv.ints) (by show X.A.units + 1 + 0 < cLine; omega) (fun e h' tk k => ?_) fun y ys i v h' tk e _ hv k => ?_
  · subst e
    exact ⟨.int d, H, I.kept k, ⟨_, rfl⟩, q⟩
  · subst e
    obtain ⟨bs, hv⟩ := hv
    rw [maxOf_int] at hv
    cases hv
    exact ⟨.int _, H, I.kept k, ⟨_, rfl⟩, q⟩
variable {K : PySem.W.Frag} {H : Hp} {Q : VK} {a : Addr} {ns : List Int} {d : Int} {t tk : TA} {r : List V → List V → Hp → VK → Prop} {σ : L2.St}
theorem o_kw (h : t σ H fun vs H1 => tk σ H1 fun zs H2 => r vs zs H2 Q) : tCKw r t tk σ H Q := h
theorem k_maxD (hs : SqL K H a (ns.map V.int)) (q : Q (.int (maxL d ns)) H) : rMaxD K [.ref a] [.int d] H Q := ⟨a, ns, d, rfl, rfl, hs, q⟩
theorem o_en {ta : TA} {R : It → Hp → Prop} (h : ta σ H fun vs H1 => ∃ a xs, vs = [.ref a] ∧ SqL K H1 a xs ∧ R (Ite K a) H1) : iEnum K ta σ H R := h
end
end Bt

set_option Elab.async false
set_option linter.all false
set_option maxRecDepth 100000
set_option maxHeartbeats 4000000
/-! Data in data: what stands in a heap that only grows. -/
namespace Bt
open PySem L2
inductive All2 {α β : Type} (P : α → β → Prop) : List α → List β → Prop
  | nil : All2 P [] []
  | cons {a : α} {b : β} {as : List α} {bs : List β} : P a b → All2 P as bs → All2 P (a :: as) (b :: bs)
section
variable {α β : Type} {P Q : α → β → Prop} {as cs : List α} {bs ds : List β} {a : α} {b : β}
theorem All2.mp (f : ∀ a b, P a b → Q a b) (h : All2 P as bs) : All2 Q as bs := by
  induction h with
  | nil => exact .nil
  | cons h _ ih => exact .cons (f _ _ h) ih
theorem All2.app (h : All2 P as bs) (k : All2 P cs ds) : All2 P (as ++ cs) (bs ++ ds) := by
  induction h with
  | nil => exact k
  | cons h _ ih => exact .cons h ih
theorem All2.snoc (h : All2 P as bs) (k : P a b) : All2 P (as ++ [a]) (bs ++ [b]) := h.app (.cons k .nil)
theorem All2.len (h : All2 P as bs) : as.length = bs.length := by
  induction h with
  | nil => rfl
  | cons _ _ ih => simp [ih]
theorem All2.get (h : All2 P as bs) : ∀ {i : Nat} {b : β}, bs[i]? = some b → ∃ a, as[i]? = some a ∧ P a b := by
  induction h with
  | nil => intro i b e; simp at e
  | cons h _ ih =>
    intro i b e
    cases i with
    | zero => cases Option.some.inj e; exact ⟨_, rfl, h⟩
    | succ i => exact ih (by simpa using e)
theorem All2.drop (h : All2 P as bs) : ∀ n, All2 P (as.drop n) (bs.drop n) := by
  induction h with
  | nil => intro n; simp; exact .nil
  | cons h t ih =>
    intro n
    cases n with
    | zero => exact .cons h t
    | succ n => exact ih n
theorem All2.take (h : All2 P as bs) : ∀ n, All2 P (as.take n) (bs.take n) := by
  induction h with
  | nil => intro n; simp; exact .nil
  | cons h t ih =>
    intro n
    cases n with
    | zero => exact .nil
    | succ n => exact .cons h (ih n)
theorem All2.set (h : All2 P as bs) (k : P a b) : ∀ n, All2 P (as.set n a) (bs.set n b) := by
  induction h with
  | nil => intro n; exact .nil
  | cons h t ih =>
    intro n
    cases n with
    | zero => exact .cons k t
    | succ n => exact .cons h (ih n)
end
/-- what a value stands for, in a heap -/
abbrev Rp (α : Type) := Hp → V → α → Prop
def Mono {α : Type} (P : Rp α) : Prop := ∀ F F' v x, Ex F F' → P F v x → P F' v x
def rI : Rp Int := fun _ v a => v = .int a
def rB : Rp Bool := fun _ v a => v = .bl a
def rS : Rp Str := fun _ v a => v = .str a
def rL {α : Type} (P : Rp α) : Rp (List α) := fun F v xs => ∃ p vs, v = .ref p ∧ F p = some (.lst vs) ∧ All2 (P F) vs xs
def rT2 {α β : Type} (P : Rp α) (Q : Rp β) : Rp (α × β) := fun F v x => ∃ p a b, v = .ref p ∧ F p = some (.tup [a, b]) ∧ P F a x.1 ∧ Q F b x.2
def rT3 {α β γ : Type} (P : Rp α) (Q : Rp β) (R : Rp γ) : Rp (α × β × γ) := fun F v x => ∃ p a b c, v = .ref p ∧ F p = some (.tup [a, b, c]) ∧ P F a x.1 ∧ Q F b x.2.1 ∧ R F c x.2.2
def rT4 {α β γ δ : Type} (P : Rp α) (Q : Rp β) (R : Rp γ) (S : Rp δ) : Rp (α × β × γ × δ) := fun F v x => ∃ p a b c d, v = .ref p ∧ F p = some (.tup [a, b, c, d]) ∧ P F a x.1 ∧ Q F b x.2.1 ∧ R F c x.2.2.1 ∧ S F d x.2.2.2
def rO {α : Type} (P : Rp α) : Rp (Option α) := fun F v x => match x with
  | none => v = .non
  | some y => P F v y
theorem mI : Mono rI := fun _ _ _ _ _ h => h
theorem mB : Mono rB := fun _ _ _ _ _ h => h
theorem mS : Mono rS := fun _ _ _ _ _ h => h
theorem mL {α : Type} {P : Rp α} (m : Mono P) : Mono (rL P) := fun F F' v x e ⟨p, vs, h1, h2, h3⟩ => ⟨p, vs, h1, e _ _ h2, h3.mp fun a b h => m F F' a b e h⟩
theorem mA {α : Type} {P : Rp α} (m : Mono P) {F F' : Hp} {vs : List V} {xs : List α} (e : Ex F F') (h : All2 (P F) vs xs) : All2 (P F') vs xs := h.mp fun a b h => m F F' a b e h
theorem mT2 {α β : Type} {P : Rp α} {Q : Rp β} (m : Mono P) (n : Mono Q) : Mono (rT2 P Q) := fun F F' v x e ⟨p, a, b, h1, h2, h3, h4⟩ => ⟨p, a, b, h1, e _ _ h2, m _ _ _ _ e h3, n _ _ _ _ e h4⟩
theorem mT3 {α β γ : Type} {P : Rp α} {Q : Rp β} {R : Rp γ} (m : Mono P) (n : Mono Q) (o : Mono R) : Mono (rT3 P Q R) := fun F F' v x e ⟨p, a, b, c, h1, h2, h3, h4, h5⟩ => ⟨p, a, b, c, h1, e _ _ h2, m _ _ _ _ e h3, n _ _ _ _ e h4, o _ _ _ _ e h5⟩
theorem mT4 {α β γ δ : Type} {P : Rp α} {Q : Rp β} {R : Rp γ} {S : Rp δ} (m : Mono P) (n : Mono Q) (o : Mono R) (q : Mono S) : Mono (rT4 P Q R S) := fun F F' v x e ⟨p, a, b, c, d, h1, h2, h3, h4, h5, h6⟩ => ⟨p, a, b, c, d, h1, e _ _ h2, m _ _ _ _ e h3, n _ _ _ _ e h4, o _ _ _ _ e h5, q _ _ _ _ e h6⟩
theorem mO {α : Type} {P : Rp α} (m : Mono P) : Mono (rO P) := fun F F' v x e h => by
  cases x with
  | none => exact h
  | some y => exact m _ _ _ _ e h
/-! flat lists in a heap -/
theorem aI {F : Hp} : ∀ {vs : List V} {xs : List Int}, All2 (rI F) vs xs → vs = xs.map V.int
  | _, _, .nil => rfl
  | _, _, .cons h t => by rw [show _ = _ from h, aI t]; rfl
theorem aB {F : Hp} : ∀ {vs : List V} {xs : List Bool}, All2 (rB F) vs xs → vs = xs.map V.bl
  | _, _, .nil => rfl
  | _, _, .cons h t => by rw [show _ = _ from h, aB t]; rfl
theorem aS {F : Hp} : ∀ {vs : List V} {xs : List Str}, All2 (rS F) vs xs → vs = xs.map V.str
  | _, _, .nil => rfl
  | _, _, .cons h t => by rw [show _ = _ from h, aS t]; rfl
theorem iA {F : Hp} : ∀ (xs : List Int), All2 (rI F) (xs.map V.int) xs
  | [] => .nil
  | x :: r => .cons rfl (iA r)
theorem bA {F : Hp} : ∀ (xs : List Bool), All2 (rB F) (xs.map V.bl) xs
  | [] => .nil
  | x :: r => .cons rfl (bA r)
theorem sA {F : Hp} : ∀ (xs : List Str), All2 (rS F) (xs.map V.str) xs
  | [] => .nil
  | x :: r => .cons rfl (sA r)
theorem fI {F : Hp} {v : V} {xs : List Int} (h : rL rI F v xs) : ∃ p, v = .ref p ∧ F p = some (.lst (xs.map V.int)) := by
  obtain ⟨p, vs, h1, h2, h3⟩ := h
  rw [aI h3] at h2
  exact ⟨p, h1, h2⟩
theorem fB {F : Hp} {v : V} {xs : List Bool} (h : rL rB F v xs) : ∃ p, v = .ref p ∧ F p = some (.lst (xs.map V.bl)) := by
  obtain ⟨p, vs, h1, h2, h3⟩ := h
  rw [aB h3] at h2
  exact ⟨p, h1, h2⟩
theorem fS {F : Hp} {v : V} {xs : List Str} (h : rL rS F v xs) : ∃ p, v = .ref p ∧ F p = some (.lst (xs.map V.str)) := by
  obtain ⟨p, vs, h1, h2, h3⟩ := h
  rw [aS h3] at h2
  exact ⟨p, h1, h2⟩
theorem gI {F : Hp} {p : Addr} {xs : List Int} (h : F p = some (.lst (xs.map V.int))) : rL rI F (.ref p) xs := ⟨p, _, rfl, h, iA xs⟩
theorem gB {F : Hp} {p : Addr} {xs : List Bool} (h : F p = some (.lst (xs.map V.bl))) : rL rB F (.ref p) xs := ⟨p, _, rfl, h, bA xs⟩
theorem gS {F : Hp} {p : Addr} {xs : List Str} (h : F p = some (.lst (xs.map V.str))) : rL rS F (.ref p) xs := ⟨p, _, rfl, h, sA xs⟩
/-! the frame grows -/
/-- of X what R knows, or what H does not -/
def ovr (R H X : Hp) : Hp := fun a => if R a ≠ none ∨ H a = none then X a else none
theorem ovr_some {R H X : Hp} {a : Addr} {u : HO} (h : ovr R H X a = some u) : (R a ≠ none ∨ H a = none) ∧ X a = some u := by
  unfold ovr at h
  split at h
  · exact ⟨by assumption, h⟩
  · cases h
theorem ovr_mk {R H X : Hp} {a : Addr} {u : HO} (h : R a ≠ none ∨ H a = none) (k : X a = some u) : ovr R H X a = some u := by
  unfold ovr
  rw [if_pos h]
  exact k
theorem ovr_ex {R H X : Hp} : Ex (ovr R H X) X := fun a o h => by
  unfold ovr at h
  split at h
  · exact h
  · cases h
theorem ovr_mono {R H X Y : Hp} (e : Ex X Y) : Ex (ovr R H X) (ovr R H Y) := fun a o h => by
  unfold ovr at h ⊢
  split at h
  · rename_i c
    rw [if_pos c]
    exact e _ _ h
  · cases h
theorem ovr_start {R H : Hp} (e : Ex R H) : Ex R (ovr R H H) := fun a o h => by
  unfold ovr
  rw [if_pos (.inl (by rw [h]; simp))]
  exact e _ _ h
section
variable {R H H' F H0 R0 : Hp} {L : List Cell} {p : Addr} {o : HO}
theorem Own.freeze (O : Own R H ((p, o) :: L)) : Own (upd R p o) H L :=
  ⟨fun a u h => by
    by_cases e : a = p
    · subst e
      rw [upd_same] at h
      cases h
      exact O.at_ _ (List.Mem.head _)
    · rw [upd_ne e] at h
      exact O.ex _ _ h, fun c h => O.at_ c (List.Mem.tail _ h), fun c h => by
    have hne : c.1 ≠ p := fun e => (List.nodup_cons.mp O.nd).1 (by rw [← e]; exact List.mem_map_of_mem (f := (·.1)) h)
    rw [upd_ne hne]
    exact O.fr c (List.Mem.tail _ h), (List.nodup_cons.mp O.nd).2⟩
/-- R grows by a cell; what was known of it stays, the new cell is known -/
theorem Own.frz (O : Own R H ((p, o) :: L)) : ∃ R', Own R' H L ∧ Ex R R' ∧ R' p = some o := ⟨_, O.freeze, Ex.new (O.fr _ (List.Mem.head _)), upd_same⟩
theorem Own.frzO (O : Own R H ((p, o) :: L)) (e0 : Ex H0 R) : ∃ R', Own R' H L ∧ Ex R R' ∧ ovr R0 H0 R' p = some o := ⟨_, O.freeze, Ex.new (O.fr _ (List.Mem.head _)), by
  unfold ovr
  rw [if_pos (.inr (e0.back (O.fr _ (List.Mem.head _))))]
  exact upd_same⟩
/-- R grows by all that is new -/
theorem Own.grow (O : Own R H L) (e : Ex H H') : ∃ R', Own R' H' L ∧ Ex R R' ∧ ∀ F, Ex F R → Ex (ovr F H H') R' := by
  refine ⟨fun a => if H a = none then H' a else R a, ⟨fun a u h => ?_, fun c h => e _ _ (O.at_ c h), fun c h => ?_, O.nd⟩, fun a u h => ?_, fun F hF a u h => ?_⟩
  · by_cases c : H a = none
    · rw [if_pos c] at h; exact h
    · rw [if_neg c] at h; exact e _ _ (O.ex _ _ h)
  · rw [if_neg (by rw [O.at_ c h]; simp)]
    exact O.fr c h
  · show (if H a = none then H' a else R a) = some u
    rw [if_neg (by rw [O.ex _ _ h]; simp)]
    exact h
  · unfold ovr at h
    split at h
    · rename_i q
      rcases q with q | q
      · cases hf : F a with
        | none => exact absurd hf q
        | some w =>
          have h1 := O.ex _ _ (hF _ _ hf)
          have h2 := e _ _ h1
          rw [h] at h2
          cases h2
          show (if H a = none then H' a else R a) = some u
          rw [if_neg (by rw [h1]; simp)]
          exact hF _ _ hf
      · show (if H a = none then H' a else R a) = some u
        rw [if_pos q]
        exact h
    · cases h
theorem Own.growO (O : Own R H L) (e : Ex H H') (e0 : Ex H0 R) : ∃ R', Own R' H' L ∧ Ex R R' ∧ Ex (ovr (ovr R0 H0 R) H H') (ovr R0 H0 R') := by
  obtain ⟨R', O', e1, e2⟩ := O.grow e
  refine ⟨R', O', e1, fun a u h => ?_⟩
  have h1 := e2 (ovr R0 H0 R) ovr_ex _ _ h
  obtain ⟨q, _⟩ := ovr_some h
  refine ovr_mk ?_ h1
  rcases q with q | q
  · cases hq : ovr R0 H0 R a with
    | none => exact absurd hq q
    | some w => exact (ovr_some hq).1
  · exact .inr (Ex.back (e0.trans O.ex) q)
end
/-- a new thing is handed back, in what R knows or what is new -/
def RetG {α : Type} (P : Rp α) (R : Hp) (r : α) (H : Hp) (Q : VK) : Prop := ∀ v H', Ex H H' → P (ovr R H H') v r → Q v H'
section
variable {α : Type} {P : Rp α} {R H F H0 R0 : Hp} {L : List Cell} {r : α} {Q : VK} {v : V}
theorem Own.retG (O : Own R H L) (m : Mono P) (k : ∀ v H' R', Own R' H' L → Ex R R' → P R' v r → Q v H') : RetG P R r H Q := fun v H' e h => by
  obtain ⟨R', O', e1, e2⟩ := O.grow e
  exact k v H' R' O' e1 (m _ _ _ _ (e2 R (Ex.refl R)) h)
theorem Own.retGO (O : Own R H L) (m : Mono P) (e0 : Ex H0 R) (k : ∀ v H' R', Own R' H' L → Ex R R' → P (ovr R0 H0 R') v r → Q v H') : RetG P (ovr R0 H0 R) r H Q := fun v H' e h => by
  obtain ⟨R', O', e1, e2⟩ := O.growO (R0 := R0) e e0
  exact k v H' R' O' e1 (m _ _ _ _ e2 h)
theorem RetG.go (k : RetG P R0 r H0 Q) (m : Mono P) (O : Own R H L) (e0 : Ex H0 R) (h : P (ovr R0 H0 R) v r) : Q v H := k v H (e0.trans O.ex) (m _ _ _ _ (ovr_mono O.ex) h)
theorem RetV.goR {v : V} (k : RetV v H0 Q) (O : Own R H L) (e0 : Ex H0 R) : Q v H := k H (e0.trans O.ex)
theorem RetL.goR {xs : List V} {p : Addr} (k : RetL xs H0 Q) (O : Own R H L) (e0 : Ex H0 R) (h : (p, HO.lst xs) ∈ L) : Q (.ref p) H := k p H (e0.back (O.fr _ h)) (e0.trans O.ex) (O.at_ _ h)
theorem RetT.goR {xs : List V} {p : Addr} (k : RetT xs H0 Q) (O : Own R H L) (e0 : Ex H0 R) (h : (p, HO.tup xs) ∈ L) : Q (.ref p) H := k p H (e0.back (O.fr _ h)) (e0.trans O.ex) (O.at_ _ h)
end
/-! == of such data -/
structure De {α : Type} [DecidableEq α] (P : Rp α) where
  d : α → PyData
  dp : ∀ (K : PySem.W.Frag) F v a, P F v a → Dp K F v (d a)
  ok : ∀ a, PyData.canLay0 (d a) = true
  n : Nat
  dep : ∀ a, PyData.depth (d a) ≤ n
  eq : ∀ a b, PyData.eqv (d a) (d b) = decide (a = b)
def deI : De rI where
  d := PyData.int
  dp := fun K F v a h => by rw [show v = V.int a from h]; exact .int a
  ok := fun _ => rfl
  n := 0
  dep := fun _ => Nat.le_refl _
  eq := fun a b => by simp only [PyData.eqv]; rw [Bool.beq_eq_decide_eq]
def deB : De rB where
  d := PyData.bool
  dp := fun K F v a h => by rw [show v = V.bl a from h]; exact .bl a
  ok := fun _ => rfl
  n := 0
  dep := fun _ => Nat.le_refl _
  eq := fun a b => by simp only [PyData.eqv]; rw [Bool.beq_eq_decide_eq]
section
variable {α β γ : Type} [DecidableEq α] [DecidableEq β] [DecidableEq γ]
theorem de_all {P : Rp α} (e : De P) {K : PySem.W.Frag} {F : Hp} : ∀ {vs : List V} {xs : List α}, All2 (P F) vs xs → DpAll K F vs (xs.map e.d)
  | _, _, .nil => .nil
  | _, _, .cons h t => .cons (e.dp K F _ _ h) (de_all e t)
theorem ok_all {P : Rp α} (e : De P) : ∀ xs : List α, PyData.canLayAll0 (xs.map e.d) = true
  | [] => rfl
  | x :: r => by simp only [List.map_cons, PyData.canLayAll0, e.ok x, ok_all e r, Bool.and_self]
theorem dep_all {P : Rp α} (e : De P) : ∀ xs : List α, PyData.depthAll (xs.map e.d) ≤ e.n
  | [] => by simp [PyData.depthAll]
  | x :: r => by
    have h1 := e.dep x
    have h2 := dep_all e r
    simp only [List.map_cons, PyData.depthAll]
    omega
theorem eq_all {P : Rp α} (e : De P) : ∀ xs ys : List α, PyData.eqvAll (xs.map e.d) (ys.map e.d) = decide (xs = ys)
  | [], [] => by simp [PyData.eqvAll]
  | [], y :: s => by simp [PyData.eqvAll]
  | x :: r, [] => by simp [PyData.eqvAll]
  | x :: r, y :: s => by simp only [List.map_cons, PyData.eqvAll, e.eq x y, eq_all e r s, List.cons.injEq, Bool.decide_and]
def deL {P : Rp α} (e : De P) : De (rL P) where
  d := fun xs => .list (xs.map e.d)
  dp := fun K F v xs ⟨p, vs, h1, h2, h3⟩ => by
    subst h1
    exact .lst (SqL.of h2) (de_all e h3)
  ok := fun xs => by simp only [PyData.canLay0]; exact ok_all e xs
  n := e.n + 1
  dep := fun xs => by
    have := dep_all e xs
    simp only [PyData.depth]
    omega
  eq := fun xs ys => by simp only [PyData.eqv]; exact eq_all e xs ys
def deT2 {P : Rp α} {Q : Rp β} (e : De P) (f : De Q) : De (rT2 P Q) where
  d := fun x => .tuple [e.d x.1, f.d x.2]
  dp := fun K F v x ⟨p, a, b, h1, h2, h3, h4⟩ => by
    subst h1
    exact .tup (SqT.of h2) (.cons (e.dp K F _ _ h3) (.cons (f.dp K F _ _ h4) .nil))
  ok := fun x => by simp only [PyData.canLay0, PyData.canLayAll0, e.ok, f.ok, Bool.and_self]
  n := max e.n f.n + 1
  dep := fun x => by
    have h1 := e.dep x.1
    have h2 := f.dep x.2
    simp only [PyData.depth, PyData.depthAll]
    omega
  eq := fun x y => by
    obtain ⟨x1, x2⟩ := x
    obtain ⟨y1, y2⟩ := y
    simp only [PyData.eqv, PyData.eqvAll, e.eq, f.eq, Prod.mk.injEq, Bool.decide_and, Bool.and_true]
def deT3 {P : Rp α} {Q : Rp β} {R : Rp γ} (e : De P) (f : De Q) (g : De R) : De (rT3 P Q R) where
  d := fun x => .tuple [e.d x.1, f.d x.2.1, g.d x.2.2]
  dp := fun K F v x ⟨p, a, b, c, h1, h2, h3, h4, h5⟩ => by
    subst h1
    exact .tup (SqT.of h2) (.cons (e.dp K F _ _ h3) (.cons (f.dp K F _ _ h4) (.cons (g.dp K F _ _ h5) .nil)))
  ok := fun x => by simp only [PyData.canLay0, PyData.canLayAll0, e.ok, f.ok, g.ok, Bool.and_self]
  n := max e.n (max f.n g.n) + 1
  dep := fun x => by
    have h1 := e.dep x.1
    have h2 := f.dep x.2.1
    have h3 := g.dep x.2.2
    simp only [PyData.depth, PyData.depthAll]
    omega
  eq := fun x y => by
    obtain ⟨x1, x2, x3⟩ := x
    obtain ⟨y1, y2, y3⟩ := y
    simp only [PyData.eqv, PyData.eqvAll, e.eq, f.eq, g.eq, Prod.mk.injEq, Bool.decide_and, Bool.and_true, Bool.and_assoc]
end
section
variable {α : Type} [DecidableEq α] {P : Rp α} {K : PySem.W.Frag} {F F' H : Hp} {v w : V} {x y : α} {Q : VK}
theorem sh_de (e : De P) (h : e.n ≤ 64) (x : α) : SeqAt.shaped (e.d x) = true := by
  have h1 := e.dep x
  simp only [SeqAt.shaped, e.ok, Bool.true_and]
  exact decide_eq_true (by omega)
theorem k_eqN (e : De P) (m : Mono P) (h : e.n ≤ 64) (h1 : P F v x) (e1 : Ex F H) (h2 : P F' w y) (e2 : Ex F' H) (k : Q (.bl (decide (x = y))) H) : rEqD K v w H Q :=
  ⟨_, _, e.dp K H _ _ (m _ _ _ _ e1 h1), e.dp K H _ _ (m _ _ _ _ e2 h2), sh_de e h x, sh_de e h y, by rw [e.eq]; exact k⟩
theorem k_neN (e : De P) (m : Mono P) (h : e.n ≤ 64) (h1 : P F v x) (e1 : Ex F H) (h2 : P F' w y) (e2 : Ex F' H) (k : Q (.bl (!decide (x = y))) H) : rNeD K v w H Q :=
  ⟨_, _, e.dp K H _ _ (m _ _ _ _ e1 h1), e.dp K H _ _ (m _ _ _ _ e2 h2), sh_de e h x, sh_de e h y, by rw [e.eq]; exact k⟩
end
section
variable {α : Type} {P : Rp α} {K : PySem.W.Frag} {F H R : Hp} {L : List Cell} {p a : Addr} {i : Int} {xs : List α} {y : α} {Q : VK} {vs : List V} {σ : L2.St}
theorem All2.at {β : Type} {P : α → β → Prop} {as : List α} {bs : List β} (h : All2 P as bs) {i : Int} {b : β} (e : atI bs i = some b) : ∃ a, atI as i = some a ∧ P a b := by
  unfold atI at e ⊢
  rw [h.len]
  cases hj : ixN bs.length i with
  | none => rw [hj] at e; cases e
  | some j =>
    rw [hj] at e
    obtain ⟨a, h1, h2⟩ := h.get e
    exact ⟨a, h1, h2⟩
theorem k_ixN (hn : rL P F (.ref p) xs) (e : Ex F H) (h : atI xs i = some y) (k : ∀ v, P F v y → Q v H) : rIxL K (.ref p) (.int i) H Q := by
  obtain ⟨q, vs, h1, h2, h3⟩ := hn
  cases h1
  obtain ⟨v, e1, hv⟩ := h3.at h
  exact ⟨p, vs, i, v, rfl, rfl, SqL.of (e _ _ h2), e1, k v hv⟩
theorem n_lenN (hn : rL P F (.ref p) xs) (e : Ex F H) (k : Q (.int (xs.length : Int)) H) : rLenQ K [.ref p] H Q := by
  obtain ⟨q, vs, h1, h2, h3⟩ := hn
  cases h1
  unfold rLenQ
  exact ⟨p, vs, rfl, .inl (SqL.of (e _ _ h2)), by rw [h3.len]; exact k⟩
theorem n_lstV (O : Own R H L) (hz : vs.length ≤ sizeLine) (k : ∀ p H', Own R H' ((p, .lst vs) :: L) → Q (.ref p) H') : rNewL vs H Q := by
  unfold rNewL
  exact ⟨hz, fun p hp => k p _ (O.new hp)⟩
end
end Bt

set_option Elab.async false
set_option linter.all false
set_option maxRecDepth 100000
set_option maxHeartbeats 4000000
/-! What is refused, caught by a name, asked of its class. -/
namespace Bt
open PySem L2 PyProof.Rows
theorem passN {X : Cx} : Passes (L2N.CX X.prog X.w) X E0 := fun _ _ _ _ _ _ _ h => by
  obtain ⟨_, _, _, _, _, _, _, _, _, _, _, _, z⟩ := h
  exact z.elim
theorem takesN0 {X : Cx} : L2N.Takes X (fun _ _ _ _ => False) := fun _ _ x => by
  obtain ⟨_, _, _, _, _, _, _, _, _, _, _, _, _, _, _, _, z⟩ := x
  exact z.elim
theorem okN {P : Program} {w : World} {K : PySem.W.Frag} {mg : Str → Option Value} {base : Heap} {x qual : Str} {st : Stmt} {f : Addr} {fd : FuncData} {N ps : List Str} {k : Nat} {sp : Sp} (F : Fun K x qual st f fd) (S : FnScope N ps (defScope st)) (len : ∀ vs H Q E, sp vs H Q E → vs.length = ps.length)
    (hbody : ∀ (cdv : Value) (A : Around) (outer : List Env) (s : Shared) (H : Hp) (vs : List V) (Q : VK) (E : XK), Room k (A.deeper (envOfC qual (defScope st) s.heap.objs.size f cdv)) → sp vs H Q E →
      ∃ t, PSs (cxOf (L2N.CX P w) P w K mg base N qual (defScope st) f cdv A outer s H E) (defBody st) t ∧ t { nx := fun _ H' => Q .non H', rt := Q } (start N vs) H) : FnOk P w K mg base (L2N.CX P w) (k + 1) f fd ps sp := by
  obtain ⟨oc, od, kV, doc, pm, an, cdv, ct, osl, rfl, lk, hcd⟩ := F.ex
  exact fn_of lk hcd S len fun A outer s H vs Q E hr hsp => hbody cdv A outer s H vs Q E hr hsp
theorem ps_errN {X : Cx} {W : WX} {x m : Str} {j : Nat} {p p2 pos pos' : Pos} {C : Addr} (e : ErrC X.K X.mg x C) (tk : L2N.Takes X W) (hc : X.calm = true) (hg : Gl X x) (hdb : (x == ("__debug__" : Str)) = false := by decide) :
    PS X (.Raise (some (.Call (.Name x p) [.Constant (.str m) j p2] [] pos)) none pos') (fun _ σ H => W (.ref C) none σ H) :=
  L2N.ps_raise hc tk (L2N.pmk_own PySem.F.excBase_ValueError e.ex e.g e.kp (raises_own e.b e.t) hg hdb)
/-! classes by their letters -/
def Eds.at (d : Eds) : Ek → Addr
  | .NoBits => d.NoBits
  | .NoName => d.NoName
  | .NoKey => d.NoKey
  | .NoFrame => d.NoFrame
  | .NoPost => d.NoPost
  | .NoThing => d.NoThing
  | .NoStrip => d.NoStrip
  | .NoRail => d.NoRail
  | .NoWire => d.NoWire
  | .NoRow => d.NoRow
/-- what the walk knows of the classes ks -/
structure EcF (K : PySem.W.Frag) (d : Eds) (ks : List Ek) : Prop where
  ec : ∀ k ∈ ks, ExcC K (d.at k)
  kt : ∀ k ∈ ks, ∀ c ∈ ks, PySem.W.kitOne K (.ref (d.at k)) (.ref (d.at c)) = some (decide (k = c))
  kv : ∀ k ∈ ks, PySem.W.kitOne K (.ref (d.at k)) (.type "ValueError") = some true
  kr : ∀ k ∈ ks, PySem.W.kitOne K (.ref (d.at k)) (.ref d.RailError) = some true
  xr : ∀ k ∈ ks, PySem.W.exmOne K (.ref (d.at k)) (.ref d.RailError) = some true
  xx : ∀ k ∈ ks, ∀ c ∈ ks, PySem.W.exmOne K (.ref (d.at k)) (.ref (d.at c)) = some (decide (k = c))
/-- what an exception's own dict holds -/
def XFl (e : Er) (d : Option Addr) (H : Hp) : Prop := match e with
  | .NoWire i => ∃ x, d = some x ∧ H x = some (.xd [(("at" : Str), .int i)])
  | .NoRow i => ∃ x, d = some x ∧ H x = some (.xd [(("word" : Str), .int i)])
  | _ => d = none
theorem XFl.ext {e : Er} {d : Option Addr} {H H' : Hp} (h : XFl e d H) (x : Ex H H') : XFl e d H' := by
  cases e <;> first
    | exact h
    | (obtain ⟨a, h1, h2⟩ := h; exact ⟨a, h1, x _ _ h2⟩)
theorem RetE.by {d : Eds} {e : Er} {H : Hp} {E : XK} (h : ∀ H' dd, Ex H H' → XFl e dd H' → E (.ref (d.at e.k)) dd H') : RetE d e H E := by
  cases e <;> first
    | exact fun H' x => h H' none x rfl
    | exact fun H' a _ x q => h H' (some a) x ⟨a, rfl, q⟩
/-! isinstance of the exception in hand -/
section
variable {X : Cx} {p : Addr × Obj} {D : Addr} {ex : Er}
theorem inst_pin {pins : List (Addr × Obj)} {σ : L2.St} {H : Hp} {s : Shared} (I : Inv X pins σ H s) (hp : p ∈ X.pn) (hz : p.2.cls = .ref D) (hd : XFl ex p.2.dict H) (hf : ∃ vs, p.2.data = .fields vs) : ∃ od, PySem.W.InstAt s.heap p.1 p.2 D od := by
  obtain ⟨hget, _⟩ := I.pin p (List.mem_append.mpr (.inl hp))
  obtain ⟨a, oc, od, oda, osl⟩ := p
  obtain ⟨vs, hv⟩ := hf
  dsimp only at hz hd hv hget
  subst hz hv
  have hk : od = none ∨ ∃ x fs, od = some x ∧ H x = some (.xd fs) := by
    cases ex <;> first
      | exact .inl hd
      | (obtain ⟨x, h1, h2⟩ := hd; exact .inr ⟨x, _, h1, h2⟩)
  rcases hk with rfl | ⟨x, fs, rfl, hx⟩
  · exact ⟨none, hget, rfl, rfl, trivial⟩
  · obtain ⟨_, ⟨o, _, _, e, _⟩, _⟩ := (show ∃ mA, s.heap.Ns1 x mA ∧ ∀ f, RelO (fs.lookup f) (mA f) from I.hok x _ hx)
    exact ⟨some _, hget, rfl, rfl, e⟩
theorem exc_cls {K : PySem.W.Frag} {D : Addr} (C : ExcC K D) : (PySem.W.clsIn K D).isSome = true := by
  obtain ⟨cd, hc, _⟩ := PySem.W.any_some C.hd
  rw [hc]; rfl
/-- isinstance(e, c), e the exception in hand -/
def rIsX (K : PySem.W.Frag) (D a : Addr) (ex : Er) (d : Option Addr) : List V → Hp → VK → Prop := fun xs H Q => ∃ (c : V) (cv : Value) (b : Bool), xs = [.ref a, c] ∧ ClsV c cv ∧ XFl ex d H ∧ PySem.W.kitOne K (.ref D) cv = some b ∧ Q (.bl b) H
theorem call_isP (hp : p ∈ X.pn) (C : ExcC X.K D) (hz : p.2.cls = .ref D) {d : Option Addr} (hdd : p.2.dict = d) (hf : ∃ vs, p.2.data = .fields vs) : CallR X (.builtin "isinstance") (rIsX X.K D p.1 ex d) := by
  subst hdd
  intro pins s σ H xs us Q I r h
  obtain ⟨c, cv, b, rfl, hcv, hd, e, q⟩ := h
  obtain ⟨u1, u2, rfl, r1, r2⟩ := vals2 r
  cases (show u1 = Value.ref p.1 from r1)
  have ec := hcv.eq r2
  subst ec
  obtain ⟨od, J⟩ := inst_pin I hp hz hd hf
  exact PySem.W.kia_one (PySem.W.kitx_exc (exc_cls C) C.hg C.hk C.hs C.ha C.hn C.ht C.hm) I.kIn J e (fun z => nomatch z) fun tk => ⟨.bl b, H, I.kept (t' := tk) fun _ _ z => z, rfl, q⟩
/-- .. and of a row of classes -/
def rIsXt (K : PySem.W.Frag) (D a : Addr) (ex : Er) (d : Option Addr) : List V → Hp → VK → Prop := fun xs H Q => ∃ (tp : Addr) (cs : List V) (us : List Value) (b : Bool), xs = [.ref a, .ref tp] ∧ H tp = some (.tup cs) ∧ Paired ClsV cs us ∧ XFl ex d H ∧ PySem.W.kitAny K (.ref D) us = some b ∧ Q (.bl b) H
theorem call_isPt (hp : p ∈ X.pn) (C : ExcC X.K D) (hz : p.2.cls = .ref D) {d : Option Addr} (hdd : p.2.dict = d) (hf : ∃ vs, p.2.data = .fields vs) : CallR X (.builtin "isinstance") (rIsXt X.K D p.1 ex d) := by
  subst hdd
  intro pins s σ H xs us Q I r h
  obtain ⟨tp, cs, ws, b, rfl, hT, k, hd, e, q⟩ := h
  obtain ⟨u1, u2, rfl, r1, r2⟩ := vals2 r
  cases (show u1 = Value.ref p.1 from r1)
  cases (show u2 = Value.ref tp from r2)
  obtain ⟨_, its, rv, o, h1, h2, n, h3⟩ := (show ObjOk X.prog X.w H s.heap tp (.tup cs) from I.hok tp _ hT)
  have e3 := ClsV.all k rv
  subst e3
  obtain ⟨oc, od, dt, sl⟩ := o
  simp only at h2 h3
  subst h2 h3
  obtain ⟨od, J⟩ := inst_pin I hp hz hd hf
  exact PySem.W.kia_tup (PySem.W.kitx_exc (exc_cls C) C.hg C.hk C.hs C.ha C.hn C.ht C.hm) I.kIn J h1 e (fun z => nomatch z) fun tk => ⟨.bl b, H, I.kept (t' := tk) fun _ _ z => z, rfl, q⟩
end
/-- the classes of a row, asked -/
def inKs (k : Ek) : List Ek → Bool
  | [] => false
  | c :: r => decide (k = c) || inKs k r
theorem kit_any {K : PySem.W.Frag} {d : Eds} {ks : List Ek} (T : EcF K d ks) {k : Ek} (hk : k ∈ ks) : ∀ (cs : List Ek), (∀ c ∈ cs, c ∈ ks) → PySem.W.kitAny K (.ref (d.at k)) (cs.map fun c => .ref (d.at c)) = some (inKs k cs)
  | [], _ => rfl
  | c :: r, h => by
    refine kitAny_cons (T.kt k hk c (h c (List.Mem.head _))) (fun e => ?_) fun e => ?_
    · rw [kit_any T hk r fun z hz => h z (List.Mem.tail _ hz)]
      show some (inKs k r) = some (decide (k = c) || inKs k r)
      rw [e, Bool.false_or]
    · show (decide (k = c) || inKs k r) = true
      rw [e, Bool.true_or]
/-! a def of the exception in hand, called in the suite -/
structure FnE (P : Program) (w : World) (K : PySem.W.Frag) (mg : Str → Option Value) (base : Heap) (k : Nat) (f : Addr) (fd : FuncData) (x : Str) (D : Addr) (ex : Er) (R : Bool) : Prop where
  run : ∀ (A : Around) (outer : List Env) (s : Shared) (H : Hp) (args : Args) (p : Addr × Obj) (Q : VK), L2H.RoomH k A → L2H.Hot1 A p → L2H.PinOk outer H s p → p.2.cls = .ref D → XFl ex p.2.dict H → Env0 P w K mg base A outer s H → BindsTo s fd args ([x].zip [.ref p.1]) → RetV (.bl R) H Q →
    codeAny (model P w) A (.call (.ref f) args) (CR CX0 outer P w H s Q E0) s
theorem fnE_of {P : Program} {w : World} {K : PySem.W.Frag} {mg : Str → Option Value} {base : Heap} {x qual : Str} {st : Stmt} {f : Addr} {fd : FuncData} {N : List Str} {y : Str} {k : Nat} {D : Addr} {ex : Er} {R : Bool} (F : Fun K x qual st f fd) (S : FnScope N [y] (defScope st))
    (hbody : ∀ (cdv : Value) (A : Around) (outer : List Env) (s : Shared) (H : Hp) (p : Addr × Obj) (Q : VK), A.units + 64 < cLine → p.2.cls = .ref D → XFl ex p.2.dict H → (∃ vs, p.2.data = .fields vs) → RetV (.bl R) H Q →
      ∃ t, PSs (L2H.cxH CX0 P w K mg base N qual (defScope st) f cdv A outer s H E0 p) (defBody st) t ∧ t { nx := fun _ H' => Q .non H', rt := Q } (start N [.ref p.1]) H) : FnE P w K mg base (k + 1) f fd y D ex R := by
  obtain ⟨oc, od, kV, doc, pm, an, cdv, ct, osl, rfl, lk, hcd⟩ := F.ex
  refine ⟨fun A outer s H args p Q hr hot hpin hz hd e0 hb hq => ?_⟩
  have KX : K.In s.heap := e0.mod.kin.keeps fun b o e => (e0.bs b o e).1
  have lim : s.heap.NoLimit := e0.mod.nolimit.keeps fun b o e => (e0.bs b o e).1
  have hkind : ∀ z ∈ [y].zip [Value.ref p.1], (defScope st).names.lookup z.1 = some .local ∨ ((defScope st).names.lookup z.1 = some .cell ∧ ((cellsFrom (s.heap.objs.size + 1) (defScope st).names []).lookup z.1).isSome = true) := fun ⟨n, v⟩ hy =>
    (S.par n (List.of_mem_zip hy).1).imp id fun q => ⟨q, PySem.W.cellsFrom_some _ _ _ (.inl q)⟩
  refine codeAny_call_function hr.depth (KX _ _ lk) rfl S.co S.gen rfl (PySem.W.codeRec_of KX hcd) (hb _ _ _ _ (wpAny_newFunctionEnv_cells S.kind hkind fun env he s1 hx => ?_))
  subst he
  refine ⟨lim.keeps hx.toInCall.keep, codeAny_func ?_⟩
  obtain ⟨h1, vs, h2, _⟩ := hot
  obtain ⟨t, ht, h3⟩ := hbody cdv A outer s H p Q (by have := hr.un; omega) hz hd ⟨vs, h2⟩ hq
  have rv : Vals [V.ref p.1] [Value.ref p.1] := .cons rfl .nil
  have I := L2H.inv_startH (CX := CX0) (qual := qual) (f := f) (cd := cdv) (E := E0) S hpin e0 rfl rv hx
  refine wpAny_mono (ht.run [] s1 _ H _ I h3) (fun fl s' hs => ?_) fun e s' hs => hs
  cases fl with
  | ret u =>
    obtain ⟨v, σ', H', J, r, q⟩ := hs
    exact ⟨v, H', J.os, J.bare, J.base, J.hok, r, q⟩
  | next =>
    obtain ⟨σ', H', J, q⟩ := hs
    exact ⟨V.non, H', J.os, J.bare, J.base, J.hok, rfl, q⟩
  | brk =>
    obtain ⟨_, _, _, q⟩ := hs
    exact q.elim
  | cont =>
    obtain ⟨_, _, _, q⟩ := hs
    exact q.elim
def tCallE (a : Addr) (ex : Er) (d : Option Addr) (R : Bool) (t : TA) : TE := fun σ H Q => t σ H fun vs H1 => vs = [.ref a] ∧ XFl ex d H1 ∧ RetV (.bl R) H1 Q
theorem pe_callE {X : Cx} {k : Nat} {f : Addr} {fd : FuncData} {x y : Str} {q pos : Pos} {e : Expr} {t : TA} {D : Addr} {ex : Er} {R : Bool} {p : Addr × Obj} (F : FnE X.prog X.w X.K X.mg X.base k f fd y D ex R) (hp : p ∈ X.pn) (hot : L2H.Hot1 X.A p) (hz : p.2.cls = .ref D) {d : Option Addr} (hdd : p.2.dict = d)
    (hr : L2H.RoomH k X.A) (hg : Gl X x) (hm : X.mg x = some (.ref f)) (hk : PySem.W.keepIn X.K (.ref f) = true) (hb : Binds X.K fd [y] []) (ha : PA X [e] t) (hdb : (x == ("__debug__" : Str)) = false := by decide)
    (he : starEach [e] X.env = (false, eval e X.env) :: starEach [] X.env := by rfl) (hpl : (backTo pos (starEach [] X.env)).any (·.1) = false := by rfl) : PE X (.Call (.Name x q) [e] [] pos) (tCallE p.1 ex d R t) := by
  subst hdd
  refine ⟨fun pins s σ H Q I h => ?_⟩
  refine wpAny_Call_Name_kw (ld_glob I hg hm ?_ hdb)
  refine PySem.W.callWith_K (h₀ := X.base) I.ok.mod.kin hk (thn (ha.run pos pins s σ H _ I h) fun us s1 ⟨vs, H1, I1, r, e1, hd, hq⟩ => ⟨I1.kIn, ?_⟩) he hpl
  subst e1
  obtain ⟨u, rfl, r1⟩ := r.one
  cases (show u = Value.ref p.1 from r1)
  have b := hb s1 [.ref p.1] I1.kIn (by rw [List.append_nil]; rfl)
  rw [List.append_nil] at b
  obtain ⟨p1, p2, p3, p4, p5⟩ := I1.pin p (List.mem_append_left _ hp)
  have hpin : L2H.PinOk X.stack H1 s1 p := ⟨p1, p2, fun hm => (List.mem_cons.mp (I1.stkSub p.1 hm)).elim p3 p4, p5⟩
  refine wpAny_call (codeAny_mono (F.run X.A X.stack s1 H1 ⟨[.ref p.1], []⟩ p Q hr hot hpin hz hd I1.env0 b hq) fun r s' hq => ?_)
  cases r with
  | error e => exact (show False from hq).elim
  | ok fl =>
    cases fl with
    | ret u => exact I1.after hq
    | next => exact False.elim hq
    | brk => exact False.elim hq
    | cont => exact False.elim hq
/-! all of it, class by class -/
structure EcP (K : PySem.W.Frag) (C : Addr) : Prop where
  hg : PySem.W.findIn K (.ref C) "__getattribute__" = some (some (.builtin "BaseException.__getattribute__"))
  hk : PySem.W.findIn K (.ref C) "__getattr__" = some none
  hs : PySem.W.subIn K (.ref C) (.type "BaseException") = some true
  hd : PySem.W.hasDictIn K C = true
  ha : PySem.W.findIn K (.ref C) "__class__" = some (some (.builtin "object.__class__"))
  hm : PySem.W.mroIn K C (.type "object") = some true
  ct : PySem.W.typeIn K (.ref C) = some (.type "type")
  sv : PySem.W.subIn K (.ref C) (.type "ValueError") = some true
theorem all_nil {α : Type} {P : α → Prop} : ∀ x ∈ ([] : List α), P x := fun _ h => (nomatch h)
theorem all_cons {α : Type} {P : α → Prop} {a : α} {l : List α} (h : P a) (t : ∀ x ∈ l, P x) : ∀ x ∈ a :: l, P x := fun x hx => by
  rcases List.mem_cons.mp hx with rfl | hx
  · exact h
  · exact t x hx
theorem ecf_mk {K : PySem.W.Frag} {d : Eds} {ks : List Ek} (h : ∀ k ∈ ks, EcP K (d.at k)) (hp : ∀ k ∈ ks, ∀ c ∈ ks, PySem.W.subIn K (.ref (d.at k)) (.ref (d.at c)) = some (decide (k = c)))
    (hr : ∀ k ∈ ks, PySem.W.subIn K (.ref (d.at k)) (.ref d.RailError) = some true) (rr : EcP K d.RailError)
    (hn : PySem.W.specialIn K (.builtin "object.__class__") "__get__" = some (some (.builtin "getset_descriptor.__get__"))) (ht : PySem.W.takesIn K (.builtin "object.__class__") = some true) (hv : PySem.W.kitMeta "ValueError" = true) : EcF K d ks := by
  have ec : ∀ k ∈ ks, ExcC K (d.at k) := fun k hk => by
    obtain ⟨h1, h2, h3, h4, h5, h6, h7, h8⟩ := h k hk
    exact ⟨h1, h2, h3, h4, h5, hn, ht, h6⟩
  have cl : ∀ {C : Addr}, EcP K C → (PySem.W.clsIn K C).isSome = true := fun q => by
    obtain ⟨cd, hc, _⟩ := PySem.W.any_some q.hd
    rw [hc]; rfl
  have ko : ∀ {a b : Addr} {r : Bool}, EcP K b → PySem.W.subIn K (.ref a) (.ref b) = some r → (a = b → r = true) → PySem.W.kitOne K (.ref a) (.ref b) = some r := fun {a b r} q e1 e2 => by
    unfold PySem.W.kitOne
    by_cases e : a = b
    · subst e
      rw [if_pos (by simp), e2 rfl]
    · rw [if_neg (by simp [e])]
      unfold PySem.W.kitCls
      dsimp only
      rw [if_pos (by rw [cl q, q.ct]; rfl)]
      exact e1
  refine ⟨ec, fun k hk c hc => ko (h c hc) (hp k hk c hc) (fun e => ?_), fun k hk => ?_, fun k hk => ko rr (hr k hk) fun _ => rfl, fun k hk => exm_mk rr.hs (cl rr) rr.ct (hr k hk), fun k hk c hc => exm_mk (h c hc).hs (cl (h c hc)) (h c hc).ct (hp k hk c hc)⟩
  · have e1 := hp k hk c hc
    have e2 := hp c hc c hc
    rw [e] at e1
    rw [e2] at e1
    rw [decide_eq_true (rfl : c = c)] at e1
    exact (Option.some.inj e1).symm
  · unfold PySem.W.kitOne
    rw [if_neg (by simp)]
    unfold PySem.W.kitCls
    dsimp only
    rw [if_pos hv]
    exact (h k hk).sv
theorem gv_ref {K : PySem.W.Frag} {h : Heap} {mg : Str → Option Value} {x : Str} {C : Addr} (X : K.In h) (G : h.Ns mainGlobals mg) (a : PySem.W.nsIn K mainGlobals x = some (some (.ref C))) : Gv mg x (.ref C) := ⟨_, PySem.W.mg_of X G a, rfl⟩
theorem err_at {K : PySem.W.Frag} {h : Heap} {mg : Str → Option Value} {x : Str} {C : Addr} (X : K.In h) (G : h.Ns mainGlobals mg) (a : PySem.W.nsIn K mainGlobals x = some (some (.ref C)))
    (e : PySem.W.excIn K C [.type "ValueError", .type "Exception", .type "BaseException", .type "object"] "ValueError.__new__" = true) (k : PySem.W.keepIn K (.ref C) = true) (b : PySem.W.subIn K (.ref C) (.type "BaseException") = some true) (t : PySem.W.typeIn K (.ref C) = some (.type "type")) : ErrC K mg x C :=
  ⟨PySem.W.mg_of X G a, e, k, b, t⟩
def Er.plain : Er → Bool
  | .NoWire _ => false
  | .NoRow _ => false
  | _ => true
theorem XFl.of {e : Er} {H : Hp} (h : e.plain = true) : XFl e none H := by
  cases e <;> first
    | rfl
    | cases h
theorem RetE.byP {d : Eds} {e : Er} {H : Hp} {E : XK} (hp : e.plain = true) (h : ∀ H', Ex H H' → E (.ref (d.at e.k)) none H') : RetE d e H E := by
  cases e <;> first
    | exact fun H' x => h H' x
    | cases hp
theorem Ek.all (k : Ek) : k ∈ [Ek.NoBits, .NoName, .NoKey, .NoFrame, .NoPost, .NoThing, .NoStrip, .NoRail, .NoWire, .NoRow] := by
  cases k <;> decide
/-! the suite, its exception known -/
theorem pss_exc {X : Cx} {ss : List Stmt} {es : Eds} {ks : List Ek} {cls : Value} {t : Er → TS} (h : ∀ e, e.k ∈ ks → cls = .ref (es.at e.k) → PSs X ss (t e)) :
    PSs X ss (fun D σ H => ∃ e : Er, e.k ∈ ks ∧ cls = .ref (es.at e.k) ∧ t e D σ H) :=
  ⟨fun pins s σ H D I ⟨e, h1, h2, q⟩ => (h e h1 h2).run pins s σ H D I q⟩
theorem hot_suite {X : Cx} {a : Addr} {oe : Obj} {pn : List (Addr × Obj)} {cls : Value} {d : Option Addr} (hz : L2N.Zn cls d oe) (hf : ∃ vs, oe.data = .fields vs) : L2H.Hot1 (X.suite a ((a, oe) :: pn)).A (a, oe) := by
  obtain ⟨vs, hv⟩ := hf
  exact ⟨rfl, vs, hv, hz.2.2 vs hv⟩
theorem roomE {X : Cx} {k : Nat} {v : Option Value} (hr : Room k X.A) : L2H.RoomH k (X.A.mark v) := ⟨hr.dp, hr.un⟩
def Er.num : Er → Int
  | .NoWire i => i
  | .NoRow i => i
  | _ => 0
end Bt
namespace Bt
open PySem L2 PyProof.Rows
def okE (ks : List Ek) (e : Er) : Bool := e.plain && decide (e.k ∈ ks)
theorem okE_iff {ks : List Ek} {e : Er} (h : okE ks e = true) : e.plain = true ∧ e.k ∈ ks := by
  unfold okE at h
  rw [Bool.and_eq_true, decide_eq_true_eq] at h
  exact h
theorem ifN {α : Type} {c : Bool} {a : Option α} {r : α} (h : ifB c a none = some r) : c = true ∧ a = some r := by
  cases c with
  | true => exact ⟨rfl, h⟩
  | false => cases h
theorem o_cE {a : Addr} {ex : Er} {d : Option Addr} {R : Bool} {t : TA} {σ : L2.St} {H : Hp} {Q : VK} (h : t σ H fun vs H1 => vs = [.ref a] ∧ XFl ex d H1 ∧ RetV (.bl R) H1 Q) : tCallE a ex d R t σ H Q := h
end Bt
namespace Bt
open PySem L2 PyProof.Rows
theorem pe_gr {X : Cx} {x : Str} {C : Addr} {pos : Pos} (hg : Gl X x) (h : X.mg x = some (.ref C)) (hd : (x == ("__debug__" : Str)) = false := by decide) : PE X (.Name x pos) (tC (.ref C)) := pe_gv hg ⟨_, h, rfl⟩ hd
end Bt
namespace Bt
open PySem L2 PyProof.Rows
theorem pe_callEs {X : Cx} {a : Addr} {oe : Obj} {pn : List (Addr × Obj)} {cls : Value} {k : Nat} {f : Addr} {fd : FuncData} {x y : Str} {q pos : Pos} {e : Expr} {t : TA} {D : Addr} {ex : Er} {R : Bool} {d : Option Addr} (F : FnE X.prog X.w X.K X.mg X.base k f fd y D ex R) (hz : L2N.Zn cls d oe) (hf : ∃ vs, oe.data = .fields vs) (hc : cls = .ref D)
    (hr : Room k X.A) (hg : Gl X x) (hm : X.mg x = some (.ref f)) (hk : PySem.W.keepIn X.K (.ref f) = true) (hb : Binds X.K fd [y] []) (ha : PA (X.suite a ((a, oe) :: pn)) [e] t) (hdb : (x == ("__debug__" : Str)) = false := by decide)
    (he : starEach [e] X.env = (false, eval e X.env) :: starEach [] X.env := by rfl) (hpl : (backTo pos (starEach [] X.env)).any (·.1) = false := by rfl) : PE (X.suite a ((a, oe) :: pn)) (.Call (.Name x q) [e] [] pos) (tCallE a ex d R t) :=
  pe_callE (X := X.suite a ((a, oe) :: pn)) (p := (a, oe)) F (List.Mem.head _) (hot_suite hz hf) (hz.1.trans hc) hz.2.1 (roomE hr) hg hm hk hb ha hdb he hpl
end Bt
namespace Bt
open PySem L2
theorem o_dn {n b k : L2.St → Hp → Prop} {w : VK} {σ : L2.St} {H : Hp} (h : n σ H) : (Ends.mk n w b k).nx σ H := h
end Bt
namespace Bt
open PySem L2
theorem RetE.up {d : Eds} {e : Er} {H H' : Hp} {E : XK} (k : RetE d e H E) (x : Ex H H') : RetE d e H' E := by
  cases e <;> first
    | exact fun H2 h => k H2 (x.trans h)
    | exact fun H2 a ha h => k H2 a (x.back ha) (x.trans h)
end Bt
namespace Bt
open PySem L2
/-! a refusal with its own dict, caught: the dict is laid in the frame -/
theorem RetE.byX {d : Eds} {e : Er} {H : Hp} {E : XK} (h : ∀ H' dd, Ex H H' → XFl e dd H' → (∀ x, dd = some x → H x = none) → E (.ref (d.at e.k)) dd H') : RetE d e H E := by
  cases e <;> first
    | exact fun H' x => h H' none x rfl (fun _ z => nomatch z)
    | exact fun H' a ha x q => h H' (some a) x ⟨a, rfl, q⟩ (fun y z => by cases z; exact ha)
theorem Own.growX {R H H' : Hp} {L : List Cell} {e : Er} {dd : Option Addr} (O : Own R H L) (x : Ex H H') (hX : XFl e dd H') (hn : ∀ y, dd = some y → H y = none) : ∃ R', Own R' H' L ∧ Ex R R' ∧ XFl e dd R' := by
  obtain ⟨R', O', e1, e2⟩ := O.grow x
  refine ⟨R', O', e1, ?_⟩
  cases e <;> first
    | exact hX
    | (obtain ⟨a, h1, h2⟩ := hX
       exact ⟨a, h1, e2 R (Ex.refl R) _ _ (ovr_mk (.inr (hn a h1)) h2)⟩)
end Bt

set_option Elab.async false
set_option linter.all false
set_option maxRecDepth 100000
set_option maxHeartbeats 4000000
/-! Refusals that are made of a whole number: their own __init__, raised where nothing is handled. -/
namespace Bt
open PySem L2 PyProof.Rows
/-- R.__init__(self, ..), R an own class that takes it from ValueError -/
theorem pe_rinit {X : Cx} {x : Str} {R : Addr} {e : Expr} {es : List Expr} {ta : TA} {p1 p2 pos : Pos} {pl : Sem Bool} (hg : Gl X x) (hm : X.mg x = some (.ref R))
    (ga : PySem.W.specialIn X.K (.ref R) "__getattribute__" = some (some (.builtin "type.__getattribute__"))) (rd : PySem.W.readsIn X.K R (.type "type") = true)
    (vV : PySem.W.findCls X.K (.ref R) (.type "type") "__init__" = some (.val (.builtin "ValueError.__init__"))) (ha : PA X (e :: es) ta)
    (hc : eval (.Call (.Attribute (.Name x p1) "__init__" p2) (e :: es) [] pos) X.env = (do
      let ov ← eval (.Name x p1) X.env
      standAt p2.atName
      let (f, first) ← holding [ov] (getMethod ov "__init__" pl)
      callWith pos f first (backTo pos (starEach (e :: es) X.env)) (backToKw pos (keywordEach [] X.env))) := by rfl)
    (hdb : (x == ("__debug__" : Str)) = false := by decide)
    (he : starEach (e :: es) X.env = (false, eval e X.env) :: starEach es X.env := by rfl) (hpl : (backTo pos (starEach es X.env)).any (·.1) = false := by rfl) :
    PE X (.Call (.Attribute (.Name x p1) "__init__" p2) (e :: es) [] pos) (tVeI X.K ta) := by
  refine ⟨fun pins s σ H Q I h => ?_⟩
  refine PySem.W.methodCall_KW (ld_glob I hg hm ?_ hdb) hc
  refine PySem.W.method_cls I.kIn ga (PySem.W.cls_value I.kIn rd vV (by decide +kernel) ?_)
  refine PyProof.Rows.callWith_method1 (thn (ha.run pos pins _ σ H _ (I.tok _) h) fun us s1 ⟨vs, H1, I1, r1, a, C, ws, ev, hl, T, ea, q⟩ => ?_) he hpl
  subst ev
  cases r1 with
  | @cons _ u0 _ ur ra rw' =>
    obtain rfl : u0 = Value.ref a := ra
    have hlen : ur.length ≤ sizeLine := by
      rw [← Paired.length rw', sizeLine_eq]
      omega
    exact oinit_ok T I1 ea hlen fun s' J => ⟨.non, H1, J, rfl, q⟩
/-- C(e, ..) where nothing is handled, its context None -/
theorem pmk_initN {X : Cx} {CX : CXT} {x : Str} {e : Expr} {es : List Expr} {ta : TA} {p pos : Pos} {C fI : Addr} {k : Nat} {fd : FuncData} {ps : List Str} {sp : Sp} (T : OexC X.K C) (iC : PySem.W.findIn X.K (.ref C) "__init__" = some (some (.ref fI))) (tI : PySem.W.typeIn X.K (.ref fI) = some (.type "function"))
    (F1 : FnOk X.prog X.w X.K X.mg X.base CX k fI fd ps sp) (hr : Room (k + 1) X.A) (hb : Binds X.K fd ps []) (hx : Passes CX X (fun _ _ _ => False)) (hg : Gl X x) (hm : X.mg x = some (.ref C)) (ha : PA X (e :: es) ta)
    (hdb : (x == ("__debug__" : Str)) = false := by decide) (he : starEach (e :: es) X.env = (false, eval e X.env) :: starEach es X.env := by rfl) (hpl : (backTo pos (starEach es X.env)).any (·.1) = false := by rfl) :
    L2N.PMk X (.Call (.Name x p) (e :: es) [] pos) (tMkO C sp [] ta) := by
  intro pins s σ H Q I h
  obtain ⟨nm, q, N, bs, bm, sn, sub, ab, col, dd, k0, k1, k2, k3, k5, hC, hbm⟩ := T.cls
  refine wpAny_Call_Name_kw (ld_glob I hg hm ?_ hdb)
  refine PySem.W.callWith_K (h₀ := X.base) I.ok.mod.kin T.kC (thn (ha.run pos pins s σ H _ I h) fun us s1 ⟨vs, H1, I1, r1, hz, q1⟩ => ⟨I1.kIn, ?_⟩) he hpl
  obtain ⟨hp, g, dr, tk, os⟩ := s1
  have hsz : hp.objs.size ≤ hp.objs.size + 1 := Nat.le_succ _
  have hq := q1 (hp.objs.size + 1) (I1.hok.fresh hsz)
  rw [List.append_nil] at hq
  have kk : ∀ b o, hp.get? b = some o → ((hp.push (PySem.W.kdv_tup us)).push (PySem.HandSPX.excO C hp.objs.size)).get? b = some o := fun b o z => Heap.get?_push_of_some _ (Heap.get?_push_of_some _ z)
  have I2 : Inv X pins σ (upd H1 (hp.objs.size + 1) (exo (hp.objs.size + 1) C none)) ⟨(hp.push (PySem.W.kdv_tup us)).push (PySem.HandSPX.excO C hp.objs.size), g, dr, tk, os⟩ :=
    I1.laid (t' := tk) (a := hp.objs.size + 1) (o := exo (hp.objs.size + 1) C none) (h' := (hp.push (PySem.W.kdv_tup us)).push (PySem.HandSPX.excO C hp.objs.size)) kk hsz (exo_ok (by heap_get))
  have r2 : Vals (V.ref (hp.objs.size + 1) :: vs) (Value.ref (hp.objs.size + 1) :: us) := .cons rfl r1
  have hl : (Value.ref (hp.objs.size + 1) :: us ++ []).length = ps.length := by
    have z := r2.length
    rw [F1.len _ _ _ _ hq] at z
    rw [List.append_nil]
    exact z.symm
  have hus : us.length ≤ sizeLine := by
    rw [← Paired.length r1, sizeLine_eq]
    omega
  have b2 := hb _ (Value.ref (hp.objs.size + 1) :: us) I2.kIn hl
  rw [List.append_nil] at b2
  refine wpAny_call (PySem.HandSPX.call_own PySem.F.excBase_ValueError (fun Y => PySem.HandSPX.refsVE_contains Y bm hbm) (I1.kIn _ _ hC) (PySem.W.looks_findIn I1.kIn iC) (fun self => PySem.W.bind_fn I1.kIn self tI) hus
    (codeAny_mono (F1.run _ X.stack _ _ ⟨Value.ref (hp.objs.size + 1) :: us, []⟩ (Value.ref (hp.objs.size + 1) :: us) _ _ (fun _ _ _ => False) (hr.make C us []) (I2.env0.make C us []) b2 r2 hq) fun r s' hq' => ?_))
  cases r with
  | error er => exact hx pins σ _ _ er s' I2 hq'
  | ok fl =>
    cases fl with
    | ret u =>
      obtain ⟨v, H2, os2, bare2, un2, hok2, rv, ev, d, fs, ea, ed, hd1, q2⟩ := hq'
      subst ev
      obtain ⟨h2, g2, d2, t2, os'⟩ := s'
      obtain ⟨t0, G, J, kG, ge, hoe, na⟩ := mk_end0 (d2 := d2) (t2 := t2) I1 hsz kk un2 hok2 os2 bare2 ea ed hd1
      exact ⟨rv, _, _, _, ⟨G, g2, d2, t2, os'⟩, _, .ref C, some d, rfl, J, kG, ge, hoe, ⟨rfl, rfl, fun vs z => by cases z; rfl⟩, rfl, rfl, na, rfl, bare2, raises_own T.exC T.tyC, q2⟩
    | next => exact False.elim hq'
    | brk => exact False.elim hq'
    | cont => exact False.elim hq'
/-- what such an __init__ promises: the field laid -/
def spI (C : Addr) (fld : Str) : Sp := fun vs H Q _ => ∃ (a : Addr) (i : Int), vs = [.ref a, .int i] ∧ H a = some (exo a C none) ∧ ∀ dx, H dx = none → dx ≠ a → Q .non (upd (upd H dx (exd dx [(fld, .int i)])) a (exo a C (some dx)))
def rMkI (C : Addr) (fld : Str) (vs : List V) (H1 : Hp) (Q : XK) : Prop := vs.length ≤ 1000 ∧ ∀ a, H1 a = none → spI C fld (.ref a :: (vs ++ [])) (upd H1 a (exo a C none))
  (fun v H2 => v = .non ∧ ∃ (d : Addr) (fs : List (Str × V)), H2 a = some (exo a C (some d)) ∧ H2 d = some (exd d fs) ∧ H1 d = none ∧ Q (.ref C) (some d) (upd (del H2 a) d (.xd fs))) (fun _ _ _ => False)
theorem o_mkI {C : Addr} {fld : Str} {t : TA} {σ : L2.St} {H : Hp} {Q : XK} (h : t σ H fun vs H1 => rMkI C fld vs H1 Q) : tMkO C (spI C fld) [] t σ H Q := h
theorem k_mkI {C : Addr} {fld : Str} {H1 : Hp} {Q : XK} {i : Int} (k : ∀ H' dx, H1 dx = none → Ex H1 H' → H' dx = some (.xd [(fld, .int i)]) → Q (.ref C) (some dx) H') : rMkI C fld [.int i] H1 Q := by
  refine ⟨by show 1 ≤ 1000; decide, fun a ha => ⟨a, i, rfl, upd_same, fun dx h1 h2 => ?_⟩⟩
  rw [upd_ne h2] at h1
  refine ⟨rfl, dx, _, upd_same, ?_, h1, k _ dx h1 (fun b o hb => ?_) upd_same⟩
  · rw [upd_ne h2, upd_same]
  · have hba : b ≠ a := fun z => by rw [z, ha] at hb; cases hb
    have hbd : b ≠ dx := fun z => by rw [z, h1] at hb; cases hb
    rw [upd_ne hbd, del_ne hba, upd_ne hba, upd_ne hbd, upd_ne hba]
    exact hb
/-- the facts of such a class -/
structure InF (K : PySem.W.Frag) (mg : Str → Option Value) (C R f : Addr) (fld : Str) : Prop where
  o : OexC K C
  i : PySem.W.findIn K (.ref C) "__init__" = some (some (.ref f))
  t : PySem.W.typeIn K (.ref f) = some (.type "function")
  n : PySem.W.findIn K (.ref C) fld = some none
  ga : PySem.W.specialIn K (.ref R) "__getattribute__" = some (some (.builtin "type.__getattribute__"))
  rd : PySem.W.readsIn K R (.type "type") = true
  v : PySem.W.findCls K (.ref R) (.type "type") "__init__" = some (.val (.builtin "ValueError.__init__"))
  mr : mg "RailError" = some (.ref R)
end Bt
namespace Bt
open PySem
/-- the statements of a class -/
def clsB (s : Stmt) : List Stmt := match s with
  | .ClassDef _ _ _ b _ _ _ _ _ _ _ => b
  | _ => []
end Bt

set_option linter.all false
set_option maxRecDepth 100000
set_option maxHeartbeats 1000000
/-! Plain facts about the mirror's words. -/
namespace Bt
open PySem L2
section
variable {α β S R : Type}
theorem bnd_some {a : α} {f : α → Option β} : bnd (some a) f = f a := rfl
theorem bnd_of {a : Option α} {x : α} {f : α → Option β} (h : a = some x) : bnd a f = f x := by rw [h]; rfl
theorem ltv_eq {a : α} {f : α → Option β} : ltv a f = f a := rfl
theorem ifB_t {a b : α} : ifB true a b = a := rfl
theorem ifB_f {a b : α} : ifB false a b = b := rfl
theorem ifB_dec {c : Prop} [Decidable c] {a b : α} : ifB (decide c) a b = if c then a else b := by
  by_cases h : c
  · rw [if_pos h, decide_eq_true h]; rfl
  · rw [if_neg h, decide_eq_false h]; rfl
theorem ifB_ite {c : Bool} {a b : α} : ifB c a b = if c = true then a else b := by cases c <;> rfl
theorem fin_nx {s : S} {rest : S → Option R} : fin (some (.nx s)) rest = rest s := rfl
theorem fin_rt {r : R} {rest : S → Option R} : fin (some (.rt r)) rest = some r := rfl
theorem loopM_ok {f : α → S → Option S} (I : List α → S → Prop) (hs : ∀ x r s, I (x :: r) s → ∃ s', f x s = some s' ∧ I r s') : ∀ (xs : List α) (s : S), I xs s → ∃ out, loopM f xs s = some out ∧ I [] out
  | [], s, h => ⟨s, rfl, h⟩
  | x :: r, s, h => by
    obtain ⟨s', h1, h2⟩ := hs x r s h
    obtain ⟨out, h3, h4⟩ := loopM_ok I hs r s' h2
    exact ⟨out, by show bnd (f x s) (loopM f r) = some out; rw [h1]; exact h3, h4⟩
theorem loopF_ok {f : α → S → Option (Fl S R)} (I : List α → S → Prop) (hs : ∀ x r s, I (x :: r) s → ∃ s', f x s = some (.nx s') ∧ I r s') : ∀ (xs : List α) (s : S), I xs s → ∃ out, loopF f xs s = some (.nx out) ∧ I [] out
  | [], s, h => ⟨s, rfl, h⟩
  | x :: r, s, h => by
    obtain ⟨s', h1, h2⟩ := hs x r s h
    obtain ⟨out, h3, h4⟩ := loopF_ok I hs r s' h2
    exact ⟨out, by show bnd (f x s) (contF (loopF f r)) = some (.nx out); rw [h1]; exact h3, h4⟩
/-- a search that finds nothing -/
theorem loopF_unit {f : α → Unit → Option (Fl Unit R)} {xs : List α} (h : ∀ x ∈ xs, f x () = some (.nx ())) : loopF f xs () = some (.nx ()) := by
  induction xs with
  | nil => rfl
  | cons x r ih =>
    show bnd (f x ()) (contF (loopF f r)) = some (.nx ())
    rw [h x (List.Mem.head _)]
    exact ih fun y hy => h y (List.Mem.tail _ hy)
theorem compM_ok {f : α → Option β} {g : α → β} : ∀ (xs : List α) (acc : List β), (∀ x ∈ xs, f x = some (g x)) → acc.length + xs.length ≤ 16777216 → compM f xs acc = some (acc ++ xs.map g)
  | [], acc, _, _ => by simp [compM]
  | x :: r, acc, h, hz => by
    have hl : acc.length < 16777216 := by simp only [List.length_cons] at hz; omega
    have ih := compM_ok r (acc ++ [g x]) (fun y hy => h y (List.Mem.tail _ hy)) (by simp only [List.length_append, List.length_cons, List.length_nil] at hz ⊢; omega)
    show bnd (f x) (fun y => if acc.length < 16777216 then compM f r (acc ++ [y]) else none) = _
    rw [h x (List.Mem.head _), bnd_some, if_pos hl, ih]
    simp
/-- the elements' property alone -/
theorem compM_all {f : α → Option β} {P : β → Prop} : ∀ (xs : List α) (acc : List β), (∀ x ∈ xs, ∃ y, f x = some y ∧ P y) → acc.length + xs.length ≤ 16777216 → (∀ y ∈ acc, P y) → ∃ out, compM f xs acc = some out ∧ out.length = acc.length + xs.length ∧ ∀ y ∈ out, P y
  | [], acc, _, _, ha => ⟨acc, rfl, by simp, ha⟩
  | x :: r, acc, h, hz, ha => by
    obtain ⟨y, h1, h2⟩ := h x (List.Mem.head _)
    have hl : acc.length < 16777216 := by simp only [List.length_cons] at hz; omega
    obtain ⟨out, h3, h4, h5⟩ := compM_all r (acc ++ [y]) (fun y hy => h y (List.Mem.tail _ hy)) (by simp only [List.length_append, List.length_cons, List.length_nil] at hz ⊢; omega) (fun z hz => by
      rcases List.mem_append.mp hz with q | q
      · exact ha z q
      · rw [List.mem_singleton.mp q]; exact h2)
    refine ⟨out, ?_, by rw [h4]; simp only [List.length_append, List.length_cons, List.length_nil]; omega, h5⟩
    show bnd (f x) (fun y => if acc.length < 16777216 then compM f r (acc ++ [y]) else none) = _
    rw [h1, bnd_some, if_pos hl, h3]
theorem appG_ok {xs : List α} {y : α} (h : xs.length < 16777216) : appG xs y = some (xs ++ [y]) := grd_of h
theorem catG_ok {xs ys : List α} (h : xs.length + ys.length ≤ 16777216) : catG xs ys = some (xs ++ ys) := grd_of h
theorem ixN_nat' {n : Nat} {i : Int} (h0 : 0 ≤ i) (h1 : i < n) : ixN n i = some i.toNat := by
  unfold ixN
  rw [if_pos h0, if_pos h1]
theorem atI_ok {xs : List α} {i : Int} (h0 : 0 ≤ i) (h1 : i < xs.length) : atI xs i = xs[i.toNat]? := by
  unfold atI
  rw [ixN_nat' h0 h1]
  rfl
theorem atI_mem {xs : List α} {i : Int} (h0 : 0 ≤ i) (h1 : i < xs.length) : ∃ x, atI xs i = some x ∧ x ∈ xs := by
  have hn : i.toNat < xs.length := by omega
  exact ⟨xs[i.toNat], by rw [atI_ok h0 h1]; exact List.getElem?_eq_getElem hn, List.getElem_mem hn⟩
theorem setG_ok {xs : List α} {i : Int} {y : α} (h0 : 0 ≤ i) (h1 : i < xs.length) : setG xs i y = some (xs.set i.toNat y) := by
  unfold setG
  rw [ixN_nat' h0 h1]
theorem repG_ok {xs : List α} {k : Int} (h0 : 0 ≤ k) (h1 : k ≤ 1000000) (h2 : xs.length * k.toNat ≤ 16777216) : repG xs k = some (List.replicate k.toNat xs).flatten := grd_of ⟨by omega, by omega, h2⟩
end
theorem modG_ok {i j : Int} (h : 0 < j) : modG i j = some (i % j) := grd_of h
theorem log2_small {n k : Nat} (h : n < 2 ^ k) : n.log2 ≤ k := by
  by_cases h0 : n = 0
  · subst h0; rw [show Nat.log2 0 = 0 from by decide]; exact Nat.zero_le _
  · exact Nat.le_of_lt ((Nat.log2_lt h0).mpr h)
theorem mulG_ok {i j : Int} {a b : Nat} (h1 : i.natAbs < 2 ^ a) (h2 : j.natAbs < 2 ^ b) (h : a + b < 1000000) : mulG i j = some (i * j) := by
  refine grd_of ?_
  have := log2_small h1
  have := log2_small h2
  omega
theorem fdivG_ok {i j : Int} {b : Nat} (h : 0 < j) (h2 : j.natAbs < 2 ^ b) (hb : b < 9000) : fdivG i j = some (i / j) := by
  refine grd_of ⟨h, ?_⟩
  have := log2_small h2
  omega
theorem shrG_ok {i j : Int} (h : 0 ≤ j) : shrG i j = some (i / 2 ^ j.toNat) := grd_of h
theorem rng1_ok {j : Int} (h : j ≤ 1000000) (h0 : -1000000 ≤ j) : rng1 j = some (rangeI 0 j) := grd_of ⟨by omega, by omega⟩
theorem rng2_ok {i j : Int} (h : j ≤ 1000000) (h0 : -1000000 ≤ j) (h1 : -1000000 ≤ i) (h2 : i ≤ 1000000) : rng2 i j = some (rangeI i j) := grd_of ⟨by omega, by omega, by omega, by omega⟩
theorem mem_rangeI {i j x : Int} (h : x ∈ rangeI i j) : i ≤ x ∧ x < j := by
  unfold rangeI at h
  obtain ⟨n, hn, rfl⟩ := List.mem_map.mp h
  have := List.mem_range.mp hn
  omega
theorem rangeI_length (i j : Int) : (rangeI i j).length = (j - i).toNat := by simp [rangeI]
theorem rangeI_cons {i j : Int} (h : i < j) : rangeI i j = i :: rangeI (i + 1) j := by
  unfold rangeI
  have e : (j - i).toNat = (j - (i + 1)).toNat + 1 := by omega
  rw [e, List.range_succ_eq_map]
  simp only [List.map_cons, List.map_map]
  congr 1
  · simp
  · refine List.map_congr_left fun n _ => ?_
    simp only [Function.comp]
    omega
theorem rangeI_nil {i j : Int} (h : j ≤ i) : rangeI i j = [] := by
  unfold rangeI
  rw [show (j - i).toNat = 0 from by omega]
  rfl
/-- a loop over a range: the invariant by the number ahead -/
theorem loopM_rng {S : Type} {f : Int → S → Option S} (I : Int → S → Prop) {hi : Int} (hs : ∀ i s, i < hi → I i s → ∃ s', f i s = some s' ∧ I (i + 1) s') : ∀ (n : Nat) (lo : Int) (s : S), (hi - lo).toNat = n → lo ≤ hi → I lo s → ∃ out, loopM f (rangeI lo hi) s = some out ∧ I hi out
  | 0, lo, s, e, h, h0 => by
    have : lo = hi := by omega
    subst this
    rw [rangeI_nil (Int.le_refl _)]
    exact ⟨s, rfl, h0⟩
  | n + 1, lo, s, e, h, h0 => by
    rw [rangeI_cons (by omega)]
    obtain ⟨s', h1, h2⟩ := hs lo s (by omega) h0
    obtain ⟨out, h3, h4⟩ := loopM_rng I hs n (lo + 1) s' (by omega) (by omega) h2
    exact ⟨out, by show bnd (f lo s) _ = _; rw [h1]; exact h3, h4⟩
theorem loopF_rng {S R : Type} {f : Int → S → Option (Fl S R)} (I : Int → S → Prop) {hi : Int} (hs : ∀ i s, i < hi → I i s → ∃ s', f i s = some (.nx s') ∧ I (i + 1) s') : ∀ (n : Nat) (lo : Int) (s : S), (hi - lo).toNat = n → lo ≤ hi → I lo s → ∃ out, loopF f (rangeI lo hi) s = some (.nx out) ∧ I hi out
  | 0, lo, s, e, h, h0 => by
    have : lo = hi := by omega
    subst this
    rw [rangeI_nil (Int.le_refl _)]
    exact ⟨s, rfl, h0⟩
  | n + 1, lo, s, e, h, h0 => by
    rw [rangeI_cons (by omega)]
    obtain ⟨s', h1, h2⟩ := hs lo s (by omega) h0
    obtain ⟨out, h3, h4⟩ := loopF_rng I hs n (lo + 1) s' (by omega) (by omega) h2
    exact ⟨out, by show bnd (f lo s) _ = _; rw [h1]; exact h3, h4⟩
end Bt
namespace Bt
open PySem L2
theorem bits_le {i : Int} {n : Nat} (h : i.natAbs < 2 ^ n) : Builtin.Int.intBits i ≤ n := by
  unfold Builtin.Int.intBits
  split
  · exact Nat.zero_le _
  · rename_i h0
    have h1 : i.natAbs ≠ 0 := by simpa using h0
    have := (Nat.log2_lt h1).mpr h
    omega
theorem shlG_ok {i j : Int} {n : Nat} (h : i.natAbs < 2 ^ n) (h0 : 0 ≤ j) (h1 : (n : Int) + j ≤ 100000000) : shlG i j = some (i * 2 ^ j.toNat) := by
  refine grd_of ⟨h0, ?_⟩
  have := bits_le h
  omega
end Bt
namespace Bt
open PySem L2
theorem whileM_go {S : Type} {c : S → Option Bool} {f : S → Option S} {n : Nat} {s s' : S} (h1 : c s = some true) (h2 : f s = some s') : whileM c f (n + 1) s = whileM c f n s' := by
  show bnd (c s) (fun b => ifB b (bnd (f s) (whileM c f n)) (some s)) = _
  rw [h1, bnd_some, ifB_t, h2, bnd_some]
theorem whileM_stop {S : Type} {c : S → Option Bool} {f : S → Option S} {n : Nat} {s : S} (h1 : c s = some false) : whileM c f (n + 1) s = some s := by
  show bnd (c s) (fun b => ifB b (bnd (f s) (whileM c f n)) (some s)) = _
  rw [h1, bnd_some, ifB_f]
theorem loopM_go {α S : Type} {f : α → S → Option S} {x : α} {r : List α} {s s' : S} (h : f x s = some s') : loopM f (x :: r) s = loopM f r s' := by
  show bnd (f x s) (loopM f r) = _
  rw [h, bnd_some]
theorem loopF_go {α S R : Type} {f : α → S → Option (Fl S R)} {x : α} {r : List α} {s s' : S} (h : f x s = some (.nx s')) : loopF f (x :: r) s = loopF f r s' := by
  show bnd (f x s) (contF (loopF f r)) = _
  rw [h, bnd_some]
  rfl
end Bt
namespace Bt
open PySem L2
theorem compT_ok {α β : Type} {c : α → Option Bool} {f : α → Option β} {p : α → Bool} {g : α → β} : ∀ (xs : List α) (acc : List β), (∀ x ∈ xs, c x = some (p x)) → (∀ x ∈ xs, f x = some (g x)) → acc.length + xs.length ≤ 16777216 → compT c f xs acc = some (acc ++ (xs.filter p).map g)
  | [], acc, _, _, _ => by simp [compT]
  | x :: r, acc, h, k, hz => by
    simp only [List.length_cons] at hz
    show bnd (c x) (fun b => ifB b (bnd (f x) fun y => if acc.length < 16777216 then compT c f r (acc ++ [y]) else none) (compT c f r acc)) = _
    rw [h x (List.Mem.head _), bnd_some]
    cases e : p x with
    | true =>
      rw [ifB_t, k x (List.Mem.head _), bnd_some, if_pos (by omega), compT_ok r (acc ++ [g x]) (fun y hy => h y (List.Mem.tail _ hy)) (fun y hy => k y (List.Mem.tail _ hy)) (by simp; omega)]
      simp [e]
    | false =>
      rw [ifB_f, compT_ok r acc (fun y hy => h y (List.Mem.tail _ hy)) (fun y hy => k y (List.Mem.tail _ hy)) (by omega)]
      simp [e]
end Bt
namespace Bt
theorem bndO_ok {α β : Type} {y : α} {f : α → Option β} : bndO (some (.ok y)) f = f y := rfl
theorem bndR_ok {α β : Type} {y : α} {f : α → Option (Rs β)} : bndR (some (.ok y)) f = f y := rfl
theorem bndR_er {α β : Type} {e : Er} {f : α → Option (Rs β)} : bndR (some (.er e)) f = some (.er e) := rfl
theorem tryR_ok {α β : Type} {y : α} {f : α → β} {g : Er → β} : tryR (.ok y) f g = f y := rfl
theorem tryR_er {α β : Type} {e : Er} {f : α → β} {g : Er → β} : tryR (.er e) f g = g e := rfl
end Bt

set_option Elab.async false
set_option linter.all false
set_option maxRecDepth 100000
set_option maxHeartbeats 4000000
/-! Objects: what a def is handed to change, and gives back. -/
namespace Bt
open PySem L2
section
variable {R R' H H' H0 R0 Hb F : Hp} {L L' A B C : List Cell} {Bs Bs' Cs : List (List Cell)} {a p q : Addr} {o o' : HO} {Q : VK} {v : V} {D : Hp → V → List Cell → Prop} {α : Type}
/-- some of the blocks, by their places -/
theorem flat_mem {i : Nat} {b : List Cell} (h : Bs[i]? = some b) {c : Cell} (hc : c ∈ b) : c ∈ Bs.flatten := List.mem_flatten.mpr ⟨b, List.mem_of_getElem? h, hc⟩
theorem flat_nd : ∀ {Bs : List (List Cell)}, (Bs.flatten.map (·.1)).Nodup → ∀ {i j : Nat} {b b' : List Cell}, Bs[i]? = some b → Bs[j]? = some b' → i ≠ j → ∀ c ∈ b, ∀ d ∈ b', c.1 ≠ d.1
  | [], _, i, j, b, b', h, _, _ => by simp at h
  | x :: r, nd, i, j, b, b', h, h', n => by
    rw [List.flatten_cons, List.map_append] at nd
    obtain ⟨_, n2, n3⟩ := List.nodup_append.mp nd
    intro c hc d hd e
    cases i with
    | zero =>
      cases j with
      | zero => exact n rfl
      | succ j =>
        cases Option.some.inj h
        exact n3 _ (List.mem_map_of_mem (f := (·.1)) hc) _ (List.mem_map_of_mem (f := (·.1)) (flat_mem (by simpa using h') hd)) e
    | succ i =>
      cases j with
      | zero =>
        cases Option.some.inj h'
        exact n3 _ (List.mem_map_of_mem (f := (·.1)) hd) _ (List.mem_map_of_mem (f := (·.1)) (flat_mem (by simpa using h) hc)) e.symm
      | succ j => exact flat_nd n2 (by simpa using h) (by simpa using h') (fun z => n (by rw [z])) c hc d hd e
theorem flat_nd1 : ∀ {Bs : List (List Cell)}, (Bs.flatten.map (·.1)).Nodup → ∀ {i : Nat} {b : List Cell}, Bs[i]? = some b → (b.map (·.1)).Nodup
  | [], _, i, b, h => by simp at h
  | x :: r, nd, i, b, h => by
    rw [List.flatten_cons, List.map_append] at nd
    obtain ⟨n1, n2, _⟩ := List.nodup_append.mp nd
    cases i with
    | zero => cases Option.some.inj h; exact n1
    | succ i => exact flat_nd1 n2 (by simpa using h)
theorem Own.selB (O : Own R H Bs.flatten) (is : List Nat) (hd : is.Nodup) (e : is.map (fun i => Bs[i]?) = Bs'.map some) : Own R H Bs'.flatten := by
  have hm : ∀ c ∈ Bs'.flatten, c ∈ Bs.flatten := fun c hc => by
    obtain ⟨b, hb, hc⟩ := List.mem_flatten.mp hc
    have h1 : some b ∈ is.map (fun i => Bs[i]?) := by rw [e]; exact List.mem_map_of_mem hb
    obtain ⟨i, _, h2⟩ := List.mem_map.mp h1
    exact flat_mem h2 hc
  refine ⟨O.ex, fun c h => O.at_ c (hm c h), fun c h => O.fr c (hm c h), ?_⟩
  clear hm
  induction is generalizing Bs' with
  | nil =>
    cases Bs' with
    | nil => exact List.Pairwise.nil
    | cons c r => simp at e
  | cons i is ih =>
    cases Bs' with
    | nil => simp at e
    | cons b r =>
      simp only [List.map_cons, List.cons.injEq] at e
      obtain ⟨e1, e2⟩ := e
      obtain ⟨n1, n2⟩ := List.nodup_cons.mp hd
      rw [List.flatten_cons, List.map_append]
      refine List.nodup_append.mpr ⟨flat_nd1 O.nd e1, ih n2 e2, fun x hx y hy exy => ?_⟩
      obtain ⟨c, hc, rfl⟩ := List.mem_map.mp hx
      obtain ⟨d, hd', rfl⟩ := List.mem_map.mp hy
      obtain ⟨b', hb', hd'⟩ := List.mem_flatten.mp hd'
      have h1 : some b' ∈ is.map (fun i => Bs[i]?) := by rw [e2]; exact List.mem_map_of_mem hb'
      obtain ⟨j, hj, h2⟩ := List.mem_map.mp h1
      exact flat_nd O.nd e1 h2 (fun z => n1 (by rw [z]; exact hj)) c hc d hd' exy
theorem Own.split (O : Own R H (Bs ++ Cs).flatten) : Own R H (Bs.flatten ++ Cs.flatten) := by
  rw [List.flatten_append] at O
  exact O
/-- blocks to the front, apart -/
theorem Own.cutB (O : Own R H Bs.flatten) (is : List Nat) (hd : is.Nodup) (e : is.map (fun i => Bs[i]?) = (Bs' ++ Cs).map some) : Own R H (Bs'.flatten ++ Cs.flatten) := (O.selB is hd e).split
theorem Own.asc (O : Own R H ((A ++ B) ++ C)) : Own R H (A ++ (B ++ C)) := by
  rw [List.append_assoc] at O
  exact O
/-- H without the cells -/
def hsub (H : Hp) (L : List Cell) : Hp := fun a => if a ∈ L.map (·.1) then none else H a
theorem hsub_nil : hsub H [] = H := rfl
theorem hsub_in {c : Cell} (h : c ∈ L) : hsub H L c.1 = none := by
  unfold hsub
  exact if_pos (List.mem_map_of_mem (f := (·.1)) h)
theorem hsub_ex : Ex (hsub H L) H := fun a u e => by
  unfold hsub at e
  split at e
  · cases e
  · exact e
theorem Own.subR (O : Own R H L) : Ex R (hsub H L) := fun a u e => by
  unfold hsub
  rw [if_neg (fun m => by
    obtain ⟨c, hc, e1⟩ := List.mem_map.mp m
    have := O.fr c hc
    rw [e1, e] at this
    cases this)]
  exact O.ex _ _ e
theorem Own.startX (O : Own R H L) : Own (hsub H L) H L := ⟨hsub_ex, O.at_, fun c h => hsub_in h, O.nd⟩
theorem Own.shrink (O : Own R H L) (e : Ex R' R) : Own R' H L := ⟨e.trans O.ex, O.at_, fun c h => e.back (O.fr c h), O.nd⟩
theorem Own.left (O : Own R H (A ++ B)) : Own R H A := O.sub (List.sublist_append_left A B)
theorem Own.right (O : Own R H (A ++ B)) : Own R H B := O.sub (List.sublist_append_right A B)
/-- what a def that changes things hands back: in what R0 knows or what is new; the cells L are its own to give back -/
def RetX (R0 Hb : Hp) (D : Hp → V → List Cell → Prop) (Q : VK) : Prop := ∀ v H' R' L', Ex Hb R' → Own R' H' L' → D (ovr R0 Hb R') v L' → Q v H'
abbrev DT := Hp → V → List Cell → Prop
def MonoD (D : DT) : Prop := ∀ F F' v L, Ex F F' → D F v L → D F' v L
/-- back from the call: the other cells are still there -/
theorem Own.back (O : Own R H (B ++ C)) (e : Ex (hsub H B) R') (O' : Own R' H' L') : ∃ R'', Own R'' H' (L' ++ C) ∧ Ex R R'' ∧ ∀ F, Ex F R → Ex (ovr F (hsub H B) R') R'' := by
  have nd := O.nd
  rw [List.map_append] at nd
  obtain ⟨ndB, ndC, dis⟩ := List.nodup_append.mp nd
  have hC : ∀ c ∈ C, R' c.1 = some c.2 := fun c hc => e _ _ (by
    unfold hsub
    rw [if_neg (fun m => dis _ m _ (List.mem_map_of_mem (f := (·.1)) hc) rfl)]
    exact O.at_ c (List.mem_append.mpr (.inr hc)))
  have hR : ∀ b u, R b = some u → R' b = some u := fun b u h => e _ _ (O.left.subR b u h)
  refine ⟨hsub R' C, ⟨hsub_ex.trans O'.ex, fun c hc => ?_, fun c hc => ?_, ?_⟩, fun b u h => ?_, fun F hF b u h => ?_⟩
  · rcases List.mem_append.mp hc with hc | hc
    · exact O'.at_ c hc
    · exact O'.ex _ _ (hC c hc)
  · rcases List.mem_append.mp hc with hc | hc
    · exact hsub_ex.back (O'.fr c hc)
    · exact hsub_in hc
  · rw [List.map_append]
    refine List.nodup_append.mpr ⟨O'.nd, ndC, fun x hx y hy exy => ?_⟩
    subst exy
    obtain ⟨c, hc, e1⟩ := List.mem_map.mp hx
    obtain ⟨d, hd, e2⟩ := List.mem_map.mp hy
    have h1 := O'.fr c hc
    have h2 := hC d hd
    rw [e2, ← e1, h1] at h2
    cases h2
  · unfold hsub
    rw [if_neg (fun m => by
      obtain ⟨c, hc, e1⟩ := List.mem_map.mp m
      have := O.fr c (List.mem_append.mpr (.inr hc))
      rw [e1, h] at this
      cases this)]
    exact hR b u h
  · obtain ⟨hq, h1⟩ := ovr_some h
    unfold hsub
    rw [if_neg (fun m => ?_)]
    · exact h1
    · obtain ⟨c, hc, e1⟩ := List.mem_map.mp m
      rcases hq with hq | hq
      · cases hf : F b with
        | none => exact hq hf
        | some w =>
          have := O.fr c (List.mem_append.mpr (.inr hc))
          rw [e1, hF _ _ hf] at this
          cases this
      · have : hsub H B c.1 = some c.2 := by
          unfold hsub
          rw [if_neg (fun m => dis _ m _ (List.mem_map_of_mem (f := (·.1)) hc) rfl)]
          exact O.at_ c (List.mem_append.mpr (.inr hc))
        rw [e1, hq] at this
        cases this
theorem Own.retX (O : Own R H (B ++ C)) (m : MonoD D) (k : ∀ v H' R' L', Own R' H' (L' ++ C) → Ex R R' → D R' v L' → Q v H') : RetX R (hsub H B) D Q := fun v H' R' L' e O' d => by
  obtain ⟨R'', O'', e1, e2⟩ := O.back e O'
  exact k v H' R'' L' O'' e1 (m _ _ _ _ (e2 R (Ex.refl R)) d)
theorem Own.retXO (O : Own R H (B ++ C)) (m : MonoD D) (e0 : Ex H0 R) (k : ∀ v H' R' L', Own R' H' (L' ++ C) → Ex R R' → D (ovr R0 H0 R') v L' → Q v H') : RetX (ovr R0 H0 R) (hsub H B) D Q := fun v H' R' L' e O' d => by
  obtain ⟨R'', O'', e1, e2⟩ := O.back e O'
  refine k v H' R'' L' O'' e1 (m _ _ _ _ (fun b u h => ?_) d)
  have h1 := e2 (ovr R0 H0 R) ovr_ex _ _ h
  obtain ⟨hq, _⟩ := ovr_some h
  refine ovr_mk ?_ h1
  rcases hq with hq | hq
  · cases hz : ovr R0 H0 R b with
    | none => exact absurd hz hq
    | some w => exact (ovr_some hz).1
  · refine .inr ?_
    cases hz : H0 b with
    | none => rfl
    | some w =>
      have h3 := O.left.subR _ _ (e0 _ _ hz)
      rw [hq] at h3
      cases h3
theorem Own.inC {B C : List Cell} {c : Cell} (O : Own R H (B ++ C)) (h : c ∈ C) : hsub H B c.1 = some c.2 := by
  have nd := O.nd
  rw [List.map_append] at nd
  unfold hsub
  rw [if_neg (fun m => (List.nodup_append.mp nd).2.2 _ m _ (List.mem_map_of_mem (f := (·.1)) h) rfl)]
  exact O.at_ c (List.mem_append_right _ h)
/-! what is handed back -/
abbrev Ob (α : Type) := Hp → Addr → List Cell → α → Prop
def MonoO {α : Type} (B : Ob α) : Prop := ∀ F F' a L x, Ex F F' → B F a L x → B F' a L x
def dV (w : V) : DT := fun _ v L => L = [] ∧ v = w
def dLs (xs : List V) : DT := fun _ v L => ∃ p, v = .ref p ∧ L = [(p, .lst xs)]
def dTp (xs : List V) : DT := fun _ v L => ∃ p, v = .ref p ∧ L = [(p, .tup xs)]
def dP {α : Type} (P : Rp α) (x : α) : DT := fun F v L => L = [] ∧ P F v x
def dOb {α : Type} (B : Ob α) (x : α) : DT := fun F v L => ∃ a, v = .ref a ∧ B F a L x
def dX {α : Type} (B : Ob α) (a : Addr) (x : α) (D : DT) : DT := fun F v L => ∃ L1 L2, L = L1 ++ L2 ∧ B F a L1 x ∧ D F v L2
def dI {α : Type} (B : Ob α) (a : Addr) (x : α) : DT := fun F v L => v = .non ∧ B F a L x
theorem mdI {α : Type} {B : Ob α} {a : Addr} {x : α} (m : MonoO B) : MonoD (dI B a x) := fun _ _ _ _ e h => ⟨h.1, m _ _ _ _ _ e h.2⟩
def dK (L : List Cell) (D : DT) : DT := fun F v L' => ∃ L2, L' = L ++ L2 ∧ D F v L2
theorem mdK {L : List Cell} {D : DT} (n : MonoD D) : MonoD (dK L D) := fun _ _ _ _ e ⟨L2, h1, h3⟩ => ⟨L2, h1, n _ _ _ _ e h3⟩
theorem Own.whole {R0 Hs Hb H0 H : Hp} {L X : List Cell} (O0 : Own R0 Hs L) (hb : Hb = hsub Hs L) (eB : Ex Hb H0) (O : Own H0 H (L ++ X)) : Ex Hs H := fun a u h => by
  by_cases c : a ∈ L.map (·.1)
  · obtain ⟨d, hd, e⟩ := List.mem_map.mp c
    have h1 := O0.at_ d hd
    have h2 := O.at_ d (List.mem_append_left _ hd)
    subst e
    rw [h1] at h
    rw [h2, ← h]
  · refine O.ex _ _ (eB _ _ ?_)
    rw [hb]
    unfold hsub
    rw [if_neg c]
    exact h
theorem mdV {w : V} : MonoD (dV w) := fun _ _ _ _ _ h => h
theorem mdLs {xs : List V} : MonoD (dLs xs) := fun _ _ _ _ _ h => h
theorem mdTp {xs : List V} : MonoD (dTp xs) := fun _ _ _ _ _ h => h
theorem mdP {α : Type} {P : Rp α} {x : α} (m : Mono P) : MonoD (dP P x) := fun _ _ _ _ e h => ⟨h.1, m _ _ _ _ e h.2⟩
theorem mdOb {α : Type} {B : Ob α} {x : α} (m : MonoO B) : MonoD (dOb B x) := fun _ _ _ _ e ⟨a, h1, h2⟩ => ⟨a, h1, m _ _ _ _ _ e h2⟩
theorem mdX {α : Type} {B : Ob α} {a : Addr} {x : α} {D : DT} (m : MonoO B) (n : MonoD D) : MonoD (dX B a x D) := fun _ _ _ _ e ⟨L1, L2, h1, h2, h3⟩ => ⟨L1, L2, h1, m _ _ _ _ _ e h2, n _ _ _ _ e h3⟩
/-! a list of such -/
inductive All3 {α β γ : Type} (P : α → β → γ → Prop) : List α → List β → List γ → Prop
  | nil : All3 P [] [] []
  | cons {a : α} {b : β} {c : γ} {as : List α} {bs : List β} {cs : List γ} : P a b c → All3 P as bs cs → All3 P (a :: as) (b :: bs) (c :: cs)
theorem All3.mp {α β γ : Type} {P P' : α → β → γ → Prop} {as : List α} {bs : List β} {cs : List γ} (f : ∀ a b c, P a b c → P' a b c) (h : All3 P as bs cs) : All3 P' as bs cs := by
  induction h with
  | nil => exact .nil
  | cons h _ ih => exact .cons (f _ _ _ h) ih
theorem All3.len {α β γ : Type} {P : α → β → γ → Prop} {as : List α} {bs : List β} {cs : List γ} (h : All3 P as bs cs) : as.length = cs.length := by
  induction h with
  | nil => rfl
  | cons _ _ ih => simp [ih]
/-- the j-th of them, apart -/
theorem All3.at {α γ : Type} {P : α → List Cell → γ → Prop} {as : List α} {bs : List (List Cell)} {cs : List γ} (h : All3 P as bs cs) : ∀ {j : Nat} {c : γ}, cs[j]? = some c → ∃ a b bs1 bs2, as[j]? = some a ∧ P a b c ∧ bs = bs1 ++ b :: bs2 ∧ ∀ (P' : α → List Cell → γ → Prop) (b' : List Cell) (c' : γ), (∀ a b c, P a b c → P' a b c) → P' a b' c' → All3 P' as (bs1 ++ b' :: bs2) (cs.set j c') := by
  induction h with
  | nil => intro j c e; simp at e
  | @cons a b c as bs cs h t ih =>
    intro j d e
    cases j with
    | zero =>
      cases Option.some.inj e
      exact ⟨a, b, [], bs, rfl, h, rfl, fun P' b' c' m k => .cons k (t.mp m)⟩
    | succ j =>
      obtain ⟨a1, b1, bs1, bs2, h1, h2, h3, h4⟩ := ih (by simpa using e)
      exact ⟨a1, b1, b :: bs1, bs2, by simpa using h1, h2, by rw [h3]; rfl, fun P' b' c' m k => .cons (m _ _ _ h) (h4 P' b' c' m k)⟩
def oLs {α : Type} (B : Ob α) : Ob (List α) := fun F a L xs => ∃ as Ls, L.Perm ((a, HO.lst (as.map V.ref)) :: Ls.flatten) ∧ All3 (B F) as Ls xs
theorem moLs {α : Type} {B : Ob α} (m : MonoO B) : MonoO (oLs B) := fun _ _ _ _ _ e ⟨as, Ls, h1, h2⟩ => ⟨as, Ls, h1, h2.mp fun _ _ _ h => m _ _ _ _ _ e h⟩
theorem Own.lsAt {α : Type} {B : Ob α} {F : Hp} {a : Addr} {A L C : List Cell} {xs : List α} {i : Int} {x : α} (m : MonoO B) (O : Own R H (A ++ (L ++ C))) (h : oLs B F a L xs) (e : atI xs i = some x) :
    ∃ (vs : List V) (b : Addr) (L1 L2 : List Cell), H a = some (.lst vs) ∧ atI vs i = some (.ref b) ∧ vs.length = xs.length ∧ B F b L1 x ∧ (L1 ++ L2).Perm L ∧ Own R H (A ++ (L1 ++ (L2 ++ C))) ∧ (∀ F' L1' x', Ex F F' → B F' b L1' x' → ∀ ys, setG xs i x' = some ys → oLs B F' a (L1' ++ L2) ys) ∧ ∀ F' L1', Ex F F' → B F' b L1' x → oLs B F' a (L1' ++ L2) xs := by
  obtain ⟨as, Ls, hp, h3⟩ := h
  unfold atI at e
  cases ej : ixN xs.length i with
  | none => rw [ej] at e; cases e
  | some j =>
    rw [ej] at e
    obtain ⟨b, L1, bs1, bs2, h4, h5, h6, h7⟩ := h3.at e
    subst h6
    have hp2 : L.Perm (L1 ++ ((a, HO.lst (as.map V.ref)) :: (bs1.flatten ++ bs2.flatten))) := by
      refine hp.trans ?_
      rw [List.flatten_append, List.flatten_cons]
      refine List.Perm.trans ?_ (List.perm_middle.symm)
      refine List.Perm.cons _ ?_
      rw [← List.append_assoc, ← List.append_assoc]
      exact List.Perm.append_right _ List.perm_append_comm
    have cl : ∀ F' L1' x', Ex F F' → B F' b L1' x' → oLs B F' a (L1' ++ ((a, HO.lst (as.map V.ref)) :: (bs1.flatten ++ bs2.flatten))) (xs.set j x') := fun F' L1' x' ex hb => by
      refine ⟨as, bs1 ++ L1' :: bs2, ?_, h7 _ L1' x' (fun _ _ _ h => m _ _ _ _ _ ex h) hb⟩
      rw [List.flatten_append, List.flatten_cons]
      refine List.perm_middle.trans ?_
      refine List.Perm.cons _ ?_
      rw [← List.append_assoc, ← List.append_assoc]
      exact List.Perm.append_right _ List.perm_append_comm
    refine ⟨as.map V.ref, b, L1, (a, HO.lst (as.map V.ref)) :: (bs1.flatten ++ bs2.flatten), O.mem (List.mem_append_right _ (List.mem_append_left _ (hp.mem_iff.mpr (List.Mem.head _)))), ?_, by rw [List.length_map, h3.len], h5, hp2.symm, O.perm ?_, fun F' L1' x' ex hb ys hy => ?_, fun F' L1' ex hb => ?_⟩
    · unfold atI
      rw [List.length_map, h3.len, ej]
      show (as.map V.ref)[j]? = _
      rw [List.getElem?_map, h4]
      rfl
    · refine List.Perm.append_left _ ?_
      rw [← List.append_assoc]
      exact List.Perm.append_right _ hp2
    · unfold setG at hy
      rw [ej] at hy
      cases hy
      exact cl F' L1' x' ex hb
    · have := cl F' L1' x ex hb
      have e2 : xs.set j x = xs := by
        obtain ⟨h8, h9⟩ := List.getElem?_eq_some_iff.mp (show xs[j]? = some x from e)
        rw [← h9]
        exact List.set_getElem_self h8
      rw [e2] at this
      exact this
end
/-! tests with two sides, over any state -/
section
variable {J : Hp → Prop} {Q : VK} {σ : St} {H : Hp} {v x y : V}
theorem x_andJ {c d e : Bool} {tt uu : TT} {QB : Bool → Hp → Prop} (J : Hp → Prop) (h1 : ∀ Q1 : Bool → Hp → Prop, (∀ H', J H' → Q1 c H') → tt σ H Q1) (h2 : c = true → e = d ∧ ∀ H', J H' → ∀ Q2 : Bool → Hp → Prop, (∀ H'', J H'' → Q2 e H'') → uu σ H' Q2)
    (h3 : c = false → false = d) (k : ∀ H', J H' → QB d H') : tAnd tt uu σ H QB := by
  refine h1 _ fun H' O' => ?_
  cases c with
  | true =>
    obtain ⟨e1, g2⟩ := h2 rfl
    subst e1
    exact g2 H' O' QB k
  | false =>
    rw [← h3 rfl] at k
    exact k H' O'
theorem x_orJ {c d e : Bool} {tt uu : TT} {QB : Bool → Hp → Prop} (J : Hp → Prop) (h1 : ∀ Q1 : Bool → Hp → Prop, (∀ H', J H' → Q1 c H') → tt σ H Q1) (h2 : c = false → e = d ∧ ∀ H', J H' → ∀ Q2 : Bool → Hp → Prop, (∀ H'', J H'' → Q2 e H'') → uu σ H' Q2)
    (h3 : c = true → true = d) (k : ∀ H', J H' → QB d H') : tOr tt uu σ H QB := by
  refine h1 _ fun H' O' => ?_
  cases c with
  | false =>
    obtain ⟨e1, g2⟩ := h2 rfl
    subst e1
    exact g2 H' O' QB k
  | true =>
    rw [← h3 rfl] at k
    exact k H' O'
theorem x_andVJ {c d e : Bool} {tt uu : TE} (J : Hp → Prop) (h1 : ∀ Q1 : VK, (∀ H', J H' → Q1 (.bl c) H') → tt σ H Q1) (h2 : c = true → e = d ∧ ∀ H', J H' → ∀ Q2 : VK, (∀ H'', J H'' → Q2 (.bl e) H'') → uu σ H' Q2)
    (h3 : c = false → false = d) (k : ∀ H', J H' → Q (.bl d) H') : tAndV tt uu σ H Q := by
  refine h1 _ fun H' O' => ⟨_, rfl, ?_⟩
  cases c with
  | true =>
    obtain ⟨e1, g2⟩ := h2 rfl
    subst e1
    exact g2 H' O' Q k
  | false =>
    rw [← h3 rfl] at k
    exact k H' O'
theorem x_orVJ {c d e : Bool} {tt uu : TE} (J : Hp → Prop) (h1 : ∀ Q1 : VK, (∀ H', J H' → Q1 (.bl c) H') → tt σ H Q1) (h2 : c = false → e = d ∧ ∀ H', J H' → ∀ Q2 : VK, (∀ H'', J H'' → Q2 (.bl e) H'') → uu σ H' Q2)
    (h3 : c = true → true = d) (k : ∀ H', J H' → Q (.bl d) H') : tOrV tt uu σ H Q := by
  refine h1 _ fun H' O' => ⟨_, rfl, ?_⟩
  cases c with
  | false =>
    obtain ⟨e1, g2⟩ := h2 rfl
    subst e1
    exact g2 H' O' Q k
  | true =>
    rw [← h3 rfl] at k
    exact k H' O'
theorem x_ifJ {c : Bool} {tt : TT} {ta tb : TE} (J : Hp → Prop) (h1 : ∀ Q1 : Bool → Hp → Prop, (∀ H', J H' → Q1 c H') → tt σ H Q1) (h2 : c = true → x = v ∧ ∀ H', J H' → ∀ Q2 : VK, (∀ H'', J H'' → Q2 x H'') → ta σ H' Q2)
    (h3 : c = false → y = v ∧ ∀ H', J H' → ∀ Q2 : VK, (∀ H'', J H'' → Q2 y H'') → tb σ H' Q2) (k : ∀ H', J H' → Q v H') : tIf tt ta tb σ H Q := by
  refine h1 _ fun H' O' => ?_
  cases c with
  | true =>
    obtain ⟨e1, g2⟩ := h2 rfl
    subst e1
    exact g2 H' O' Q k
  | false =>
    obtain ⟨e1, g3⟩ := h3 rfl
    subst e1
    exact g3 H' O' Q k
end
theorem Own.unls {R H : Hp} {A L1 L2 L C : List Cell} (O : Own R H (A ++ (L1 ++ (L2 ++ C)))) (h : (L1 ++ L2).Perm L) : Own R H (A ++ (L ++ C)) := by
  refine O.perm (List.Perm.append_left _ ?_)
  rw [← List.append_assoc]
  exact List.Perm.append_right _ h
/-! fields -/
section
variable {K : PySem.W.Frag} {σ : St} {H R : Hp} {L : List Cell} {Q : VK} {a dx C : Addr} {fs : List (Str × V)} {v : V} {f : Str} {te tv : TE}
theorem o_fld (h : te σ H fun x H1 => ∃ a C dx fs v, x = .ref a ∧ H1 a = some (.ins C dx fs) ∧ Cls K C ∧ NoAttr K C f ∧ fs.lookup f = some v ∧ Q v H1) : tFld K te f σ H Q := h
def rSFld (K : PySem.W.Frag) (f : Str) (y x : V) (H : Hp) (QH : Hp → Prop) : Prop := ∃ a C dx fs, x = .ref a ∧ H a = some (.ins C dx fs) ∧ Cls K C ∧ NoAttr K C f ∧ fs.length < 1000 ∧ QH (upd H a (.ins C dx (putF f y fs)))
theorem o_sfld {n b k : St → Hp → Prop} {w : VK} (h : tv σ H fun y H1 => te σ H1 fun x H2 => rSFld K f y x H2 (n σ)) : sFld K te tv f (Ends.mk n w b k) σ H := h
theorem o_meth {m : Str} {sp : Sp} {dvs : List V} {E : XK} {t : TA} (h : te σ H fun x H1 => ∃ a dx fs, x = .ref a ∧ H1 a = some (.ins C dx fs) ∧ fs.lookup m = none ∧ t σ H1 fun vs H2 => sp (x :: (vs ++ dvs)) H2 Q E) : tMeth C m sp dvs E te t σ H Q := h
theorem o_make {sp : Sp} {dvs : List V} {E : XK} {t : TA} (h : t σ H fun vs H1 => ∀ x dx, H1 x = none → H1 dx = none → dx ≠ x → sp (.ref x :: (vs ++ dvs)) (upd (upd H1 dx (.own x)) x (.ins C dx [])) (fun v H2 => v = .non ∧ Q (.ref x) H2) E) : tMake C sp dvs E t σ H Q := h
theorem Own.mk2 (O : Own R H L) {x : Addr} (h1 : H x = none) (h2 : H dx = none) (h3 : dx ≠ x) : Own R (upd (upd H dx (.own x)) x (.ins C dx fs)) ((x, .ins C dx fs) :: (dx, .own x) :: L) :=
  Own.new (O.new h2) (by rw [upd_ne (Ne.symm h3)]; exact h1)
theorem k_make {sp : Sp} {vs : List V} {E : XK} {Q2 : Addr → Hp → Prop} (O : Own R H L) (k : ∀ x dx H', Own R H' ((x, .ins C dx []) :: (dx, .own x) :: L) → sp (.ref x :: vs) H' (fun v H2 => v = .non ∧ Q2 x H2) E) : ∀ x dx, H x = none → H dx = none → dx ≠ x → sp (.ref x :: vs) (upd (upd H dx (.own x)) x (.ins C dx [])) (fun v H2 => v = .non ∧ Q2 x H2) E := fun x dx h1 h2 h3 => k x dx _ (O.mk2 h1 h2 h3)
theorem putF_nil : putF f v [] = [(f, v)] := rfl
theorem putF_hit {x : V} {r : List (Str × V)} : putF f v ((f, x) :: r) = (f, v) :: r := by simp [putF]
theorem putF_skip {g : Str} {x : V} {r r' : List (Str × V)} (h : (g == f) = false) (e : putF f v r = r') : putF f v ((g, x) :: r) = (g, x) :: r' := by
  have : g ≠ f := by simpa using h
  simp [putF, this, e]
theorem lk_hit {r : List (Str × V)} : List.lookup f ((f, v) :: r) = some v := by simp [List.lookup]
theorem lk_skip {g : Str} {x : V} {r : List (Str × V)} {o : Option V} (h : (f == g) = false) (e : List.lookup f r = o) : List.lookup f ((g, x) :: r) = o := by simp [List.lookup, h, e]
theorem lk_nil : List.lookup f ([] : List (Str × V)) = none := rfl
theorem k_sfld {v' : V} {fs' : List (Str × V)} {QH : Hp → Prop} {g : HO → List Cell} (hl : H a = some (.ins C dx fs)) (c : Cls K C) (n : NoAttr K C f) (hz : fs.length < 1000) (ev : v = v') (e : putF f v' fs = fs') (hp : ∀ o', Own R (upd H a o') (g o')) (k : ∀ H', Own R H' (g (.ins C dx fs')) → QH H') :
    rSFld K f v (.ref a) H QH := by
  subst ev
  refine ⟨a, C, dx, fs, rfl, hl, c, n, hz, ?_⟩
  rw [e]
  exact k _ (hp _)
theorem Own.cv {L' : List Cell} (O : Own R H L) (e : L = L') : Own R H L' := e ▸ O
theorem Own.putB {A B : List Cell} {o o' : HO} (O : Own R H L) (e : L = A ++ (a, o) :: B) : Own R (upd H a o') (A ++ (a, o') :: B) := by
  subst e
  exact Own.put O
theorem cls_at {K : PySem.W.Frag} {C : Addr} (h1 : PySem.W.plainGet K C Str.empty = true) (h2 : PySem.W.hasDictIn K C = true) (h3 : PySem.W.plainOver K C = true) (h4 : PySem.W.findIn K (.ref C) "__setattr__" = some (some (.builtin "object.__setattr__"))) : Cls K C := ⟨h1, h2, h3, h4⟩
end
end Bt

set_option Elab.async false
set_option linter.all false
set_option maxRecDepth 100000
set_option maxHeartbeats 4000000
/-! Data of any form: lists and tuples of such, None, one of two kinds. -/
namespace Bt
open PySem L2
section
variable {α β γ δ : Type} {P : Rp α} {P' : Rp β} {P3 : Rp γ} {P4 : Rp δ} {F H R : Hp} {L : List Cell} {v w : V} {a p : Addr} {K : PySem.W.Frag} {Q : VK} {i : Int}
def rN : Rp Unit := fun _ v _ => v = .non
def rU (P : Rp α) (P' : Rp β) : Rp (α ⊕ β) := fun F v x => match x with
  | .inl a => P F v a
  | .inr b => P' F v b
theorem mN : Mono rN := fun _ _ _ _ _ h => h
theorem mU (m : Mono P) (n : Mono P') : Mono (rU P P') := fun F F' v x e h => by
  cases x with
  | inl a => exact m _ _ _ _ e h
  | inr b => exact n _ _ _ _ e h
theorem rO_some {x : Option α} {y : α} (h : rO P F v x) (e : x = some y) : P F v y := by subst e; exact h
theorem rO_mk {y : α} (h : P F v y) : rO P F v (some y) := h
def prL : α ⊕ β → Option α
  | .inl a => some a
  | .inr _ => none
def prR : α ⊕ β → Option β
  | .inl _ => none
  | .inr b => some b
theorem rU_l {x : α ⊕ β} {y : α} (h : rU P P' F v x) (e : prL x = some y) : P F v y := by
  cases x with
  | inl a => cases e; exact h
  | inr b => cases e
theorem rU_r {x : α ⊕ β} {y : β} (h : rU P P' F v x) (e : prR x = some y) : P' F v y := by
  cases x with
  | inl a => cases e
  | inr b => cases e; exact h
theorem rL_ref {x : List α} (h : rL P F v x) : ∃ p, v = .ref p := by obtain ⟨p, _, e, _⟩ := h; exact ⟨p, e⟩
theorem rT2_ref {x : α × β} (h : rT2 P P' F v x) : ∃ p, v = .ref p := by obtain ⟨p, _, _, e, _⟩ := h; exact ⟨p, e⟩
theorem rT3_ref {x : α × β × γ} (h : rT3 P P' P3 F v x) : ∃ p, v = .ref p := by obtain ⟨p, _, _, _, e, _⟩ := h; exact ⟨p, e⟩
theorem rT4_ref {x : α × β × γ × δ} (h : rT4 P P' P3 P4 F v x) : ∃ p, v = .ref p := by obtain ⟨p, _, _, _, _, e, _⟩ := h; exact ⟨p, e⟩
theorem rL_at {x : List α} (h : rL P F (.ref p) x) : ∃ vs, F p = some (.lst vs) ∧ All2 (P F) vs x := by
  obtain ⟨q, vs, e, h1, h2⟩ := h
  cases e
  exact ⟨vs, h1, h2⟩
theorem rT2_at {x : α × β} (h : rT2 P P' F (.ref p) x) : ∃ a b, F p = some (.tup [a, b]) ∧ P F a x.1 ∧ P' F b x.2 := by
  obtain ⟨q, a, b, e, h1, h2⟩ := h
  cases e
  exact ⟨a, b, h1, h2⟩
theorem rT3_at {x : α × β × γ} (h : rT3 P P' P3 F (.ref p) x) : ∃ a b c, F p = some (.tup [a, b, c]) ∧ P F a x.1 ∧ P' F b x.2.1 ∧ P3 F c x.2.2 := by
  obtain ⟨q, a, b, c, e, h1, h2⟩ := h
  cases e
  exact ⟨a, b, c, h1, h2⟩
theorem rT4_at {x : α × β × γ × δ} (h : rT4 P P' P3 P4 F (.ref p) x) : ∃ a b c d, F p = some (.tup [a, b, c, d]) ∧ P F a x.1 ∧ P' F b x.2.1 ∧ P3 F c x.2.2.1 ∧ P4 F d x.2.2.2 := by
  obtain ⟨q, a, b, c, d, e, h1, h2⟩ := h
  cases e
  exact ⟨a, b, c, d, h1, h2⟩
theorem fIr {F : Hp} {p : Addr} {xs : List Int} (h : rL rI F (.ref p) xs) : F p = some (.lst (xs.map V.int)) := by
  obtain ⟨q, e, h⟩ := fI h
  cases e
  exact h
theorem fBr {F : Hp} {p : Addr} {xs : List Bool} (h : rL rB F (.ref p) xs) : F p = some (.lst (xs.map V.bl)) := by
  obtain ⟨q, e, h⟩ := fB h
  cases e
  exact h
theorem fSr {F : Hp} {p : Addr} {xs : List Str} (h : rL rS F (.ref p) xs) : F p = some (.lst (xs.map V.str)) := by
  obtain ⟨q, e, h⟩ := fS h
  cases e
  exact h
/-! never None -/
def NN (P : Rp α) : Prop := ∀ F v x, P F v x → v ≠ .non
theorem nnI : NN rI := fun _ _ _ h => by rw [show _ = _ from h]; simp
theorem nnB : NN rB := fun _ _ _ h => by rw [show _ = _ from h]; simp
theorem nnS : NN rS := fun _ _ _ h => by rw [show _ = _ from h]; simp
theorem nnL : NN (rL P) := fun _ _ _ h => by obtain ⟨p, rfl⟩ := rL_ref h; simp
theorem nnT2 : NN (rT2 P P') := fun _ _ _ h => by obtain ⟨p, rfl⟩ := rT2_ref h; simp
theorem nnT3 : NN (rT3 P P' P3) := fun _ _ _ h => by obtain ⟨p, rfl⟩ := rT3_ref h; simp
theorem nnT4 : NN (rT4 P P' P3 P4) := fun _ _ _ h => by obtain ⟨p, rfl⟩ := rT4_ref h; simp
theorem nnU (m : NN P) (n : NN P') : NN (rU P P') := fun _ _ x h => by
  cases x with
  | inl a => exact m _ _ _ h
  | inr b => exact n _ _ _ h
theorem dec_non {x : Option α} (n : NN P) (h : rO P F v x) : decide (v = V.non) = x.isNone := by
  cases x with
  | none => rw [show v = _ from h]; rfl
  | some y => rw [decide_eq_false (n _ _ _ h)]; rfl
def rIsN : R2 := fun x y H Q => y = .non ∧ Q (.bl (decide (x = .non))) H
def rNotN : R2 := fun x y H Q => y = .non ∧ Q (.bl (!decide (x = .non))) H
theorem op_isNq {X : Cx} : OpR X (compareOp .Is) rIsN := op_isN
theorem op_notNq {X : Cx} : OpR X (compareOp .IsNot) rNotN := op_notN
theorem k_isN {x : Option α} (n : NN P) (h : rO P F v x) (q : Q (.bl x.isNone) H) : rIsN v .non H Q := ⟨rfl, by rw [dec_non n h]; exact q⟩
theorem k_notN {x : Option α} (n : NN P) (h : rO P F v x) (q : Q (.bl (!x.isNone)) H) : rNotN v .non H Q := ⟨rfl, by rw [dec_non n h]; exact q⟩
end
theorem k_isT {H : Hp} {Q : VK} (q : Q (.bl true) H) : rIsN .non .non H Q := ⟨rfl, by rw [decide_eq_true rfl]; exact q⟩
theorem k_isTn {H : Hp} {Q : VK} (q : Q (.bl (!true)) H) : rNotN .non .non H Q := ⟨rfl, by rw [decide_eq_true rfl]; exact q⟩
theorem k_isF {v : V} {H : Hp} {Q : VK} (q : Q (.bl false) H) (h : v ≠ .non := by simp) : rIsN v .non H Q := ⟨rfl, by rw [decide_eq_false h]; exact q⟩
theorem k_isFn {v : V} {H : Hp} {Q : VK} (q : Q (.bl (!false)) H) (h : v ≠ .non := by simp) : rNotN v .non H Q := ⟨rfl, by rw [decide_eq_false h]; exact q⟩
theorem room65 {k : Nat} {A : Around} (r : Room k A) : A.units + 65 < cLine := by have := r.un; omega
/-! lists of such, one's own or not -/
section
variable {α : Type} {P : V → α → Prop} {F H R : Hp} {L : List Cell} {v w : V} {a b p : Addr} {K : PySem.W.Frag} {Q : VK} {i : Int} {vs ws : List V} {xs ys zs : List α} {y : α} {σ : St}
theorem n_lenA (hs : SqL K H a vs) (ha : All2 P vs xs) (k : Q (.int (xs.length : Int)) H) : rLenQ K [.ref a] H Q := by
  unfold rLenQ
  exact ⟨a, vs, rfl, .inl hs, by rw [ha.len]; exact k⟩
theorem k_ixA (hs : SqL K H a vs) (ha : All2 P vs xs) (h : atI xs i = some y) (k : ∀ v, P v y → Q v H) : rIxL K (.ref a) (.int i) H Q := by
  obtain ⟨v, e1, hv⟩ := ha.at h
  exact ⟨a, vs, i, v, rfl, rfl, hs, e1, k v hv⟩
theorem k_appA {g : HO → List Cell} (hl : H a = some (.lst vs)) (ha : All2 P vs xs) (hp : ∀ o', Own R (upd H a o') (g o')) (h : appG xs y = some ys) (hv : P v y) (k : ∀ H', Own R H' (g (.lst (vs ++ [v]))) → All2 P (vs ++ [v]) ys → Q .non H') : rAppend (.ref a) [v] H Q := by
  obtain ⟨c, rfl⟩ := grdE h
  exact ⟨a, _, _, rfl, rfl, hl, by rw [ha.len]; exact c, k _ (hp _) (ha.snoc hv)⟩
theorem k_setA {g : HO → List Cell} {QH : Hp → Prop} (hl : H a = some (.lst vs)) (ha : All2 P vs xs) (hp : ∀ o', Own R (upd H a o') (g o')) (h : setG xs i y = some ys) (hv : P v y) (k : ∀ H' ws, Own R H' (g (.lst ws)) → All2 P ws ys → QH H') : rSetL (.ref a) (.int i) v H QH := by
  unfold setG at h
  cases e : ixN xs.length i with
  | none => rw [e] at h; cases h
  | some j =>
    rw [e] at h
    cases h
    exact ⟨a, _, i, j, rfl, rfl, hl, by rw [ha.len]; exact e, k _ _ (hp _) (ha.set hv j)⟩
theorem All2.cut (ha : All2 P vs xs) (lo hi : Option Int) : All2 P (cutV vs lo hi) (cutL xs lo hi) := by
  unfold cutV cutL
  rw [ha.len]
  exact (ha.drop _).take _
theorem k_cutA {lo hi : Option Int} (O : Own R H L) (hs : SqL K H a vs) (ha : All2 P vs xs) (k : ∀ p H' ws, Own R H' ((p, .lst ws) :: L) → All2 P ws (cutL xs lo hi) → Q (.ref p) H') : rSlL K (.ref a) lo hi H Q :=
  ⟨a, vs, rfl, hs, fun p hp => k p _ _ (O.new hp) (ha.cut lo hi)⟩
theorem k_catA (O : Own R H L) (h1 : H a = some (.lst vs)) (ha : All2 P vs xs) (h2 : H b = some (.lst ws)) (hb : All2 P ws ys) (h : catG xs ys = some zs) (k : ∀ p H' us, Own R H' ((p, .lst us) :: L) → All2 P us zs → Q (.ref p) H') : rCat (.ref a) (.ref b) H Q := by
  obtain ⟨c, rfl⟩ := grdE h
  exact ⟨a, b, _, _, rfl, rfl, h1, h2, by rw [ha.len, hb.len]; exact c, fun p hp => k p _ _ (O.new hp) (ha.app hb)⟩
theorem n_listA (O : Own R H L) (h : SqL K H a vs) (k : ∀ p H', Own R H' ((p, .lst vs) :: L) → Q (.ref p) H') : rListQ K [.ref a] H Q := n_list O h k
theorem k_forA {g : TG} {tb : TS} {D : Ends} (ha : All2 P vs xs) (J : List α → St → Hp → Prop) (h0 : J xs σ H) (hl : ∀ r σ H, J r σ H → SqL K H a vs)
    (hs : ∀ x v r σ H, P v x → J (x :: r) σ H → g v σ H fun σ2 H2 => tb { D with nx := J r, ct := J r, bk := D.nx } σ2 H2) (hd : ∀ σ H, J [] σ H → D.nx σ H) :
    ∃ W : Nat → Nat → St → Hp → Prop, (∃ m, W 0 m σ H) ∧ ∀ i m σ H, W i m σ H →
      ((Itl K a).stop i H ∧ D.nx σ H) ∨ ((Itl K a).go i H ∧ ∃ N : St → Hp → Prop, (∀ σ' H', N σ' H' → ∃ m', m' < m ∧ W (i + 1) m' σ' H') ∧ ∀ x H', (Itl K a).yld i H x H' → g x σ H' fun σ2 H2 => tb { D with nx := N, ct := N, bk := D.nx } σ2 H2) := by
  refine for_list (xs := vs) (fun i σ H => J (xs.drop i) σ H) h0 (fun i σ H _ => hl _ σ H) (fun i v σ H hi hJ => ?_) fun σ H hJ => ?_
  · have hlt : i < xs.length := by
      rw [← ha.len]
      exact (List.getElem?_eq_some_iff.mp hi).1
    obtain ⟨v', e1, e2⟩ := ha.get (List.getElem?_eq_getElem hlt)
    rw [hi] at e1
    cases e1
    rw [List.drop_eq_getElem_cons hlt] at hJ
    exact hs _ v _ σ H e2 hJ
  · rw [ha.len, List.drop_length] at hJ
    exact hd σ H hJ
theorem q_forA {j : Nat} {ts : TS} {n b k : St → Hp → Prop} {w : VK} (ha : All2 P vs xs) (J : List α → St → Hp → Prop) (h0 : J xs σ H) (hl : ∀ r σ H, J r σ H → SqL K H a vs)
    (hs : ∀ x v r σ H, P v x → J (x :: r) σ H → ts (Ends.mk (J r) w n (J r)) (σ.set j (some v)) H) (hd : ∀ σ H, J [] σ H → n σ H) :
    ∃ W : Nat → Nat → St → Hp → Prop, (∃ m, W 0 m σ H) ∧ ∀ i m σ H, W i m σ H →
      ((Itl K a).stop i H ∧ n σ H) ∨ ((Itl K a).go i H ∧ ∃ N : St → Hp → Prop, (∀ σ' H', N σ' H' → ∃ m', m' < m ∧ W (i + 1) m' σ' H') ∧ ∀ x H', (Itl K a).yld i H x H' → gName j x σ H' fun σ2 H2 => ts (Ends.mk N w n N) σ2 H2) :=
  k_forA (D := Ends.mk n w (fun _ _ => False) fun _ _ => False) (g := gName j) (tb := ts) ha J h0 hl hs hd
/-- for a, b in xs, its items pairs -/
theorem q_forA2 {α β : Type} {P : Rp α} {P' : Rp β} {F : Hp} {xs : List (α × β)} {i1 i2 : Nat} {ts : TS} {n b k : St → Hp → Prop} {w : VK} {KK : PySem.W.Frag} (ha : All2 (rT2 P P' F) vs xs) (J : List (α × β) → St → Hp → Prop) (h0 : J xs σ H) (hl : ∀ r σ H, J r σ H → SqL K H a vs) (hx : ∀ r σ H, J r σ H → Ex F H)
    (hs : ∀ x y u v r σ H, P F u x → P' F v y → J ((x, y) :: r) σ H → ts (Ends.mk (J r) w n (J r)) ((σ.set i1 (some u)).set i2 (some v)) H) (hd : ∀ σ H, J [] σ H → n σ H) :
    ∃ W : Nat → Nat → St → Hp → Prop, (∃ m, W 0 m σ H) ∧ ∀ i m σ H, W i m σ H →
      ((Itl K a).stop i H ∧ n σ H) ∨ ((Itl K a).go i H ∧ ∃ N : St → Hp → Prop, (∀ σ' H', N σ' H' → ∃ m', m' < m ∧ W (i + 1) m' σ' H') ∧ ∀ x H', (Itl K a).yld i H x H' → gTup KK 2 (gCons (gName i1) (gCons (gName i2) gNil)) x σ H' fun σ2 H2 => ts (Ends.mk N w n N) σ2 H2) :=
  k_forA (D := Ends.mk n w (fun _ _ => False) fun _ _ => False) (g := gTup KK 2 (gCons (gName i1) (gCons (gName i2) gNil))) (tb := ts) ha J h0 hl (fun x v r σ H hv hJ => by
    obtain ⟨q, u1, u2, rfl, h1, h2, h3⟩ := hv
    exact ⟨q, _, rfl, SqT.of (hx _ _ _ hJ _ _ h1), rfl, u1, _, rfl, u2, _, rfl, rfl, hs x.1 x.2 u1 u2 r σ H h2 h3 hJ⟩) hd
theorem q_forEA {i1 i2 : Nat} {ts : TS} {n b k : St → Hp → Prop} {w : VK} {KK : PySem.W.Frag} (ha : All2 P vs xs) (J : List (Int × α) → St → Hp → Prop) (h0 : J (enumI 0 xs) σ H) (hl : ∀ r σ H, J r σ H → SqL K H a vs) (hx : ∀ r σ H H', J r σ H → Ex H H' → J r σ H')
    (hs : ∀ j x v r σ H, P v x → J ((j, x) :: r) σ H → ts (Ends.mk (J r) w n (J r)) ((σ.set i1 (some (.int j))).set i2 (some v)) H) (hd : ∀ σ H, J [] σ H → n σ H) :
    ∃ W : Nat → Nat → St → Hp → Prop, (∃ m, W 0 m σ H) ∧ ∀ i m σ H, W i m σ H →
      ((Ite K a).stop i H ∧ n σ H) ∨ ((Ite K a).go i H ∧ ∃ N : St → Hp → Prop, (∀ σ' H', N σ' H' → ∃ m', m' < m ∧ W (i + 1) m' σ' H') ∧ ∀ x H', (Ite K a).yld i H x H' → gTup KK 2 (gCons (gName i1) (gCons (gName i2) gNil)) x σ H' fun σ2 H2 => ts (Ends.mk N w n N) σ2 H2) := by
  refine ⟨fun i m σ H => m = xs.length - i ∧ i ≤ xs.length ∧ J ((enumI 0 xs).drop i) σ H, ⟨xs.length, by simp, Nat.zero_le _, h0⟩, ?_⟩
  rintro i m σ H ⟨rfl, hi, hJ⟩
  have hS := hl _ σ H hJ
  by_cases hlt : i < xs.length
  · have e : xs[i]? = some xs[i] := List.getElem?_eq_getElem hlt
    obtain ⟨v', e1, hv⟩ := ha.get e
    have e2 := enumI_drop xs 0 i xs[i] e
    rw [e2] at hJ
    refine .inr ⟨⟨_, _, hS, e1⟩, J ((enumI 0 xs).drop (i + 1)), fun σ' H' hJ' => ⟨_, by omega, rfl, hlt, hJ'⟩, fun y H' hy => ?_⟩
    obtain ⟨T, x, rfl, hT, rfl, hq⟩ := hy
    have hxx := hq _ hS
    rw [e1] at hxx
    cases hxx
    refine ⟨T, _, rfl, SqT.of upd_same, rfl, _, _, rfl, _, _, rfl, rfl, ?_⟩
    have hJ2 := hx _ _ _ (upd H T (.tup [.int ((i : Nat) : Int), v'])) hJ (Ex.new hT)
    have e3 : ((0 + i : Nat) : Int) = (i : Int) := by omega
    rw [e3] at hJ2
    exact hs _ _ _ _ _ _ hv hJ2
  · have e : (enumI 0 xs).drop i = [] := List.drop_eq_nil_of_le (by rw [enumI_len]; omega)
    rw [e] at hJ
    exact .inl ⟨⟨_, hS, by rw [ha.len]; omega⟩, hd σ H hJ⟩
/-! comprehensions over such -/
theorem k_lcA {g : TG} {tt : TT} {te : TE} {us : List Nat} {D : Addr} {Qd : Hp → Prop} (ha : All2 P vs xs) (J : List α → Hp → Prop) (h0 : J xs (upd H D (.lst []))) (hl : ∀ r H, J r H → SqL K H a vs)
    (hs : ∀ x v r H, P v x → J (x :: r) H → g v (wipe σ us) H fun σ2 H2 => wipe σ2 us = wipe σ us ∧ tt σ2 H2 fun b H3 => if b = true then te σ2 H3 fun y H4 => ∃ acc, H4 D = some (.lst acc) ∧ acc.length < sizeLine ∧ J r (upd H4 D (.lst (acc ++ [y]))) else J r H3) (hd : ∀ H, J [] H → Qd H) :
    ∃ W : Nat → Nat → Hp → Prop, (∃ m, W 0 m (upd H D (.lst []))) ∧ ∀ i m H, W i m H →
      ((Itl K a).stop i H ∧ Qd H) ∨ ((Itl K a).go i H ∧ ∃ Nx : Hp → Prop, (∀ H', Nx H' → ∃ m', m' < m ∧ W (i + 1) m' H') ∧ ∀ x H', (Itl K a).yld i H x H' → g x (wipe σ us) H' fun σ2 H2 => wipe σ2 us = wipe σ us ∧ tt σ2 H2 fun b H3 =>
        if b = true then te σ2 H3 fun y H4 => ∃ acc, H4 D = some (.lst acc) ∧ acc.length < sizeLine ∧ Nx (upd H4 D (.lst (acc ++ [y]))) else Nx H3) := by
  refine lc_list (xs := vs) (fun i H => J (xs.drop i) H) h0 (fun i H _ => hl _ H) (fun i v H hi hJ => ?_) fun H hJ => ?_
  · have hlt : i < xs.length := by
      rw [← ha.len]
      exact (List.getElem?_eq_some_iff.mp hi).1
    obtain ⟨v', e1, e2⟩ := ha.get (List.getElem?_eq_getElem hlt)
    rw [hi] at e1
    cases e1
    rw [List.drop_eq_getElem_cons hlt] at hJ
    exact hs _ v _ H e2 hJ
  · rw [ha.len, List.drop_length] at hJ
    exact hd H hJ
end
section
variable {α β : Type} [DecidableEq α] [DecidableEq β]
def optD (d : α → PyData) : Option α → PyData
  | none => .none
  | some x => d x
def deO {P : Rp α} (e : De P) (hn : ∀ a, PyData.eqv .none (e.d a) = false ∧ PyData.eqv (e.d a) .none = false) : De (rO P) where
  d := optD e.d
  dp := fun K F v x h => by
    cases x with
    | none => rw [show v = V.non from h]; exact .non
    | some y => exact e.dp K F v y h
  ok := fun x => by
    cases x with
    | none => rfl
    | some y => exact e.ok y
  n := e.n
  dep := fun x => by
    cases x with
    | none => exact Nat.zero_le _
    | some y => exact e.dep y
  eq := fun x y => by
    cases x with
    | none =>
      cases y with
      | none => simp [optD, PyData.eqv]
      | some b => simp only [optD]; rw [(hn b).1]; simp
    | some a =>
      cases y with
      | none => simp only [optD]; rw [(hn a).2]; simp
      | some b => simp only [optD]; rw [e.eq a b]; simp
def sumD (d : α → PyData) (f : β → PyData) : α ⊕ β → PyData
  | .inl x => d x
  | .inr x => f x
def deU {P : Rp α} {Q : Rp β} (e : De P) (f : De Q) (hn : ∀ a b, PyData.eqv (e.d a) (f.d b) = false ∧ PyData.eqv (f.d b) (e.d a) = false) : De (rU P Q) where
  d := sumD e.d f.d
  dp := fun K F v x h => by
    cases x with
    | inl y => exact e.dp K F v y h
    | inr y => exact f.dp K F v y h
  ok := fun x => by
    cases x with
    | inl y => exact e.ok y
    | inr y => exact f.ok y
  n := max e.n f.n
  dep := fun x => by
    cases x with
    | inl y => have := e.dep y; simp only [sumD]; omega
    | inr y => have := f.dep y; simp only [sumD]; omega
  eq := fun x y => by
    cases x with
    | inl a =>
      cases y with
      | inl b => simp only [sumD]; rw [e.eq a b]; simp
      | inr b => simp only [sumD]; rw [(hn a b).1]; simp
    | inr a =>
      cases y with
      | inl b => simp only [sumD]; rw [(hn b a).2]; simp
      | inr b => simp only [sumD]; rw [f.eq a b]; simp
end
section
variable {α : Type} [DecidableEq α] {P : Rp α} {K : PySem.W.Frag} {F F' H : Hp} {v : V} {x : α} {a : Addr} {vs : List V} {xs : List α} {Q : VK}
theorem any_mem (e : De P) (x : α) : ∀ xs : List α, ((xs.map e.d).any fun z => PyData.eqv z (e.d x)) = decide (x ∈ xs)
  | [] => rfl
  | y :: r => by
    rw [List.map_cons, List.any_cons, any_mem e x r, e.eq y x]
    by_cases h : y = x
    · subst h; simp
    · have h2 : ¬ x = y := fun q => h q.symm
      simp [h, h2]
theorem k_inN (e : De P) (m : Mono P) (h : e.n ≤ 60) (h1 : P F v x) (e1 : Ex F H) (hs : SqL K H a vs) (ha : All2 (P F') vs xs) (e2 : Ex F' H) (k : Q (.bl (decide (x ∈ xs))) H) : rInD K v (.ref a) H Q :=
  ⟨_, xs.map e.d, e.dp K H _ _ (m _ _ _ _ e1 h1), .lst hs (de_all e (mA m e2 ha)), sh_de e (by omega) x, sh_de (deL e) (by show e.n + 1 ≤ 64; omega) xs, by rw [any_mem]; exact k⟩
theorem k_niN (e : De P) (m : Mono P) (h : e.n ≤ 60) (h1 : P F v x) (e1 : Ex F H) (hs : SqL K H a vs) (ha : All2 (P F') vs xs) (e2 : Ex F' H) (k : Q (.bl (!decide (x ∈ xs))) H) : rNotInD K v (.ref a) H Q :=
  ⟨_, xs.map e.d, e.dp K H _ _ (m _ _ _ _ e1 h1), .lst hs (de_all e (mA m e2 ha)), sh_de e (by omega) x, sh_de (deL e) (by show e.n + 1 ≤ 64; omega) xs, by rw [any_mem]; exact k⟩
end
/-! the same where there are texts: whether they may be laid is asked -/
structure Dq {α : Type} [DecidableEq α] (P : Rp α) where
  d : α → PyData
  dp : ∀ (K : PySem.W.Frag) F v a, P F v a → Dp K F v (d a)
  n : Nat
  dep : ∀ a, PyData.depth (d a) ≤ n
  eq : ∀ a b, PyData.eqv (d a) (d b) = decide (a = b)
def okD {α : Type} (d : α → PyData) (x : α) : Option Unit := grd (PyData.canLay0 (d x) = true) ()
theorem okDE {α : Type} {d : α → PyData} {x : α} {u : Unit} (h : okD d x = some u) : PyData.canLay0 (d x) = true := (grdE h).1
section
variable {α β γ δ : Type} [DecidableEq α] [DecidableEq β] [DecidableEq γ] [DecidableEq δ]
def De.q {P : Rp α} (e : De P) : Dq P := ⟨e.d, e.dp, e.n, e.dep, e.eq⟩
def dqS : Dq rS where
  d := PyData.str
  dp := fun K F v a h => by rw [show v = V.str a from h]; exact .str a
  n := 0
  dep := fun _ => Nat.le_refl _
  eq := fun a b => by
    simp only [PyData.eqv]
    by_cases h : a = b
    · subst h; simp
    · rw [decide_eq_false h]; simpa using h
theorem dq_all {P : Rp α} (e : Dq P) {K : PySem.W.Frag} {F : Hp} : ∀ {vs : List V} {xs : List α}, All2 (P F) vs xs → DpAll K F vs (xs.map e.d)
  | _, _, .nil => .nil
  | _, _, .cons h t => .cons (e.dp K F _ _ h) (dq_all e t)
theorem dqdep_all {P : Rp α} (e : Dq P) : ∀ xs : List α, PyData.depthAll (xs.map e.d) ≤ e.n
  | [] => by simp [PyData.depthAll]
  | x :: r => by
    have h1 := e.dep x
    have h2 := dqdep_all e r
    simp only [List.map_cons, PyData.depthAll]
    omega
theorem dqeq_all {P : Rp α} (e : Dq P) : ∀ xs ys : List α, PyData.eqvAll (xs.map e.d) (ys.map e.d) = decide (xs = ys)
  | [], [] => by simp [PyData.eqvAll]
  | [], y :: s => by simp [PyData.eqvAll]
  | x :: r, [] => by simp [PyData.eqvAll]
  | x :: r, y :: s => by simp only [List.map_cons, PyData.eqvAll, e.eq x y, dqeq_all e r s, List.cons.injEq, Bool.decide_and]
def dqL {P : Rp α} (e : Dq P) : Dq (rL P) where
  d := fun xs => .list (xs.map e.d)
  dp := fun K F v xs ⟨p, vs, h1, h2, h3⟩ => by
    subst h1
    exact .lst (SqL.of h2) (dq_all e h3)
  n := e.n + 1
  dep := fun xs => by
    have := dqdep_all e xs
    simp only [PyData.depth]
    omega
  eq := fun xs ys => by simp only [PyData.eqv]; exact dqeq_all e xs ys
def dqT2 {P : Rp α} {Q : Rp β} (e : Dq P) (f : Dq Q) : Dq (rT2 P Q) where
  d := fun x => .tuple [e.d x.1, f.d x.2]
  dp := fun K F v x ⟨p, a, b, h1, h2, h3, h4⟩ => by
    subst h1
    exact .tup (SqT.of h2) (.cons (e.dp K F _ _ h3) (.cons (f.dp K F _ _ h4) .nil))
  n := max e.n f.n + 1
  dep := fun x => by
    have h1 := e.dep x.1
    have h2 := f.dep x.2
    simp only [PyData.depth, PyData.depthAll]
    omega
  eq := fun x y => by
    obtain ⟨x1, x2⟩ := x
    obtain ⟨y1, y2⟩ := y
    simp only [PyData.eqv, PyData.eqvAll, e.eq, f.eq, Prod.mk.injEq, Bool.decide_and, Bool.and_true]
def dqT3 {P : Rp α} {Q : Rp β} {R : Rp γ} (e : Dq P) (f : Dq Q) (g : Dq R) : Dq (rT3 P Q R) where
  d := fun x => .tuple [e.d x.1, f.d x.2.1, g.d x.2.2]
  dp := fun K F v x ⟨p, a, b, c, h1, h2, h3, h4, h5⟩ => by
    subst h1
    exact .tup (SqT.of h2) (.cons (e.dp K F _ _ h3) (.cons (f.dp K F _ _ h4) (.cons (g.dp K F _ _ h5) .nil)))
  n := max e.n (max f.n g.n) + 1
  dep := fun x => by
    have h1 := e.dep x.1
    have h2 := f.dep x.2.1
    have h3 := g.dep x.2.2
    simp only [PyData.depth, PyData.depthAll]
    omega
  eq := fun x y => by
    obtain ⟨x1, x2, x3⟩ := x
    obtain ⟨y1, y2, y3⟩ := y
    simp only [PyData.eqv, PyData.eqvAll, e.eq, f.eq, g.eq, Prod.mk.injEq, Bool.decide_and, Bool.and_true, Bool.and_assoc]
def dqO {P : Rp α} (e : Dq P) (hn : ∀ a, PyData.eqv .none (e.d a) = false ∧ PyData.eqv (e.d a) .none = false) : Dq (rO P) where
  d := optD e.d
  dp := fun K F v x h => by
    cases x with
    | none => rw [show v = V.non from h]; exact .non
    | some y => exact e.dp K F v y h
  n := e.n
  dep := fun x => by
    cases x with
    | none => exact Nat.zero_le _
    | some y => exact e.dep y
  eq := fun x y => by
    cases x with
    | none =>
      cases y with
      | none => simp [optD, PyData.eqv]
      | some b => simp only [optD]; rw [(hn b).1]; simp
    | some a =>
      cases y with
      | none => simp only [optD]; rw [(hn a).2]; simp
      | some b => simp only [optD]; rw [e.eq a b]; simp
def dqU {P : Rp α} {Q : Rp β} (e : Dq P) (f : Dq Q) (hn : ∀ a b, PyData.eqv (e.d a) (f.d b) = false ∧ PyData.eqv (f.d b) (e.d a) = false) : Dq (rU P Q) where
  d := sumD e.d f.d
  dp := fun K F v x h => by
    cases x with
    | inl y => exact e.dp K F v y h
    | inr y => exact f.dp K F v y h
  n := max e.n f.n
  dep := fun x => by
    cases x with
    | inl y => have := e.dep y; simp only [sumD]; omega
    | inr y => have := f.dep y; simp only [sumD]; omega
  eq := fun x y => by
    cases x with
    | inl a =>
      cases y with
      | inl b => simp only [sumD]; rw [e.eq a b]; simp
      | inr b => simp only [sumD]; rw [(hn a b).1]; simp
    | inr a =>
      cases y with
      | inl b => simp only [sumD]; rw [(hn b a).2]; simp
      | inr b => simp only [sumD]; rw [f.eq a b]; simp
end
section
variable {α : Type} [DecidableEq α] {P : Rp α} {K : PySem.W.Frag} {F F' H : Hp} {v w : V} {x y : α} {a : Addr} {vs : List V} {xs : List α} {Q : VK}
theorem sh_dq (e : Dq P) (h : e.n ≤ 64) {x : α} (hx : PyData.canLay0 (e.d x) = true) : SeqAt.shaped (e.d x) = true := by
  have h1 := e.dep x
  simp only [SeqAt.shaped, hx, Bool.true_and]
  exact decide_eq_true (by omega)
theorem k_eqQ (e : Dq P) (m : Mono P) (h : e.n ≤ 64) (hx : PyData.canLay0 (e.d x) = true) (hy : PyData.canLay0 (e.d y) = true) (h1 : P F v x) (e1 : Ex F H) (h2 : P F' w y) (e2 : Ex F' H) (k : Q (.bl (decide (x = y))) H) : rEqD K v w H Q :=
  ⟨_, _, e.dp K H _ _ (m _ _ _ _ e1 h1), e.dp K H _ _ (m _ _ _ _ e2 h2), sh_dq e h hx, sh_dq e h hy, by rw [e.eq]; exact k⟩
theorem k_neQ (e : Dq P) (m : Mono P) (h : e.n ≤ 64) (hx : PyData.canLay0 (e.d x) = true) (hy : PyData.canLay0 (e.d y) = true) (h1 : P F v x) (e1 : Ex F H) (h2 : P F' w y) (e2 : Ex F' H) (k : Q (.bl (!decide (x = y))) H) : rNeD K v w H Q :=
  ⟨_, _, e.dp K H _ _ (m _ _ _ _ e1 h1), e.dp K H _ _ (m _ _ _ _ e2 h2), sh_dq e h hx, sh_dq e h hy, by rw [e.eq]; exact k⟩
end
/-! what was told, changed by its asker -/
theorem exE {R : Hp} : Ex (fun _ => none) R := fun _ _ h => nomatch h
theorem ovr_fr {R0 Hb Hc R : Hp} (e : Ex Hb Hc) : Ex (ovr (fun _ => none) Hc R) (ovr R0 Hb R) := fun a o h => by
  obtain ⟨q, h1⟩ := ovr_some h
  refine ovr_mk (.inr ?_) h1
  rcases q with q | q
  · exact absurd rfl q
  · exact e.back q
theorem Own.poke {Rs R Hc H : Hp} {L : List Cell} {q : Addr} {o o' : HO} (O : Own R H L) (e : Ex Rs R) (hc : Ex Rs Hc) (hq : ovr (fun _ => none) Hc R q = some o) : Own Rs (upd H q o') L := by
  obtain ⟨c, h1⟩ := ovr_some hq
  have hcq : Hc q = none := by
    rcases c with c | c
    · exact absurd rfl c
    · exact c
  have hs : Rs q = none := hc.back hcq
  refine ⟨fun a u h => ?_, fun c hc' => ?_, fun c hc' => e.back (O.fr c hc'), O.nd⟩
  · rw [upd_ne (ne_of_none h hs)]
    exact O.ex _ _ (e _ _ h)
  · have : c.1 ≠ q := fun z => by
      have := O.fr c hc'
      rw [z, h1] at this
      cases this
    rw [upd_ne this]
    exact O.at_ c hc'
theorem Own.retX0 {R H Hc : Hp} {B C : List Cell} {D : DT} {Q : VK} (O : Own R H (B ++ C)) (m : MonoD D) (hc : Hc = hsub H B) (k : ∀ v H' R' L', Own R' H' (L' ++ C) → Ex R R' → D (ovr (fun _ => none) Hc R') v L' → Q v H') : RetX (fun _ => none) (hsub H B) D Q := fun v H' R' L' e O' d => by
  obtain ⟨R'', O'', e1, e2⟩ := O.back e O'
  subst hc
  refine k v H' R'' L' O'' e1 (m _ _ _ _ (fun a u h => ?_) d)
  obtain ⟨q, _⟩ := ovr_some h
  exact ovr_mk q (e2 _ exE _ _ h)
/-! isinstance of what is of one of several kinds -/
section
variable {α β γ δ : Type} {P : Rp α} {P' : Rp β} {P3 : Rp γ} {P4 : Rp δ} {K : PySem.W.Frag} {H : Hp} {v : V} {Q : VK} {u : Value}
def TyP (P : Rp α) (K : PySem.W.Frag) (u : Value) (f : α → Bool) : Prop := ∀ H v x, P H v x → ∃ t, TyX K H v t ∧ PySem.W.kitOne K t u = some (f x)
def sumB (f : α → Bool) (g : β → Bool) : α ⊕ β → Bool
  | .inl a => f a
  | .inr b => g b
theorem tyI {b : String} {r : Bool} (h : kitB "int" b = some r) : TyP rI K (.type b) (fun _ => r) := fun H v x hx => ⟨_, .base (by rw [show v = _ from hx]; exact .int _), kit_ty h⟩
theorem tyB {b : String} {r : Bool} (h : kitB "bool" b = some r) : TyP rB K (.type b) (fun _ => r) := fun H v x hx => ⟨_, .base (by rw [show v = _ from hx]; exact .bl _), kit_ty h⟩
theorem tyS {b : String} {r : Bool} (h : kitB "str" b = some r) : TyP rS K (.type b) (fun _ => r) := fun H v x hx => ⟨_, .base (by rw [show v = _ from hx]; exact .str _), kit_ty h⟩
theorem tyL {b : String} {r : Bool} (h : kitB "list" b = some r) : TyP (rL P) K (.type b) (fun _ => r) := fun H v x hx => by
  obtain ⟨p, vs, rfl, h1, _⟩ := hx
  exact ⟨_, .base (.lst h1), kit_ty h⟩
theorem tyT2 {b : String} {r : Bool} (h : kitB "tuple" b = some r) : TyP (rT2 P P') K (.type b) (fun _ => r) := fun H v x hx => by
  obtain ⟨p, _, _, rfl, h1, _⟩ := hx
  exact ⟨_, .base (.tup h1), kit_ty h⟩
theorem tyT3 {b : String} {r : Bool} (h : kitB "tuple" b = some r) : TyP (rT3 P P' P3) K (.type b) (fun _ => r) := fun H v x hx => by
  obtain ⟨p, _, _, _, rfl, h1, _⟩ := hx
  exact ⟨_, .base (.tup h1), kit_ty h⟩
theorem tyU {f : α → Bool} {g : β → Bool} (h1 : TyP P K u f) (h2 : TyP P' K u g) : TyP (rU P P') K u (sumB f g) := fun H v x hx => by
  cases x with
  | inl a => exact h1 H v a hx
  | inr b => exact h2 H v b hx
theorem k_isU {b : String} {f : α → Bool} (h : TyP P K u f) {x : α} (hx : P H v x) (q : Q (.bl (f x)) H) (hu : u = .type b := by rfl) : rIsi K [v, .ty b] H Q := by
  obtain ⟨t, h1, h2⟩ := h H v x hx
  subst hu
  exact ⟨v, _, t, _, _, rfl, .ty _, h1, h2, q⟩
end
/-! the number of a refusal in hand -/
def atE (k : Ek) (e : Er) : Option Int := match k, e with
  | .NoWire, .NoWire i => some i
  | .NoRow, .NoRow i => some i
  | _, _ => none
theorem o_xf {a : Addr} {cls : Value} {d : Option Addr} {C : Addr} {f : Str} {te : TE} {σ : St} {H : Hp} {Q : VK} (h : te σ H fun x H1 => x = .ref a ∧ cls = .ref C ∧ ∃ (dd : Addr) (fs : List (Str × V)) (v : V), d = some dd ∧ H1 dd = some (.xd fs) ∧ fs.lookup f = some v ∧ Q v H1) : tXf a cls d C f te σ H Q := h
theorem k_xfNoWire {es : Eds} {e : Er} {n : Int} {a : Addr} {cls : Value} {d : Option Addr} {H : Hp} {Q : VK} (h : atE .NoWire e = some n) (hx : XFl e d H) (hc : cls = .ref (es.at e.k)) (q : Q (.int n) H) :
    V.ref a = .ref a ∧ cls = .ref es.NoWire ∧ ∃ (dd : Addr) (fs : List (Str × V)) (v : V), d = some dd ∧ H dd = some (.xd fs) ∧ fs.lookup ("at" : Str) = some v ∧ Q v H := by
  cases e with
  | NoWire i =>
    cases h
    obtain ⟨x, h1, h2⟩ := hx
    exact ⟨rfl, hc, x, _, _, h1, h2, lk_hit, q⟩
  | _ => cases h
theorem k_xfNoRow {es : Eds} {e : Er} {n : Int} {a : Addr} {cls : Value} {d : Option Addr} {H : Hp} {Q : VK} (h : atE .NoRow e = some n) (hx : XFl e d H) (hc : cls = .ref (es.at e.k)) (q : Q (.int n) H) :
    V.ref a = .ref a ∧ cls = .ref es.NoRow ∧ ∃ (dd : Addr) (fs : List (Str × V)) (v : V), d = some dd ∧ H dd = some (.xd fs) ∧ fs.lookup ("word" : Str) = some v ∧ Q v H := by
  cases e with
  | NoRow i =>
    cases h
    obtain ⟨x, h1, h2⟩ := hx
    exact ⟨rfl, hc, x, _, _, h1, h2, lk_hit, q⟩
  | _ => cases h
theorem o_yes {A B : Hp → Prop} {σ : St} {H : Hp} (h : A H) : tYes σ H (fun b H3 => if b = true then A H3 else B H3) := by
  show if true = true then A H else B H
  rw [if_pos rfl]
  exact h
/-! a if c else b, any value -/
theorem x_ifP {c : Bool} {tt : TT} {ta tb : TE} {σ : St} {H : Hp} {Q : VK} (J0 : Hp → Prop) (J : V → Hp → Prop) (h1 : ∀ Q1 : Bool → Hp → Prop, (∀ H', J0 H' → Q1 c H') → tt σ H Q1) (h2 : c = true → ∀ H', J0 H' → ∀ Q2 : VK, (∀ v H'', J v H'' → Q2 v H'') → ta σ H' Q2)
    (h3 : c = false → ∀ H', J0 H' → ∀ Q2 : VK, (∀ v H'', J v H'' → Q2 v H'') → tb σ H' Q2) (k : ∀ v H', J v H' → Q v H') : tIf tt ta tb σ H Q := by
  refine h1 _ fun H' O' => ?_
  cases c with
  | true => exact h2 rfl H' O' Q k
  | false => exact h3 rfl H' O' Q k
end Bt

namespace Bt
open PySem L2
/-! a list of objects whose items stay these -/
section
variable {α : Type} {B : Ob α} {F R H : Hp} {vs : List V} {a b : Addr} {A L L1 C : List Cell} {xs ys : List α} {x : α} {i : Int} {w : V} {K : PySem.W.Frag} {Q : VK}
def oLv {α : Type} (vs : List V) (B : Ob α) : Ob (List α) := fun F a L xs => ∃ as Ls, vs = as.map V.ref ∧ L.Perm ((a, HO.lst vs) :: Ls.flatten) ∧ All3 (B F) as Ls xs
theorem moLv (m : MonoO B) : MonoO (oLv vs B) := fun _ _ _ _ _ e ⟨as, Ls, h0, h1, h2⟩ => ⟨as, Ls, h0, h1, h2.mp fun _ _ _ h => m _ _ _ _ _ e h⟩
theorem oLs.fix (h : oLs B F a L xs) : ∃ vs, oLv vs B F a L xs := by
  obtain ⟨as, Ls, h1, h2⟩ := h
  exact ⟨_, as, Ls, rfl, h1, h2⟩
theorem oLv.un (h : oLv vs B F a L xs) : oLs B F a L xs := by
  obtain ⟨as, Ls, rfl, h1, h2⟩ := h
  exact ⟨as, Ls, h1, h2⟩
theorem oLv.len (h : oLv vs B F a L xs) : vs.length = xs.length := by
  obtain ⟨as, Ls, rfl, h1, h2⟩ := h
  rw [List.length_map, h2.len]
theorem oLv.at (O : Own R H C) (h : oLv vs B F a L xs) (hs : ∀ c ∈ L, c ∈ C) : H a = some (.lst vs) := by
  obtain ⟨as, Ls, _, h1, _⟩ := h
  exact O.mem (hs _ (h1.mem_iff.mpr (List.Mem.head _)))
theorem oLv.isref (h : oLv vs B F a L xs) (hw : atI vs i = some w) : ∃ b, w = .ref b := by
  obtain ⟨as, Ls, rfl, _, _⟩ := h
  unfold atI at hw
  cases e : ixN (as.map V.ref).length i with
  | none => rw [e] at hw; cases hw
  | some j =>
    rw [e] at hw
    have hw : (as.map V.ref)[j]? = some w := hw
    rw [List.getElem?_map] at hw
    cases e2 : as[j]? with
    | none => rw [e2] at hw; cases hw
    | some b => rw [e2] at hw; exact ⟨b, (Option.some.inj hw).symm⟩
theorem All2.of_get {α β : Type} {P : α → β → Prop} : ∀ {as : List α} {bs : List β}, as.length = bs.length → (∀ (i : Nat) (a : α) (b : β), as[i]? = some a → bs[i]? = some b → P a b) → All2 P as bs
  | [], [], _, _ => .nil
  | a :: as, b :: bs, h, k => .cons (k 0 a b rfl rfl) (All2.of_get (by simpa using h) fun i x y hx hy => k (i + 1) x y (by simpa using hx) (by simpa using hy))
theorem ixs_of (vs : List V) {n : Nat} (h : vs.length = n) : All2 (fun v (i : Int) => atI vs i = some v) vs (rangeI 0 (n : Int)) := by
  subst h
  refine All2.of_get (by simp [rangeI]) fun j v i hv hi => ?_
  have hj : j < vs.length := (List.getElem?_eq_some_iff.mp hv).1
  have : (rangeI 0 (vs.length : Int))[j]? = some (j : Int) := by
    unfold rangeI
    rw [List.getElem?_map, show ((vs.length : Int) - 0).toNat = vs.length by omega, List.getElem?_range hj]
    simp
  rw [this] at hi
  cases hi
  unfold atI ixN
  rw [if_pos (by omega), if_pos (by omega)]
  simpa using hv
theorem Own.lsAtV (m : MonoO B) (O : Own R H (A ++ (L ++ C))) (h : oLv vs B F a L xs) (e : atI xs i = some x) (hw : atI vs i = some (.ref b)) :
    ∃ (L1 L2 : List Cell), B F b L1 x ∧ (L1 ++ L2).Perm L ∧ Own R H (A ++ (L1 ++ (L2 ++ C))) ∧ (∀ F' L1' x', Ex F F' → B F' b L1' x' → ∀ ys, setG xs i x' = some ys → oLv vs B F' a (L1' ++ L2) ys) ∧ ∀ F' L1', Ex F F' → B F' b L1' x → oLv vs B F' a (L1' ++ L2) xs := by
  obtain ⟨as, Ls, rfl, hp, h3⟩ := h
  unfold atI at e
  cases ej : ixN xs.length i with
  | none => rw [ej] at e; cases e
  | some j =>
    rw [ej] at e
    obtain ⟨b', L1, bs1, bs2, h4, h5, h6, h7⟩ := h3.at e
    subst h6
    have hbb : b' = b := by
      unfold atI at hw
      rw [List.length_map, h3.len, ej] at hw
      have hw : (as.map V.ref)[j]? = some (.ref b) := hw
      rw [List.getElem?_map, h4] at hw
      exact V.ref.inj (Option.some.inj hw)
    subst hbb
    have hp2 : L.Perm (L1 ++ ((a, HO.lst (as.map V.ref)) :: (bs1.flatten ++ bs2.flatten))) := by
      refine hp.trans ?_
      rw [List.flatten_append, List.flatten_cons]
      refine List.Perm.trans ?_ (List.perm_middle.symm)
      refine List.Perm.cons _ ?_
      rw [← List.append_assoc, ← List.append_assoc]
      exact List.Perm.append_right _ List.perm_append_comm
    have cl : ∀ F' L1' x', Ex F F' → B F' b' L1' x' → oLv (as.map V.ref) B F' a (L1' ++ ((a, HO.lst (as.map V.ref)) :: (bs1.flatten ++ bs2.flatten))) (xs.set j x') := fun F' L1' x' ex hb => by
      refine ⟨as, bs1 ++ L1' :: bs2, rfl, ?_, h7 _ L1' x' (fun _ _ _ h => m _ _ _ _ _ ex h) hb⟩
      rw [List.flatten_append, List.flatten_cons]
      refine List.perm_middle.trans ?_
      refine List.Perm.cons _ ?_
      rw [← List.append_assoc, ← List.append_assoc]
      exact List.Perm.append_right _ List.perm_append_comm
    refine ⟨L1, (a, HO.lst (as.map V.ref)) :: (bs1.flatten ++ bs2.flatten), h5, hp2.symm, O.perm ?_, fun F' L1' x' ex hb ys hy => ?_, fun F' L1' ex hb => ?_⟩
    · refine List.Perm.append_left _ ?_
      rw [← List.append_assoc]
      exact List.Perm.append_right _ hp2
    · unfold setG at hy
      rw [ej] at hy
      cases hy
      exact cl F' L1' x' ex hb
    · have := cl F' L1' x ex hb
      have e2 : xs.set j x = xs := by
        obtain ⟨h8, h9⟩ := List.getElem?_eq_some_iff.mp (show xs[j]? = some x from e)
        rw [← h9]
        exact List.set_getElem_self h8
      rw [e2] at this
      exact this
def inL {α : Type} [DecidableEq α] (x : α) (xs : List α) : Bool := decide (x ∈ xs)
section
variable {α : Type} [DecidableEq α] {P : Rp α} {F F' H : Hp} {K : PySem.W.Frag} {v : V} {x : α} {xs : List α} {vs : List V} {a : Addr} {Q : VK}
theorem k_inJ (e : De P) (m : Mono P) (h : e.n ≤ 60) (h1 : P F v x) (e1 : Ex F H) (hs : SqL K H a vs) (ha : All2 (P F') vs xs) (e2 : Ex F' H) (k : Q (.bl (inL x xs)) H) : rInD K v (.ref a) H Q := k_inN e m h h1 e1 hs ha e2 k
theorem k_niJ (e : De P) (m : Mono P) (h : e.n ≤ 60) (h1 : P F v x) (e1 : Ex F H) (hs : SqL K H a vs) (ha : All2 (P F') vs xs) (e2 : Ex F' H) (k : Q (.bl (!inL x xs)) H) : rNotInD K v (.ref a) H Q := k_niN e m h h1 e1 hs ha e2 k
end
theorem pe_fld2 {X : Cx} {K : PySem.W.Frag} {e : PySem.Expr} {f : Str} {pos : PySem.Pos} {ta : TE} (hK : X.K = K) (he : PE X e ta) (hb : attributeBase e f X.env (eval e X.env) = eval e X.env) : PE X (.Attribute e f pos) (tFld K ta f) := by
  subst hK
  exact pe_fld he hb
theorem k_clrA {g : HO → List Cell} (hl : H a = some (.lst vs)) (hp : ∀ o', Own R (upd H a o') (g o')) (k : ∀ H', Own R H' (g (.lst [])) → Q .non H') : rClear (.ref a) [] H Q :=
  ⟨a, _, rfl, rfl, hl, k _ (hp _)⟩
abbrev tLs (t : TA) : TE := fun σ H Q => t σ H fun xs H1 => rNewL xs H1 Q
theorem pe_lst2 {X : Cx} {es : List PySem.Expr} {t : TA} {pos : PySem.Pos} (h : PE X (.List es pos) (tLst t)) : PE X (.List es pos) (tLs t) := pe_lstQ h
/-! len and append -/
theorem oLs.sq (O : Own R H C) (h : oLs B F a L xs) (hs : ∀ c ∈ L, c ∈ C) : ∃ vs, SqL K H a vs ∧ vs.length = xs.length := by
  obtain ⟨vs, hv⟩ := h.fix
  exact ⟨vs, SqL.of (hv.at O hs), hv.len⟩
theorem n_lenO (h : ∃ vs, SqL K H a vs ∧ vs.length = xs.length) (k : Q (.int (xs.length : Int)) H) : rLenQ K [.ref a] H Q := by
  obtain ⟨vs, hs, hl⟩ := h
  unfold rLenQ
  exact ⟨a, vs, rfl, .inl hs, by rw [hl]; exact k⟩
theorem All3.snoc {α β γ : Type} {P : α → β → γ → Prop} {as : List α} {bs : List β} {cs : List γ} {a : α} {b : β} {c : γ} (h : All3 P as bs cs) (k : P a b c) : All3 P (as ++ [a]) (bs ++ [b]) (cs ++ [c]) := by
  induction h with
  | nil => exact .cons k .nil
  | cons h _ ih => exact .cons h ih
theorem k_appO (O : Own R H (L ++ (L1 ++ C))) (h : oLs B F a L xs) (hb : B F b L1 x) (e : appG xs x = some ys) (k : ∀ H' L', Own R H' (L' ++ C) → oLs B F a L' ys → Q .non H') : rAppend (.ref a) [.ref b] H Q := by
  obtain ⟨c, rfl⟩ := grdE e
  obtain ⟨as, Ls, hp, h3⟩ := h
  have O1 : Own R H ((a, HO.lst (as.map V.ref)) :: (Ls.flatten ++ (L1 ++ C))) := O.perm (List.Perm.append_right _ hp)
  refine ⟨a, _, _, rfl, rfl, O1.mem (List.Mem.head _), by rw [List.length_map, h3.len]; exact c, k _ ((a, HO.lst (as.map V.ref ++ [.ref b])) :: (Ls.flatten ++ L1)) ?_ ?_⟩
  · have O2 := O1.put0 (o' := HO.lst (as.map V.ref ++ [.ref b]))
    refine O2.perm ?_
    rw [List.cons_append, List.append_assoc]
  · refine ⟨as ++ [b], Ls ++ [L1], ?_, h3.snoc hb⟩
    rw [List.map_append, List.flatten_append, List.flatten_singleton]
    exact List.Perm.refl _
end
end Bt

set_option Elab.async false
set_option linter.all false
set_option maxRecDepth 100000
set_option maxHeartbeats 4000000
/-! What is refused, kept beyond its suite. -/
namespace Bt
open PySem L2 PyProof.Rows
/-- an exception that stays: its class and its dict are known -/
def ExH (a : Addr) (cls : Value) (d : Option Addr) : HO := .ext fun h => ∃ (oe : Obj) (vs : Array Value), h.get? a = some oe ∧ L2N.Zn cls d oe ∧ oe.data = .fields vs
section
variable {X : Cx} {pins : List (Addr × Obj)} {σ : L2.St} {H : Hp} {s : Shared} {a : Addr} {oe : Obj} {cls : Value} {d : Option Addr}
theorem inv_layX (I : Inv X pins σ H s) (he : s.heap.get? a = some oe) (hz : L2N.Zn cls d oe) (hd : ∃ vs, oe.data = .fields vs) (na : H a = none) (n0 : X.s_0.heap.get? a = none) (np : ∀ p ∈ X.pn ++ pins, p.1 ≠ a) (nL : a ≠ X.env.locals) : Inv X pins σ (upd H a (ExH a cls d)) s := by
  obtain ⟨vs, hv⟩ := hd
  have nb : ∀ b o, X.s_0.heap.get? b = some o → b ≠ a := fun b o e z => by
    rw [z, n0] at e
    cases e
  have nh : ∀ b o, H b = some o → b ≠ a := fun b o e z => by
    rw [z, na] at e
    cases e
  refine ⟨I.ok, I.os, I.bare, ⟨I.base.keep, I.base.slot, fun b o e n hx => ?_, I.base.there, fun b xs e => ?_, fun b o u e => ?_, fun b ps e => ?_⟩, I.loc, I.cell, ?_, fun x c e => ?_, fun p hp => ?_, fun b o e => ?_, I.len⟩
  · rw [upd_ne (nb b o e)]
    exact I.base.free b o e n hx
  · have q := I.base.tups b xs e
    rw [upd_ne (nh _ _ q)]
    exact q
  · have q := I.base.frzs b o u e
    rw [upd_ne (nh _ _ q)]
    exact q
  · obtain ⟨more, q⟩ := I.base.tbls b ps e
    refine ⟨more, ?_⟩
    rw [upd_ne (nh _ _ q)]
    exact q
  · rw [upd_ne (Ne.symm nL)]
    exact I.free
  · have : c ≠ a := fun z => by
      obtain ⟨v, o, ho, hdd⟩ := I.cell x c e
      rw [z, he] at ho
      cases ho
      rw [hv] at hdd
      cases hdd
    rw [upd_ne this]
    exact I.freeC x c e
  · obtain ⟨p1, p2, p3⟩ := I.pin p hp
    refine ⟨p1, ?_, p3⟩
    rw [upd_ne (np p hp)]
    exact p2
  · by_cases z : b = a
    · subst z
      rw [upd_same] at e
      cases e
      refine ⟨⟨oe, vs, he, hz, hv⟩, ⟨oe, he⟩, fun h1 h2 ⟨o', vs', e1, e2, e3⟩ hk => ⟨o', vs', hk _ e1, e2, e3⟩⟩
    · rw [upd_ne z] at e
      refine (I.hok b o e).stay (fun _ _ _ h => h) (fun c h => ?_) fun c xs h => ?_
      · rw [upd_ne (nh _ _ h)]
        exact h
      · rw [upd_ne (nh _ _ h)]
        exact h
end
/-! ### try with clauses of all three sorts: without a name, with one, with one whose exception stays -/
/-- an exception in hand, the clauses ahead of it -/
structure Grip (X : Cx) (pins : List (Addr × Obj)) (σ : L2.St) (H : Hp) (a : Addr) (cls : Value) (d : Option Addr) (B : Heap) (t s : Shared) : Prop where
  src : Inv X pins σ H t
  nb : ∀ b o, t.heap.get? b = some o → b ∉ frs X.stack → B.get? b = some o
  up : t.heap.UpToSlots s.heap
  os : s.os = t.os
  ag : AllBare s.gens
  fl : HandSPX.FlyingZ B X.stack a (L2N.Zn cls d) s.heap
  na : H a = none
section
variable {X : Cx} {pins : List (Addr × Obj)} {σ : L2.St} {H : Hp} {a : Addr} {cls : Value} {d : Option Addr} {B : Heap} {t s : Shared}
theorem Grip.on (g : Grip X pins σ H a cls d B t s) {h : Heap} (f : HandSPX.FlyingZ B X.stack a (L2N.Zn cls d) h) (u : s.heap.UpToSlots h) : Grip X pins σ H a cls d B t { s with heap := h } :=
  ⟨g.src, g.nb, g.up.trans u, g.os, g.ag, f, g.na⟩
theorem Grip.inv (g : Grip X pins σ H a cls d B t s) : Inv X pins σ H s := g.src.landed g.nb g.fl.1 g.up g.os g.ag
theorem Grip.off (g : Grip X pins σ H a cls d B t s) : a ∉ frs X.stack := fun m => by
  obtain ⟨oe, vs, e1, _, e2⟩ := g.fl.there
  obtain ⟨_, o, e3, nf⟩ := g.fl.2.2.1.mem m
  rw [e1] at e3
  exact nf vs (by cases e3; exact e2)
theorem Grip.new (g : Grip X pins σ H a cls d B t s) : t.heap.get? a = none := by
  have z := g.fl.2.1
  cases q : t.heap.get? a with
  | none => rfl
  | some o =>
    rw [g.nb a o q g.off] at z
    cases z
theorem Grip.new0 (g : Grip X pins σ H a cls d B t s) (hex : X.ex = []) : X.s_0.heap.get? a = none := by
  cases q : X.s_0.heap.get? a with
  | none => rfl
  | some o =>
    have hx : a ∉ X.ex := by
      rw [hex]
      exact List.not_mem_nil
    obtain ⟨o2, q2⟩ := g.src.base.there a o q hx
    rw [g.new] at q2
    cases q2
theorem Grip.nopin (g : Grip X pins σ H a cls d B t s) : ∀ p ∈ X.pn ++ pins, p.1 ≠ a := fun p m z => by
  have q := (g.src.pin p m).1
  rw [z, g.new] at q
  cases q
theorem Grip.nL (g : Grip X pins σ H a cls d B t s) (hs : X.stack = X.env :: X.outer) (hf : X.env.frame = some X.env.locals) : a ≠ X.env.locals := fun z =>
  g.off (by rw [hs]; exact List.mem_filterMap.mpr ⟨_, List.Mem.head _, by rw [hf, z]⟩)
theorem Grip.nF (g : Grip X pins σ H a cls d B t s) (hs : X.stack = X.env :: X.outer) : a ∉ X.fs := fun m => by
  obtain ⟨e, m1, m2⟩ := List.mem_filterMap.mp m
  exact g.off (by rw [hs]; exact List.mem_filterMap.mpr ⟨e, List.Mem.tail _ m1, m2⟩)
/-- the suite's own state -/
theorem Grip.within (g : Grip X pins σ H a cls d B t s) (hs : X.stack = X.env :: X.outer) (hf : X.env.frame = some X.env.locals) : ∃ oe, L2N.Zn cls d oe ∧ (∃ vs, oe.data = .fields vs) ∧ s.heap.get? a = some oe ∧ Inv (X.suite a ((a, oe) :: (X.pn ++ pins))) [] σ H s := by
  obtain ⟨oe, vs, e1, e2, e3⟩ := g.fl.there
  exact ⟨oe, e2, ⟨vs, e3⟩, e1, g.inv.suite e1 e3 g.na (g.nL hs hf) (g.nF hs)⟩
/-- no clause takes it -/
theorem Grip.out (g : Grip X pins σ H a cls d B t s) (hf : X.env.frame = some X.env.locals) {W : WX} (tk : L2N.Takes X W) (w : W cls d σ H) {Q : Flow → Shared → Prop} : wpAny (model X.prog X.w) X.A (handleBy (.ref a) X.env []) Q X.xe s := by
  obtain ⟨_, _, _, oe, vs, T, oT, ts, e1, _, e3, e4, _⟩ := id g.fl
  refine wpAny_handleBy_nil ?_
  unfold PySem.passOn
  refine wpAny_bind (wpAny_field e1 e3 e4 ?_)
  rw [if_neg (by simp)]
  have last : wpAny (model X.prog X.w) X.A (setFlight (.ref a) X.env.frame) (fun _ s2 => wpAny (model X.prog X.w) X.A (throw (.ref a) : Sem Flow) Q X.xe s2) X.xe s := by
    rw [hf]
    exact HandSPX.setFlight_upZ g.fl fun h1 k1 k2 => wpAny_throw (tk _ _ ⟨a, B, t, pins, σ, H, cls, d, rfl, g.src, g.nb, g.up.trans k2, .inr (.inr k1), g.na, g.os, g.ag, w⟩)
  first
    | exact wpAny_bind (wpAny_pure (wpAny_bind last))
    | exact wpAny_bind last
/-- is it of a clause's class? -/
theorem Grip.ask (g : Grip X pins σ H a cls d B t s) (hs : X.stack = X.env :: X.outer) (hf : X.env.frame = some X.env.locals) {x : Str} {c : Value} {np pos : Pos} {b : Bool} (hc : Names X x c) (hb : PySem.W.exmOne X.K cls c = some b) {R : Except Value Flow → Shared → Prop} (q : R (.ok (if b then .brk else .next)) s) :
    codeAny (model X.prog X.w) (X.A.mark (some (.ref a))) (.handlers (.ref a) [.ExceptHandler (some (.Name x np)) none [] pos] X.env) R s := by
  obtain ⟨oe, z, _, e1, S⟩ := g.within hs hf
  have what : PySem.W.Looks (model X.prog X.w) s.heap (typeOf (.ref a)) cls := fun A Q E s' k q' => wpAny_typeOf_ref (k _ _ e1) (by rw [z.1]; exact q')
  have hit := PySem.W.exm_one (M := model X.prog X.w) g.inv.kIn what hb
  refine codeAny_handlers_test ?_
  obtain ⟨h1, h2, h3⟩ := hc
  rcases h3 with h3 | ⟨h3, h4, h5⟩
  · exact ld_glob (X := X.suite a ((a, oe) :: (X.pn ++ pins))) S h1 h3 (hit.here q) h2
  · exact ld_blt (X := X.suite a ((a, oe) :: (X.pn ++ pins))) S h1 h3 h4 (hit.here q) h5 h2
end
/-- what stands behind a clause's suite; m: its name's slot, and whether the exception stays -/
abbrev behindC (D : Ends) : Option (Nat × Bool) → Addr → Value → Option Addr → Ends
  | none, _, _, _ => D
  | some (i, false), _, _, _ => { nx := fun σ H => D.nx (σ.set i none) H, rt := D.rt, bk := fun σ H => D.bk (σ.set i none) H, ct := fun σ H => D.ct (σ.set i none) H }
  | some (i, true), a, cls, d => { nx := fun σ H => H a = none → D.nx (σ.set i none) (upd H a (ExH a cls d)), rt := D.rt, bk := fun σ H => D.bk (σ.set i none) H, ct := fun σ H => D.ct (σ.set i none) H }
abbrev slotC (σ : L2.St) : Option (Nat × Bool) → Addr → L2.St
  | none, _ => σ
  | some (i, _), a => σ.set i (some (.ref a))
abbrev Clauses := List (Value × Option (Nat × Bool) × (Addr → Value → Option Addr → TS))
def wCl (K : PySem.W.Frag) (Wout : WX) (D : Ends) : Clauses → WX
  | [] => Wout
  | (c, m, ts) :: r => fun cls d σ H => ∃ b, PySem.W.exmOne K cls c = some b ∧ (b = true → ∀ a, H a = none → ts a cls d (behindC D m a cls d) (slotC σ m a) H) ∧ (b = false → wCl K Wout D r cls d σ H)
abbrev SuiteOk (X : Cx) (ss : List Stmt) (ts : Addr → Value → Option Addr → TS) : Prop :=
  ∀ (a : Addr) (oe : Obj) (cls : Value) (d : Option Addr) (pn : List (Addr × Obj)), L2N.Zn cls d oe → (∃ vs, oe.data = .fields vs) → PSs (X.suite a ((a, oe) :: pn)) ss (ts a cls d)
inductive ClOk (X : Cx) : List ExceptHandler → Clauses → Prop
  | nil : ClOk X [] []
  | bare {x : Str} {c : Value} {ts : Addr → Value → Option Addr → TS} {b₀ : Stmt} {ss : List Stmt} {np pos : Pos} {hs : List ExceptHandler} {l : Clauses} (hc : Names X x c) (su : SuiteOk X (b₀ :: ss) ts) (r : ClOk X hs l) : ClOk X (.ExceptHandler (some (.Name x np)) none (b₀ :: ss) pos :: hs) ((c, none, ts) :: l)
  | named {x n : Str} {c : Value} {i : Nat} (k : Bool) {ts : Addr → Value → Option Addr → TS} {b₀ : Stmt} {ss : List Stmt} {np pos : Pos} {hs : List ExceptHandler} {l : Clauses} (hc : Names X x c) (hi : X.N[i]? = some n) (hl : X.env.kindOf n = some .local) (su : SuiteOk X (b₀ :: ss) ts) (r : ClOk X hs l) :
      ClOk X (.ExceptHandler (some (.Name x np)) (some n) (b₀ :: ss) pos :: hs) ((c, some (i, k), ts) :: l)
section
variable {X : Cx} {pins : List (Addr × Obj)} {σ : L2.St} {H : Hp} {a : Addr} {cls : Value} {d : Option Addr} {B : Heap} {t s : Shared} {D : Ends} {W : WX}
theorem clauses_run (hs : X.stack = X.env :: X.outer) (hf : X.env.frame = some X.env.locals) (hN : X.N.Nodup) (hex : X.ex = []) (tk : L2N.Takes X W) {hds : List ExceptHandler} {l : Clauses} (h : ClOk X hds l) :
    ∀ s, Grip X pins σ H a cls d B t s → wCl X.K W D l cls d σ H → wpAny (model X.prog X.w) X.A (handleBy (.ref a) X.env hds) (SP X pins D) X.xe s := by
  induction h with
  | nil => exact fun s g w => g.out hf tk w
  | bare hc su r ih =>
    rintro s g ⟨b, h1, h2, h3⟩
    refine wpAny_handleBy_cons (g.ask hs hf hc h1 ?_) (by intro z; cases z)
    cases b with
    | false => exact ih s g (h3 rfl)
    | true =>
      refine codeAny_handlers_suite (HandSPX.lands_againZ g.fl fun h4 f4 u4 => ?_)
      have g := g.on f4 u4
      obtain ⟨oe, z1, z2, _, S⟩ := g.within hs hf
      refine wpAny_mono ((su a oe cls d (X.pn ++ pins) z1 z2).run [] _ _ H _ S (h2 rfl a g.na)) (fun f s6 e => ?_) (fun _ _ z => False.elim z)
      cases f with
      | ret u => exact (fun ⟨v, σ6, H6, S6, r6, q6⟩ => ⟨v, σ6, H6, S6.unsuite g.src.ok, r6, q6⟩) e
      | _ => exact (fun ⟨σ6, H6, S6, q6⟩ => ⟨σ6, H6, S6.unsuite g.src.ok, q6⟩) e
  | named k hc hi hl su r ih =>
    rintro s g ⟨b, h1, h2, h3⟩
    refine wpAny_handleBy_cons (g.ask hs hf hc h1 ?_) (by intro z; cases z)
    cases b with
    | false => exact ih s g (h3 rfl)
    | true =>
      refine codeAny_handlers_suite_as (HandSPX.lands_againZ g.fl fun h4 f4 u4 => ?_)
      have g := g.on f4 u4
      obtain ⟨oe, z1, z2, _, S⟩ := g.within hs hf
      refine store_ok (X := X.suite a ((a, oe) :: (X.pn ++ pins))) (v := .ref a) S hN hi (.inl hl) rfl (fun s5 S5 => ?_) (.inr hl)
      have q0 := h2 rfl a g.na
      have ok := g.src.ok
      cases k with
      | false =>
        refine wpAny_mono ((su a oe cls d (X.pn ++ pins) z1 z2).run [] s5 _ H _ S5 q0) (fun f s6 e => ?_) (fun _ _ z => False.elim z)
        cases f with
        | ret u => exact (fun ⟨v, σ6, H6, S6, r6, q6⟩ => gone_ok (S6.unsuite ok) hN hi hl fun s7 J => ⟨v, _, H6, J, r6, q6⟩) e
        | _ => exact (fun ⟨σ6, H6, S6, q6⟩ => gone_ok (S6.unsuite ok) hN hi hl fun s7 J => ⟨_, H6, J, q6⟩) e
      | true =>
        refine wpAny_mono ((su a oe cls d (X.pn ++ pins) z1 z2).run [] s5 _ H _ S5 q0) (fun f s6 e => ?_) (fun _ _ z => False.elim z)
        cases f with
        | next =>
          obtain ⟨σ6, H6, S6, q6⟩ := e
          obtain ⟨p1, p2, _⟩ := S6.pin (a, oe) (List.mem_append_left _ (List.Mem.head _))
          exact gone_ok (inv_layX (S6.unsuite ok) p1 z1 z2 p2 (g.new0 hex) g.nopin (g.nL hs hf)) hN hi hl fun s7 J => ⟨_, _, J, q6 p2⟩
        | ret u => exact (fun ⟨v, σ6, H6, S6, r6, q6⟩ => gone_ok (S6.unsuite ok) hN hi hl fun s7 J => ⟨v, _, H6, J, r6, q6⟩) e
        | brk => exact (fun ⟨σ6, H6, S6, q6⟩ => gone_ok (S6.unsuite ok) hN hi hl fun s7 J => ⟨_, H6, J, q6⟩) e
        | cont => exact (fun ⟨σ6, H6, S6, q6⟩ => gone_ok (S6.unsuite ok) hN hi hl fun s7 J => ⟨_, H6, J, q6⟩) e
/-- try: .. except ..: .. -/
theorem ps_tryC {body : List Stmt} {h₀ : ExceptHandler} {hds : List ExceptHandler} {l : Clauses} {pos : Pos} {tb : WX → TS} (hs : X.stack = X.env :: X.outer) (hf : X.env.frame = some X.env.locals) (hN : X.N.Nodup) (hex : X.ex = []) (tk : L2N.Takes X W)
    (hb : ∀ (W : WX) (pn : List (Addr × Obj)) (xe : Value → Shared → Prop), L2N.Takes (X.tr pn xe) W → PassesOwn (model X.prog X.w) X.A X.env xe → PSs (X.tr pn xe) body (tb W))
    (hh : ClOk X (h₀ :: hds) l) : PS X (.Try body (h₀ :: hds) [] [] pos) (fun D σ H => tb (wCl X.K W D l) D σ H) := by
  refine ⟨fun pins s σ H D I h => wpAny_Try_except (wpAny_mono ((hb (wCl X.K W D l) (X.pn ++ pins) _ (fun u s2 x => ?_) PassesOwn.looking).run [] s σ H D (I.toTry _) h) (fun f s2 e => ?_) fun _ _ z => z)⟩
  · obtain ⟨a, B, t, pins', σ', H', cls, d, rfl, J, nb, up, sky, na, os, ag, w⟩ := x
    have fr : X.A.frames = some (X.env :: X.outer) := by rw [I.ok.frames, hs]
    have sky2 : Sky B (X.env :: X.outer) a (L2N.Zn cls d) X.env.locals s2.heap := by rw [← hs]; exact sky
    exact L2N.Sky.land L2N.Zn.steady fr hf sky2 fun h3 f3 u3 => clauses_run hs hf hN hex tk hh _ ⟨J.ofTry I.ok, nb, up.trans u3, os, ag, by rw [hs]; exact f3, na⟩ w
  · cases f with
    | ret u => exact (fun ⟨v, σ1, H1, J, r, q⟩ => ⟨v, σ1, H1, J.ofTry I.ok, r, q⟩) e
    | next => exact (fun ⟨σ1, H1, J, q⟩ => wpAny_execs_nil ⟨σ1, H1, J.ofTry I.ok, q⟩) e
    | _ => exact (fun ⟨σ1, H1, J, q⟩ => ⟨σ1, H1, J.ofTry I.ok, q⟩) e
end
/-! the exception as data -/
def rX (es : Eds) (ks : List Ek) : Rp Er := fun F v e => ∃ a : Addr, v = .ref a ∧ F a = some (ExH a (.ref (es.at e.k)) none) ∧ e.plain = true ∧ e.k ∈ ks
theorem mX (es : Eds) (ks : List Ek) : Mono (rX es ks) := fun F F' v e x h => by
  obtain ⟨a, h1, h2, h3⟩ := h
  exact ⟨a, h1, x _ _ h2, h3⟩
theorem nnX {es : Eds} {ks : List Ek} : NN (rX es ks) := fun F v e h => by
  obtain ⟨a, rfl, _⟩ := h
  simp
theorem rX_ref {es : Eds} {ks : List Ek} {F : Hp} {v : V} {e : Er} (h : rX es ks F v e) : ∃ p, v = .ref p := by
  obtain ⟨a, h1, _⟩ := h
  exact ⟨a, h1⟩
theorem rX_k {es : Eds} {ks : List Ek} {F : Hp} {v : V} {e : Er} (h : rX es ks F v e) : e.k ∈ ks := by
  obtain ⟨_, _, _, _, h1⟩ := h
  exact h1
theorem Own.layE {es : Eds} {ks : List Ek} {R H : Hp} {L : List Cell} {a : Addr} {e : Er} (O : Own R H L) (hn : H a = none) (hp : e.plain = true) (hk : e.k ∈ ks) : ∃ R', Own R' (upd H a (ExH a (.ref (es.at e.k)) none)) L ∧ Ex R R' ∧ ∀ R0 Hb, Ex Hb R → rX es ks (ovr R0 Hb R') (.ref a) e := by
  refine ⟨upd R a (ExH a (.ref (es.at e.k)) none), (O.new hn).freeze, Ex.new (O.ex.back hn), fun R0 Hb eB => ⟨a, rfl, ovr_mk (.inr (eB.back (O.ex.back hn))) upd_same, hp, hk⟩⟩
theorem rX_up {es : Eds} {ks : List Ek} {R0 Hb R : Hp} {v : V} {e : Er} (h : rX es ks (ovr R0 Hb R) v e) : rX es ks R v e := mX es ks _ _ _ _ ovr_ex h
/-! isinstance of it -/
def rIsH (K : PySem.W.Frag) (es : Eds) (ks : List Ek) : List V → Hp → VK → Prop := fun xs H Q => ∃ (x c : V) (e : Er) (cv : Value) (b : Bool), xs = [x, c] ∧ ClsV c cv ∧ rX es ks H x e ∧ PySem.W.kitOne K (.ref (es.at e.k)) cv = some b ∧ Q (.bl b) H
theorem inst_h {X : Cx} {pins : List (Addr × Obj)} {σ : L2.St} {H : Hp} {s : Shared} {a D : Addr} (I : Inv X pins σ H s) (h : H a = some (ExH a (.ref D) none)) : ∃ oe od, PySem.W.InstAt s.heap a oe D od := by
  obtain ⟨⟨oe, vs, he, hz, hd⟩, _⟩ := (show ObjOk X.prog X.w H s.heap a (ExH a (.ref D) none) from I.hok a _ h)
  obtain ⟨oc, od, oda, osl⟩ := oe
  obtain ⟨h1, h2, _⟩ := hz
  dsimp only at h1 h2 hd
  subst h1 h2 hd
  exact ⟨_, none, he, rfl, rfl, trivial⟩
theorem call_isH {X : Cx} {es : Eds} {ks : List Ek} (T : EcF X.K es ks) : CallR X (.builtin "isinstance") (rIsH X.K es ks) := by
  intro pins s σ H xs us Q I r h
  obtain ⟨x, c, ex, cv, b, rfl, hcv, ⟨a, rfl, hd, _, hk⟩, e, q⟩ := h
  obtain ⟨u1, u2, rfl, r1, r2⟩ := vals2 r
  cases (show u1 = Value.ref a from r1)
  have ec := hcv.eq r2
  subst ec
  have C := T.ec _ hk
  obtain ⟨oe, od, J⟩ := inst_h I hd
  exact PySem.W.kia_one (PySem.W.kitx_exc (exc_cls C) C.hg C.hk C.hs C.ha C.hn C.ht C.hm) I.kIn J e (fun z => nomatch z) fun tk => ⟨.bl b, H, I.kept (t' := tk) fun _ _ z => z, rfl, q⟩
def rIsHt (K : PySem.W.Frag) (es : Eds) (ks : List Ek) : List V → Hp → VK → Prop := fun xs H Q => ∃ (x : V) (tp : Addr) (ex : Er) (cs : List V) (us : List Value) (b : Bool), xs = [x, .ref tp] ∧ rX es ks H x ex ∧ H tp = some (.tup cs) ∧ Paired ClsV cs us ∧ PySem.W.kitAny K (.ref (es.at ex.k)) us = some b ∧ Q (.bl b) H
theorem call_isHt {X : Cx} {es : Eds} {ks : List Ek} (T : EcF X.K es ks) : CallR X (.builtin "isinstance") (rIsHt X.K es ks) := by
  intro pins s σ H xs us Q I r h
  obtain ⟨x, tp, ex, cs, ws, b, rfl, ⟨a, rfl, hd, _, hk⟩, hT, k, e, q⟩ := h
  obtain ⟨u1, u2, rfl, r1, r2⟩ := vals2 r
  cases (show u1 = Value.ref a from r1)
  cases (show u2 = Value.ref tp from r2)
  obtain ⟨_, its, rv, o, h1, h2, n, h3⟩ := (show ObjOk X.prog X.w H s.heap tp (.tup cs) from I.hok tp _ hT)
  have e3 := ClsV.all k rv
  subst e3
  obtain ⟨oc, od, dt, sl⟩ := o
  simp only at h2 h3
  subst h2 h3
  have C := T.ec _ hk
  obtain ⟨oe, od, J⟩ := inst_h I hd
  exact PySem.W.kia_tup (PySem.W.kitx_exc (exc_cls C) C.hg C.hk C.hs C.ha C.hn C.ht C.hm) I.kIn J h1 e (fun z => nomatch z) fun tk => ⟨.bl b, H, I.kept (t' := tk) fun _ _ z => z, rfl, q⟩
theorem exE2 {es : Eds} {ks : List Ek} {cls : Value} {dd : Option Addr} {H H' : Hp} {t : Er → TS} {D : Ends} {σ : L2.St} {e : Er} (hX : XFl e dd H') (hk : e.k ∈ ks) (hc : cls = .ref (es.at e.k)) (q : t e D σ H) : ∃ e : Er, e.k ∈ ks ∧ cls = .ref (es.at e.k) ∧ t e D σ H := ⟨e, hk, hc, q⟩
end Bt

set_option linter.all false
set_option maxRecDepth 100000
set_option maxHeartbeats 1000000
/-! What was told, its inner lists changed by its asker: a loop over them all. -/
namespace Bt
open PySem L2
def NoL {α : Type} (P : Rp α) : Prop := ∀ F v x, P F v x → ∀ p ws, v = .ref p → F p = some (.lst ws) → False
theorem noI : NoL rI := fun F v x h p ws e _ => by
  rw [show v = V.int x from h] at e
  cases e
theorem noB : NoL rB := fun F v x h p ws e _ => by
  rw [show v = V.bl x from h] at e
  cases e
theorem noS : NoL rS := fun F v x h p ws e _ => by
  rw [show v = V.str x from h] at e
  cases e
theorem noT2 {α β : Type} {P : Rp α} {P' : Rp β} : NoL (rT2 P P') := fun F v x h p ws e k => by
  obtain ⟨q, _, _, rfl, h1, _⟩ := h
  cases e
  rw [h1] at k
  cases k
theorem noT3 {α β γ : Type} {P : Rp α} {P' : Rp β} {P3 : Rp γ} : NoL (rT3 P P' P3) := fun F v x h p ws e k => by
  obtain ⟨q, _, _, _, rfl, h1, _⟩ := h
  cases e
  rw [h1] at k
  cases k
def pokeG {α : Type} (xs : List (List α)) : Option Unit := grd (∀ r ∈ xs, r.length + xs.length ≤ 16777216) ()
def PkR (Rs : Hp) (a : Addr) (vs : List V) (B : Nat) (R : Hp) : Prop :=
  Ex Rs R ∧ R a = some (.lst vs) ∧ ∀ v ∈ vs, ∃ p ws, v = .ref p ∧ p ≠ a ∧ Rs p = none ∧ R p = some (.lst ws) ∧ ws.length ≤ B
def PkJ (Rs : Hp) (L : List Cell) (a : Addr) (vs : List V) (n : Nat) (H : Hp) : Prop := ∃ B R, B + n ≤ 16777216 ∧ Own R H L ∧ PkR Rs a vs B R
theorem All2.memL {α β : Type} {P : α → β → Prop} {as : List α} {bs : List β} (h : All2 P as bs) : ∀ a ∈ as, ∃ b ∈ bs, P a b := by
  induction h with
  | nil => exact fun _ h => nomatch h
  | cons k _ ih =>
    intro a ha
    rcases List.mem_cons.mp ha with rfl | ha
    · exact ⟨_, List.Mem.head _, k⟩
    · obtain ⟨b, hb, hp⟩ := ih a ha
      exact ⟨b, List.Mem.tail _ hb, hp⟩
theorem pk_start1 {α : Type} {P : Rp α} {Rs X R H : Hp} {L : List Cell} {a : Addr} {vs : List V} {xs : List (List α)} {u : Unit} (O : Own R H L) (e : Ex Rs R) (hX : ∀ p ws, X p = some (.lst ws) → Rs p = none) (eX : Ex X R) (h1 : X a = some (.lst vs)) (h2 : All2 (rL P X) vs xs) (nl : NoL P) (hb : pokeG xs = some u) : PkJ Rs L a vs xs.length H := by
  obtain ⟨hb, _⟩ := grdE hb
  have hle : ∀ v ∈ vs, ∃ p ws, v = .ref p ∧ p ≠ a ∧ Rs p = none ∧ R p = some (.lst ws) ∧ ws.length + xs.length ≤ 16777216 := fun v hv => by
    obtain ⟨r, hr, p, ws, rfl, k1, k2⟩ := h2.memL v hv
    refine ⟨p, ws, rfl, fun z => ?_, hX _ _ k1, eX _ _ k1, by rw [k2.len]; exact hb r hr⟩
    subst z
    rw [h1] at k1
    cases k1
    obtain ⟨y, _, hy⟩ := k2.memL _ hv
    exact nl _ _ _ hy _ _ rfl h1
  by_cases hx : xs.length ≤ 16777216
  · refine ⟨16777216 - xs.length, R, by omega, O, e, eX _ _ h1, fun v hv => ?_⟩
    obtain ⟨p, ws, a1, a2, a3, a4, a5⟩ := hle v hv
    exact ⟨p, ws, a1, a2, a3, a4, by omega⟩
  · exfalso
    cases xs with
    | nil => simp at hx
    | cons r q =>
      have := hb r (List.Mem.head _)
      omega
theorem pk_start {α : Type} {P : Rp α} {Rs Hc R H : Hp} {L : List Cell} {a : Addr} {vs : List V} {xs : List (List α)} {u : Unit} (O : Own R H L) (e : Ex Rs R) (hc : Ex Rs Hc) (h1 : ovr (fun _ => none) Hc R a = some (.lst vs)) (h2 : All2 (rL P (ovr (fun _ => none) Hc R)) vs xs) (nl : NoL P) (hb : pokeG xs = some u) : PkJ Rs L a vs xs.length H :=
  pk_start1 O e (fun p ws h => by
    obtain ⟨c, _⟩ := ovr_some h
    rcases c with c | c
    · exact absurd rfl c
    · exact hc.back c) ovr_ex h1 h2 nl hb
theorem pk_as {Rs Fr Hc R : Hp} (eF : Ex Fr R) (hF : ∀ p o, Fr p = some o → Rs p = none ∨ ∃ t, o = .tup t) (hc : Ex Rs Hc) : ∀ p ws, ovr Fr Hc R p = some (.lst ws) → Rs p = none := fun p ws h => by
  obtain ⟨c, k⟩ := ovr_some h
  rcases c with c | c
  · cases e : Fr p with
    | none => exact absurd e c
    | some o =>
      rcases hF p o e with q | ⟨t, rfl⟩
      · exact q
      · rw [eF _ _ e] at k
        cases k
  · exact hc.back c
/-! the frame that a call needs to know: some cells, and all tuples -/
def lonR (as : List Addr) (F : Hp) : Hp := fun x => if x ∈ as then F x else match F x with
  | some (.tup t) => some (.tup t)
  | _ => none
theorem lonR_ex {as : List Addr} {F : Hp} : Ex (lonR as F) F := fun x o h => by
  unfold lonR at h
  split at h
  · exact h
  · split at h
    · rename_i t e
      rw [e, ← h]
    · cases h
theorem lonR_tup {as : List Addr} {F : Hp} {x : Addr} {t : List V} (h : F x = some (.tup t)) : lonR as F x = some (.tup t) := by
  unfold lonR
  split
  · exact h
  · rw [h]
theorem lonR_or {as : List Addr} {F Hs : Hp} (h : ∀ p, p ∈ as → Hs p = none) : ∀ p o, lonR as F p = some o → Hs p = none ∨ ∃ t, o = .tup t := fun p o e => by
  unfold lonR at e
  split at e
  · exact .inl (h p (by assumption))
  · split at e
    · exact .inr ⟨_, (Option.some.inj e).symm⟩
    · cases e
def TpO {α : Type} (P : Rp α) : Prop := ∀ as F v x, P F v x → P (lonR as F) v x
theorem tpI : TpO rI := fun _ _ _ _ h => h
theorem tpB : TpO rB := fun _ _ _ _ h => h
theorem tpS : TpO rS := fun _ _ _ _ h => h
theorem tpT2 {α β : Type} {P : Rp α} {P' : Rp β} (m : TpO P) (n : TpO P') : TpO (rT2 P P') := fun as F v x h => by
  obtain ⟨p, a, b, rfl, h1, h2, h3⟩ := h
  exact ⟨p, a, b, rfl, lonR_tup h1, m _ _ _ _ h2, n _ _ _ _ h3⟩
theorem tpT3 {α β γ : Type} {P : Rp α} {P' : Rp β} {P3 : Rp γ} (m : TpO P) (n : TpO P') (o : TpO P3) : TpO (rT3 P P' P3) := fun as F v x h => by
  obtain ⟨p, a, b, c, rfl, h1, h2, h3, h4⟩ := h
  exact ⟨p, a, b, c, rfl, lonR_tup h1, m _ _ _ _ h2, n _ _ _ _ h3, o _ _ _ _ h4⟩
theorem lonL {α : Type} {P : Rp α} {as : List Addr} {F : Hp} {a : Addr} {xs : List α} (h : rL P F (.ref a) xs) (hm : a ∈ as) (tp : TpO P) : rL P (lonR as F) (.ref a) xs := by
  obtain ⟨p, vs, e, h1, h2⟩ := h
  cases e
  refine ⟨_, vs, rfl, ?_, h2.mp fun v x h => tp _ _ _ _ h⟩
  unfold lonR
  rw [if_pos hm]
  exact h1
theorem ovr_lo {as : List Addr} {R0 Hb Hc H0 R Fr : Hp} (hF : Fr = lonR as (ovr R0 Hb H0)) (e : Ex Hb Hc) : Ex (ovr Fr Hc R) (ovr R0 Hb R) := fun a o h => by
  obtain ⟨q, h1⟩ := ovr_some h
  refine ovr_mk ?_ h1
  rcases q with q | q
  · cases z : Fr a with
    | none => exact absurd z q
    | some u =>
      rw [hF] at z
      exact (ovr_some (lonR_ex _ _ z)).1
  · exact .inr (e.back q)
theorem Own.retX1 {A R H Hc : Hp} {B C : List Cell} {D : DT} {Q : VK} (O : Own R H (B ++ C)) (m : MonoD D) (hc : Hc = hsub H B) (hA : Ex A R) (k : ∀ v H' R' L', Own R' H' (L' ++ C) → Ex R R' → D (ovr A Hc R') v L' → Q v H') : RetX A (hsub H B) D Q := fun v H' R' L' e O' d => by
  obtain ⟨R'', O'', e1, e2⟩ := O.back e O'
  subst hc
  refine k v H' R'' L' O'' e1 (m _ _ _ _ (fun a u h => ?_) d)
  obtain ⟨q, _⟩ := ovr_some h
  exact ovr_mk q (e2 _ hA _ _ h)
theorem k_pokeP {Rs R H : Hp} {L E : List Cell} {a q : Addr} {v : V} {vs : List V} {B n : Nat} {Q : VK} (O : Own R H (E ++ L)) (hP : PkR Rs a vs B R) (hm : V.ref q ∈ vs) (hB : B + (n + 1) ≤ 16777216) (k : ∀ H', PkJ Rs L a vs n H' → Q .non H') : rAppend (.ref q) [v] H Q := by
  obtain ⟨e, h1, h2⟩ := hP
  obtain ⟨p, ws, a1, a2, a3, b1, a4⟩ := h2 _ hm
  cases a1
  refine ⟨q, ws, v, rfl, rfl, O.ex _ _ b1, by show _ < 16777216; omega, k _ ⟨B + 1, upd R q (.lst (ws ++ [v])), by omega, ?_, ?_, ?_, ?_⟩⟩
  · have O := O.right
    have hne : ∀ c ∈ L, c.1 ≠ q := fun c hc z => by
      have := O.fr c hc
      rw [z, b1] at this
      cases this
    refine ⟨fun x u h => ?_, fun c hc => ?_, fun c hc => ?_, O.nd⟩
    · by_cases z : x = q
      · subst z
        rw [upd_same] at h ⊢
        exact h
      · rw [upd_ne z] at h ⊢
        exact O.ex _ _ h
    · rw [upd_ne (hne c hc)]
      exact O.at_ c hc
    · rw [upd_ne (hne c hc)]
      exact O.fr c hc
  · intro x u h
    rw [upd_ne (ne_of_none h a3)]
    exact e _ _ h
  · rw [upd_ne (Ne.symm a2)]
    exact h1
  · intro w hw
    obtain ⟨p, us, c1, c2, c3, c4, c5⟩ := h2 w hw
    by_cases z : p = q
    · subst z
      rw [b1] at c4
      cases c4
      exact ⟨p, _, c1, c2, c3, upd_same, by simp; omega⟩
    · exact ⟨p, us, c1, c2, c3, by rw [upd_ne z]; exact c4, by omega⟩
theorem q_forP {α : Type} {K : PySem.W.Frag} {Rs H : Hp} {L : List Cell} {a : Addr} {vs : List V} {xs : List α} {j : Nat} {ts : TS} {n : St → Hp → Prop} {w : VK} {σ : St} (σ1 : Option V → St) (hl : vs.length = xs.length) (hP : PkJ Rs L a vs xs.length H) (h0 : ∃ u, σ = σ1 u) (hj : ∀ u v, (σ1 u).set j (some v) = σ1 (some v))
    (hs : ∀ q m B R H, Own R H L → PkR Rs a vs B R → V.ref q ∈ vs → B + (m + 1) ≤ 16777216 → (∃ ws, H q = some (.lst ws)) → ts (Ends.mk (fun σ H => (∃ u, σ = σ1 u) ∧ PkJ Rs L a vs m H) w n (fun σ H => (∃ u, σ = σ1 u) ∧ PkJ Rs L a vs m H)) (σ1 (some (.ref q))) H)
    (hd : ∀ u H, Own Rs H L → n (σ1 u) H) :
    ∃ W : Nat → Nat → St → Hp → Prop, (∃ m, W 0 m σ H) ∧ ∀ i m σ H, W i m σ H →
      ((Itl K a).stop i H ∧ n σ H) ∨ ((Itl K a).go i H ∧ ∃ N : St → Hp → Prop, (∀ σ' H', N σ' H' → ∃ m', m' < m ∧ W (i + 1) m' σ' H') ∧ ∀ x H', (Itl K a).yld i H x H' → gName j x σ H' fun σ2 H2 => ts (Ends.mk N w n N) σ2 H2) := by
  refine q_forA (P := fun v (_ : α) => v ∈ vs) (b := fun _ _ => False) (k := fun _ _ => False) (xs := xs) (All2.of_get hl fun i x y e _ => List.mem_of_getElem? e) (fun r σ H => (∃ u, σ = σ1 u) ∧ PkJ Rs L a vs r.length H) ⟨h0, hP⟩ (fun r σ H h => ?_) (fun x v r σ H hv h => ?_) (fun σ H h => ?_)
  · obtain ⟨_, B, R, _, O, _, h1, _⟩ := h
    exact SqL.of (O.ex _ _ h1)
  · obtain ⟨⟨u, rfl⟩, B, R, h1, O, h2⟩ := h
    obtain ⟨p, ws, rfl, _, _, h3, _⟩ := h2.2.2 v hv
    rw [hj]
    exact hs p r.length B R H O h2 hv h1 ⟨ws, O.ex _ _ h3⟩
  · obtain ⟨⟨u, rfl⟩, B, R, h1, O, h2⟩ := h
    exact hd u H (O.shrink h2.1)
theorem pk_none {Rs Hc R : Hp} {a : Addr} {o : HO} (hc : Ex Rs Hc) (h1 : ovr (fun _ => none) Hc R a = some o) : Rs a = none := by
  obtain ⟨c, _⟩ := ovr_some h1
  rcases c with c | c
  · exact absurd rfl c
  · exact hc.back c
def pokeO {α : Type} (xs : List α) : Option Unit := grd (xs.length < 16777216) ()
theorem k_pokeO {α : Type} {P : Rp α} {F Rs R H : Hp} {L E : List Cell} {a : Addr} {v : V} {vs : List V} {xs : List α} {B : Nat} {u : Unit} {Q : VK} (O : Own R H (E ++ L)) (hP : PkR Rs a vs B R) (hz : Rs a = none) (h2 : All2 (P F) vs xs) (hb : pokeO xs = some u) (k : ∀ H', Own Rs H' L → Q .non H') : rAppend (.ref a) [v] H Q := by
  obtain ⟨hb, _⟩ := grdE hb
  obtain ⟨e, h1, _⟩ := hP
  refine ⟨a, vs, v, rfl, rfl, O.ex _ _ h1, by show _ < 16777216; rw [h2.len]; exact hb, k _ ?_⟩
  have O := O.right
  have hne : ∀ c ∈ L, c.1 ≠ a := fun c hc z => by
    have := O.fr c hc
    rw [z, h1] at this
    cases this
  refine ⟨fun x u h => ?_, fun c hc => ?_, fun c hc => ?_, O.nd⟩
  · by_cases z : x = a
    · subst z
      rw [hz] at h
      cases h
    · rw [upd_ne z]
      exact O.ex _ _ (e _ _ h)
  · rw [upd_ne (hne c hc)]
    exact O.at_ c hc
  · cases q : Rs c.1 with
    | none => rfl
    | some o =>
      have := e _ _ q
      rw [O.fr c hc] at this
      cases this
theorem q_forP2 {α : Type} {K : PySem.W.Frag} {Rs H : Hp} {L : List Cell} {a : Addr} {vs : List V} {xs : List α} {j : Nat} {ts : TS} {n : St → Hp → Prop} {w : VK} {σ : St} (σ1 : Option V → St) (hl : vs.length = xs.length) (hP : PkJ Rs L a vs xs.length H) (h0 : ∃ u, σ = σ1 u) (hj : ∀ u v, (σ1 u).set j (some v) = σ1 (some v))
    (hs : ∀ q m B R H, Own R H L → PkR Rs a vs B R → V.ref q ∈ vs → B + (m + 1) ≤ 16777216 → (∃ ws, H q = some (.lst ws)) → ts (Ends.mk (fun σ H => (∃ u, σ = σ1 u) ∧ PkJ Rs L a vs m H) w n (fun σ H => (∃ u, σ = σ1 u) ∧ PkJ Rs L a vs m H)) (σ1 (some (.ref q))) H)
    (hd : ∀ u H B R, Own R H L → PkR Rs a vs B R → n (σ1 u) H) :
    ∃ W : Nat → Nat → St → Hp → Prop, (∃ m, W 0 m σ H) ∧ ∀ i m σ H, W i m σ H →
      ((Itl K a).stop i H ∧ n σ H) ∨ ((Itl K a).go i H ∧ ∃ N : St → Hp → Prop, (∀ σ' H', N σ' H' → ∃ m', m' < m ∧ W (i + 1) m' σ' H') ∧ ∀ x H', (Itl K a).yld i H x H' → gName j x σ H' fun σ2 H2 => ts (Ends.mk N w n N) σ2 H2) := by
  refine q_forA (P := fun v (_ : α) => v ∈ vs) (b := fun _ _ => False) (k := fun _ _ => False) (xs := xs) (All2.of_get hl fun i x y e _ => List.mem_of_getElem? e) (fun r σ H => (∃ u, σ = σ1 u) ∧ PkJ Rs L a vs r.length H) ⟨h0, hP⟩ (fun r σ H h => ?_) (fun x v r σ H hv h => ?_) (fun σ H h => ?_)
  · obtain ⟨_, B, R, _, O, _, h1, _⟩ := h
    exact SqL.of (O.ex _ _ h1)
  · obtain ⟨⟨u, rfl⟩, B, R, h1, O, h2⟩ := h
    obtain ⟨p, ws, rfl, _, _, h3, _⟩ := h2.2.2 v hv
    rw [hj]
    exact hs p r.length B R H O h2 hv h1 ⟨ws, O.ex _ _ h3⟩
  · obtain ⟨⟨u, rfl⟩, B, R, h1, O, h2⟩ := h
    exact hd u H B R O h2
end Bt

set_option linter.all false
set_option maxRecDepth 100000
set_option maxHeartbeats 1000000
/-! Texts. -/
namespace Bt
open PySem L2
def sg (c : Nat) : Str := ⟨#[c]⟩
/-- the signs of a text -/
def sgs (z : Str) : List Str := z.cps.toList.map sg
def ixS (z : Str) (i : Int) : Option Str := bnd (grd (z.length ≤ 16777216) (sgs z)) fun l => atI l i
def slS (z : Str) (lo hi : Option Int) : Option Str := grd (z.length ≤ 16777216) (cutS z lo hi)
def addS (x y : Str) : Option Str := grd (x.length + y.length ≤ 16777216) (x ++ y)
def lenS (z : Str) : Option Int := grd (z.length ≤ 16777216) (z.length : Int)
def joinS (a : Str) (ys : List Str) : Option Str := grd ((ys.map (·.length)).sum + ys.length * a.length ≤ 16777216) (Txt.join a ys)
section
variable {K : PySem.W.Frag} {σ : St} {H R : Hp} {L : List Cell} {Q : VK} {i : Int} {x y z : Str} {lo hi : Option Int} {p : Addr} {ys : List Str} {n : Int}
theorem atI_map {α β : Type} {f : α → β} {xs : List α} {i : Int} {v : β} (h : atI (xs.map f) i = some v) : ∃ u, atI xs i = some u ∧ v = f u := by
  unfold atI at h ⊢
  rw [List.length_map] at h
  cases e : ixN xs.length i with
  | none => rw [e] at h; cases h
  | some j =>
    rw [e] at h
    have h : (xs.map f)[j]? = some v := h
    rw [List.getElem?_map] at h
    cases e2 : xs[j]? with
    | none => rw [e2] at h; cases h
    | some u =>
      rw [e2] at h
      exact ⟨u, e2, (Option.some.inj h).symm⟩
theorem k_ixS (h : ixS z i = some y) (k : Q (.str y) H) : rIxS (.str z) (.int i) H Q := by
  obtain ⟨l, h1, h2⟩ := bndE h
  obtain ⟨c, rfl⟩ := grdE h1
  obtain ⟨u, e1, rfl⟩ := atI_map h2
  exact ⟨z, i, u, rfl, rfl, c, e1, k⟩
theorem k_slS (h : slS z lo hi = some y) (k : Q (.str y) H) : rSlS (.str z) lo hi H Q := by
  obtain ⟨c, rfl⟩ := grdE h
  exact ⟨z, rfl, c, k⟩
def rAddZ : R2 := fun x y H Q => ∃ i j, x = .str i ∧ y = .str j ∧ i.length + j.length ≤ sizeLine ∧ Q (.str (i ++ j)) H
theorem op_addZ {X : Cx} : OpR X (binaryOp .Add) rAddZ := op_add_str
theorem k_addS (h : addS x y = some z) (k : Q (.str z) H) : rAddZ (.str x) (.str y) H Q := by
  obtain ⟨c, rfl⟩ := grdE h
  exact ⟨x, y, rfl, rfl, c, k⟩
def rLenZ : List V → Hp → VK → Prop := fun xs H Q => ∃ z : Str, xs = [.str z] ∧ z.length ≤ sizeLine ∧ Q (.int (z.length : Int)) H
theorem call_lenZ {X : Cx} : CallR X (.builtin "len") rLenZ := call_len_str
theorem n_lenZ (h : lenS z = some n) (k : Q (.int n) H) : rLenZ [.str z] H Q := by
  obtain ⟨c, rfl⟩ := grdE h
  exact ⟨z, rfl, c, k⟩
theorem o_m1 {to te : TE} {r : V → List V → Hp → VK → Prop} (h : to σ H fun x H1 => (∃ a, x = .str a) ∧ te σ H1 fun y H2 => r x [y] H2 Q) : tM1 r to te σ H Q := h
def rJoin (K : PySem.W.Frag) : V → List V → Hp → VK → Prop := fun x xs H Q => ∃ a p, ∃ ys : List Str, x = .str a ∧ xs = [.ref p] ∧ (SqL K H p (ys.map V.str) ∨ SqT K H p (ys.map V.str)) ∧ (ys.map (·.length)).sum + ys.length * a.length ≤ 16777216 ∧ Q (.str (Txt.join a ys)) H
theorem mt_joinZ {X : Cx} : MtR X "str.join" (rJoin X.K) := mt_join
theorem k_join (hs : SqL K H p (ys.map V.str)) (h : joinS x ys = some z) (k : Q (.str z) H) : rJoin K (.str x) [.ref p] H Q := by
  obtain ⟨c, rfl⟩ := grdE h
  exact ⟨x, p, ys, rfl, rfl, .inl hs, c, k⟩
theorem o_is {te : TE} {Rr : It → Hp → Prop} (h : te σ H fun v H1 => ∃ x, v = .str x ∧ Rr (Its x) H1) : iStr te σ H Rr := h
theorem q_forS {j : Nat} {z : Str} {ts : TS} {n b k : St → Hp → Prop} {w : VK} (J : List Str → St → Hp → Prop) (h0 : J (sgs z) σ H)
    (hs : ∀ x r σ H, J (x :: r) σ H → ts (Ends.mk (J r) w n (J r)) (σ.set j (some (.str x))) H) (hd : ∀ σ H, J [] σ H → n σ H) :
    ∃ W : Nat → Nat → St → Hp → Prop, (∃ m, W 0 m σ H) ∧ ∀ i m σ H, W i m σ H →
      ((Its z).stop i H ∧ n σ H) ∨ ((Its z).go i H ∧ ∃ N : St → Hp → Prop, (∀ σ' H', N σ' H' → ∃ m', m' < m ∧ W (i + 1) m' σ' H') ∧ ∀ x H', (Its z).yld i H x H' → gName j x σ H' fun σ2 H2 => ts (Ends.mk N w n N) σ2 H2) := by
  have hz : (sgs z).length = z.cps.size := by unfold sgs; simp
  refine ⟨fun i m σ H => m = z.cps.size - i ∧ i ≤ z.cps.size ∧ J ((sgs z).drop i) σ H, ⟨z.cps.size, by simp, Nat.zero_le _, h0⟩, ?_⟩
  rintro i m σ H ⟨rfl, hi, hJ⟩
  by_cases hlt : i < z.cps.size
  · have e : z.cps[i]? = some z.cps[i] := Array.getElem?_eq_getElem hlt
    have e2 : (sgs z).drop i = sg z.cps[i] :: (sgs z).drop (i + 1) := by
      rw [List.drop_eq_getElem_cons (by omega)]
      congr 1
      unfold sgs
      simp
    rw [e2] at hJ
    refine .inr ⟨hlt, J ((sgs z).drop (i + 1)), fun σ' H' hJ' => ⟨_, by omega, rfl, hlt, hJ'⟩, fun v H' hv => ?_⟩
    obtain ⟨rfl, c, hc, rfl⟩ := hv
    rw [e] at hc
    cases hc
    exact hs _ _ σ H' hJ
  · have : i = z.cps.size := by omega
    subst this
    rw [List.drop_of_length_le (by omega)] at hJ
    exact .inl ⟨Nat.le_refl _, hd σ H hJ⟩
def inS (x y : Str) : Bool := !(Builtin.Str.occurrences y x 0 y.length 1).isEmpty
def rInZ : R2 := fun x y H Q => ∃ i j, x = .str i ∧ y = .str j ∧ Q (.bl (inS i j)) H
theorem op_inZ {X : Cx} : OpR X (compareOp .In) rInZ := op_in_str
def rNiZ : R2 := fun x y H Q => ∃ i j, x = .str i ∧ y = .str j ∧ Q (.bl (!inS i j)) H
theorem op_niZ {X : Cx} : OpR X (compareOp .NotIn) rNiZ := op_notin_str
def strI (i : Int) : Option Str := grd (i.natAbs.log2 < 1920) (Str.ofString (toString i))
def rStrZ : List V → Hp → VK → Prop := fun xs H Q => ∃ i : Int, xs = [.int i] ∧ i.natAbs.log2 < 1920 ∧ Q (.str (Str.ofString (toString i))) H
theorem call_strZ {X : Cx} : CallR X (.type "str") rStrZ := call_str_int
theorem n_strZ (h : strI i = some z) (k : Q (.str z) H) : rStrZ [.int i] H Q := by
  obtain ⟨c, rfl⟩ := grdE h
  exact ⟨i, rfl, c, k⟩
def intS (z : Str) : Option Int := bnd (grd (z.length ≤ 640) ()) fun _ => intText? z
def rIntZ : List V → Hp → VK → Prop := fun xs H Q => ∃ (a : Str) (n : Int), xs = [.str a] ∧ PySem.intText? a = some n ∧ a.length ≤ 640 ∧ Q (.int n) H
theorem call_intZ {X : Cx} : CallR X (.type "int") rIntZ := call_int_str
theorem n_intZ (h : intS z = some n) (k : Q (.int n) H) : rIntZ [.str z] H Q := by
  obtain ⟨u, h1, h2⟩ := bndE h
  obtain ⟨c, _⟩ := grdE h1
  exact ⟨z, n, rfl, h2, c, k⟩
def zfS (z : Str) (i : Int) : Option Str := grd (PySem.PadOk i = true) (Txt.zfill z i)
def rZf : V → List V → Hp → VK → Prop := fun x xs H Q => ∃ (a : Str) (i : Int), x = .str a ∧ xs = [.int i] ∧ PySem.PadOk i = true ∧ Q (.str (Txt.zfill a i)) H
theorem mt_zfZ {X : Cx} : MtR X "str.zfill" rZf := mt_zfill
theorem k_zf (h : zfS x i = some z) (k : Q (.str z) H) : rZf (.str x) [.int i] H Q := by
  obtain ⟨c, rfl⟩ := grdE h
  exact ⟨x, i, rfl, rfl, c, k⟩
/-! range with a step -/
def rng3 (i j c : Int) : Option (List Int) := grd (0 < c ∧ c < 1000000 ∧ -(2 ^ 60) ≤ i ∧ i < 2 ^ 60 ∧ -(2 ^ 60) ≤ j ∧ j < 2 ^ 60) ((List.range (Builtin.Range.rangeSize i j c).toNat).map fun (k : Nat) => i + (k : Int) * c)
theorem rng3E {i j c : Int} {xs : List Int} (h : rng3 i j c = some xs) : RgC i j c (Builtin.Range.rangeSize i j c).toNat ∧ ((List.range (Builtin.Range.rangeSize i j c).toNat).map fun (k : Nat) => i + (k : Int) * c) = xs := by
  obtain ⟨⟨c0, c1, i0, i1, j0, j1⟩, rfl⟩ := grdE h
  have hs : 0 ≤ Builtin.Range.rangeSize i j c ∧ Builtin.Range.rangeSize i j c ≤ 2 ^ 62 := by
    unfold Builtin.Range.rangeSize
    rw [if_pos c0]
    split
    · rename_i hlt
      have h1 := Int.ediv_nonneg (show 0 ≤ j - i - 1 by omega) (show 0 ≤ c by omega)
      have h2 := Int.ediv_le_self c (show 0 ≤ j - i - 1 by omega)
      omega
    · omega
  refine ⟨⟨by omega, by omega, ?_, by omega⟩, rfl⟩
  unfold Builtin.Range.small
  generalize Builtin.Range.rangeSize i j c = z at hs
  simp only [Builtin.Range.rangeFitsLong, Bool.and_eq_true, Bool.or_eq_true, decide_eq_true_eq, beq_iff_eq, if_pos (show c > 0 from c0)]
  omega
theorem o_ir3 {tr : TA} {Rr : It → Hp → Prop} (h : tr σ H fun vs H1 => ∃ (i j c : Int) (n : Nat), vs = [.int i, .int j, .int c] ∧ RgC i j c n ∧ Rr (Itc i c n) H1) : iRng3 tr σ H Rr := h
theorem q_forC {j : Nat} {lo c : Int} {n : Nat} {ts : TS} {nx : St → Hp → Prop} {w : VK} (J : List Int → St → Hp → Prop) (h0 : J ((List.range n).map fun (i : Nat) => lo + (i : Int) * c) σ H)
    (hs : ∀ x r σ H, J (x :: r) σ H → ts (Ends.mk (J r) w nx (J r)) (σ.set j (some (.int x))) H) (hd : ∀ σ H, J [] σ H → nx σ H) :
    ∃ W : Nat → Nat → St → Hp → Prop, (∃ m, W 0 m σ H) ∧ ∀ i m σ H, W i m σ H →
      ((Itc lo c n).stop i H ∧ nx σ H) ∨ ((Itc lo c n).go i H ∧ ∃ N : St → Hp → Prop, (∀ σ' H', N σ' H' → ∃ m', m' < m ∧ W (i + 1) m' σ' H') ∧ ∀ x H', (Itc lo c n).yld i H x H' → gName j x σ H' fun σ2 H2 => ts (Ends.mk N w nx N) σ2 H2) := by
  have hz : ((List.range n).map fun (i : Nat) => lo + (i : Int) * c).length = n := by simp
  generalize hL : ((List.range n).map fun (i : Nat) => lo + (i : Int) * c) = L at h0 hz
  refine ⟨fun i m σ H => m = n - i ∧ i ≤ n ∧ J (L.drop i) σ H, ⟨n, by simp, Nat.zero_le _, h0⟩, ?_⟩
  rintro i m σ H ⟨rfl, hi, hJ⟩
  by_cases hlt : i < n
  · have e2 : L.drop i = (lo + (i : Int) * c) :: L.drop (i + 1) := by
      rw [List.drop_eq_getElem_cons (by omega)]
      congr 1
      subst hL
      simp
    rw [e2] at hJ
    refine .inr ⟨hlt, J (L.drop (i + 1)), fun σ' H' hJ' => ⟨_, by omega, rfl, hlt, hJ'⟩, fun v H' hv => ?_⟩
    obtain ⟨rfl, rfl⟩ := hv
    exact hs _ _ σ H' hJ
  · have : i = n := by omega
    subst this
    rw [List.drop_of_length_le (by omega)] at hJ
    exact .inl ⟨Nat.le_refl _, hd σ H hJ⟩
theorem k_inZ (q : Q (.bl (inS x y)) H) : rInZ (.str x) (.str y) H Q := ⟨x, y, rfl, rfl, q⟩
theorem k_niZ (q : Q (.bl (!inS x y)) H) : rNiZ (.str x) (.str y) H Q := ⟨x, y, rfl, rfl, q⟩
theorem gv_str {K : PySem.W.Frag} {h : Heap} {mg : Str → Option Value} {x s : Str} {t : Tok} (X : K.In h) (G : h.Ns mainGlobals mg) (a : PySem.W.nsIn K mainGlobals x = some (some (.str s t))) : Gv mg x (.str s) := ⟨_, PySem.W.mg_of X G a, _, rfl⟩
/-! text.index(sign), found -/
def idxS (x y : Str) : Option Int := match Builtin.Str.occurrences x y 0 x.length 1 with
  | i :: _ => some ((i : Nat) : Int)
  | [] => none
def rIndexZ : V → List V → Hp → VK → Prop := fun x xs H Q => ∃ a b i rest, x = .str a ∧ xs = [.str b] ∧ Builtin.Str.occurrences a b 0 a.length 1 = i :: rest ∧ Q (.int (i : Nat)) H
theorem mt_indexZ {X : Cx} : MtR X "str.index" rIndexZ := mt_sindex
theorem k_indexZ (h : idxS x y = some n) (k : Q (.int n) H) : rIndexZ (.str x) [.str y] H Q := by
  unfold idxS at h
  split at h
  · rename_i i r e
    cases h
    exact ⟨x, y, i, r, rfl, rfl, e, k⟩
  · cases h
/-! text * number -/
def repZ (x : Str) (n : Int) : Str := if n < 1 then Str.empty else if (n == 1 || x.length == 0) = true then x else ⟨(List.replicate n.toNat x.cps).foldl (· ++ ·) #[]⟩
def mulZ (x : Str) (n : Int) : Option Str := grd (0 ≤ n ∧ n ≤ 1000000 ∧ x.length * n.toNat ≤ 16777216 ∧ (repZ x n).length ≤ 16777216) (repZ x n)
def rMulZ : R2 := fun x y H Q => ∃ a n, x = .str a ∧ y = .int n ∧ 0 ≤ n ∧ n ≤ 1000000 ∧ a.length * n.toNat ≤ 16777216 ∧ (repZ a n).length ≤ 16777216 ∧ Q (.str (repZ a n)) H
theorem op_mulZ {X : Cx} : OpR X (binaryOp .Mult) rMulZ := by
  intro pins s σ H x y v u Q I rx ry h
  obtain ⟨a, n, rfl, rfl, h0, h1, h2, h3, q⟩ := h
  obtain ⟨t, rfl⟩ := rx
  obtain ⟨t', rfl⟩ := ry
  refine PySem.P.mul_str ?_ ?_ ?_ ?_
  · rw [decide_eq_false (by omega), decide_eq_false (by omega)]
    rfl
  · intro g1 g2 g3
    have e : (2 ^ 63 - 1 : Int) / n * n ≤ 2 ^ 63 - 1 := Int.ediv_mul_le _ (by omega)
    have e2 : ((a.length * n.toNat : Nat) : Int) = (a.length : Int) * n := by
      rw [Int.natCast_mul, Int.toNat_of_nonneg h0]
    have e3 : ((2 ^ 63 - 1 : Int) / n + 1) * n ≤ (a.length : Int) * n := Int.mul_le_mul_of_nonneg_right (by omega) h0
    have e4 : (2 ^ 63 - 1 : Int) < ((2 ^ 63 - 1 : Int) / n + 1) * n := by
      have := Int.lt_ediv_add_one_mul_self (2 ^ 63 - 1) (show 0 < n by omega)
      exact this
    omega
  · intro _ _
    unfold Builtin.Str.tooLong
    rw [sizeLine_eq]
    exact decide_eq_false (by omega)
  · unfold repZ at h3 q
    by_cases g1 : n < 1
    · rw [if_pos g1] at h3 q ⊢
      exact ⟨by decide, ⟨.str Str.empty, H, I.tok _, ⟨_, rfl⟩, q⟩⟩
    · rw [if_neg g1] at h3 q ⊢
      by_cases g2 : (n == 1 || a.length == 0) = true
      · rw [if_pos g2] at h3 q ⊢
        exact ⟨.str a, H, I, ⟨_, rfl⟩, q⟩
      · rw [if_neg g2] at h3 q ⊢
        exact ⟨h3, ⟨.str _, H, I.tok _, ⟨_, rfl⟩, q⟩⟩
theorem k_mulZ (h : mulZ x n = some z) (k : Q (.str z) H) : rMulZ (.str x) (.int n) H Q := by
  obtain ⟨⟨c1, c2, c3, c4⟩, rfl⟩ := grdE h
  exact ⟨x, n, rfl, rfl, c1, c2, c3, c4, k⟩
end
/-! xs.pop(i) -/
section
variable {α : Type} {f : α → V} {R H : Hp} {L : List Cell} {a : Addr} {xs ys : List α} {y : α} {i : Int} {Q : VK} {P : V → α → Prop} {vs : List V}
def popA (xs : List α) (i : Int) : Option (α × List α) := bnd (grd (xs.length ≤ 1000000000) ()) fun _ => bnd (ixN xs.length i) fun k => bnd xs[k]? fun y => some (y, xs.eraseIdx k)
def rPopI : V → List V → Hp → VK → Prop := fun x vs H Q => ∃ l xs i k y, x = .ref l ∧ vs = [.int i] ∧ H l = some (.lst xs) ∧ -(2 ^ 63) ≤ i ∧ i < 2 ^ 63 ∧ seqIndex? i xs.length = some k ∧ xs[k]? = some y ∧ Q y (upd H l (.lst (xs.eraseIdx k)))
theorem mt_popI {X : Cx} : MtM X "list.pop" rPopI := mt_popAt
theorem erase_map (f : α → V) : ∀ (xs : List α) (k : Nat), (xs.map f).eraseIdx k = (xs.eraseIdx k).map f
  | [], _ => rfl
  | _ :: _, 0 => rfl
  | x :: r, k + 1 => by
    show f x :: (r.map f).eraseIdx k = f x :: (r.eraseIdx k).map f
    rw [erase_map f r k]
theorem k_popI {g : HO → List Cell} (hl : H a = some (.lst (xs.map f))) (hp : ∀ o', Own R (upd H a o') (g o')) (h : popA xs i = some (y, ys)) (k : ∀ H', Own R H' (g (.lst (ys.map f))) → Q (f y) H') : rPopI (.ref a) [.int i] H Q := by
  obtain ⟨_, h1, h2⟩ := bndE h
  obtain ⟨c, _⟩ := grdE h1
  obtain ⟨j, h3, h4⟩ := bndE h2
  obtain ⟨z, h5, h6⟩ := bndE h4
  cases h6
  obtain ⟨s1, s2, s3, s4⟩ := ixN_seq h3
  refine ⟨a, _, i, j, f y, rfl, rfl, hl, by omega, by omega, by rw [List.length_map]; exact s1, by rw [List.getElem?_map, h5]; rfl, ?_⟩
  rw [erase_map]
  exact k _ (hp _)
end
end Bt

set_option linter.all false
set_option maxRecDepth 100000
set_option maxHeartbeats 1000000
/-! Lists that are handed to be changed, and lists of one's own lists. -/
namespace Bt
open PySem L2
section
variable {α : Type} {f : α → V} {F R R0 Hb H : Hp} {a : Addr} {L C : List Cell} {xs : List α}
/-- a list of plain things -/
def oRow (f : α → V) : Ob (List α) := fun _ a L xs => L = [(a, HO.lst (xs.map f))]
theorem moRow : MonoO (oRow f) := fun _ _ _ _ _ _ h => h
theorem oRow_mk : oRow f F a [(a, HO.lst (xs.map f))] xs := rfl
/-- a list of data that is to stay -/
def oRowD (P : Rp α) : Ob (List α) := fun F a L xs => ∃ vs, L = [(a, HO.lst vs)] ∧ All2 (P F) vs xs
theorem moRowD {P : Rp α} (m : Mono P) : MonoO (oRowD P) := fun _ _ _ _ _ e ⟨vs, h1, h2⟩ => ⟨vs, h1, mA m e h2⟩
theorem Own.frzAll : ∀ (L : List Cell) {R : Hp}, Own R H (L ++ C) → Ex Hb R → ∃ R', Own R' H C ∧ Ex R R' ∧ ∀ c ∈ L, ovr R0 Hb R' c.1 = some c.2
  | [], R, O, _ => ⟨R, O, Ex.refl _, fun _ h => nomatch h⟩
  | (p, o) :: r, R, O, e => by
    obtain ⟨R1, O1, e1, h1⟩ := Own.frzO (R0 := R0) O e
    obtain ⟨R2, O2, e2, h2⟩ := Own.frzAll r O1 (e.trans e1)
    refine ⟨R2, O2, e1.trans e2, fun c hc => ?_⟩
    rcases List.mem_cons.mp hc with rfl | hc
    · exact ovr_mono e2 _ _ h1
    · exact h2 c hc
theorem all_map {P : Rp α} (hP : ∀ F x, P F (f x) x) (G : Hp) : ∀ ys : List α, All2 (P G) (ys.map f) ys
  | [] => .nil
  | y :: r => .cons (hP G y) (all_map hP G r)
theorem rows_all {P : Rp α} (hP : ∀ F x, P F (f x) x) {G : Hp} {as : List Addr} {Ls : List (List Cell)} {xss : List (List α)} (h : All3 (oRow f F) as Ls xss) (hg : ∀ c ∈ Ls.flatten, G c.1 = some c.2) : All2 (rL P G) (as.map V.ref) xss := by
  induction h with
  | nil => exact .nil
  | @cons b L1 ys as Ls xss h t ih =>
    refine .cons ⟨b, ys.map f, rfl, ?_, ?_⟩ (ih fun c hc => hg c (by rw [List.flatten_cons]; exact List.mem_append_right _ hc))
    · have := hg (b, .lst (ys.map f)) (by rw [List.flatten_cons, show L1 = _ from h]; exact List.Mem.head _)
      exact this
    · exact all_map hP G ys
/-- laid in the frame -/
theorem Own.frzRows {P : Rp α} {xss : List (List α)} (hP : ∀ F x, P F (f x) x) (O : Own R H (L ++ C)) (h : oLs (oRow f) F a L xss) (e : Ex Hb R) : ∃ R', Own R' H C ∧ Ex R R' ∧ rL (rL P) (ovr R0 Hb R') (.ref a) xss := by
  obtain ⟨as, Ls, hp, h3⟩ := h
  obtain ⟨R', O', e1, h1⟩ := Own.frzAll (R0 := R0) L O e
  have hm : ∀ c ∈ (a, HO.lst (as.map V.ref)) :: Ls.flatten, ovr R0 Hb R' c.1 = some c.2 := fun c hc => h1 c (hp.mem_iff.mpr hc)
  exact ⟨R', O', e1, a, as.map V.ref, rfl, hm _ (List.Mem.head _), rows_all hP h3 fun c hc => hm c (List.Mem.tail _ hc)⟩
end
/-! fields that may be None -/
section
variable {α : Type} {f : α → V} {P : Rp α} {F : Hp} {v : V} {m : Option α}
def ov (f : α → V) : Option α → V
  | none => .non
  | some x => f x
theorem ov_r (hP : ∀ F x, P F (f x) x) : rO P F (ov f m) m := by
  cases m with
  | none => rfl
  | some x => exact hP F x
theorem rO_ov (hP : ∀ F v x, P F v x → v = f x) (h : rO P F v m) : v = ov f m := by
  cases m with
  | none => exact h
  | some x => exact hP F v x h
end
/-! a tuple's slice -/
section
variable {K : PySem.W.Frag} {R H : Hp} {L : List Cell} {a : Addr} {xs : List V} {lo hi : Option Int} {Q : VK}
theorem k_cutT (O : Own R H L) (h : H a = some (.tup xs)) (c : ¬ (HT.sIx xs.length 0 lo = 0 ∧ HT.sIx xs.length xs.length hi = xs.length)) (k : ∀ p H', Own R H' ((p, .tup (cutV xs lo hi)) :: L) → Q (.ref p) H') : rSlT K (.ref a) lo hi H Q :=
  ⟨a, xs, rfl, SqT.of h, c, fun p hp => k p _ (O.new hp)⟩
end
/-! o.m(e, ..) in a try's suite -/
section
variable {X : Cx} {CX : CXT} {k : Nat} {f C : Addr} {fd : FuncData} {ps : List Str} {sp : Sp} {E : L2.St → XK} {m : Str} {pos apos : Pos} {e o : Expr} {es : List Expr} {ta : TE} {t : TA}
def tMethE (C : Addr) (m : Str) (sp : Sp) (E : L2.St → XK) (ta : TE) (t : TA) : TE := fun σ H Q => ta σ H fun x H1 => ∃ a dx fs, x = .ref a ∧ H1 a = some (.ins C dx fs) ∧ fs.lookup m = none ∧ t σ H1 fun vs H2 => sp (x :: vs) H2 Q (E σ)
theorem o_methE {σ : L2.St} {H : Hp} {Q : VK} (h : ta σ H fun x H1 => ∃ a dx fs, x = .ref a ∧ H1 a = some (.ins C dx fs) ∧ fs.lookup m = none ∧ t σ H1 fun vs H2 => sp (x :: vs) H2 Q (E σ)) : tMethE C m sp E ta t σ H Q := h
theorem pe_methE {pl : Sem Bool} (he : PE X o ta) (c : Cls X.K C) (hm : Meth X.K C m f) (F : FnOk X.prog X.w X.K X.mg X.base CX k f fd ps sp) (hr : Room k X.A) (hb : Binds X.K fd ps []) (hx : ∀ σ, PassesAt CX X σ (E σ)) (ha : PA X (e :: es) t)
    (hst : starEach (e :: es) X.env = (false, eval e X.env) :: starEach es X.env := by rfl) (hpl : (backTo pos (starEach es X.env)).any (·.1) = false := by rfl)
    (ht : eval (.Call (.Attribute o m apos) (e :: es) [] pos) X.env = (do
      let ov ← eval o X.env
      standAt apos.atName
      let (f, first) ← holding [ov] (getMethod ov m pl)
      callWith pos f first (backTo pos (starEach (e :: es) X.env)) (backToKw pos (keywordEach [] X.env))) := by rfl) :
    PE X (.Call (.Attribute o m apos) (e :: es) [] pos) (tMethE C m sp E ta t) := by
  refine ⟨fun pins s σ H Q I h => ?_⟩
  refine PySem.W.methodCall_KW (pl := pl) (thn (he.run pins s σ H _ I h) fun u s1 ⟨x, H1, I1, rx, a, dx, fs, ex, ea, l, q⟩ => ?_) ht
  subst ex
  obtain rfl : u = Value.ref a := rx
  refine getmeth_ok I1 ea c hm l ?_
  refine PySem.W.callWith_K (first := [.ref a]) (h₀ := X.base) I.ok.mod.kin hm.kp (thn (ha.run pos pins s1 σ H1 _ I1 q) fun us s2 ⟨vs, H2, I2, r, q2⟩ => ⟨I2.kIn, ?_⟩) hst hpl
  exact run_fnS (us := .ref a :: us) (vs := .ref a :: vs) F hr hb (hx σ) I2 (.cons rfl r) q2
end
/-! a, b = x, y -/
theorem o_par {i j : Nat} {ta : TA} {n b k : L2.St → Hp → Prop} {w : VK} {σ : L2.St} {H : Hp} (h : ta σ H fun vs H1 => ∃ x y, vs = [x, y] ∧ n ((σ.set i (some x)).set j (some y)) H1) : tPar i j ta (Ends.mk n w b k) σ H := h
/-! a list of data that is to stay, repeated -/
section
variable {α : Type} {P : V → α → Prop} {vs : List V} {xs zs : List α} {k : Int} {R H : Hp} {L : List Cell} {a : Addr} {Q : VK}
theorem All2.rep (h : All2 P vs xs) : ∀ n : Nat, All2 P (List.replicate n vs).flatten (List.replicate n xs).flatten
  | 0 => .nil
  | n + 1 => by
    rw [List.replicate_succ, List.replicate_succ, List.flatten_cons, List.flatten_cons]
    exact h.app (All2.rep h n)
theorem k_repA (O : Own R H L) (h1 : H a = some (.lst vs)) (ha : All2 P vs xs) (h : repG xs k = some zs) (q : ∀ p H' ws, Own R H' ((p, .lst ws) :: L) → All2 P ws zs → Q (.ref p) H') : rRep (.ref a) (.int k) H Q := by
  obtain ⟨⟨c1, c2, c3⟩, rfl⟩ := grdE h
  exact ⟨a, k, vs, rfl, rfl, h1, c1, c2, by rw [ha.len]; exact c3, fun p hp => q p _ _ (O.new hp) (ha.rep _)⟩
end
/-! a list of data, each seen as one of several kinds -/
theorem All2.mapR {α β : Type} {P : V → α → Prop} {P' : V → β → Prop} {g : α → β} (h : ∀ v x, P v x → P' v (g x)) {vs : List V} {xs : List α} (k : All2 P vs xs) : All2 P' vs (xs.map g) := by
  induction k with
  | nil => exact .nil
  | cons a _ ih => exact .cons (h _ _ a) ih
theorem rL_map {α β : Type} {P : Rp α} {P' : Rp β} {F : Hp} {g : α → β} (h : ∀ F v x, P F v x → P' F v (g x)) {v : V} {xs : List α} (k : rL P F v xs) : rL P' F v (xs.map g) := by
  obtain ⟨p, vs, e, h1, h2⟩ := k
  exact ⟨p, vs, e, h1, h2.mapR (h F)⟩
/-! a and b, where b changes what is read no more -/
theorem x_andVJ2 {c d e : Bool} {tt uu : TE} {σ : L2.St} {H : Hp} {Q : VK} (J J2 : Hp → Prop) (hJ : ∀ H', J H' → J2 H') (h1 : ∀ Q1 : VK, (∀ H', J H' → Q1 (.bl c) H') → tt σ H Q1) (h2 : c = true → e = d ∧ ∀ H', J H' → ∀ Q2 : VK, (∀ H'', J2 H'' → Q2 (.bl e) H'') → uu σ H' Q2)
    (h3 : c = false → false = d) (k : ∀ H', J2 H' → Q (.bl d) H') : tAndV tt uu σ H Q := by
  refine h1 _ fun H' O' => ⟨_, rfl, ?_⟩
  cases c with
  | true =>
    obtain ⟨e1, g2⟩ := h2 rfl
    subst e1
    exact g2 H' O' Q k
  | false =>
    rw [← h3 rfl] at k
    exact k H' (hJ H' O')
end Bt

set_option Elab.async false
set_option linter.all false
set_option maxRecDepth 100000
set_option maxHeartbeats 4000000
/-! More built-ins of lists. -/
namespace Bt
open PySem L2 PySem.Spec PyProof.Rows
def minG : List Int → Option Int
  | [] => none
  | n :: ns => some (ns.foldl min n)
def maxG : List Int → Option Int
  | [] => none
  | n :: ns => some (ns.foldl max n)
theorem foldl_min (ns : List Int) : ∀ n : Int, (ns.foldl min n = n ∨ ns.foldl min n ∈ ns) ∧ ns.foldl min n ≤ n ∧ ∀ y ∈ ns, ns.foldl min n ≤ y := by
  induction ns with
  | nil => intro n; exact ⟨.inl rfl, Int.le_refl _, fun _ h => nomatch h⟩
  | cons m r ih =>
    intro n
    obtain ⟨h1, h2, h3⟩ := ih (min n m)
    refine ⟨?_, ?_, fun y hy => ?_⟩
    · rcases h1 with h1 | h1
      · by_cases h : n ≤ m
        · left; show r.foldl min (min n m) = n; rw [h1]; omega
        · right; show r.foldl min (min n m) ∈ m :: r; rw [h1, show min n m = m by omega]; exact List.Mem.head _
      · exact .inr (List.Mem.tail _ h1)
    · show r.foldl min (min n m) ≤ n; omega
    · rcases List.mem_cons.mp hy with rfl | hy
      · show r.foldl min (min n y) ≤ y; omega
      · exact h3 y hy
theorem foldl_max (ns : List Int) : ∀ n : Int, (ns.foldl max n = n ∨ ns.foldl max n ∈ ns) ∧ n ≤ ns.foldl max n ∧ ∀ y ∈ ns, y ≤ ns.foldl max n := by
  induction ns with
  | nil => intro n; exact ⟨.inl rfl, Int.le_refl _, fun _ h => nomatch h⟩
  | cons m r ih =>
    intro n
    obtain ⟨h1, h2, h3⟩ := ih (max n m)
    refine ⟨?_, ?_, fun y hy => ?_⟩
    · rcases h1 with h1 | h1
      · by_cases h : m ≤ n
        · left; show r.foldl max (max n m) = n; rw [h1]; omega
        · right; show r.foldl max (max n m) ∈ m :: r; rw [h1, show max n m = m by omega]; exact List.Mem.head _
      · exact .inr (List.Mem.tail _ h1)
    · show n ≤ r.foldl max (max n m); omega
    · rcases List.mem_cons.mp hy with rfl | hy
      · show y ≤ r.foldl max (max n y); omega
      · exact h3 y hy
theorem minG_spec {xs : List Int} {m : Int} (h : minG xs = some m) : 0 < xs.length ∧ m ∈ xs ∧ ∀ y ∈ xs, m ≤ y := by
  cases xs with
  | nil => cases h
  | cons n r =>
    cases h
    obtain ⟨h1, h2, h3⟩ := foldl_min r n
    refine ⟨by simp, ?_, fun y hy => ?_⟩
    · rcases h1 with h1 | h1
      · rw [h1]; exact List.Mem.head _
      · exact List.Mem.tail _ h1
    · rcases List.mem_cons.mp hy with rfl | hy
      · exact h2
      · exact h3 y hy
theorem maxG_spec {xs : List Int} {m : Int} (h : maxG xs = some m) : 0 < xs.length ∧ m ∈ xs ∧ ∀ y ∈ xs, y ≤ m := by
  cases xs with
  | nil => cases h
  | cons n r =>
    cases h
    obtain ⟨h1, h2, h3⟩ := foldl_max r n
    refine ⟨by simp, ?_, fun y hy => ?_⟩
    · rcases h1 with h1 | h1
      · rw [h1]; exact List.Mem.head _
      · exact List.Mem.tail _ h1
    · rcases List.mem_cons.mp hy with rfl | hy
      · exact h2
      · exact h3 y hy
section
variable {K : PySem.W.Frag} {H R : Hp} {L : List Cell} {Q : VK} {a : Addr} {xs : List Int} {m : Int}
theorem k_min (hs : SqL K H a (xs.map V.int)) (h : minG xs = some m) (q : Q (.int m) H) : rMin K [.ref a] H Q := by
  obtain ⟨h1, h2, h3⟩ := minG_spec h
  refine ⟨a, xs, rfl, hs, h1, fun m' hm hy => ?_⟩
  have e1 := hy m h2
  have e2 := h3 m' hm
  have : m' = m := by omega
  rw [this]; exact q
theorem k_max (hs : SqL K H a (xs.map V.int)) (h : maxG xs = some m) (q : Q (.int m) H) : rMax K [.ref a] H Q := by
  obtain ⟨h1, h2, h3⟩ := maxG_spec h
  refine ⟨a, xs, rfl, hs, h1, fun m' hm hy => ?_⟩
  have e1 := hy m h2
  have e2 := h3 m' hm
  have : m' = m := by omega
  rw [this]; exact q
end
theorem inV_str (i : Str) : ∀ xs : List Str, inV (.str i) (xs.map V.str) = decide (i ∈ xs)
  | [] => rfl
  | y :: r => by
    have ih := inV_str i r
    have e : inV (.str i) ((y :: r).map V.str) = (eqV (.str y) (.str i) || inV (.str i) (r.map V.str)) := rfl
    rw [e, ih]
    have e2 : eqV (.str y) (.str i) = decide (i = y) := by
      by_cases h : i = y
      · subst h; simp [eqV]
      · have : ¬ y = i := fun q => h q.symm
        simp [eqV, h, this]
    rw [e2]
    simp
theorem flat_str : ∀ xs : List Str, (xs.map V.str).all flatV = true
  | [] => rfl
  | y :: r => by
    have ih := flat_str r
    show (flatV (.str y) && (r.map V.str).all flatV) = true
    rw [ih]
    rfl
section
variable {K : PySem.W.Frag} {H : Hp} {Q : VK} {a : Addr} {i : Str} {ns : List Str}
theorem k_inLS (hs : SqL K H a (ns.map V.str)) (k : Q (.bl (decide (i ∈ ns))) H) : rIn K false (.str i) (.ref a) H Q := ⟨a, _, rfl, .inl hs, rfl, flat_str _, by rw [inV_str]; exact k⟩
theorem k_niLS (hs : SqL K H a (ns.map V.str)) (k : Q (.bl (!decide (i ∈ ns))) H) : rIn K true (.str i) (.ref a) H Q := ⟨a, _, rfl, .inl hs, rfl, flat_str _, by rw [inV_str]; exact k⟩
theorem k_inTS (hs : SqT K H a (ns.map V.str)) (k : Q (.bl (decide (i ∈ ns))) H) : rIn K false (.str i) (.ref a) H Q := ⟨a, _, rfl, .inr hs, rfl, flat_str _, by rw [inV_str]; exact k⟩
theorem k_niTS (hs : SqT K H a (ns.map V.str)) (k : Q (.bl (!decide (i ∈ ns))) H) : rIn K true (.str i) (.ref a) H Q := ⟨a, _, rfl, .inr hs, rfl, flat_str _, by rw [inV_str]; exact k⟩
end
/-! l.count(x), l.index(x) of data -/
def rCountD (K : PySem.W.Frag) : V → List V → Hp → VK → Prop := fun x xs H Q => ∃ (a : Addr) (y : V) (d : PyData) (ds : List PyData), x = V.ref a ∧ xs = [y] ∧ Dp K H (V.ref a) (.list ds) ∧ Dp K H y d ∧
  SeqAt.shaped (.list ds) = true ∧ SeqAt.shaped d = true ∧ Q (.int ((ds.countP fun z => PyData.eqv z d : Nat) : Int)) H
theorem mt_countD {X : Cx} (hu : X.A.units + 65 < cLine) : MtR X "list.count" (rCountD X.K) := by
  intro pins s σ H x xs v us Q I rx rxs h
  obtain ⟨a, y, d, ds, rfl, rfl, hl, hy, sl, sd, q⟩ := h
  cases rx
  cases rxs with
  | cons ry rt =>
    rename_i uy ut
    cases rt
    obtain ⟨bs, r1⟩ := Dp.reads I d y uy hy ry
    have hxs : PyData.canLayAll0 ds = true := SeqAt.canLay_of_shaped sl
    have hroom : X.A.units + 1 + min (PyData.depthAll ds) d.depth < cLine := room_in_shaped sd hu
    cases hl with
    | lst hs ha =>
      obtain ⟨its, rv, ⟨⟨cls, dd, data, sls⟩, n, ho, hc, hdn, hdt⟩, hlen⟩ := I.list hs
      simp only at hc hdt
      subst hc hdt
      obtain ⟨as, h4⟩ := Dp.readsAll I ds _ its ha rv
      have hmap : its.map (SeqAt.readOf s.heap) = ds := SeqAt.readsAll_map ds its as hxs h4
      have e : its.toArray.toList.countP (fun u => PyData.eqv (SeqAt.readOf s.heap u) d) = ds.countP fun z => PyData.eqv z d := by
        rw [← hmap, List.countP_map]
        rfl
      rw [← e] at q
      exact call_meets PySem.F.slot_list_count ⟨_, ho, rfl⟩ PySem.F.entry_list_count (PySem.F.args_list_count_2 _ _) (SeqAt.list_countAt a its.toArray n dd sls uy (fun u => PyData.eqv (SeqAt.readOf s.heap u) d))
        ⟨ho, SeqAt.items_eqAt (vs := its.toArray) (show ReadsAll s.heap its.toArray.toList ds as from h4) r1 hxs (SeqAt.canLay_of_shaped sd) hroom, ⟨.int _, H, I.tok _, ⟨_, rfl⟩, q⟩⟩
section
variable {α : Type} [DecidableEq α] {P : Rp α} {K : PySem.W.Frag} {H : Hp} {v w : V} {xs : List α} {y : α} {Q : VK} {a : Addr}
def cntL (xs : List α) (y : α) : Int := ((xs.countP fun z => decide (z = y) : Nat) : Int)
theorem countP_de (e : Dq P) (y : α) : ∀ xs : List α, ((xs.map e.d).countP fun z => PyData.eqv z (e.d y)) = xs.countP fun z => decide (z = y)
  | [] => rfl
  | x :: r => by
    rw [List.map_cons, List.countP_cons, List.countP_cons, countP_de e y r, e.eq x y]
theorem k_countD (e : Dq P) (h : e.n ≤ 60) (hx : PyData.canLay0 ((dqL e).d xs) = true) (hy : PyData.canLay0 (e.d y) = true) (h1 : rL P H (.ref a) xs) (h2 : P H v y) (q : Q (.int (cntL xs y)) H) : rCountD K (.ref a) [v] H Q :=
  ⟨a, v, e.d y, xs.map e.d, rfl, rfl, (dqL e).dp K H _ _ h1, e.dp K H _ _ h2, sh_dq (dqL e) (by show e.n + 1 ≤ 64; omega) hx, sh_dq e (by omega) hy, by rw [countP_de]; exact q⟩
def idxL : List α → α → Option Int
  | [], _ => none
  | x :: r, y => if x = y then some 0 else match idxL r y with
    | some j => some (j + 1)
    | none => none
theorem idxL_spec : ∀ {xs : List α} {j : Int}, idxL xs y = some j → ∃ n : Nat, j = n ∧ xs[n]? = some y ∧ ∀ m z, m < n → xs[m]? = some z → z ≠ y
  | [], j, h => by cases h
  | x :: r, j, h => by
    unfold idxL at h
    by_cases c : x = y
    · rw [if_pos c] at h
      cases h
      exact ⟨0, rfl, by rw [c]; rfl, fun m z hm => by omega⟩
    · rw [if_neg c] at h
      cases e : idxL r y with
      | none => rw [e] at h; cases h
      | some i =>
        rw [e] at h
        cases h
        obtain ⟨n, rfl, h1, h2⟩ := idxL_spec e
        refine ⟨n + 1, by omega, by simpa using h1, fun m z hm hz => ?_⟩
        cases m with
        | zero => cases Option.some.inj hz; exact c
        | succ m => exact h2 m z (by omega) (by simpa using hz)
theorem k_indexD (e : Dq P) (h : e.n ≤ 60) (hx : PyData.canLay0 ((dqL e).d xs) = true) (hy : PyData.canLay0 (e.d y) = true) (h1 : rL P H (.ref a) xs) (h2 : P H v y) {j : Int} (hj : idxL xs y = some j) (q : Q (.int j) H) : rIndexD K (.ref a) [v] H Q := by
  obtain ⟨n, rfl, g1, g2⟩ := idxL_spec hj
  refine ⟨a, v, e.d y, xs.map e.d, n, e.d y, rfl, rfl, (dqL e).dp K H _ _ h1, e.dp K H _ _ h2, sh_dq (dqL e) (by show e.n + 1 ≤ 64; omega) hx, sh_dq e (by omega) hy, by rw [List.getElem?_map, g1]; rfl, by rw [e.eq]; simp, fun m z' hm hz => ?_, q⟩
  rw [List.getElem?_map] at hz
  cases e1 : xs[m]? with
  | none => rw [e1] at hz; cases hz
  | some z =>
    rw [e1] at hz
    cases hz
    rw [e.eq]
    exact decide_eq_false (g2 m z hm e1)
theorem okInts (xs : List Int) : PyData.canLay0 ((dqL (De.q deI)).d xs) = true := by
  show PyData.canLay0 (.list (xs.map PyData.int)) = true
  simp only [PyData.canLay0]
  induction xs with
  | nil => rfl
  | cons x r ih => simp only [List.map_cons, PyData.canLayAll0, PyData.canLay0, ih, Bool.and_self]
theorem okDe {P : Rp α} (e : De P) (y : α) : PyData.canLay0 ((De.q e).d y) = true := e.ok y
theorem okDeL {P : Rp α} (e : De P) (xs : List α) : PyData.canLay0 ((dqL (De.q e)).d xs) = true := by
  show PyData.canLay0 (.list (xs.map e.d)) = true
  simp only [PyData.canLay0]
  exact ok_all e xs
end
/-! xs.insert(i, y) -/
section
variable {α : Type} {f : α → V} {R H : Hp} {L : List Cell} {a : Addr} {xs ys : List α} {y : α} {i : Int} {Q : VK} {v : V} {P : V → α → Prop} {vs : List V}
def insG (xs : List α) (i : Int) (y : α) : Option (List α) := grd (xs.length < sizeLine ∧ 0 ≤ i ∧ i < 2 ^ 63) (xs.take i.toNat ++ [y] ++ xs.drop i.toNat)
def rInsert : V → List V → Hp → VK → Prop := fun x vs H Q => ∃ (l : Addr) (xs : List V) (i : Int) (y : V), x = .ref l ∧ vs = [.int i, y] ∧ H l = some (.lst xs) ∧ xs.length < sizeLine ∧ 0 ≤ i ∧ i < 2 ^ 63 ∧
    Q .non (upd H l (.lst (xs.take i.toNat ++ [y] ++ xs.drop i.toNat)))
theorem k_ins {g : HO → List Cell} (hl : H a = some (.lst (xs.map f))) (hp : ∀ o', Own R (upd H a o') (g o')) (h : insG xs i y = some ys) (k : ∀ H', Own R H' (g (.lst (ys.map f))) → Q .non H') : rInsert (.ref a) [.int i, f y] H Q := by
  obtain ⟨⟨c1, c2, c3⟩, rfl⟩ := grdE h
  refine ⟨a, _, i, _, rfl, rfl, hl, by rw [List.length_map]; exact c1, c2, c3, ?_⟩
  rw [← List.map_take, ← List.map_drop, map_snoc, ← List.map_append]
  exact k _ (hp _)
theorem k_insA {g : HO → List Cell} (hl : H a = some (.lst vs)) (ha : All2 P vs xs) (hp : ∀ o', Own R (upd H a o') (g o')) (h : insG xs i y = some ys) (hv : P v y) (k : ∀ H' ws, Own R H' (g (.lst ws)) → All2 P ws ys → Q .non H') : rInsert (.ref a) [.int i, v] H Q := by
  obtain ⟨⟨c1, c2, c3⟩, rfl⟩ := grdE h
  exact ⟨a, _, i, _, rfl, rfl, hl, by rw [ha.len]; exact c1, c2, c3, k _ _ (hp _) (((ha.take _).snoc hv).app (ha.drop _))⟩
theorem k_insE {g : HO → List Cell} (hl : H a = some (.lst vs)) (hp : ∀ o', Own R (upd H a o') (g o')) (c1 : vs.length < sizeLine) (c2 : 0 ≤ i) (c3 : i < 2 ^ 63) (k : ∀ H', Own R H' (g (.lst (vs.take i.toNat ++ [v] ++ vs.drop i.toNat))) → Q .non H') : rInsert (.ref a) [.int i, v] H Q :=
  ⟨a, _, i, _, rfl, rfl, hl, c1, c2, c3, k _ (hp _)⟩
end
def rInt : List V → Hp → VK → Prop := fun xs H Q => (∃ i, xs = [.int i] ∧ Q (.int i) H) ∨ ∃ k, xs = [.bl k] ∧ Q (.int (if k then 1 else 0)) H
theorem call_intQ {X : Cx} : CallR X (.type "int") rInt := call_int1
theorem mt_insertQ {X : Cx} : MtR X "list.insert" rInsert := mt_insert
end Bt

set_option Elab.async false
set_option linter.all false
set_option maxRecDepth 100000
set_option maxHeartbeats 4000000
set_option synthInstance.maxHeartbeats 400000
set_option synthInstance.maxSize 4096
namespace Bt
open PySem L2
def top (i : Nat) : Stmt := PySem.Challenge.pw_bitrail_k73_whole_things_whole_or_broken.main.body.getD i (.Pass ⟨0, 0, 0, 0⟩)
abbrev s__law_draw : Stmt := top 13
abbrev s_Joiner_end : Stmt := (clsB (top 6)).getD 2 (.Pass ⟨0, 0, 0, 0⟩)
abbrev s__law_thing : Stmt := top 14
abbrev s_Joiner_init : Stmt := (clsB (top 6)).getD 0 (.Pass ⟨0, 0, 0, 0⟩)
abbrev s_is_byte : Stmt := top 10
abbrev s_cut : Stmt := top 11
abbrev s_Joiner_is_open : Stmt := (clsB (top 6)).getD 1 (.Pass ⟨0, 0, 0, 0⟩)
abbrev s_ask_piece : Stmt := top 5
abbrev s_Joiner_stray : Stmt := (clsB (top 6)).getD 4 (.Pass ⟨0, 0, 0, 0⟩)
abbrev s_Joiner_take : Stmt := (clsB (top 6)).getD 3 (.Pass ⟨0, 0, 0, 0⟩)
abbrev s__law_is_apart : Stmt := top 15
abbrev s_law : Stmt := top 16
structure Ad where
  f__law_draw : Addr
  fd__law_draw : FuncData
  f_Joiner_end : Addr
  fd_Joiner_end : FuncData
  f__law_thing : Addr
  fd__law_thing : FuncData
  f_Joiner_init : Addr
  fd_Joiner_init : FuncData
  f_is_byte : Addr
  fd_is_byte : FuncData
  f_cut : Addr
  fd_cut : FuncData
  f_Joiner_is_open : Addr
  fd_Joiner_is_open : FuncData
  f_ask_piece : Addr
  fd_ask_piece : FuncData
  f_Joiner_stray : Addr
  fd_Joiner_stray : FuncData
  f_Joiner_take : Addr
  fd_Joiner_take : FuncData
  f__law_is_apart : Addr
  fd__law_is_apart : FuncData
  f_law : Addr
  fd_law : FuncData
  c_Joiner : Addr
  es : Eds
structure S_Joiner where
  tag : Option Int
  due : Int
  joined : Int
  kept : List Int
  broken_tag : Option Int
deriving DecidableEq
def o_Joiner (ad : Ad) : Ob S_Joiner := fun F a L s => ∃ (dx : Addr) (p_kept : Addr), L = ((a, .ins ad.c_Joiner dx [("tag", ov V.int s.tag), ("due", .int s.due), ("joined", .int s.joined), ("kept", .ref p_kept), ("broken_tag", ov V.int s.broken_tag)]) :: (dx, .own a) :: ((p_kept, .lst (List.map V.int s.kept)) :: []))
theorem mo_Joiner (ad : Ad) : MonoO (o_Joiner ad) := by
  rintro F F' a L s e ⟨x0, x1, h⟩
  exact ⟨x0, x1, h⟩
structure Txt (K : PySem.W.Frag) (mg : Str → Option Value) (ad : Ad) : Prop where
  F__law_draw : Fun K "_law_draw" "_law_draw" s__law_draw ad.f__law_draw ad.fd__law_draw
  g__law_draw : mg "_law_draw" = some (.ref ad.f__law_draw)
  b__law_draw : Binds K ad.fd__law_draw ["script", "k", "many"] []
  F_Joiner_end : Fun K "end" "Joiner.end" s_Joiner_end ad.f_Joiner_end ad.fd_Joiner_end
  b_Joiner_end : Binds K ad.fd_Joiner_end ["self"] []
  F__law_thing : Fun K "_law_thing" "_law_thing" s__law_thing ad.f__law_thing ad.fd__law_thing
  g__law_thing : mg "_law_thing" = some (.ref ad.f__law_thing)
  b__law_thing : Binds K ad.fd__law_thing ["script", "k"] []
  F_Joiner_init : Fun K "__init__" "Joiner.__init__" s_Joiner_init ad.f_Joiner_init ad.fd_Joiner_init
  b_Joiner_init : Binds K ad.fd_Joiner_init ["self"] []
  F_is_byte : Fun K "is_byte" "is_byte" s_is_byte ad.f_is_byte ad.fd_is_byte
  g_is_byte : mg "is_byte" = some (.ref ad.f_is_byte)
  b_is_byte : Binds K ad.fd_is_byte ["number"] []
  F_cut : Fun K "cut" "cut" s_cut ad.f_cut ad.fd_cut
  g_cut : mg "cut" = some (.ref ad.f_cut)
  b_cut : Binds K ad.fd_cut ["tag", "thing"] []
  F_Joiner_is_open : Fun K "is_open" "Joiner.is_open" s_Joiner_is_open ad.f_Joiner_is_open ad.fd_Joiner_is_open
  b_Joiner_is_open : Binds K ad.fd_Joiner_is_open ["self"] []
  F_ask_piece : Fun K "ask_piece" "ask_piece" s_ask_piece ad.f_ask_piece ad.fd_ask_piece
  g_ask_piece : mg "ask_piece" = some (.ref ad.f_ask_piece)
  b_ask_piece : Binds K ad.fd_ask_piece ["piece"] []
  F_Joiner_stray : Fun K "stray" "Joiner.stray" s_Joiner_stray ad.f_Joiner_stray ad.fd_Joiner_stray
  b_Joiner_stray : Binds K ad.fd_Joiner_stray ["self", "tag"] []
  F_Joiner_take : Fun K "take" "Joiner.take" s_Joiner_take ad.f_Joiner_take ad.fd_Joiner_take
  b_Joiner_take : Binds K ad.fd_Joiner_take ["self", "piece"] []
  F__law_is_apart : Fun K "_law_is_apart" "_law_is_apart" s__law_is_apart ad.f__law_is_apart ad.fd__law_is_apart
  g__law_is_apart : mg "_law_is_apart" = some (.ref ad.f__law_is_apart)
  b__law_is_apart : Binds K ad.fd__law_is_apart ["joiner", "tag"] []
  F_law : Fun K "law" "law" s_law ad.f_law ad.fd_law
  g_law : mg "law" = some (.ref ad.f_law)
  b_law : Binds K ad.fd_law ["script"] []
  z_int : mg "int" = none
  z_isinstance : mg "isinstance" = none
  z_len : mg "len" = none
  z_list : mg "list" = none
  z_max : mg "max" = none
  z_range : mg "range" = none
  g_LONGEST : Gv mg "LONGEST" (.int 75)
  g_PART_joiners : Gv mg "PART_joiners" (.int 5)
  g_PART_things : Gv mg "PART_things" (.int 5)
  e_NoThing : ErrC K mg "NoThing" ad.es.NoThing
  C_Joiner : Cls K ad.c_Joiner
  N_Joiner_broken_tag : NoAttr K ad.c_Joiner "broken_tag"
  N_Joiner_due : NoAttr K ad.c_Joiner "due"
  N_Joiner_joined : NoAttr K ad.c_Joiner "joined"
  N_Joiner_kept : NoAttr K ad.c_Joiner "kept"
  N_Joiner_tag : NoAttr K ad.c_Joiner "tag"
  M_Joiner_end : Meth K ad.c_Joiner "end" ad.f_Joiner_end
  M_Joiner_is_open : Meth K ad.c_Joiner "is_open" ad.f_Joiner_is_open
  M_Joiner_stray : Meth K ad.c_Joiner "stray" ad.f_Joiner_stray
  M_Joiner_take : Meth K ad.c_Joiner "take" ad.f_Joiner_take
  K_Joiner : Mk K ad.c_Joiner ad.f_Joiner_init
  k_Joiner : mg "Joiner" = some (.ref ad.c_Joiner)
section
variable {P : Program} {w : World} {K : PySem.W.Frag} {mg : Str → Option Value} {base : Heap}
def m__law_draw (script_1 : List Int) (k_3 : Int) (many_4 : Int) : Option (Int) :=
  bnd (ifB (decide ((0 : Int) < (List.length script_1 : Int))) (bnd (modG k_3 (List.length script_1 : Int)) fun t_5 =>
  bnd (atI script_1 t_5) fun e_7 => some e_7) ( some (0 : Int))) fun z_10 =>
  bnd (mulG ((31 : Int) * k_3) k_3) fun t_12 =>
  ltv ((((z_10 % (1000003 : Int)) + t_12) + (1 : Int))) fun seed_14 =>
  bnd (modG ((((seed_14 * (48271 : Int)) % (999983 : Int)) * (7919 : Int)) % (524287 : Int)) many_4) fun t_16 =>
  some t_16
def sp__law_draw (K : PySem.W.Frag) : Sp := fun vs H Q _ => ∃ (script_1 : List Int) (a_2 : Addr) (k_3 : Int) (many_4 : Int) (r : Int), vs = [.ref a_2, .int k_3, .int many_4] ∧ SqL K H a_2 (List.map V.int script_1) ∧ m__law_draw script_1 k_3 many_4 = some r ∧ RetV (.int r) H Q
abbrev N__law_draw : List Str := ["script", "k", "many", "cell", "seed"]
theorem sc__law_draw : FnScope N__law_draw ["script", "k", "many"] (defScope s__law_draw) := ⟨rfl, rfl, rfl, by decide +kernel, rfl, by decide +kernel, by decide +kernel⟩
theorem ok__law_draw {ad : Ad} (T : Txt K mg ad) : FnOk P w K mg base CX0 1 ad.f__law_draw ad.fd__law_draw ["script", "k", "many"] (sp__law_draw K) := by
  refine T.F__law_draw.ok sc__law_draw (fun vs H Q E h => ?_) (fun cdv A outer s H vs Q E hr h => ?_)
  · obtain ⟨_, _, _, _, _, rfl, _⟩ := h
    rfl
  · obtain ⟨script_1, a_2, k_3, many_4, r, rfl, hp_a_2, hm, k⟩ := h
    unfold m__law_draw at hm
    obtain ⟨H0, hH0⟩ : ∃ H0 : Hp, H0 = H := ⟨H, rfl⟩
    have O : Own H0 H [] := by rw [hH0]; exact Own.start H
    rw [← hH0] at k hp_a_2
    clear hH0
    refine ⟨_, (pss_cons (ps_set (i := 3) sc__law_draw.nd rfl (Or.inl rfl) (pe_ifExp (pt_cmpR op_gt (pe_callB (r := rLenQ K) call_lenQ (by rfl) T.z_len PySem.boot_len (pa_cons (pv 0) pa_nil)) pe_int (nomark _)) (pe_ix (r := rIxL K) ix_list (pv 0) (pe_op op_mod (pv 1) (pe_callB (r := rLenQ K) call_lenQ (by rfl) T.z_len PySem.boot_len (pa_cons (pv 0) pa_nil))) (fun _ _ => rfl)) pe_int)) (pss_cons (ps_set (i := 4) sc__law_draw.nd rfl (Or.inl rfl) (pe_op op_add (pe_op op_add (pe_op op_mod (pv 3) pe_int) (pe_op op_mulW (pe_op op_mul pe_int (pv 1)) (pv 1))) pe_int)) (pss_one (ps_ret (pe_op op_mod (pe_op op_mod (pe_op op_mul (pe_op op_mod (pe_op op_mul (pv 4) pe_int) pe_int) pe_int) pe_int) (pv 2)))))), ?_⟩
    -- 85
    refine o_seq ?_
    refine o_asg ?_
    obtain ⟨z_10, h11, hm⟩ := bndE hm
    refine x_if (c := decide ((0 : Int) < (List.length script_1 : Int))) (x := .int z_10) (y := .int z_10) (v := .int z_10) O (fun Q1 k1 => ?_) (fun h9 => ⟨rfl, fun H O Q2 k2 => ?_⟩) (fun h9 => ⟨rfl, fun H O Q2 k2 => ?_⟩) (fun H O => ?_)
    · refine ⟨_, rfl, ?_⟩
      refine x_nil ?_
      refine n_len (O.ex.l hp_a_2) ?_
      refine ⟨_, _, rfl, rfl, _, rfl, ?_⟩
      exact k1 _ O
    · replace hm := ifT h11 h9
      obtain ⟨t_5, h6, hm⟩ := bndE hm
      obtain ⟨e_7, h8, hm⟩ := bndE hm
      obtain rfl := Option.some.inj hm
      refine ⟨_, rfl, _, rfl, _, rfl, ?_⟩
      refine x_nil ?_
      refine n_len (O.ex.l hp_a_2) ?_
      refine k_mod h6 ?_
      refine k_ixL (f := V.int) (O.ex.l hp_a_2) h8 ?_
      exact k2 _ O
    · replace hm := ifF h11 h9
      obtain rfl := Option.some.inj hm
      refine o_c ?_
      exact k2 _ O
    -- 86
    refine o_seq ?_
    refine o_asg ?_
    obtain ⟨t_12, h13, hm⟩ := bndE hm
    refine ⟨_, rfl, _, _, rfl, rfl, (by show (0 : Int) < 1000003; decide), _, rfl, _, _, rfl, rfl, .inl ⟨by decide, by decide⟩, _, rfl, ?_⟩
    refine k_mul h13 ?_
    refine ⟨_, _, rfl, rfl, _, _, rfl, rfl, ?_⟩
    obtain ⟨seed_14, h15, hm⟩ := ltvE hm
    refine a_set (congrArg V.int h15) ?_
    -- 87
    refine o_ret ?_
    obtain ⟨t_16, h17, hm⟩ := bndE hm
    refine ⟨_, rfl, _, _, rfl, rfl, .inr ⟨by decide, by decide⟩, _, _, rfl, rfl, (by show (0 : Int) < 999983; decide), _, _, rfl, rfl, .inr ⟨by decide, by decide⟩, _, _, rfl, rfl, (by show (0 : Int) < 524287; decide), _, rfl, ?_⟩
    refine k_mod h17 ?_
    obtain rfl := Option.some.inj hm
    exact RetV.go k O
def m_Joiner_end (self_1 : S_Joiner) : Option (S_Joiner × (List ((Str × Int) ⊕ (Str × Int × (List Int))))) :=
  ifB (Option.isNone self_1.tag) (
    some (self_1, ([] : List ((Str × Int) ⊕ (Str × Int × (List Int)))))) (
    bnd (self_1.tag) fun y_14 =>
    some ((S_Joiner.mk none self_1.due self_1.joined self_1.kept self_1.tag), [(.inl (("broken" : Str), y_14))]))
def sp_Joiner_end (K : PySem.W.Frag) (ad : Ad) : Sp := fun vs H Q _ => ∃ (self_1 : S_Joiner) (a_2 : Addr) (L_3 : List Cell) (R0 : Hp) (r : S_Joiner × (List ((Str × Int) ⊕ (Str × Int × (List Int))))), vs = [.ref a_2] ∧ Own R0 H (L_3 ++ []) ∧ (o_Joiner ad) R0 a_2 L_3 self_1 ∧ m_Joiner_end self_1 = some r ∧ RetX R0 (hsub H (L_3 ++ [])) (dX (o_Joiner ad) a_2 r.1 (dOb (oRowD (rU (rT2 rS rI) (rT3 rS rI (rL rI)))) r.2)) Q
abbrev N_Joiner_end : List Str := ["self"]
theorem sc_Joiner_end : FnScope N_Joiner_end ["self"] (defScope s_Joiner_end) := ⟨rfl, rfl, rfl, by decide +kernel, rfl, by decide +kernel, by decide +kernel⟩
theorem ok_Joiner_end {ad : Ad} (T : Txt K mg ad) : FnOk P w K mg base CX0 1 ad.f_Joiner_end ad.fd_Joiner_end ["self"] (sp_Joiner_end K ad) := by
  refine T.F_Joiner_end.ok sc_Joiner_end (fun vs H Q E h => ?_) (fun cdv A outer s H vs Q E hr h => ?_)
  · obtain ⟨_, _, _, _, _, rfl, _⟩ := h
    rfl
  · obtain ⟨self_1, a_2, L_3, R0, r, rfl, OO, hb_a_2, hm, k⟩ := h
    unfold m_Joiner_end at hm
    obtain ⟨Hb, hHb⟩ : ∃ Hb : Hp, Hb = hsub H (L_3 ++ []) := ⟨_, rfl⟩
    obtain ⟨H0, hH0⟩ : ∃ H0 : Hp, H0 = Hb := ⟨Hb, rfl⟩
    have O : Own H0 H (L_3 ++ []) := by rw [hH0, hHb]; exact OO.startX
    have eR : Ex R0 Hb := by rw [hHb]; exact OO.subR
    rw [← hHb] at k
    have eB : Ex Hb H0 := by rw [hH0]; exact Ex.refl _
    have eS : Ex R0 (ovr R0 Hb H0) := by rw [hH0]; exact ovr_start eR
    replace hb_a_2 := (mo_Joiner ad) _ _ _ _ _ eS hb_a_2
    clear hH0
    refine ⟨_, (pss_cons (ps_if (pt_cmpR (r := rIsN) op_isNq (pe_fld (pv 0) rfl) pe_non (nomark _)) (pss_one (ps_ret (pe_lstQ (pe_lst pa_nil)))) pss_nil) (pss_cons (ps_fld (pv 0) (pe_fld (pv 0) rfl) rfl) (pss_cons (ps_fld (pv 0) pe_non rfl) (pss_one (ps_ret (pe_lstQ (pe_lst (pa_cons (pe_tupQ (pe_tup (pa_cons pe_str (pa_cons (pe_fld (pv 0) rfl) pa_nil)))) pa_nil)))))))), ?_⟩
    obtain ⟨dx_4, p_5, rfl⟩ := hb_a_2
    replace O : Own H0 H [(a_2, .ins ad.c_Joiner dx_4 [("tag", (ov V.int self_1.tag)), ("due", .int self_1.due), ("joined", .int self_1.joined), ("kept", .ref p_5), ("broken_tag", (ov V.int self_1.broken_tag))]), (dx_4, .own a_2), (p_5, .lst (List.map V.int self_1.kept))] := Own.cv O (by first | with_reducible rfl | simp only [List.map_nil, List.flatten_cons, List.flatten_nil, List.cons_append, List.nil_append, List.append_nil, List.append_assoc])
    -- 33
    refine o_seq ?_
    refine o_ifs ?_
    refine ⟨_, rfl, a_2, ad.c_Joiner, dx_4, [("tag", (ov V.int self_1.tag)), ("due", .int self_1.due), ("joined", .int self_1.joined), ("kept", .ref p_5), ("broken_tag", (ov V.int self_1.broken_tag))], ((ov V.int self_1.tag)), rfl, (O.mem (List.Mem.head _)), T.C_Joiner, T.N_Joiner_tag, lk_hit, ?_⟩
    obtain ⟨w_6, h7⟩ : ∃ w_ : V, w_ = (ov V.int self_1.tag) := ⟨_, rfl⟩
    rw [← h7]
    have hn_w_6 : (rO rI) (ovr R0 Hb H0) w_6 self_1.tag := by rw [h7]; exact ov_r (fun _ _ => rfl)
    refine o_c ?_
    refine k_isN nnI hn_w_6 ?_
    refine ⟨_, rfl, ?_⟩
    refine iteS (c := (Option.isNone self_1.tag)) (fun h8 => ?_) (fun h8 => ?_)
    · replace hm := ifT hm h8
      -- 34
      refine o_ret ?_
      refine x_nil ?_
      refine n_lstV O (by show 0 ≤ sizeLine; decide) fun p_9 H O => ?_
      have ha_p_9 : All2 ((rU (rT2 rS rI) (rT3 rS rI (rL rI))) (ovr R0 Hb H0)) ([] : List V) (([] : List ((Str × Int) ⊕ (Str × Int × (List Int)))) : List ((Str × Int) ⊕ (Str × Int × (List Int)))) := .nil
      obtain rfl := Option.some.inj hm
      exact k _ _ H0 (((a_2, .ins ad.c_Joiner dx_4 [("tag", (ov V.int self_1.tag)), ("due", .int self_1.due), ("joined", .int self_1.joined), ("kept", .ref p_5), ("broken_tag", (ov V.int self_1.broken_tag))]) :: (dx_4, .own a_2) :: ((p_5, .lst (List.map V.int self_1.kept)) :: [])) ++ [(p_9, .lst ([] : List V))]) eB (Own.cv (O.sel (L' := [(a_2, .ins ad.c_Joiner dx_4 [("tag", (ov V.int self_1.tag)), ("due", .int self_1.due), ("joined", .int self_1.joined), ("kept", .ref p_5), ("broken_tag", (ov V.int self_1.broken_tag))]), (dx_4, .own a_2), (p_5, .lst (List.map V.int self_1.kept)), (p_9, .lst ([] : List V))]) [1, 2, 3, 0] (by decide) rfl) (by first | with_reducible rfl | simp only [List.map_nil, List.flatten_cons, List.flatten_nil, List.cons_append, List.nil_append, List.append_nil, List.append_assoc])) ⟨_, _, rfl, ⟨dx_4, p_5, rfl⟩, ⟨_, rfl, ⟨_, rfl, ha_p_9⟩⟩⟩
    · replace hm := ifF hm h8
      refine o_next ?_
      -- 35
      refine o_seq ?_
      refine o_sfld ?_
      refine ⟨_, rfl, a_2, ad.c_Joiner, dx_4, [("tag", (ov V.int self_1.tag)), ("due", .int self_1.due), ("joined", .int self_1.joined), ("kept", .ref p_5), ("broken_tag", (ov V.int self_1.broken_tag))], ((ov V.int self_1.tag)), rfl, (O.mem (List.Mem.head _)), T.C_Joiner, T.N_Joiner_tag, lk_hit, ?_⟩
      obtain ⟨w_10, h11⟩ : ∃ w_ : V, w_ = (ov V.int self_1.tag) := ⟨_, rfl⟩
      rw [← h11]
      have hn_w_10 : (rO rI) (ovr R0 Hb H0) w_10 self_1.tag := by rw [h11]; exact ov_r (fun _ _ => rfl)
      refine ⟨_, rfl, ?_⟩
      obtain rfl := rO_ov (f := V.int) (fun _ _ _ h => h) hn_w_10
      refine k_sfld (fs' := [("tag", (ov V.int self_1.tag)), ("due", .int self_1.due), ("joined", .int self_1.joined), ("kept", .ref p_5), ("broken_tag", (ov V.int self_1.tag))]) (O.mem (List.Mem.head _)) T.C_Joiner T.N_Joiner_broken_tag (by show (5 : Nat) < 1000; decide) rfl (putF_skip (by decide) (putF_skip (by decide) (putF_skip (by decide) (putF_skip (by decide) putF_hit)))) (fun _ => O.put0) fun H O => ?_
      -- 36
      refine o_seq ?_
      refine o_sfld ?_
      refine ⟨_, rfl, ?_⟩
      refine k_sfld (fs' := [("tag", (V.non)), ("due", .int self_1.due), ("joined", .int self_1.joined), ("kept", .ref p_5), ("broken_tag", (ov V.int self_1.tag))]) (O.mem (List.Mem.head _)) T.C_Joiner T.N_Joiner_tag (by show (5 : Nat) < 1000; decide) rfl putF_hit (fun _ => O.put0) fun H O => ?_
      -- 37
      refine o_ret ?_
      refine ⟨_, rfl, a_2, ad.c_Joiner, dx_4, [("tag", (V.non)), ("due", .int self_1.due), ("joined", .int self_1.joined), ("kept", .ref p_5), ("broken_tag", (ov V.int self_1.tag))], ((ov V.int self_1.tag)), rfl, (O.mem (List.Mem.head _)), T.C_Joiner, T.N_Joiner_broken_tag, (lk_skip (by decide) (lk_skip (by decide) (lk_skip (by decide) (lk_skip (by decide) lk_hit)))), ?_⟩
      obtain ⟨w_12, h13⟩ : ∃ w_ : V, w_ = (ov V.int self_1.tag) := ⟨_, rfl⟩
      rw [← h13]
      have hn_w_12 : (rO rI) (ovr R0 Hb H0) w_12 self_1.tag := by rw [h13]; exact ov_r (fun _ _ => rfl)
      obtain ⟨y_14, h15, hm⟩ := bndE hm
      refine x_nil ?_
      have h16 := rO_some hn_w_12 h15
      obtain rfl := h16
      refine n_tup O (by show 2 ≤ sizeLine; decide) fun p_17 H O => ?_
      refine x_nil ?_
      obtain ⟨H0, O, e_, hp_p_17⟩ := O.frzO (R0 := R0) eB
      replace hn_w_6 := (mO mI) _ _ _ _ (ovr_mono e_) hn_w_6
      replace hn_w_10 := (mO mI) _ _ _ _ (ovr_mono e_) hn_w_10
      replace hn_w_12 := (mO mI) _ _ _ _ (ovr_mono e_) hn_w_12
      replace eB := eB.trans e_
      have hn_p_17 : (rT2 rS rI) (ovr R0 Hb H0) (.ref p_17) (("broken" : Str), y_14) := ⟨_, _, _, rfl, hp_p_17, rfl, rfl⟩
      refine n_lstV O (by show 1 ≤ sizeLine; decide) fun p_18 H O => ?_
      have ha_p_18 : All2 ((rU (rT2 rS rI) (rT3 rS rI (rL rI))) (ovr R0 Hb H0)) ([.ref p_17] : List V) ([(.inl (("broken" : Str), y_14))] : List ((Str × Int) ⊕ (Str × Int × (List Int)))) := (.cons hn_p_17 .nil)
      obtain rfl := Option.some.inj hm
      exact k _ _ H0 (((a_2, .ins ad.c_Joiner dx_4 [("tag", (V.non)), ("due", .int self_1.due), ("joined", .int self_1.joined), ("kept", .ref p_5), ("broken_tag", (ov V.int self_1.tag))]) :: (dx_4, .own a_2) :: ((p_5, .lst (List.map V.int self_1.kept)) :: [])) ++ [(p_18, .lst ([.ref p_17] : List V))]) eB (Own.cv (O.sel (L' := [(a_2, .ins ad.c_Joiner dx_4 [("tag", (V.non)), ("due", .int self_1.due), ("joined", .int self_1.joined), ("kept", .ref p_5), ("broken_tag", (ov V.int self_1.tag))]), (dx_4, .own a_2), (p_5, .lst (List.map V.int self_1.kept)), (p_18, .lst ([.ref p_17] : List V))]) [1, 2, 3, 0] (by decide) rfl) (by first | with_reducible rfl | simp only [List.map_nil, List.flatten_cons, List.flatten_nil, List.cons_append, List.nil_append, List.append_nil, List.append_assoc])) ⟨_, _, rfl, ⟨dx_4, p_5, rfl⟩, ⟨_, rfl, ⟨_, rfl, ha_p_18⟩⟩⟩
def m__law_thing_C0 (script_1 : List Int) (k_3 : Int) (j_16 : Int) : Option Int :=
  bnd (m__law_draw script_1 (((200 : Int) + ((80 : Int) * k_3)) + j_16) (256 : Int)) fun law_dr_21 =>
  some law_dr_21
def m__law_thing (script_1 : List Int) (k_3 : Int) : Option (List Int) :=
  bnd (m__law_draw script_1 ((10 : Int) + ((3 : Int) * k_3)) (18 : Int)) fun law_dr_4 =>
  bnd (m__law_draw script_1 ((11 : Int) + ((3 : Int) * k_3)) (9 : Int)) fun law_dr_7 =>
  bnd (ifB (decide (law_dr_7 = (0 : Int))) (
    bnd (m__law_draw script_1 ((10 : Int) + ((3 : Int) * k_3)) (76 : Int)) fun law_dr_11 =>
    some law_dr_11) (
    some law_dr_4)) fun size_13 =>
  bnd (rng1 size_13) fun rg_14 =>
  bnd (compM (m__law_thing_C0 script_1 k_3) rg_14 []) fun l_18 =>
  some l_18
def sp__law_thing (K : PySem.W.Frag) : Sp := fun vs H Q _ => ∃ (script_1 : List Int) (a_2 : Addr) (k_3 : Int) (r : List Int), vs = [.ref a_2, .int k_3] ∧ SqL K H a_2 (List.map V.int script_1) ∧ m__law_thing script_1 k_3 = some r ∧ RetL (List.map V.int r) H Q
abbrev N__law_thing : List Str := ["script", "k", "size", "j"]
theorem sc__law_thing : FnScope N__law_thing ["script", "k"] (defScope s__law_thing) := ⟨rfl, rfl, rfl, by decide +kernel, rfl, by decide +kernel, by decide +kernel⟩
theorem ok__law_thing {ad : Ad} (T : Txt K mg ad) : FnOk P w K mg base CX0 2 ad.f__law_thing ad.fd__law_thing ["script", "k"] (sp__law_thing K) := by
  have G__law_draw := ok__law_draw (P := P) (w := w) (base := base) T
  refine T.F__law_thing.ok sc__law_thing (fun vs H Q E h => ?_) (fun cdv A outer s H vs Q E hr h => ?_)
  · obtain ⟨_, _, _, _, rfl, _⟩ := h
    rfl
  · obtain ⟨script_1, a_2, k_3, r, rfl, hp_a_2, hm, k⟩ := h
    unfold m__law_thing at hm
    obtain ⟨H0, hH0⟩ : ∃ H0 : Hp, H0 = H := ⟨H, rfl⟩
    have O : Own H0 H [] := by rw [hH0]; exact Own.start H
    rw [← hH0] at k hp_a_2
    clear hH0
    refine ⟨_, (pss_cons (ps_set (i := 2) sc__law_thing.nd rfl (Or.inl rfl) (pe_call G__law_draw (hr.mono (by decide)) (by rfl) T.g__law_draw T.F__law_draw.kp T.b__law_draw .nil pass0 (pa_cons (pv 0) (pa_cons (pe_op op_add pe_int (pe_op op_mul pe_int (pv 1))) (pa_cons pe_int pa_nil))))) (Evl.pss_cut (ps_if (pt_cmpR op_eq (pe_call G__law_draw (hr.mono (by decide)) (by rfl) T.g__law_draw T.F__law_draw.kp T.b__law_draw .nil pass0 (pa_cons (pv 0) (pa_cons (pe_op op_add pe_int (pe_op op_mul pe_int (pv 1))) (pa_cons pe_int pa_nil)))) pe_int (nomark _)) (pss_one (ps_set (i := 2) sc__law_thing.nd rfl (Or.inl rfl) (pe_call G__law_draw (hr.mono (by decide)) (by rfl) T.g__law_draw T.F__law_draw.kp T.b__law_draw .nil pass0 (pa_cons (pv 0) (pa_cons (pe_op op_add pe_int (pe_op op_mul pe_int (pv 1))) (pa_cons pe_int pa_nil)))))) pss_nil) (pss_one (ps_ret (pe_lc (own := [("j", 3)]) (g := gName 3) (tt := tYes) rfl sc__law_thing.nd (pi_range1 (by rfl) T.z_range (pa_cons (pv 2) pa_nil)) (blkOk_by (own := [("j", 3)]) (N := N__law_thing) (sc := defScope s__law_thing) (by decide +kernel)) (fun _ _ _ _ _ => pg_name (i := 3) sc__law_thing.nd rfl (Or.inl rfl)) (fun _ _ _ _ _ => pts_nil) (fun _ _ _ _ _ => (pe_call G__law_draw (hr.mono (by decide)) (by rfl) T.g__law_draw T.F__law_draw.kp T.b__law_draw .nil pass0 (pa_cons (pv 0) (pa_cons (pe_op op_add (pe_op op_add pe_int (pe_op op_mul pe_int (pv 1))) (pv 3)) (pa_cons pe_int pa_nil)))))))))), ?_⟩
    -- 89
    refine o_seq ?_
    refine o_asg ?_
    obtain ⟨law_dr_4, h5, hm⟩ := bndE hm
    refine ⟨_, rfl, _, rfl, _, _, rfl, rfl, .inl ⟨by decide, by decide⟩, _, _, rfl, rfl, ?_⟩
    refine o_cons ?_
    refine o_c ?_
    refine x_nil ?_
    refine ⟨_, _, _, _, law_dr_4, rfl, (O.ex.l hp_a_2), h5, ?_⟩
    refine O.retV fun H O => ?_
    -- 90
    obtain ⟨law_dr_7, h8, hm⟩ := bndE hm
    obtain ⟨size_13, h10, hm⟩ := bndE hm
    refine o_cut (fun σ H => σ = [some (.ref a_2), some (.int k_3), some (.int size_13), none] ∧ Own H0 H []) ?_ ?_
    · refine o_ifs ?_
      refine ⟨_, rfl, _, rfl, _, _, rfl, rfl, .inl ⟨by decide, by decide⟩, _, _, rfl, rfl, ?_⟩
      refine o_cons ?_
      refine o_c ?_
      refine x_nil ?_
      refine ⟨_, _, _, _, law_dr_7, rfl, (O.ex.l hp_a_2), h8, ?_⟩
      refine O.retV fun H O => ?_
      refine o_c ?_
      refine k_eqI ?_
      refine ⟨_, rfl, ?_⟩
      refine iteS (c := (decide (law_dr_7 = (0 : Int)))) (fun h9 => ?_) (fun h9 => ?_)
      · replace hm := ifT h10 h9
        -- 91
        refine o_asg ?_
        obtain ⟨law_dr_11, h12, hm⟩ := bndE hm
        refine ⟨_, rfl, _, rfl, _, _, rfl, rfl, .inl ⟨by decide, by decide⟩, _, _, rfl, rfl, ?_⟩
        refine o_cons ?_
        refine o_c ?_
        refine x_nil ?_
        refine ⟨_, _, _, _, law_dr_11, rfl, (O.ex.l hp_a_2), h12, ?_⟩
        refine O.retV fun H O => ?_
        have Oz := O
        have hq_ := Option.some.inj hm
        subst hq_
        exact ⟨rfl, Oz⟩
      · replace hm := ifF h10 h9
        refine o_next ?_
        have Oz := O
        have hq_ := Option.some.inj hm
        subst hq_
        exact ⟨rfl, Oz⟩
    rintro σ H ⟨rfl, O⟩
    -- 92
    refine o_ret ?_
    obtain ⟨rg_14, h15, hm⟩ := bndE hm
    refine ⟨_, rfl, ?_⟩
    refine x_nil ?_
    obtain ⟨c1, c2, rfl⟩ := rng1E h15
    obtain ⟨l_18, h19, hm⟩ := bndE hm
    refine ⟨_, rfl, c1, c2, fun p_20 hD => k_lcR (fun r H => ∃ acc : List Int, Own H0 H ((p_20, .lst (List.map V.int acc)) :: []) ∧ compM (m__law_thing_C0 script_1 k_3) r acc = some l_18) ⟨[], O.new hD, h19⟩ ?_ ?_⟩
    · rintro j_16 r H ⟨acc, O, hC⟩
      obtain ⟨y, hm, hz, hC⟩ := compM_cons hC
      refine ⟨rfl, ?_⟩
      unfold m__law_thing_C0 at hm
      obtain ⟨law_dr_21, h22, hm⟩ := bndE hm
      refine ⟨_, rfl, _, rfl, _, _, rfl, rfl, .inl ⟨by decide, by decide⟩, _, _, rfl, rfl, _, rfl, _, _, rfl, rfl, ?_⟩
      refine o_cons ?_
      refine o_c ?_
      refine x_nil ?_
      refine ⟨_, _, _, _, law_dr_21, rfl, (O.ex.l hp_a_2), h22, ?_⟩
      refine O.retV fun H O => ?_
      obtain rfl := Option.some.inj hm
      refine ⟨_, O.mem (List.Mem.head _), (by rw [List.length_map]; exact hz), _, ?_, hC⟩
      rw [map_snoc]
      exact O.put0
    rintro H ⟨acc, O, hC⟩
    obtain rfl := compM_nil hC
    obtain rfl := Option.some.inj hm
    exact RetL.go k O (List.Mem.head _)
def m_Joiner_init : Option (S_Joiner) :=
  some (S_Joiner.mk none (0 : Int) (0 : Int) ([] : List Int) none)
def sp_Joiner_init (K : PySem.W.Frag) (ad : Ad) : Sp := fun vs H Q _ => ∃ (a_2 : Addr) (dx_3 : Addr) (R0 : Hp) (r : S_Joiner), vs = [.ref a_2] ∧ Own R0 H ((a_2, .ins ad.c_Joiner dx_3 []) :: (dx_3, .own a_2) :: []) ∧ m_Joiner_init  = some r ∧ RetX R0 (hsub H ((a_2, .ins ad.c_Joiner dx_3 []) :: (dx_3, .own a_2) :: [])) (dI (o_Joiner ad) a_2 r) Q
abbrev N_Joiner_init : List Str := ["self"]
theorem sc_Joiner_init : FnScope N_Joiner_init ["self"] (defScope s_Joiner_init) := ⟨rfl, rfl, rfl, by decide +kernel, rfl, by decide +kernel, by decide +kernel⟩
theorem ok_Joiner_init {ad : Ad} (T : Txt K mg ad) : FnOk P w K mg base CX0 1 ad.f_Joiner_init ad.fd_Joiner_init ["self"] (sp_Joiner_init K ad) := by
  refine T.F_Joiner_init.ok sc_Joiner_init (fun vs H Q E h => ?_) (fun cdv A outer s H vs Q E hr h => ?_)
  · obtain ⟨_, _, _, _, rfl, _⟩ := h
    rfl
  · obtain ⟨a_2, dx_3, R0, r, rfl, OO, hm, k⟩ := h
    unfold m_Joiner_init at hm
    obtain ⟨Hb, hHb⟩ : ∃ Hb : Hp, Hb = hsub H ((a_2, .ins ad.c_Joiner dx_3 []) :: (dx_3, .own a_2) :: []) := ⟨_, rfl⟩
    obtain ⟨H0, hH0⟩ : ∃ H0 : Hp, H0 = Hb := ⟨Hb, rfl⟩
    have O : Own H0 H ((a_2, .ins ad.c_Joiner dx_3 []) :: (dx_3, .own a_2) :: []) := by rw [hH0, hHb]; exact OO.startX
    have eR : Ex R0 Hb := by rw [hHb]; exact OO.subR
    rw [← hHb] at k
    have eB : Ex Hb H0 := by rw [hH0]; exact Ex.refl _
    have eS : Ex R0 (ovr R0 Hb H0) := by rw [hH0]; exact ovr_start eR
    clear hH0
    refine ⟨_, (pss_cons (ps_fld (pv 0) pe_non rfl) (pss_cons (ps_fld (pv 0) pe_int rfl) (pss_cons (ps_fld (pv 0) pe_int rfl) (pss_cons (ps_fld (pv 0) (pe_lstQ (pe_lst pa_nil)) rfl) (pss_one (ps_fld (pv 0) pe_non rfl)))))), ?_⟩
    replace O : Own H0 H [(a_2, .ins ad.c_Joiner dx_3 []), (dx_3, .own a_2)] := Own.cv O (by first | with_reducible rfl | simp only [List.map_nil, List.flatten_cons, List.flatten_nil, List.cons_append, List.nil_append, List.append_nil, List.append_assoc])
    -- 23
    refine o_seq ?_
    refine o_sfld ?_
    refine ⟨_, rfl, ?_⟩
    refine k_sfld (fs' := [("tag", (V.non))]) (O.mem (List.Mem.head _)) T.C_Joiner T.N_Joiner_tag (by show (0 : Nat) < 1000; decide) rfl putF_nil (fun _ => O.put0) fun H O => ?_
    -- 24
    refine o_seq ?_
    refine o_sfld ?_
    refine ⟨_, rfl, ?_⟩
    refine k_sfld (fs' := [("tag", (V.non)), ("due", .int (0 : Int))]) (O.mem (List.Mem.head _)) T.C_Joiner T.N_Joiner_due (by show (1 : Nat) < 1000; decide) rfl (putF_skip (by decide) putF_nil) (fun _ => O.put0) fun H O => ?_
    -- 25
    refine o_seq ?_
    refine o_sfld ?_
    refine ⟨_, rfl, ?_⟩
    refine k_sfld (fs' := [("tag", (V.non)), ("due", .int (0 : Int)), ("joined", .int (0 : Int))]) (O.mem (List.Mem.head _)) T.C_Joiner T.N_Joiner_joined (by show (2 : Nat) < 1000; decide) rfl (putF_skip (by decide) (putF_skip (by decide) putF_nil)) (fun _ => O.put0) fun H O => ?_
    -- 26
    refine o_seq ?_
    refine o_sfld ?_
    refine x_nil ?_
    refine n_lst (f := V.int) (xs := ([] : List Int)) O rfl (Nat.zero_le _) fun p_4 H O => ?_
    refine ⟨_, rfl, ?_⟩
    refine k_sfld (fs' := [("tag", (V.non)), ("due", .int (0 : Int)), ("joined", .int (0 : Int)), ("kept", .ref p_4)]) (O.mem (List.Mem.tail _ (List.Mem.head _))) T.C_Joiner T.N_Joiner_kept (by show (3 : Nat) < 1000; decide) rfl (putF_skip (by decide) (putF_skip (by decide) (putF_skip (by decide) putF_nil))) (fun _ => O.put1) fun H O => ?_
    -- 27
    refine o_sfld ?_
    refine ⟨_, rfl, ?_⟩
    refine k_sfld (fs' := [("tag", (V.non)), ("due", .int (0 : Int)), ("joined", .int (0 : Int)), ("kept", .ref p_4), ("broken_tag", (V.non))]) (O.mem (List.Mem.tail _ (List.Mem.head _))) T.C_Joiner T.N_Joiner_broken_tag (by show (4 : Nat) < 1000; decide) rfl (putF_skip (by decide) (putF_skip (by decide) (putF_skip (by decide) (putF_skip (by decide) putF_nil)))) (fun _ => O.put1) fun H O => ?_
    obtain rfl := Option.some.inj hm
    exact k _ _ H0 ((a_2, .ins ad.c_Joiner dx_3 [("tag", (V.non)), ("due", .int (0 : Int)), ("joined", .int (0 : Int)), ("kept", .ref p_4), ("broken_tag", (V.non))]) :: (dx_3, .own a_2) :: ((p_4, .lst (List.map V.int ([] : List Int))) :: [])) eB (Own.cv (O.sel (L' := [(a_2, .ins ad.c_Joiner dx_3 [("tag", (V.non)), ("due", .int (0 : Int)), ("joined", .int (0 : Int)), ("kept", .ref p_4), ("broken_tag", (V.non))]), (dx_3, .own a_2), (p_4, .lst (List.map V.int ([] : List Int)))]) [1, 2, 0] (by decide) rfl) (by first | with_reducible rfl | simp only [List.map_nil, List.flatten_cons, List.flatten_nil, List.cons_append, List.nil_append, List.append_nil, List.append_assoc])) ⟨rfl, ⟨dx_3, p_4, rfl⟩⟩
def m_is_byte (number_1 : Int) : Option (Bool) :=
  some (decide ((0 : Int) ≤ number_1) && decide (number_1 ≤ (255 : Int)))
def sp_is_byte (K : PySem.W.Frag) : Sp := fun vs H Q _ => ∃ (number_1 : Int) (r : Bool), vs = [.int number_1] ∧ m_is_byte number_1 = some r ∧ RetV (.bl r) H Q
abbrev N_is_byte : List Str := ["number"]
theorem sc_is_byte : FnScope N_is_byte ["number"] (defScope s_is_byte) := ⟨rfl, rfl, rfl, by decide +kernel, rfl, by decide +kernel, by decide +kernel⟩
theorem ok_is_byte {ad : Ad} (T : Txt K mg ad) : FnOk P w K mg base CX0 1 ad.f_is_byte ad.fd_is_byte ["number"] (sp_is_byte K) := by
  refine T.F_is_byte.ok sc_is_byte (fun vs H Q E h => ?_) (fun cdv A outer s H vs Q E hr h => ?_)
  · obtain ⟨_, _, rfl, _⟩ := h
    rfl
  · obtain ⟨number_1, r, rfl, hm, k⟩ := h
    unfold m_is_byte at hm
    obtain ⟨H0, hH0⟩ : ∃ H0 : Hp, H0 = H := ⟨H, rfl⟩
    have O : Own H0 H [] := by rw [hH0]; exact Own.start H
    rw [← hH0] at k
    clear hH0
    refine ⟨_, (pss_one (ps_ret (pe_chain op_le op_le pe_int (pv 0) pe_int))), ?_⟩
    -- 71
    refine o_ret ?_
    refine x_chain (x := .int (0 : Int)) (y := .int number_1) (z := .int (255 : Int)) (c := decide ((0 : Int) ≤ number_1)) (e := decide (number_1 ≤ (255 : Int))) (d := (decide ((0 : Int) ≤ number_1) && decide (number_1 ≤ (255 : Int)))) O (fun Q1 k1 => ?_) (fun H O Q1 k1 => ?_) (fun _ _ k1 => ⟨_, _, rfl, rfl, k1⟩) (fun h2 => ⟨by rw [h2]; rfl, fun H O Q1 k1 => ?_⟩) (fun _ _ k1 => ⟨_, _, rfl, rfl, k1⟩) (fun h2 => by rw [h2]; rfl) (fun H O => ?_)
    · refine o_c ?_
      exact k1 _ O
    · refine ⟨_, rfl, ?_⟩
      exact k1 _ O
    · refine o_c ?_
      exact k1 _ O
    obtain rfl := Option.some.inj hm
    exact RetV.go k O
def m_cut_L0  (byte_13 : Int) : Option (Fl (Unit) (Rs (List (List Int)))) :=
  bnd (m_is_byte byte_13) fun is_byt_17 =>
  ifB (!is_byt_17) (
    some (.rt (.er .NoThing))) (
    some (.nx ()))
def m_cut_L1 (tag_1 : Int) (thing_2 : List Int) (many_22 : Int) (k_35 : Int) (pieces_28 : List (List Int)) : Option ((List (List Int))) :=
  bnd (mulG (5 : Int) k_35) fun t_40 =>
  bnd (mulG (5 : Int) k_35) fun t_42 =>
  bnd (catG ([tag_1, (((16 : Int) * many_22) + k_35)]) (cutL thing_2 (some t_40) (some (t_42 + (5 : Int))))) fun t_46 =>
  bnd (appG pieces_28 t_46) fun l_49 =>
  some l_49
def m_cut (tag_1 : Int) (thing_2 : List Int) : Option (Rs (List (List Int))) :=
  bnd (m_is_byte tag_1) fun is_byt_6 =>
  ifB ((!is_byt_6) || decide ((75 : Int) < (List.length thing_2 : Int))) (
    some (.er .NoThing)) (
    fin (loopF (fun byte_13 (_ : Unit) => m_cut_L0 byte_13) thing_2 ()) fun _ =>
    bnd (fdivG (((List.length thing_2 : Int) + (5 : Int)) - (1 : Int)) (5 : Int)) fun t_20 =>
    ltv ((if t_20 > (1 : Int) then t_20 else (1 : Int))) fun many_22 =>
    bnd (rng1 many_22) fun rg_25 =>
    bnd (loopM (fun k_35 s => m_cut_L1 tag_1 thing_2 many_22 k_35 s) rg_25 ([] : List (List Int))) fun pieces_31 =>
    some (.ok pieces_31))
def sp_cut (K : PySem.W.Frag) (ad : Ad) (d : Eds) : Sp := fun vs H Q E => ∃ (tag_1 : Int) (thing_2 : List Int) (a_3 : Addr) (R0 : Hp) (r : Rs (List (List Int))), vs = [.int tag_1, .ref a_3] ∧ Own R0 H [] ∧ (hsub H []) a_3 = some (.lst (List.map V.int thing_2)) ∧ m_cut tag_1 thing_2 = some r ∧ RetR (fun r => RetX R0 (hsub H []) (dP (rL (rL rI)) r) Q) d r H E
abbrev N_cut : List Str := ["tag", "thing", "byte", "many", "pieces", "k"]
theorem sc_cut : FnScope N_cut ["tag", "thing"] (defScope s_cut) := ⟨rfl, rfl, rfl, by decide +kernel, rfl, by decide +kernel, by decide +kernel⟩
theorem ok_cut {ad : Ad} (T : Txt K mg ad) : FnOk P w K mg base (L2N.CX P w) 2 ad.f_cut ad.fd_cut ["tag", "thing"] (sp_cut K ad ad.es) := by
  have G_is_byte := ok_is_byte (P := P) (w := w) (base := base) T
  refine okN T.F_cut sc_cut (fun vs H Q E h => ?_) (fun cdv A outer s H vs Q E hr h => ?_)
  · obtain ⟨_, _, _, _, _, rfl, _⟩ := h
    rfl
  · obtain ⟨tag_1, thing_2, a_3, R0, r, rfl, OO, hp_a_3, hm, k⟩ := h
    unfold m_cut at hm
    obtain ⟨Hb, hHb⟩ : ∃ Hb : Hp, Hb = hsub H [] := ⟨_, rfl⟩
    obtain ⟨H0, hH0⟩ : ∃ H0 : Hp, H0 = Hb := ⟨Hb, rfl⟩
    have O : Own H0 H [] := by rw [hH0, hHb]; exact OO.startX
    have eR : Ex R0 Hb := by rw [hHb]; exact OO.subR
    rw [← hHb] at k hp_a_3
    have eB : Ex Hb H0 := by rw [hH0]; exact Ex.refl _
    have eS : Ex R0 (ovr R0 Hb H0) := by rw [hH0]; exact ovr_start eR
    rw [← hH0] at hp_a_3
    clear hH0
    refine ⟨_, (pss_cons (ps_if (PW.pt (pw_or (pt_not (pt_val (pe_call G_is_byte (hr.mono (by decide)) (by rfl) T.g_is_byte T.F_is_byte.kp T.b_is_byte .nil pass0 (pa_cons (pv 0) pa_nil)))) (pw_or1 (pt_cmpR op_gt (pe_callB (r := rLenQ K) call_lenQ (by rfl) T.z_len PySem.boot_len (pa_cons (pv 1) pa_nil)) (pe_gv rfl T.g_LONGEST) (nomark _))))) (pss_one (ps_errN T.e_NoThing (L2N.takes_of rfl rfl rfl rfl) rfl rfl)) pss_nil) (pss_cons (ps_for (passes_of rfl) rfl (pi_list (pv 1)) (pg_name (i := 2) sc_cut.nd rfl (Or.inl rfl)) (pss_one (ps_if (pt_not (pt_val (pe_call G_is_byte (hr.mono (by decide)) (by rfl) T.g_is_byte T.F_is_byte.kp T.b_is_byte .nil pass0 (pa_cons (pv 2) pa_nil)))) (pss_one (ps_errN T.e_NoThing (L2N.takes_of rfl rfl rfl rfl) rfl rfl)) pss_nil))) (pss_cons (ps_set (i := 3) sc_cut.nd rfl (Or.inl rfl) (pe_callB (call_max2 rfl) (by rfl) T.z_max (by decide +kernel) (pa_cons pe_int (pa_cons (pe_op op_fdivW (pe_op op_sub (pe_op op_add (pe_callB (r := rLenQ K) call_lenQ (by rfl) T.z_len PySem.boot_len (pa_cons (pv 1) pa_nil)) (pe_gv rfl T.g_PART_things)) pe_int) (pe_gv rfl T.g_PART_things)) pa_nil)))) (pss_cons (ps_set (i := 4) sc_cut.nd rfl (Or.inl rfl) (pe_lstQ (pe_lst pa_nil))) (pss_cons (ps_for (passes_of rfl) rfl (pi_range1 (by rfl) T.z_range (pa_cons (pv 3) pa_nil)) (pg_name (i := 5) sc_cut.nd rfl (Or.inl rfl)) (pss_one (ps_expr (pe_bm PySem.F.plainAttrs_list PySem.F.slot_list_append PySem.F.type_list_append mt_append (pv 4) (pa_cons (pe_op op_cat (pe_lstQ (pe_lst (pa_cons (pv 0) (pa_cons (pe_op op_add (pe_op op_mul pe_int (pv 3)) (pv 5)) pa_nil)))) (pe_callTy (r := rListQ K) call_listQ (by rfl) T.z_list (by decide +kernel) (pa_cons (pe_slice (r := rSlL K) sl_list (pv 1) (po_some (pe_op op_mulW (pe_gv rfl T.g_PART_things) (pv 5))) (po_some (pe_op op_add (pe_op op_mulW (pe_gv rfl T.g_PART_things) (pv 5)) (pe_gv rfl T.g_PART_things)))) pa_nil))) pa_nil))))) (pss_one (ps_ret (pv 4)))))))), ?_⟩
    -- 73
    refine o_seq ?_
    refine o_ifs ?_
    obtain ⟨is_byt_6, h7, hm⟩ := bndE hm
    refine x_orJ (c := (!is_byt_6)) (e := decide ((75 : Int) < (List.length thing_2 : Int))) (d := ((!is_byt_6) || decide ((75 : Int) < (List.length thing_2 : Int)))) (fun H => ∃ (R_ : Hp), Ex H0 R_ ∧ Own R_ H []) (fun Q1 k1 => ?_) (fun h4 => ⟨by rw [h4]; rfl, fun H hJ Q2 k2 => ?_⟩) (fun h4 => by rw [h4]; rfl) (fun H hJ => ?_)
    · have eJ5 : Ex H0 H0 := Ex.refl _
      refine ⟨_, rfl, ?_⟩
      refine x_nil ?_
      refine ⟨_, is_byt_6, rfl, h7, ?_⟩
      refine O.retV fun H O => ?_
      refine ⟨_, rfl, ?_⟩
      exact k1 _ ⟨H0, eJ5, O⟩
    · obtain ⟨H0, eJ5, O⟩ := hJ
      replace hp_a_3 := eJ5 _ _ hp_a_3
      replace eB := eB.trans eJ5
      refine ⟨_, rfl, ?_⟩
      refine x_nil ?_
      refine n_len (SqL.of (O.ex _ _ hp_a_3)) ?_
      refine ⟨_, _, rfl, rfl, _, rfl, ?_⟩
      exact k2 _ ⟨H0, eJ5, O⟩
    obtain ⟨H0, eJ5, O⟩ := hJ
    replace hp_a_3 := eJ5 _ _ hp_a_3
    replace eB := eB.trans eJ5
    refine iteS (c := ((!is_byt_6) || decide ((75 : Int) < (List.length thing_2 : Int)))) (fun h8 => ?_) (fun h8 => ?_)
    · replace hm := ifT hm h8
      -- 74
      obtain rfl := Option.some.inj hm
      exact k _ (Own.whole OO hHb eB (Own.cv (L' := [] ++ []) O (by first | with_reducible rfl | simp only [List.map_nil, List.flatten_cons, List.flatten_nil, List.cons_append, List.nil_append, List.append_nil, List.append_assoc])))
    · replace hm := ifF hm h8
      refine o_next ?_
      -- 75
      refine o_seq ?_
      refine o_for ?_
      refine ⟨_, rfl, ?_⟩
      obtain ⟨out_14, h10, h11⟩ := bndE hm
      refine ⟨_, rfl, ⟨_, (SqL.of (O.ex _ _ hp_a_3))⟩, q_forL (f := V.int) (xs := thing_2) (fun r σ H => ∃ (R_ : Hp) (j_9 : Option V), σ = [some (.int tag_1), some (.ref a_3), j_9, none, none, none] ∧ Ex H0 R_ ∧ Own R_ H [] ∧ loopF (fun byte_13 (_ : Unit) => m_cut_L0 byte_13) r () = some out_14) ⟨H0, _, rfl, Ex.refl _, O, h10⟩ (by rintro r σ H ⟨H0, j_9, rfl, eJ_, O, hL⟩; replace hp_a_3 := eJ_ _ _ hp_a_3; exact (SqL.of (O.ex _ _ hp_a_3))) ?_ ?_⟩
      · rintro byte_13 r σ H ⟨H0, j_9, rfl, eL14, O, hL⟩
        replace hp_a_3 := eL14 _ _ hp_a_3
        replace eB := eB.trans eL14
        obtain ⟨s_, hm, h12⟩ := loopF_cons hL
        replace hm : m_cut_L0 byte_13 = some s_ := hm
        unfold m_cut_L0 at hm
        -- 76
        refine o_ifs ?_
        obtain ⟨is_byt_17, h18, hm⟩ := bndE hm
        refine ⟨_, rfl, ?_⟩
        refine x_nil ?_
        refine ⟨_, is_byt_17, rfl, h18, ?_⟩
        refine O.retV fun H O => ?_
        refine ⟨_, rfl, ?_⟩
        refine iteS (c := (!is_byt_17)) (fun h19 => ?_) (fun h19 => ?_)
        · replace hm := ifT hm h19
          -- 77
          obtain rfl := Option.some.inj hm
          obtain rfl := contRt h12
          obtain rfl := finRt h11
          exact k _ (Own.whole OO hHb eB (Own.cv (L' := [] ++ []) O (by first | with_reducible rfl | simp only [List.map_nil, List.flatten_cons, List.flatten_nil, List.cons_append, List.nil_append, List.append_nil, List.append_assoc])))
        · replace hm := ifF hm h19
          refine o_next ?_
          have Oz := O
          obtain rfl := Option.some.inj hm
          exact ⟨H0, _, rfl, eL14, Oz, h12⟩
      rintro σ H ⟨H0, j_9, rfl, eJ_, O, hL⟩
      replace hp_a_3 := eJ_ _ _ hp_a_3
      replace eB := eB.trans eJ_
      obtain rfl := loopF_nil hL
      replace hm := finNx h11
      -- 78
      refine o_seq ?_
      refine o_asg ?_
      refine ⟨_, rfl, ?_⟩
      refine x_nil ?_
      refine n_len (SqL.of (O.ex _ _ hp_a_3)) ?_
      obtain ⟨t_20, h21, hm⟩ := bndE hm
      refine ⟨_, _, rfl, rfl, _, _, rfl, rfl, ?_⟩
      refine o_c ?_
      refine k_fdiv h21 ?_
      refine ⟨_, _, rfl, ?_⟩
      obtain ⟨many_22, h23, hm⟩ := ltvE hm
      refine a_set (congrArg V.int h23) ?_
      -- 79
      refine o_seq ?_
      refine o_asg ?_
      refine x_nil ?_
      refine n_lst (f := V.int) (xs := ([] : List Int)) O rfl (Nat.zero_le _) fun p_24 H O => ?_
      -- 80
      refine o_seq ?_
      refine o_for ?_
      obtain ⟨rg_25, h26, hm⟩ := bndE hm
      refine ⟨_, rfl, ?_⟩
      refine x_nil ?_
      obtain ⟨c1, c2, rfl⟩ := rng1E h26
      obtain ⟨pieces_31, h32, hm⟩ := bndE hm
      refine ⟨_, rfl, c1, c2, q_forR (fun r σ H => ∃ (R_ : Hp) (pieces_28 : List (List Int)) (vs_29 : List V) (j_27 : Option V) (j_30 : Option V), σ = [some (.int tag_1), some (.ref a_3), j_27, some (.int many_22), some (.ref p_24), j_30] ∧ Ex H0 R_ ∧ Own R_ H [(p_24, .lst vs_29)] ∧ All2 ((rL rI) (ovr R0 Hb R_)) vs_29 pieces_28 ∧ loopM (fun k_35 s => m_cut_L1 tag_1 thing_2 many_22 k_35 s) r pieces_28 = some pieces_31) ⟨H0, ([] : List (List Int)), ([] : List V), _, _, rfl, Ex.refl _, O, .nil, h32⟩ ?_ ?_⟩
      · rintro k_35 r σ H ⟨H0, pieces_28, vs_29, j_27, j_30, rfl, eL36, O, ha_p_24, hL⟩
        replace hp_a_3 := eL36 _ _ hp_a_3
        replace eB := eB.trans eL36
        obtain ⟨s_, hm, h34⟩ := loopM_cons hL
        replace hm : m_cut_L1 tag_1 thing_2 many_22 k_35 pieces_28 = some s_ := hm
        unfold m_cut_L1 at hm
        -- 81
        refine o_drop ?_
        refine ⟨_, rfl, .inl ⟨rfl, _, (SqL.of (O.mem (List.Mem.head _)))⟩, _, rfl, _, rfl, _, _, rfl, rfl, .inl ⟨by decide, by decide⟩, _, rfl, _, _, rfl, rfl, ?_⟩
        refine x_nil ?_
        refine n_lst (f := V.int) (xs := [tag_1, (((16 : Int) * many_22) + k_35)]) O rfl (by show 2 ≤ sizeLine; decide) fun p_39 H O => ?_
        obtain ⟨t_40, h41, hm⟩ := bndE hm
        refine ⟨_, rfl, _, rfl, ?_⟩
        refine k_mul h41 ?_
        obtain ⟨t_42, h43, hm⟩ := bndE hm
        refine ⟨_, rfl, _, rfl, ?_⟩
        refine k_mul h43 ?_
        refine ⟨_, _, rfl, rfl, _, rfl, ?_⟩
        refine k_cut (f := V.int) O (SqL.of (O.ex _ _ hp_a_3)) fun p_44 H O => ?_
        refine x_nil ?_
        refine n_list O (SqL.of (O.mem (List.Mem.head _))) fun p_45 H O => ?_
        obtain ⟨t_46, h47, hm⟩ := bndE hm
        refine k_cat (f := V.int) O (O.mem (List.Mem.tail _ (List.Mem.tail _ (List.Mem.head _)))) (O.mem (List.Mem.head _)) h47 fun p_48 H O => ?_
        refine x_nil ?_
        obtain ⟨H0, O, e_, hp_p_48⟩ := O.frzO (R0 := R0) eB
        replace hp_a_3 := e_ _ _ hp_a_3
        replace ha_p_24 := mA (mL mI) (ovr_mono e_) ha_p_24
        replace eB := eB.trans e_
        replace eL36 := eL36.trans e_
        obtain ⟨l_49, h50, hm⟩ := bndE hm
        refine k_appA (O.mem (List.Mem.tail _ (List.Mem.tail _ (List.Mem.tail _ (List.Mem.head _))))) ha_p_24 (fun _ => O.put3) h50 (gI hp_p_48) fun H O ha_p_24 => ?_
        replace O := O.tl.tl.tl
        have Oz := O
        obtain rfl := Option.some.inj hm
        exact ⟨H0, _, ((vs_29 ++ [.ref p_48])), _, _, rfl, eL36, Oz, ha_p_24, h34⟩
      rintro σ H ⟨H0, pieces_28, vs_29, j_27, j_30, rfl, eJ_, O, ha_p_24, hL⟩
      replace hp_a_3 := eJ_ _ _ hp_a_3
      replace eB := eB.trans eJ_
      cases loopM_nil hL
      -- 82
      refine o_ret ?_
      refine ⟨_, rfl, ?_⟩
      obtain rfl := Option.some.inj hm
      obtain ⟨H0, O, e_, hp_p_24⟩ := O.frzO (R0 := R0) eB
      replace hp_a_3 := e_ _ _ hp_a_3
      replace ha_p_24 := mA (mL mI) (ovr_mono e_) ha_p_24
      replace eB := eB.trans e_
      have hn_p_24 : (rL (rL rI)) (ovr R0 Hb H0) (.ref p_24) pieces_31 := ⟨_, _, rfl, hp_p_24, ha_p_24⟩
      exact k _ _ H0 [] eB (Own.cv O (by first | with_reducible rfl | simp only [List.map_nil, List.flatten_cons, List.flatten_nil, List.cons_append, List.nil_append, List.append_nil, List.append_assoc])) ⟨rfl, hn_p_24⟩
def m_Joiner_is_open (self_1 : S_Joiner) : Option (Bool) :=
  some (!Option.isNone self_1.tag)
def sp_Joiner_is_open (K : PySem.W.Frag) (ad : Ad) : Sp := fun vs H Q _ => ∃ (self_1 : S_Joiner) (a_2 : Addr) (L_3 : List Cell) (R0 : Hp) (r : Bool), vs = [.ref a_2] ∧ Own R0 H (L_3 ++ []) ∧ (o_Joiner ad) R0 a_2 L_3 self_1 ∧ m_Joiner_is_open self_1 = some r ∧ RetX R0 (hsub H (L_3 ++ [])) (dK L_3 (dV (.bl r))) Q
abbrev N_Joiner_is_open : List Str := ["self"]
theorem sc_Joiner_is_open : FnScope N_Joiner_is_open ["self"] (defScope s_Joiner_is_open) := ⟨rfl, rfl, rfl, by decide +kernel, rfl, by decide +kernel, by decide +kernel⟩
theorem ok_Joiner_is_open {ad : Ad} (T : Txt K mg ad) : FnOk P w K mg base CX0 1 ad.f_Joiner_is_open ad.fd_Joiner_is_open ["self"] (sp_Joiner_is_open K ad) := by
  refine T.F_Joiner_is_open.ok sc_Joiner_is_open (fun vs H Q E h => ?_) (fun cdv A outer s H vs Q E hr h => ?_)
  · obtain ⟨_, _, _, _, _, rfl, _⟩ := h
    rfl
  · obtain ⟨self_1, a_2, L_3, R0, r, rfl, OO, hb_a_2, hm, k⟩ := h
    unfold m_Joiner_is_open at hm
    obtain ⟨Hb, hHb⟩ : ∃ Hb : Hp, Hb = hsub H (L_3 ++ []) := ⟨_, rfl⟩
    obtain ⟨H0, hH0⟩ : ∃ H0 : Hp, H0 = Hb := ⟨Hb, rfl⟩
    have O : Own H0 H (L_3 ++ []) := by rw [hH0, hHb]; exact OO.startX
    have eR : Ex R0 Hb := by rw [hHb]; exact OO.subR
    rw [← hHb] at k
    have eB : Ex Hb H0 := by rw [hH0]; exact Ex.refl _
    have eS : Ex R0 (ovr R0 Hb H0) := by rw [hH0]; exact ovr_start eR
    replace hb_a_2 := (mo_Joiner ad) _ _ _ _ _ eS hb_a_2
    clear hH0
    refine ⟨_, (pss_one (ps_ret (pe_cmpR (r := rNotN) op_notNq (pe_fld (pv 0) rfl) pe_non (nomark _)))), ?_⟩
    obtain ⟨dx_4, p_5, rfl⟩ := hb_a_2
    replace O : Own H0 H [(a_2, .ins ad.c_Joiner dx_4 [("tag", (ov V.int self_1.tag)), ("due", .int self_1.due), ("joined", .int self_1.joined), ("kept", .ref p_5), ("broken_tag", (ov V.int self_1.broken_tag))]), (dx_4, .own a_2), (p_5, .lst (List.map V.int self_1.kept))] := Own.cv O (by first | with_reducible rfl | simp only [List.map_nil, List.flatten_cons, List.flatten_nil, List.cons_append, List.nil_append, List.append_nil, List.append_assoc])
    -- 30
    refine o_ret ?_
    refine ⟨_, rfl, a_2, ad.c_Joiner, dx_4, [("tag", (ov V.int self_1.tag)), ("due", .int self_1.due), ("joined", .int self_1.joined), ("kept", .ref p_5), ("broken_tag", (ov V.int self_1.broken_tag))], ((ov V.int self_1.tag)), rfl, (O.mem (List.Mem.head _)), T.C_Joiner, T.N_Joiner_tag, lk_hit, ?_⟩
    obtain ⟨w_6, h7⟩ : ∃ w_ : V, w_ = (ov V.int self_1.tag) := ⟨_, rfl⟩
    rw [← h7]
    have hn_w_6 : (rO rI) (ovr R0 Hb H0) w_6 self_1.tag := by rw [h7]; exact ov_r (fun _ _ => rfl)
    refine o_c ?_
    refine k_notN nnI hn_w_6 ?_
    obtain rfl := Option.some.inj hm
    exact k _ _ H0 (((a_2, .ins ad.c_Joiner dx_4 [("tag", (ov V.int self_1.tag)), ("due", .int self_1.due), ("joined", .int self_1.joined), ("kept", .ref p_5), ("broken_tag", (ov V.int self_1.broken_tag))]) :: (dx_4, .own a_2) :: ((p_5, .lst (List.map V.int self_1.kept)) :: [])) ++ []) eB (Own.cv O (by first | with_reducible rfl | simp only [List.map_nil, List.flatten_cons, List.flatten_nil, List.cons_append, List.nil_append, List.append_nil, List.append_assoc])) ⟨_, rfl, ⟨rfl, rfl⟩⟩
def m_ask_piece (piece_1 : List Int) : Option (Rs Unit) :=
  ifB (decide ((List.length piece_1 : Int) < (2 : Int))) (
    some (.er .NoThing)) (
    bnd (atI piece_1 (1 : Int)) fun e_4 =>
    ltv ((e_4 / (16 : Int))) fun pieces_6 =>
    bnd (atI piece_1 (1 : Int)) fun e_8 =>
    ltv ((e_8 % (16 : Int))) fun number_10 =>
    ltv (((List.length piece_1 : Int) - (2 : Int))) fun many_12 =>
    ifB (decide (pieces_6 ≤ number_10)) (
      some (.er .NoThing)) (
      ifB (decide (number_10 < (pieces_6 - (1 : Int))) && (!decide (many_12 = (5 : Int)))) (
        some (.er .NoThing)) (
        ifB (decide ((5 : Int) < many_12) || ((decide (many_12 = (0 : Int))) && decide ((1 : Int) < pieces_6))) (
          some (.er .NoThing)) (
          some (.ok ())))))
def sp_ask_piece (K : PySem.W.Frag) (d : Eds) : Sp := fun vs H Q E => ∃ (piece_1 : List Int) (a_2 : Addr) (r : Rs Unit), vs = [.ref a_2] ∧ H a_2 = some (.lst (List.map V.int piece_1)) ∧ m_ask_piece piece_1 = some r ∧ RetR (fun r => RetV .non H Q) d r H E
abbrev N_ask_piece : List Str := ["piece", "pieces", "number", "many"]
theorem sc_ask_piece : FnScope N_ask_piece ["piece"] (defScope s_ask_piece) := ⟨rfl, rfl, rfl, by decide +kernel, rfl, by decide +kernel, by decide +kernel⟩
theorem ok_ask_piece {ad : Ad} (T : Txt K mg ad) : FnOk P w K mg base (L2N.CX P w) 1 ad.f_ask_piece ad.fd_ask_piece ["piece"] (sp_ask_piece K ad.es) := by
  refine okN T.F_ask_piece sc_ask_piece (fun vs H Q E h => ?_) (fun cdv A outer s H vs Q E hr h => ?_)
  · obtain ⟨_, _, _, rfl, _⟩ := h
    rfl
  · obtain ⟨piece_1, a_2, r, rfl, hp_a_2, hm, k⟩ := h
    unfold m_ask_piece at hm
    obtain ⟨H0, hH0⟩ : ∃ H0 : Hp, H0 = H := ⟨H, rfl⟩
    have O : Own H0 H [] := by rw [hH0]; exact Own.start H
    rw [← hH0] at k hp_a_2
    clear hH0
    refine ⟨_, (pss_cons (ps_if (pt_cmpR op_lt (pe_callB (r := rLenQ K) call_lenQ (by rfl) T.z_len PySem.boot_len (pa_cons (pv 0) pa_nil)) pe_int (nomark _)) (pss_one (ps_errN T.e_NoThing (L2N.takes_of rfl rfl rfl rfl) rfl rfl)) pss_nil) (pss_cons (ps_set (i := 1) sc_ask_piece.nd rfl (Or.inl rfl) (pe_op op_fdiv (pe_ix (r := rIxL K) ix_list (pv 0) pe_int (fun _ _ => rfl)) pe_int)) (pss_cons (ps_set (i := 2) sc_ask_piece.nd rfl (Or.inl rfl) (pe_op op_mod (pe_ix (r := rIxL K) ix_list (pv 0) pe_int (fun _ _ => rfl)) pe_int)) (pss_cons (ps_set (i := 3) sc_ask_piece.nd rfl (Or.inl rfl) (pe_op op_sub (pe_callB (r := rLenQ K) call_lenQ (by rfl) T.z_len PySem.boot_len (pa_cons (pv 0) pa_nil)) pe_int)) (pss_cons (ps_if (pt_cmpR op_ge (pv 2) (pv 1) (nomark _)) (pss_one (ps_errN T.e_NoThing (L2N.takes_of rfl rfl rfl rfl) rfl rfl)) pss_nil) (pss_cons (ps_if (PW.pt (pw_and (pt_cmpR op_lt (pv 2) (pe_op op_sub (pv 1) pe_int) (nomark _)) (pw_and1 (pt_cmpR op_ne (pv 3) (pe_gv rfl T.g_PART_joiners) (nomark _))))) (pss_one (ps_errN T.e_NoThing (L2N.takes_of rfl rfl rfl rfl) rfl rfl)) pss_nil) (pss_one (ps_if (PW.pt (pw_or (pt_cmpR op_gt (pv 3) (pe_gv rfl T.g_PART_joiners) (nomark _)) (pw_or1 (PW.pt (pw_and (pt_cmpR op_eq (pv 3) pe_int (nomark _)) (pw_and1 (pt_cmpR op_gt (pv 1) pe_int (nomark _)))))))) (pss_one (ps_errN T.e_NoThing (L2N.takes_of rfl rfl rfl rfl) rfl rfl)) pss_nil)))))))), ?_⟩
    -- 9
    refine o_seq ?_
    refine o_ifs ?_
    refine ⟨_, rfl, ?_⟩
    refine x_nil ?_
    refine n_len (SqL.of (O.ex _ _ hp_a_2)) ?_
    refine ⟨_, _, rfl, rfl, _, rfl, ?_⟩
    refine iteS (c := decide ((List.length piece_1 : Int) < (2 : Int))) (fun h3 => ?_) (fun h3 => ?_)
    · replace hm := ifT hm h3
      -- 10
      obtain rfl := Option.some.inj hm
      exact k _ O.ex
    · replace hm := ifF hm h3
      refine o_next ?_
      -- 11
      refine o_seq ?_
      refine o_asg ?_
      obtain ⟨e_4, h5, hm⟩ := bndE hm
      refine ⟨_, rfl, ?_⟩
      refine o_c ?_
      refine k_ixL (f := V.int) (SqL.of (O.ex _ _ hp_a_2)) h5 ?_
      refine ⟨_, _, rfl, rfl, ⟨by decide, by decide⟩, ?_⟩
      obtain ⟨pieces_6, h7, hm⟩ := ltvE hm
      refine a_set (congrArg V.int h7) ?_
      -- 12
      refine o_seq ?_
      refine o_asg ?_
      obtain ⟨e_8, h9, hm⟩ := bndE hm
      refine ⟨_, rfl, ?_⟩
      refine o_c ?_
      refine k_ixL (f := V.int) (SqL.of (O.ex _ _ hp_a_2)) h9 ?_
      refine ⟨_, _, rfl, rfl, (by show (0 : Int) < 16; decide), ?_⟩
      obtain ⟨number_10, h11, hm⟩ := ltvE hm
      refine a_set (congrArg V.int h11) ?_
      -- 13
      refine o_seq ?_
      refine o_asg ?_
      refine ⟨_, rfl, ?_⟩
      refine x_nil ?_
      refine n_len (SqL.of (O.ex _ _ hp_a_2)) ?_
      refine ⟨_, _, rfl, rfl, ?_⟩
      obtain ⟨many_12, h13, hm⟩ := ltvE hm
      refine a_set (congrArg V.int h13) ?_
      -- 14
      refine o_seq ?_
      refine o_ifs ?_
      refine ⟨_, rfl, _, rfl, _, _, rfl, rfl, _, rfl, ?_⟩
      refine iteS (c := decide (pieces_6 ≤ number_10)) (fun h14 => ?_) (fun h14 => ?_)
      · replace hm := ifT hm h14
        -- 15
        obtain rfl := Option.some.inj hm
        exact k _ O.ex
      · replace hm := ifF hm h14
        refine o_next ?_
        -- 16
        refine o_seq ?_
        refine o_ifs ?_
        refine x_and (c := decide (number_10 < (pieces_6 - (1 : Int)))) (e := (!decide (many_12 = (5 : Int)))) (d := (decide (number_10 < (pieces_6 - (1 : Int))) && (!decide (many_12 = (5 : Int))))) O (fun Q1 k1 => ?_) (fun h15 => ⟨by rw [h15]; rfl, fun H O Q2 k2 => ?_⟩) (fun h15 => by rw [h15]; rfl) (fun H O => ?_)
        · refine ⟨_, rfl, _, rfl, _, _, rfl, rfl, _, _, rfl, rfl, _, rfl, ?_⟩
          exact k1 _ O
        · refine ⟨_, rfl, ?_⟩
          refine o_c ?_
          refine k_neI ?_
          refine ⟨_, rfl, ?_⟩
          exact k2 _ O
        refine iteS (c := (decide (number_10 < (pieces_6 - (1 : Int))) && (!decide (many_12 = (5 : Int))))) (fun h16 => ?_) (fun h16 => ?_)
        · replace hm := ifT hm h16
          -- 17
          obtain rfl := Option.some.inj hm
          exact k _ O.ex
        · replace hm := ifF hm h16
          refine o_next ?_
          -- 18
          refine o_ifs ?_
          refine x_or (c := decide ((5 : Int) < many_12)) (e := ((decide (many_12 = (0 : Int))) && decide ((1 : Int) < pieces_6))) (d := (decide ((5 : Int) < many_12) || ((decide (many_12 = (0 : Int))) && decide ((1 : Int) < pieces_6)))) O (fun Q1 k1 => ?_) (fun h17 => ⟨by rw [h17]; rfl, fun H O Q2 k2 => ?_⟩) (fun h17 => by rw [h17]; rfl) (fun H O => ?_)
          · refine ⟨_, rfl, _, _, rfl, rfl, _, rfl, ?_⟩
            exact k1 _ O
          · refine x_and (c := (decide (many_12 = (0 : Int)))) (e := decide ((1 : Int) < pieces_6)) (d := ((decide (many_12 = (0 : Int))) && decide ((1 : Int) < pieces_6))) O (fun Q1 k1 => ?_) (fun h18 => ⟨by rw [h18]; rfl, fun H O Q2 k2 => ?_⟩) (fun h18 => by rw [h18]; rfl) (fun H O => ?_)
            · refine ⟨_, rfl, ?_⟩
              refine o_c ?_
              refine k_eqI ?_
              refine ⟨_, rfl, ?_⟩
              exact k1 _ O
            · refine ⟨_, rfl, _, _, rfl, rfl, _, rfl, ?_⟩
              exact k2 _ O
            exact k2 _ O
          refine iteS (c := (decide ((5 : Int) < many_12) || ((decide (many_12 = (0 : Int))) && decide ((1 : Int) < pieces_6)))) (fun h19 => ?_) (fun h19 => ?_)
          · replace hm := ifT hm h19
            -- 19
            obtain rfl := Option.some.inj hm
            exact k _ O.ex
          · replace hm := ifF hm h19
            refine o_next ?_
            obtain rfl := Option.some.inj hm
            exact RetV.go k O
def m_Joiner_stray (self_1 : S_Joiner) (tag_4 : Int) : Option (S_Joiner × (List ((Str × Int) ⊕ (Str × Int × (List Int))))) :=
  ifB (decide ((self_1.broken_tag : Option Int) = (some tag_4))) (
    some (self_1, ([] : List ((Str × Int) ⊕ (Str × Int × (List Int)))))) (
    some ((S_Joiner.mk self_1.tag self_1.due self_1.joined self_1.kept (some tag_4)), [(.inl (("broken" : Str), tag_4))]))
def sp_Joiner_stray (K : PySem.W.Frag) (ad : Ad) : Sp := fun vs H Q _ => ∃ (self_1 : S_Joiner) (a_2 : Addr) (L_3 : List Cell) (tag_4 : Int) (R0 : Hp) (r : S_Joiner × (List ((Str × Int) ⊕ (Str × Int × (List Int))))), vs = [.ref a_2, .int tag_4] ∧ Own R0 H (L_3 ++ []) ∧ (o_Joiner ad) R0 a_2 L_3 self_1 ∧ m_Joiner_stray self_1 tag_4 = some r ∧ RetX R0 (hsub H (L_3 ++ [])) (dX (o_Joiner ad) a_2 r.1 (dP (rL (rU (rT2 rS rI) (rT3 rS rI (rL rI)))) r.2)) Q
abbrev N_Joiner_stray : List Str := ["self", "tag"]
theorem sc_Joiner_stray : FnScope N_Joiner_stray ["self", "tag"] (defScope s_Joiner_stray) := ⟨rfl, rfl, rfl, by decide +kernel, rfl, by decide +kernel, by decide +kernel⟩
theorem ok_Joiner_stray {ad : Ad} (T : Txt K mg ad) : FnOk P w K mg base CX0 1 ad.f_Joiner_stray ad.fd_Joiner_stray ["self", "tag"] (sp_Joiner_stray K ad) := by
  refine T.F_Joiner_stray.ok sc_Joiner_stray (fun vs H Q E h => ?_) (fun cdv A outer s H vs Q E hr h => ?_)
  · obtain ⟨_, _, _, _, _, _, rfl, _⟩ := h
    rfl
  · obtain ⟨self_1, a_2, L_3, tag_4, R0, r, rfl, OO, hb_a_2, hm, k⟩ := h
    unfold m_Joiner_stray at hm
    obtain ⟨Hb, hHb⟩ : ∃ Hb : Hp, Hb = hsub H (L_3 ++ []) := ⟨_, rfl⟩
    obtain ⟨H0, hH0⟩ : ∃ H0 : Hp, H0 = Hb := ⟨Hb, rfl⟩
    have O : Own H0 H (L_3 ++ []) := by rw [hH0, hHb]; exact OO.startX
    have eR : Ex R0 Hb := by rw [hHb]; exact OO.subR
    rw [← hHb] at k
    have eB : Ex Hb H0 := by rw [hH0]; exact Ex.refl _
    have eS : Ex R0 (ovr R0 Hb H0) := by rw [hH0]; exact ovr_start eR
    replace hb_a_2 := (mo_Joiner ad) _ _ _ _ _ eS hb_a_2
    clear hH0
    refine ⟨_, (pss_cons (ps_if (pt_cmpR (r := rEqD K) (op_eqD hr.units) (pe_fld (pv 0) rfl) (pv 1) (nomark _)) (pss_one (ps_ret (pe_lstQ (pe_lst pa_nil)))) pss_nil) (pss_cons (ps_fld (pv 0) (pv 1) rfl) (pss_one (ps_ret (pe_lstQ (pe_lst (pa_cons (pe_tupQ (pe_tup (pa_cons pe_str (pa_cons (pv 1) pa_nil)))) pa_nil))))))), ?_⟩
    obtain ⟨dx_5, p_6, rfl⟩ := hb_a_2
    replace O : Own H0 H [(a_2, .ins ad.c_Joiner dx_5 [("tag", (ov V.int self_1.tag)), ("due", .int self_1.due), ("joined", .int self_1.joined), ("kept", .ref p_6), ("broken_tag", (ov V.int self_1.broken_tag))]), (dx_5, .own a_2), (p_6, .lst (List.map V.int self_1.kept))] := Own.cv O (by first | with_reducible rfl | simp only [List.map_nil, List.flatten_cons, List.flatten_nil, List.cons_append, List.nil_append, List.append_nil, List.append_assoc])
    -- 63
    refine o_seq ?_
    refine o_ifs ?_
    refine ⟨_, rfl, a_2, ad.c_Joiner, dx_5, [("tag", (ov V.int self_1.tag)), ("due", .int self_1.due), ("joined", .int self_1.joined), ("kept", .ref p_6), ("broken_tag", (ov V.int self_1.broken_tag))], ((ov V.int self_1.broken_tag)), rfl, (O.mem (List.Mem.head _)), T.C_Joiner, T.N_Joiner_broken_tag, (lk_skip (by decide) (lk_skip (by decide) (lk_skip (by decide) (lk_skip (by decide) lk_hit)))), ?_⟩
    obtain ⟨w_7, h8⟩ : ∃ w_ : V, w_ = (ov V.int self_1.broken_tag) := ⟨_, rfl⟩
    rw [← h8]
    have hn_w_7 : (rO rI) (ovr R0 Hb H0) w_7 self_1.broken_tag := by rw [h8]; exact ov_r (fun _ _ => rfl)
    refine ⟨_, rfl, ?_⟩
    refine k_eqN (x := self_1.broken_tag) (y := (some tag_4)) (deO deI (by intro a; first | (constructor <;> simp [deI, deB, deL, deT2, deT3, deU, dqS, De.q, dqL, dqT2, dqT3, dqU, sumD, PyData.eqv, PyData.eqvAll]) | (cases a <;> constructor <;> simp [deI, deB, deL, deT2, deT3, deU, dqS, De.q, dqL, dqT2, dqT3, dqU, sumD, PyData.eqv, PyData.eqvAll]))) (mO mI) (by decide) ((mO mI) _ _ _ _ (ovr_ex.trans O.ex) hn_w_7) (Ex.refl _) rfl (Ex.refl _) ?_
    refine ⟨_, rfl, ?_⟩
    refine iteS (c := (decide ((self_1.broken_tag : Option Int) = (some tag_4)))) (fun h9 => ?_) (fun h9 => ?_)
    · replace hm := ifT hm h9
      -- 64
      refine o_ret ?_
      refine x_nil ?_
      refine n_lstV O (by show 0 ≤ sizeLine; decide) fun p_10 H O => ?_
      have ha_p_10 : All2 ((rU (rT2 rS rI) (rT3 rS rI (rL rI))) (ovr R0 Hb H0)) ([] : List V) (([] : List ((Str × Int) ⊕ (Str × Int × (List Int)))) : List ((Str × Int) ⊕ (Str × Int × (List Int)))) := .nil
      obtain rfl := Option.some.inj hm
      obtain ⟨H0, O, e_, hp_p_10⟩ := O.frzO (R0 := R0) eB
      replace hn_w_7 := (mO mI) _ _ _ _ (ovr_mono e_) hn_w_7
      replace ha_p_10 := mA (mU (mT2 mS mI) (mT3 mS mI (mL mI))) (ovr_mono e_) ha_p_10
      replace eB := eB.trans e_
      have hn_p_10 : (rL (rU (rT2 rS rI) (rT3 rS rI (rL rI)))) (ovr R0 Hb H0) (.ref p_10) ([] : List ((Str × Int) ⊕ (Str × Int × (List Int)))) := ⟨_, _, rfl, hp_p_10, ha_p_10⟩
      exact k _ _ H0 (((a_2, .ins ad.c_Joiner dx_5 [("tag", (ov V.int self_1.tag)), ("due", .int self_1.due), ("joined", .int self_1.joined), ("kept", .ref p_6), ("broken_tag", (ov V.int self_1.broken_tag))]) :: (dx_5, .own a_2) :: ((p_6, .lst (List.map V.int self_1.kept)) :: [])) ++ []) eB (Own.cv O (by first | with_reducible rfl | simp only [List.map_nil, List.flatten_cons, List.flatten_nil, List.cons_append, List.nil_append, List.append_nil, List.append_assoc])) ⟨_, _, rfl, ⟨dx_5, p_6, rfl⟩, ⟨rfl, hn_p_10⟩⟩
    · replace hm := ifF hm h9
      refine o_next ?_
      -- 65
      refine o_seq ?_
      refine o_sfld ?_
      refine ⟨_, rfl, _, rfl, ?_⟩
      refine k_sfld (fs' := [("tag", (ov V.int self_1.tag)), ("due", .int self_1.due), ("joined", .int self_1.joined), ("kept", .ref p_6), ("broken_tag", (V.int tag_4))]) (O.mem (List.Mem.head _)) T.C_Joiner T.N_Joiner_broken_tag (by show (5 : Nat) < 1000; decide) rfl (putF_skip (by decide) (putF_skip (by decide) (putF_skip (by decide) (putF_skip (by decide) putF_hit)))) (fun _ => O.put0) fun H O => ?_
      -- 66
      refine o_ret ?_
      refine ⟨_, rfl, ?_⟩
      refine x_nil ?_
      refine n_tup O (by show 2 ≤ sizeLine; decide) fun p_11 H O => ?_
      refine x_nil ?_
      obtain ⟨H0, O, e_, hp_p_11⟩ := O.frzO (R0 := R0) eB
      replace hn_w_7 := (mO mI) _ _ _ _ (ovr_mono e_) hn_w_7
      replace eB := eB.trans e_
      have hn_p_11 : (rT2 rS rI) (ovr R0 Hb H0) (.ref p_11) (("broken" : Str), tag_4) := ⟨_, _, _, rfl, hp_p_11, rfl, rfl⟩
      refine n_lstV O (by show 1 ≤ sizeLine; decide) fun p_12 H O => ?_
      have ha_p_12 : All2 ((rU (rT2 rS rI) (rT3 rS rI (rL rI))) (ovr R0 Hb H0)) ([.ref p_11] : List V) ([(.inl (("broken" : Str), tag_4))] : List ((Str × Int) ⊕ (Str × Int × (List Int)))) := (.cons hn_p_11 .nil)
      obtain rfl := Option.some.inj hm
      obtain ⟨H0, O, e_, hp_p_12⟩ := O.frzO (R0 := R0) eB
      replace hn_w_7 := (mO mI) _ _ _ _ (ovr_mono e_) hn_w_7
      replace hn_p_11 := (mT2 mS mI) _ _ _ _ (ovr_mono e_) hn_p_11
      replace hp_p_11 := (ovr_mono e_) _ _ hp_p_11
      replace ha_p_12 := mA (mU (mT2 mS mI) (mT3 mS mI (mL mI))) (ovr_mono e_) ha_p_12
      replace eB := eB.trans e_
      have hn_p_12 : (rL (rU (rT2 rS rI) (rT3 rS rI (rL rI)))) (ovr R0 Hb H0) (.ref p_12) ([(.inl (("broken" : Str), tag_4))]) := ⟨_, _, rfl, hp_p_12, ha_p_12⟩
      exact k _ _ H0 (((a_2, .ins ad.c_Joiner dx_5 [("tag", (ov V.int self_1.tag)), ("due", .int self_1.due), ("joined", .int self_1.joined), ("kept", .ref p_6), ("broken_tag", (V.int tag_4))]) :: (dx_5, .own a_2) :: ((p_6, .lst (List.map V.int self_1.kept)) :: [])) ++ []) eB (Own.cv O (by first | with_reducible rfl | simp only [List.map_nil, List.flatten_cons, List.flatten_nil, List.cons_append, List.nil_append, List.append_nil, List.append_assoc])) ⟨_, _, rfl, ⟨dx_5, p_6, rfl⟩, ⟨rfl, hn_p_12⟩⟩
def m_Joiner_take (self_1 : S_Joiner) (piece_4 : List Int) : Option (Rs (S_Joiner × (List ((Str × Int) ⊕ (Str × Int × (List Int)))))) :=
  bndR (m_ask_piece piece_4) fun ask_pi_8 =>
  bnd (atI piece_4 (0 : Int)) fun e_12 =>
  bnd (atI piece_4 (1 : Int)) fun e_14 =>
  ltv ((e_14 / (16 : Int))) fun due_16 =>
  bnd (atI piece_4 (1 : Int)) fun e_18 =>
  ltv ((e_18 % (16 : Int))) fun number_20 =>
  ifB ((!decide ((self_1.tag : Option Int) = (some e_12))) || ((!decide (self_1.due = due_16)) || ((!decide (self_1.joined = number_20)) || (decide (number_20 = (0 : Int)))))) (
    bnd (m_Joiner_end self_1) fun (self_29, end_30) =>
    ifB (decide ((0 : Int) < number_20)) (
      bnd (m_Joiner_stray self_29 e_12) fun (self_43, stray_44) =>
      bnd (catG end_30 stray_44) fun t_55 =>
      some (.ok (self_43, t_55))) (
      ltv (((0 : Int) + (1 : Int))) fun joined_63 =>
      bnd (catG ([] : List Int) (cutL piece_4 (some (2 : Int)) none)) fun t_67 =>
      bnd (ifB (decide (joined_63 = due_16)) (
        bnd (appG end_30 (.inr (("whole" : Str), e_12, t_67))) fun l_74 =>
        some ((S_Joiner.mk none due_16 joined_63 ([] : List Int) none), l_74)) (
        some ((S_Joiner.mk (some e_12) due_16 joined_63 t_67 none), end_30))) fun (self_77, told_84) =>
      some (.ok (self_77, told_84)))) (
    ltv ((self_1.joined + (1 : Int))) fun joined_88 =>
    bnd (catG self_1.kept (cutL piece_4 (some (2 : Int)) none)) fun t_92 =>
    bnd (ifB (decide (joined_88 = self_1.due)) (
      bnd (appG ([] : List ((Str × Int) ⊕ (Str × Int × (List Int)))) (.inr (("whole" : Str), e_12, t_92))) fun l_99 =>
      some ((S_Joiner.mk none self_1.due joined_88 ([] : List Int) self_1.broken_tag), l_99)) (
      some ((S_Joiner.mk self_1.tag self_1.due joined_88 t_92 self_1.broken_tag), ([] : List ((Str × Int) ⊕ (Str × Int × (List Int))))))) fun (self_102, told_109) =>
    some (.ok (self_102, told_109)))
def sp_Joiner_take (K : PySem.W.Frag) (ad : Ad) (d : Eds) : Sp := fun vs H Q E => ∃ (self_1 : S_Joiner) (a_2 : Addr) (L_3 : List Cell) (piece_4 : List Int) (a_5 : Addr) (R0 : Hp) (r : Rs (S_Joiner × (List ((Str × Int) ⊕ (Str × Int × (List Int)))))), vs = [.ref a_2, .ref a_5] ∧ Own R0 H (L_3 ++ []) ∧ (o_Joiner ad) R0 a_2 L_3 self_1 ∧ (hsub H (L_3 ++ [])) a_5 = some (.lst (List.map V.int piece_4)) ∧ m_Joiner_take self_1 piece_4 = some r ∧ RetR (fun r => RetX R0 (hsub H (L_3 ++ [])) (dX (o_Joiner ad) a_2 r.1 (dP (rL (rU (rT2 rS rI) (rT3 rS rI (rL rI)))) r.2)) Q) d r H E
abbrev N_Joiner_take : List Str := ["self", "piece", "tag", "due", "number", "told"]
theorem sc_Joiner_take : FnScope N_Joiner_take ["self", "piece"] (defScope s_Joiner_take) := ⟨rfl, rfl, rfl, by decide +kernel, rfl, by decide +kernel, by decide +kernel⟩
theorem ok_Joiner_take {ad : Ad} (T : Txt K mg ad) : FnOk P w K mg base (L2N.CX P w) 2 ad.f_Joiner_take ad.fd_Joiner_take ["self", "piece"] (sp_Joiner_take K ad ad.es) := by
  have G_Joiner_end := ok_Joiner_end (P := P) (w := w) (base := base) T
  have G_Joiner_stray := ok_Joiner_stray (P := P) (w := w) (base := base) T
  have G_ask_piece := ok_ask_piece (P := P) (w := w) (base := base) T
  refine okN T.F_Joiner_take sc_Joiner_take (fun vs H Q E h => ?_) (fun cdv A outer s H vs Q E hr h => ?_)
  · obtain ⟨_, _, _, _, _, _, _, rfl, _⟩ := h
    rfl
  · obtain ⟨self_1, a_2, L_3, piece_4, a_5, R0, r, rfl, OO, hb_a_2, hp_a_5, hm, k⟩ := h
    unfold m_Joiner_take at hm
    obtain ⟨Hb, hHb⟩ : ∃ Hb : Hp, Hb = hsub H (L_3 ++ []) := ⟨_, rfl⟩
    obtain ⟨H0, hH0⟩ : ∃ H0 : Hp, H0 = Hb := ⟨Hb, rfl⟩
    have O : Own H0 H (L_3 ++ []) := by rw [hH0, hHb]; exact OO.startX
    have eR : Ex R0 Hb := by rw [hHb]; exact OO.subR
    rw [← hHb] at k hp_a_5
    have eB : Ex Hb H0 := by rw [hH0]; exact Ex.refl _
    have eS : Ex R0 (ovr R0 Hb H0) := by rw [hH0]; exact ovr_start eR
    replace hb_a_2 := (mo_Joiner ad) _ _ _ _ _ eS hb_a_2
    rw [← hH0] at hp_a_5
    clear hH0
    refine ⟨_, (pss_cons (ps_expr (pe_call G_ask_piece (hr.mono (by decide)) (by rfl) T.g_ask_piece T.F_ask_piece.kp T.b_ask_piece .nil (E := E) (L2N.passes_call (L2N.takes_of rfl rfl rfl rfl) fun _ _ _ _ h => h) (pa_cons (pv 1) pa_nil))) (pss_cons (ps_set (i := 2) sc_Joiner_take.nd rfl (Or.inl rfl) (pe_ix (r := rIxL K) ix_list (pv 1) pe_int (fun _ _ => rfl))) (pss_cons (ps_set (i := 3) sc_Joiner_take.nd rfl (Or.inl rfl) (pe_op op_fdiv (pe_ix (r := rIxL K) ix_list (pv 1) pe_int (fun _ _ => rfl)) pe_int)) (pss_cons (ps_set (i := 4) sc_Joiner_take.nd rfl (Or.inl rfl) (pe_op op_mod (pe_ix (r := rIxL K) ix_list (pv 1) pe_int (fun _ _ => rfl)) pe_int)) (pss_cons (ps_set (i := 5) sc_Joiner_take.nd rfl (Or.inl rfl) (pe_lstQ (pe_lst pa_nil))) (pss_cons (ps_if (PW.pt (pw_or (pt_cmpR (r := rNeD K) (op_neD hr.units) (pe_fld (pv 0) rfl) (pv 2) (nomark _)) (pw_or (pt_cmpR op_ne (pe_fld (pv 0) rfl) (pv 3) (nomark _)) (pw_or (pt_cmpR op_ne (pe_fld (pv 0) rfl) (pv 4) (nomark _)) (pw_or1 (pt_cmpR op_eq (pv 4) pe_int (nomark _))))))) (pss_cons (ps_set (i := 5) sc_Joiner_take.nd rfl (Or.inl rfl) (pe_meth0 (pv 0) T.C_Joiner T.M_Joiner_end G_Joiner_end (hr.mono (by decide)) T.b_Joiner_end .nil pass0)) (pss_cons (ps_if (pt_cmpR op_gt (pv 4) pe_int (nomark _)) (pss_one (ps_ret (pe_op op_cat (pv 5) (pe_meth (pv 0) T.C_Joiner T.M_Joiner_stray G_Joiner_stray (hr.mono (by decide)) T.b_Joiner_stray .nil pass0 (pa_cons (pv 2) pa_nil))))) pss_nil) (pss_cons (ps_fld (pv 0) (pv 2) rfl) (pss_cons (ps_fld (pv 0) (pv 3) rfl) (pss_cons (ps_fld (pv 0) pe_int rfl) (pss_cons (ps_fld (pv 0) (pe_lstQ (pe_lst pa_nil)) rfl) (pss_one (ps_fld (pv 0) pe_non rfl)))))))) pss_nil) (pss_cons (ps_fld (pv 0) (pe_op op_add (pe_fld (pv 0) rfl) pe_int) rfl) (pss_cons (ps_fld (pv 0) (pe_op op_cat (pe_fld (pv 0) rfl) (pe_callTy (r := rListQ K) call_listQ (by rfl) T.z_list (by decide +kernel) (pa_cons (pe_slice (r := rSlL K) sl_list (pv 1) (po_some pe_int) po_none) pa_nil))) rfl) (Evl.pss_cut (ps_if (pt_cmpR op_eq (pe_fld (pv 0) rfl) (pe_fld (pv 0) rfl) (nomark _)) (pss_cons (ps_fld (pv 0) pe_non rfl) (pss_cons (ps_expr (pe_bm PySem.F.plainAttrs_list PySem.F.slot_list_append PySem.F.type_list_append mt_append (pv 5) (pa_cons (pe_tupQ (pe_tup (pa_cons pe_str (pa_cons (pv 2) (pa_cons (pe_fld (pv 0) rfl) pa_nil))))) pa_nil))) (pss_one (ps_fld (pv 0) (pe_lstQ (pe_lst pa_nil)) rfl)))) pss_nil) (pss_one (ps_ret (pv 5)))))))))))), ?_⟩
    obtain ⟨dx_6, p_7, rfl⟩ := hb_a_2
    replace O : Own H0 H [(a_2, .ins ad.c_Joiner dx_6 [("tag", (ov V.int self_1.tag)), ("due", .int self_1.due), ("joined", .int self_1.joined), ("kept", .ref p_7), ("broken_tag", (ov V.int self_1.broken_tag))]), (dx_6, .own a_2), (p_7, .lst (List.map V.int self_1.kept))] := Own.cv O (by first | with_reducible rfl | simp only [List.map_nil, List.flatten_cons, List.flatten_nil, List.cons_append, List.nil_append, List.append_nil, List.append_assoc])
    -- 40
    refine o_seq ?_
    refine o_drop ?_
    obtain ⟨x_10, h9, hm⟩ := bndRE hm
    refine ⟨_, rfl, ?_⟩
    refine x_nil ?_
    refine ⟨_, _, x_10, rfl, (O.ex _ _ hp_a_5), h9, ?_⟩
    refine RetR.split (fun e_ h11 => ?_) (fun ask_pi_8 h11 => ?_)
    · subst h11
      obtain rfl := erR hm
      exact RetE.up k (Own.whole OO hHb eB (Own.cv (L' := (((a_2, .ins ad.c_Joiner dx_6 [("tag", (ov V.int self_1.tag)), ("due", .int self_1.due), ("joined", .int self_1.joined), ("kept", .ref p_7), ("broken_tag", (ov V.int self_1.broken_tag))]) :: (dx_6, .own a_2) :: ((p_7, .lst (List.map V.int self_1.kept)) :: [])) ++ []) ++ []) O (by first | with_reducible rfl | simp only [List.map_nil, List.flatten_cons, List.flatten_nil, List.cons_append, List.nil_append, List.append_nil, List.append_assoc])))
    subst h11
    replace hm := okR hm
    refine O.retV fun H O => ?_
    -- 41
    refine o_seq ?_
    refine o_asg ?_
    obtain ⟨e_12, h13, hm⟩ := bndE hm
    refine ⟨_, rfl, ?_⟩
    refine o_c ?_
    refine k_ixL (f := V.int) (SqL.of (O.ex _ _ hp_a_5)) h13 ?_
    -- 42
    refine o_seq ?_
    refine o_asg ?_
    obtain ⟨e_14, h15, hm⟩ := bndE hm
    refine ⟨_, rfl, ?_⟩
    refine o_c ?_
    refine k_ixL (f := V.int) (SqL.of (O.ex _ _ hp_a_5)) h15 ?_
    refine ⟨_, _, rfl, rfl, ⟨by decide, by decide⟩, ?_⟩
    obtain ⟨due_16, h17, hm⟩ := ltvE hm
    refine a_set (congrArg V.int h17) ?_
    -- 43
    refine o_seq ?_
    refine o_asg ?_
    obtain ⟨e_18, h19, hm⟩ := bndE hm
    refine ⟨_, rfl, ?_⟩
    refine o_c ?_
    refine k_ixL (f := V.int) (SqL.of (O.ex _ _ hp_a_5)) h19 ?_
    refine ⟨_, _, rfl, rfl, (by show (0 : Int) < 16; decide), ?_⟩
    obtain ⟨number_20, h21, hm⟩ := ltvE hm
    refine a_set (congrArg V.int h21) ?_
    -- 44
    refine o_seq ?_
    refine o_asg ?_
    refine x_nil ?_
    refine n_lstV O (by show 0 ≤ sizeLine; decide) fun p_22 H O => ?_
    have ha_p_22 : All2 ((rU (rT2 rS rI) (rT3 rS rI (rL rI))) (ovr R0 Hb H0)) ([] : List V) (([] : List ((Str × Int) ⊕ (Str × Int × (List Int)))) : List ((Str × Int) ⊕ (Str × Int × (List Int)))) := .nil
    -- 45
    refine o_seq ?_
    refine o_ifs ?_
    refine x_or (c := (!decide ((self_1.tag : Option Int) = (some e_12)))) (e := ((!decide (self_1.due = due_16)) || ((!decide (self_1.joined = number_20)) || (decide (number_20 = (0 : Int)))))) (d := ((!decide ((self_1.tag : Option Int) = (some e_12))) || ((!decide (self_1.due = due_16)) || ((!decide (self_1.joined = number_20)) || (decide (number_20 = (0 : Int))))))) O (fun Q1 k1 => ?_) (fun h23 => ⟨by rw [h23]; rfl, fun H O Q2 k2 => ?_⟩) (fun h23 => by rw [h23]; rfl) (fun H O => ?_)
    · refine ⟨_, rfl, a_2, ad.c_Joiner, dx_6, [("tag", (ov V.int self_1.tag)), ("due", .int self_1.due), ("joined", .int self_1.joined), ("kept", .ref p_7), ("broken_tag", (ov V.int self_1.broken_tag))], ((ov V.int self_1.tag)), rfl, (O.mem (List.Mem.tail _ (List.Mem.head _))), T.C_Joiner, T.N_Joiner_tag, lk_hit, ?_⟩
      obtain ⟨w_24, h25⟩ : ∃ w_ : V, w_ = (ov V.int self_1.tag) := ⟨_, rfl⟩
      rw [← h25]
      have hn_w_24 : (rO rI) (ovr R0 Hb H0) w_24 self_1.tag := by rw [h25]; exact ov_r (fun _ _ => rfl)
      refine ⟨_, rfl, ?_⟩
      refine k_neN (x := self_1.tag) (y := (some e_12)) (deO deI (by intro a; first | (constructor <;> simp [deI, deB, deL, deT2, deT3, deU, dqS, De.q, dqL, dqT2, dqT3, dqU, sumD, PyData.eqv, PyData.eqvAll]) | (cases a <;> constructor <;> simp [deI, deB, deL, deT2, deT3, deU, dqS, De.q, dqL, dqT2, dqT3, dqU, sumD, PyData.eqv, PyData.eqvAll]))) (mO mI) (by decide) ((mO mI) _ _ _ _ (ovr_ex.trans O.ex) hn_w_24) (Ex.refl _) rfl (Ex.refl _) ?_
      refine ⟨_, rfl, ?_⟩
      exact k1 _ O
    · refine x_or (c := (!decide (self_1.due = due_16))) (e := ((!decide (self_1.joined = number_20)) || (decide (number_20 = (0 : Int))))) (d := ((!decide (self_1.due = due_16)) || ((!decide (self_1.joined = number_20)) || (decide (number_20 = (0 : Int)))))) O (fun Q1 k1 => ?_) (fun h26 => ⟨by rw [h26]; rfl, fun H O Q2 k2 => ?_⟩) (fun h26 => by rw [h26]; rfl) (fun H O => ?_)
      · refine ⟨_, rfl, a_2, ad.c_Joiner, dx_6, [("tag", (ov V.int self_1.tag)), ("due", .int self_1.due), ("joined", .int self_1.joined), ("kept", .ref p_7), ("broken_tag", (ov V.int self_1.broken_tag))], (.int self_1.due), rfl, (O.mem (List.Mem.tail _ (List.Mem.head _))), T.C_Joiner, T.N_Joiner_due, (lk_skip (by decide) lk_hit), _, rfl, ?_⟩
        refine k_neI ?_
        refine ⟨_, rfl, ?_⟩
        exact k1 _ O
      · refine x_or (c := (!decide (self_1.joined = number_20))) (e := (decide (number_20 = (0 : Int)))) (d := ((!decide (self_1.joined = number_20)) || (decide (number_20 = (0 : Int))))) O (fun Q1 k1 => ?_) (fun h27 => ⟨by rw [h27]; rfl, fun H O Q2 k2 => ?_⟩) (fun h27 => by rw [h27]; rfl) (fun H O => ?_)
        · refine ⟨_, rfl, a_2, ad.c_Joiner, dx_6, [("tag", (ov V.int self_1.tag)), ("due", .int self_1.due), ("joined", .int self_1.joined), ("kept", .ref p_7), ("broken_tag", (ov V.int self_1.broken_tag))], (.int self_1.joined), rfl, (O.mem (List.Mem.tail _ (List.Mem.head _))), T.C_Joiner, T.N_Joiner_joined, (lk_skip (by decide) (lk_skip (by decide) lk_hit)), _, rfl, ?_⟩
          refine k_neI ?_
          refine ⟨_, rfl, ?_⟩
          exact k1 _ O
        · refine ⟨_, rfl, ?_⟩
          refine o_c ?_
          refine k_eqI ?_
          refine ⟨_, rfl, ?_⟩
          exact k2 _ O
        exact k2 _ O
      exact k2 _ O
    refine iteS (c := ((!decide ((self_1.tag : Option Int) = (some e_12))) || ((!decide (self_1.due = due_16)) || ((!decide (self_1.joined = number_20)) || (decide (number_20 = (0 : Int))))))) (fun h28 => ?_) (fun h28 => ?_)
    · replace hm := ifT hm h28
      -- 46
      refine o_seq ?_
      refine o_asg ?_
      refine ⟨_, rfl, a_2, dx_6, [("tag", (ov V.int self_1.tag)), ("due", .int self_1.due), ("joined", .int self_1.joined), ("kept", .ref p_7), ("broken_tag", (ov V.int self_1.broken_tag))], rfl, (O.mem (List.Mem.tail _ (List.Mem.head _))), (lk_skip (by decide) (lk_skip (by decide) (lk_skip (by decide) (lk_skip (by decide) (lk_skip (by decide) lk_nil))))), ?_⟩
      refine x_nil ?_
      obtain ⟨⟨self_29, end_30⟩, h31, hm⟩ := bndE hm
      have Oc : Own H0 H ((((a_2, .ins ad.c_Joiner dx_6 [("tag", (ov V.int self_1.tag)), ("due", .int self_1.due), ("joined", .int self_1.joined), ("kept", .ref p_7), ("broken_tag", (ov V.int self_1.broken_tag))]) :: (dx_6, .own a_2) :: ((p_7, .lst (List.map V.int self_1.kept)) :: [])) ++ []) ++ [(p_22, .lst ([] : List V))]) := Own.cv (O.sel (L' := [(a_2, .ins ad.c_Joiner dx_6 [("tag", (ov V.int self_1.tag)), ("due", .int self_1.due), ("joined", .int self_1.joined), ("kept", .ref p_7), ("broken_tag", (ov V.int self_1.broken_tag))]), (dx_6, .own a_2), (p_7, .lst (List.map V.int self_1.kept)), (p_22, .lst ([] : List V))]) [1, 2, 3, 0] (by decide) rfl) (by first | with_reducible rfl | simp only [List.map_nil, List.flatten_cons, List.flatten_nil, List.cons_append, List.nil_append, List.append_nil, List.append_assoc])
      refine ⟨self_1, a_2, ((a_2, .ins ad.c_Joiner dx_6 [("tag", (ov V.int self_1.tag)), ("due", .int self_1.due), ("joined", .int self_1.joined), ("kept", .ref p_7), ("broken_tag", (ov V.int self_1.broken_tag))]) :: (dx_6, .own a_2) :: ((p_7, .lst (List.map V.int self_1.kept)) :: [])), ovr R0 Hb H0, (self_29, end_30), rfl, (Own.shrink Oc.left ovr_ex), ⟨dx_6, p_7, rfl⟩, h31, ?_⟩
      refine Oc.retXO (mdX (mo_Joiner ad) (mdOb (moRowD (mU (mT2 mS mI) (mT3 mS mI (mL mI)))))) eB fun w_32 H H0 L_33 O e_ d_ => ?_
      replace hp_a_5 := e_ _ _ hp_a_5
      replace ha_p_22 := mA (mU (mT2 mS mI) (mT3 mS mI (mL mI))) (ovr_mono e_) ha_p_22
      replace eB := eB.trans e_
      obtain ⟨L_36, L_38, rfl, h37, ⟨a_34, rfl, h35⟩⟩ := d_
      obtain ⟨dx_39, p_40, rfl⟩ := h37
      obtain ⟨vs_41, rfl, ha_a_34⟩ := h35
      replace O : Own H0 H [(a_2, .ins ad.c_Joiner dx_39 [("tag", (ov V.int self_29.tag)), ("due", .int self_29.due), ("joined", .int self_29.joined), ("kept", .ref p_40), ("broken_tag", (ov V.int self_29.broken_tag))]), (dx_39, .own a_2), (p_40, .lst (List.map V.int self_29.kept)), (a_34, .lst vs_41), (p_22, .lst ([] : List V))] := Own.cv O (by first | with_reducible rfl | simp only [List.map_nil, List.flatten_cons, List.flatten_nil, List.cons_append, List.nil_append, List.append_nil, List.append_assoc])
      -- 47
      refine o_seq ?_
      refine o_ifs ?_
      refine ⟨_, rfl, _, _, rfl, rfl, _, rfl, ?_⟩
      refine iteS (c := decide ((0 : Int) < number_20)) (fun h42 => ?_) (fun h42 => ?_)
      · replace hm := ifT hm h42
        -- 48
        refine o_ret ?_
        refine ⟨_, rfl, _, rfl, a_2, dx_39, [("tag", (ov V.int self_29.tag)), ("due", .int self_29.due), ("joined", .int self_29.joined), ("kept", .ref p_40), ("broken_tag", (ov V.int self_29.broken_tag))], rfl, (O.mem (List.Mem.head _)), (lk_skip (by decide) (lk_skip (by decide) (lk_skip (by decide) (lk_skip (by decide) (lk_skip (by decide) lk_nil))))), _, rfl, ?_⟩
        refine x_nil ?_
        obtain ⟨⟨self_43, stray_44⟩, h45, hm⟩ := bndE hm
        have Oc : Own H0 H ((((a_2, .ins ad.c_Joiner dx_39 [("tag", (ov V.int self_29.tag)), ("due", .int self_29.due), ("joined", .int self_29.joined), ("kept", .ref p_40), ("broken_tag", (ov V.int self_29.broken_tag))]) :: (dx_39, .own a_2) :: ((p_40, .lst (List.map V.int self_29.kept)) :: [])) ++ []) ++ [(a_34, .lst vs_41), (p_22, .lst ([] : List V))]) := Own.cv O (by first | with_reducible rfl | simp only [List.map_nil, List.flatten_cons, List.flatten_nil, List.cons_append, List.nil_append, List.append_nil, List.append_assoc])
        refine ⟨self_29, a_2, ((a_2, .ins ad.c_Joiner dx_39 [("tag", (ov V.int self_29.tag)), ("due", .int self_29.due), ("joined", .int self_29.joined), ("kept", .ref p_40), ("broken_tag", (ov V.int self_29.broken_tag))]) :: (dx_39, .own a_2) :: ((p_40, .lst (List.map V.int self_29.kept)) :: [])), e_12, ovr R0 Hb H0, (self_43, stray_44), rfl, (Own.shrink Oc.left ovr_ex), ⟨dx_39, p_40, rfl⟩, h45, ?_⟩
        refine Oc.retXO (mdX (mo_Joiner ad) (mdP (mL (mU (mT2 mS mI) (mT3 mS mI (mL mI)))))) eB fun w_46 H H0 L_47 O e_ d_ => ?_
        replace hp_a_5 := e_ _ _ hp_a_5
        replace ha_p_22 := mA (mU (mT2 mS mI) (mT3 mS mI (mL mI))) (ovr_mono e_) ha_p_22
        replace ha_a_34 := mA (mU (mT2 mS mI) (mT3 mS mI (mL mI))) (ovr_mono e_) ha_a_34
        replace eB := eB.trans e_
        obtain ⟨L_49, L_51, rfl, h50, ⟨rfl, h48⟩⟩ := d_
        obtain ⟨dx_52, p_53, rfl⟩ := h50
        replace O : Own H0 H [(a_2, .ins ad.c_Joiner dx_52 [("tag", (ov V.int self_43.tag)), ("due", .int self_43.due), ("joined", .int self_43.joined), ("kept", .ref p_53), ("broken_tag", (ov V.int self_43.broken_tag))]), (dx_52, .own a_2), (p_53, .lst (List.map V.int self_43.kept)), (a_34, .lst vs_41), (p_22, .lst ([] : List V))] := Own.cv O (by first | with_reducible rfl | simp only [List.map_nil, List.flatten_cons, List.flatten_nil, List.cons_append, List.nil_append, List.append_nil, List.append_assoc])
        obtain ⟨p_54, rfl⟩ := rL_ref h48
        have hn_p_54 := h48
        obtain ⟨t_55, h56, hm⟩ := bndE hm
        obtain ⟨vs_57, h58, h59⟩ := rL_at hn_p_54
        refine k_catA O (O.mem (List.Mem.tail _ (List.Mem.tail _ (List.Mem.tail _ (List.Mem.head _))))) ha_a_34 ((ovr_ex.trans O.ex) _ _ h58) h59 h56 fun p_60 H vs_61 O ha_p_60 => ?_
        obtain rfl := Option.some.inj hm
        obtain ⟨H0, O, e_, hp_p_60⟩ := O.frzO (R0 := R0) eB
        replace hp_a_5 := e_ _ _ hp_a_5
        replace ha_p_22 := mA (mU (mT2 mS mI) (mT3 mS mI (mL mI))) (ovr_mono e_) ha_p_22
        replace ha_a_34 := mA (mU (mT2 mS mI) (mT3 mS mI (mL mI))) (ovr_mono e_) ha_a_34
        replace hn_p_54 := (mL (mU (mT2 mS mI) (mT3 mS mI (mL mI)))) _ _ _ _ (ovr_mono e_) hn_p_54
        replace ha_p_60 := mA (mU (mT2 mS mI) (mT3 mS mI (mL mI))) (ovr_mono e_) ha_p_60
        replace eB := eB.trans e_
        have hn_p_60 : (rL (rU (rT2 rS rI) (rT3 rS rI (rL rI)))) (ovr R0 Hb H0) (.ref p_60) t_55 := ⟨_, _, rfl, hp_p_60, ha_p_60⟩
        exact k _ _ H0 (((a_2, .ins ad.c_Joiner dx_52 [("tag", (ov V.int self_43.tag)), ("due", .int self_43.due), ("joined", .int self_43.joined), ("kept", .ref p_53), ("broken_tag", (ov V.int self_43.broken_tag))]) :: (dx_52, .own a_2) :: ((p_53, .lst (List.map V.int self_43.kept)) :: [])) ++ []) eB (Own.cv (O.sel (L' := [(a_2, .ins ad.c_Joiner dx_52 [("tag", (ov V.int self_43.tag)), ("due", .int self_43.due), ("joined", .int self_43.joined), ("kept", .ref p_53), ("broken_tag", (ov V.int self_43.broken_tag))]), (dx_52, .own a_2), (p_53, .lst (List.map V.int self_43.kept))]) [0, 1, 2] (by decide) rfl) (by first | with_reducible rfl | simp only [List.map_nil, List.flatten_cons, List.flatten_nil, List.cons_append, List.nil_append, List.append_nil, List.append_assoc])) ⟨_, _, rfl, ⟨dx_52, p_53, rfl⟩, ⟨rfl, hn_p_60⟩⟩
      · replace hm := ifF hm h42
        refine o_next ?_
        -- 49
        refine o_seq ?_
        refine o_sfld ?_
        refine ⟨_, rfl, _, rfl, ?_⟩
        refine k_sfld (fs' := [("tag", (V.int e_12)), ("due", .int self_29.due), ("joined", .int self_29.joined), ("kept", .ref p_40), ("broken_tag", (ov V.int self_29.broken_tag))]) (O.mem (List.Mem.head _)) T.C_Joiner T.N_Joiner_tag (by show (5 : Nat) < 1000; decide) rfl putF_hit (fun _ => O.put0) fun H O => ?_
        -- 50
        refine o_seq ?_
        refine o_sfld ?_
        refine ⟨_, rfl, _, rfl, ?_⟩
        refine k_sfld (fs' := [("tag", (V.int e_12)), ("due", .int due_16), ("joined", .int self_29.joined), ("kept", .ref p_40), ("broken_tag", (ov V.int self_29.broken_tag))]) (O.mem (List.Mem.head _)) T.C_Joiner T.N_Joiner_due (by show (5 : Nat) < 1000; decide) rfl (putF_skip (by decide) putF_hit) (fun _ => O.put0) fun H O => ?_
        -- 51
        refine o_seq ?_
        refine o_sfld ?_
        refine ⟨_, rfl, ?_⟩
        refine k_sfld (fs' := [("tag", (V.int e_12)), ("due", .int due_16), ("joined", .int (0 : Int)), ("kept", .ref p_40), ("broken_tag", (ov V.int self_29.broken_tag))]) (O.mem (List.Mem.head _)) T.C_Joiner T.N_Joiner_joined (by show (5 : Nat) < 1000; decide) rfl (putF_skip (by decide) (putF_skip (by decide) putF_hit)) (fun _ => O.put0) fun H O => ?_
        -- 52
        refine o_seq ?_
        refine o_sfld ?_
        refine x_nil ?_
        refine n_lst (f := V.int) (xs := ([] : List Int)) O rfl (Nat.zero_le _) fun p_62 H O => ?_
        refine ⟨_, rfl, ?_⟩
        refine k_sfld (fs' := [("tag", (V.int e_12)), ("due", .int due_16), ("joined", .int (0 : Int)), ("kept", .ref p_62), ("broken_tag", (ov V.int self_29.broken_tag))]) (O.mem (List.Mem.tail _ (List.Mem.head _))) T.C_Joiner T.N_Joiner_kept (by show (5 : Nat) < 1000; decide) rfl (putF_skip (by decide) (putF_skip (by decide) (putF_skip (by decide) putF_hit))) (fun _ => O.put1) fun H O => ?_
        replace O := (O.sel (L' := [(p_62, .lst (List.map V.int ([] : List Int))), (a_2, .ins ad.c_Joiner dx_39 [("tag", (V.int e_12)), ("due", .int due_16), ("joined", .int (0 : Int)), ("kept", .ref p_62), ("broken_tag", (ov V.int self_29.broken_tag))]), (dx_39, .own a_2), (a_34, .lst vs_41), (p_22, .lst ([] : List V))]) [0, 1, 2, 4, 5] (by decide) rfl)
        -- 53
        refine o_sfld ?_
        refine ⟨_, rfl, ?_⟩
        refine k_sfld (fs' := [("tag", (V.int e_12)), ("due", .int due_16), ("joined", .int (0 : Int)), ("kept", .ref p_62), ("broken_tag", (V.non))]) (O.mem (List.Mem.tail _ (List.Mem.head _))) T.C_Joiner T.N_Joiner_broken_tag (by show (5 : Nat) < 1000; decide) rfl (putF_skip (by decide) (putF_skip (by decide) (putF_skip (by decide) (putF_skip (by decide) putF_hit)))) (fun _ => O.put1) fun H O => ?_
        -- 54
        refine o_seq ?_
        refine o_sfld ?_
        refine ⟨_, rfl, a_2, ad.c_Joiner, dx_39, [("tag", (V.int e_12)), ("due", .int due_16), ("joined", .int (0 : Int)), ("kept", .ref p_62), ("broken_tag", (V.non))], (.int (0 : Int)), rfl, (O.mem (List.Mem.tail _ (List.Mem.head _))), T.C_Joiner, T.N_Joiner_joined, (lk_skip (by decide) (lk_skip (by decide) lk_hit)), _, _, rfl, rfl, _, rfl, ?_⟩
        obtain ⟨joined_63, h64, hm⟩ := ltvE hm
        refine k_sfld (fs' := [("tag", (V.int e_12)), ("due", .int due_16), ("joined", .int joined_63), ("kept", .ref p_62), ("broken_tag", (V.non))]) (O.mem (List.Mem.tail _ (List.Mem.head _))) T.C_Joiner T.N_Joiner_joined (by show (5 : Nat) < 1000; decide) (congrArg V.int h64) (putF_skip (by decide) (putF_skip (by decide) putF_hit)) (fun _ => O.put1) fun H O => ?_
        -- 55
        refine o_seq ?_
        refine o_sfld ?_
        refine ⟨_, rfl, a_2, ad.c_Joiner, dx_39, [("tag", (V.int e_12)), ("due", .int due_16), ("joined", .int joined_63), ("kept", .ref p_62), ("broken_tag", (V.non))], (.ref p_62), rfl, (O.mem (List.Mem.tail _ (List.Mem.head _))), T.C_Joiner, T.N_Joiner_kept, (lk_skip (by decide) (lk_skip (by decide) (lk_skip (by decide) lk_hit))), _, rfl, _, rfl, ?_⟩
        refine x_np ?_
        refine k_cut (f := V.int) O (SqL.of (O.ex _ _ hp_a_5)) fun p_65 H O => ?_
        refine x_nil ?_
        refine n_list O (SqL.of (O.mem (List.Mem.head _))) fun p_66 H O => ?_
        obtain ⟨t_67, h68, hm⟩ := bndE hm
        refine k_cat (f := V.int) O (O.mem (List.Mem.tail _ (List.Mem.tail _ (List.Mem.head _)))) (O.mem (List.Mem.head _)) h68 fun p_69 H O => ?_
        refine ⟨_, rfl, ?_⟩
        refine k_sfld (fs' := [("tag", (V.int e_12)), ("due", .int due_16), ("joined", .int joined_63), ("kept", .ref p_69), ("broken_tag", (V.non))]) (O.mem (List.Mem.tail _ (List.Mem.tail _ (List.Mem.tail _ (List.Mem.tail _ (List.Mem.head _)))))) T.C_Joiner T.N_Joiner_kept (by show (5 : Nat) < 1000; decide) rfl (putF_skip (by decide) (putF_skip (by decide) (putF_skip (by decide) putF_hit))) (fun _ => O.put4) fun H O => ?_
        replace O := (O.sel (L' := [(p_69, .lst (List.map V.int t_67)), (p_66, .lst (List.map V.int (cutL piece_4 (some (2 : Int)) none))), (p_65, .lst (List.map V.int (cutL piece_4 (some (2 : Int)) none))), (a_2, .ins ad.c_Joiner dx_39 [("tag", (V.int e_12)), ("due", .int due_16), ("joined", .int joined_63), ("kept", .ref p_69), ("broken_tag", (V.non))]), (dx_39, .own a_2), (a_34, .lst vs_41), (p_22, .lst ([] : List V))]) [0, 1, 2, 4, 5, 6, 7] (by decide) rfl)
        -- 56
        obtain ⟨⟨self_77, told_84⟩, h72, hm⟩ := bndE hm
        refine o_cut (fun σ H => ∃ (R_ : Hp) (vs_85 : List V) (B_78 : List Cell) (j_80 : Option V) (j_81 : Option V) (j_82 : Option V) (j_83 : Option V), σ = [some (.ref a_2), j_80, j_81, j_82, j_83, some (.ref a_34)] ∧ Ex H0 R_ ∧ Own R_ H ((a_34, .lst vs_85) :: (B_78 ++ [])) ∧ All2 ((rU (rT2 rS rI) (rT3 rS rI (rL rI))) (ovr R0 Hb R_)) vs_85 told_84 ∧ (o_Joiner ad) (ovr R0 Hb R_) a_2 B_78 self_77) ?_ ?_
        · have eJ70 : Ex H0 H0 := Ex.refl _
          refine o_ifs ?_
          refine ⟨_, rfl, a_2, ad.c_Joiner, dx_39, [("tag", (V.int e_12)), ("due", .int due_16), ("joined", .int joined_63), ("kept", .ref p_69), ("broken_tag", (V.non))], (.int joined_63), rfl, (O.mem (List.Mem.tail _ (List.Mem.tail _ (List.Mem.tail _ (List.Mem.head _))))), T.C_Joiner, T.N_Joiner_joined, (lk_skip (by decide) (lk_skip (by decide) lk_hit)), _, rfl, a_2, ad.c_Joiner, dx_39, [("tag", (V.int e_12)), ("due", .int due_16), ("joined", .int joined_63), ("kept", .ref p_69), ("broken_tag", (V.non))], (.int due_16), rfl, (O.mem (List.Mem.tail _ (List.Mem.tail _ (List.Mem.tail _ (List.Mem.head _))))), T.C_Joiner, T.N_Joiner_due, (lk_skip (by decide) lk_hit), ?_⟩
          refine k_eqI ?_
          refine ⟨_, rfl, ?_⟩
          refine iteS (c := (decide (joined_63 = due_16))) (fun h71 => ?_) (fun h71 => ?_)
          · replace hm := ifT h72 h71
            -- 57
            refine o_seq ?_
            refine o_sfld ?_
            refine ⟨_, rfl, ?_⟩
            refine k_sfld (fs' := [("tag", (V.non)), ("due", .int due_16), ("joined", .int joined_63), ("kept", .ref p_69), ("broken_tag", (V.non))]) (O.mem (List.Mem.tail _ (List.Mem.tail _ (List.Mem.tail _ (List.Mem.head _))))) T.C_Joiner T.N_Joiner_tag (by show (5 : Nat) < 1000; decide) rfl putF_hit (fun _ => O.put3) fun H O => ?_
            -- 58
            refine o_seq ?_
            refine o_drop ?_
            refine ⟨_, rfl, .inl ⟨rfl, _, (SqL.of (O.mem (List.Mem.tail _ (List.Mem.tail _ (List.Mem.tail _ (List.Mem.tail _ (List.Mem.tail _ (List.Mem.head _))))))))⟩, _, rfl, _, rfl, a_2, ad.c_Joiner, dx_39, [("tag", (V.non)), ("due", .int due_16), ("joined", .int joined_63), ("kept", .ref p_69), ("broken_tag", (V.non))], (.ref p_69), rfl, (O.mem (List.Mem.tail _ (List.Mem.tail _ (List.Mem.tail _ (List.Mem.head _))))), T.C_Joiner, T.N_Joiner_kept, (lk_skip (by decide) (lk_skip (by decide) (lk_skip (by decide) lk_hit))), ?_⟩
            refine x_nil ?_
            obtain ⟨H0, O, e_, hp_p_69⟩ := O.frzO (R0 := R0) eB
            replace hp_a_5 := e_ _ _ hp_a_5
            replace ha_p_22 := mA (mU (mT2 mS mI) (mT3 mS mI (mL mI))) (ovr_mono e_) ha_p_22
            replace ha_a_34 := mA (mU (mT2 mS mI) (mT3 mS mI (mL mI))) (ovr_mono e_) ha_a_34
            replace eB := eB.trans e_
            replace eJ70 := eJ70.trans e_
            refine n_tup O (by show 3 ≤ sizeLine; decide) fun p_73 H O => ?_
            obtain ⟨H0, O, e_, hp_p_73⟩ := O.frzO (R0 := R0) eB
            replace hp_a_5 := e_ _ _ hp_a_5
            replace ha_p_22 := mA (mU (mT2 mS mI) (mT3 mS mI (mL mI))) (ovr_mono e_) ha_p_22
            replace ha_a_34 := mA (mU (mT2 mS mI) (mT3 mS mI (mL mI))) (ovr_mono e_) ha_a_34
            replace hp_p_69 := (ovr_mono e_) _ _ hp_p_69
            replace eB := eB.trans e_
            replace eJ70 := eJ70.trans e_
            have hn_p_73 : (rT3 rS rI (rL rI)) (ovr R0 Hb H0) (.ref p_73) ((("whole" : Str), e_12, t_67) : Str × Int × (List Int)) := ⟨_, _, _, _, rfl, hp_p_73, rfl, rfl, (gI hp_p_69)⟩
            refine x_nil ?_
            obtain ⟨l_74, h75, hm⟩ := bndE hm
            refine k_appA (O.mem (List.Mem.tail _ (List.Mem.tail _ (List.Mem.tail _ (List.Mem.tail _ (List.Mem.head _)))))) ha_a_34 (fun _ => O.put4) h75 hn_p_73 fun H O ha_a_34 => ?_
            -- 59
            refine o_sfld ?_
            refine x_nil ?_
            refine n_lst (f := V.int) (xs := ([] : List Int)) O rfl (Nat.zero_le _) fun p_76 H O => ?_
            refine ⟨_, rfl, ?_⟩
            refine k_sfld (fs' := [("tag", (V.non)), ("due", .int due_16), ("joined", .int joined_63), ("kept", .ref p_76), ("broken_tag", (V.non))]) (O.mem (List.Mem.tail _ (List.Mem.tail _ (List.Mem.tail _ (List.Mem.head _))))) T.C_Joiner T.N_Joiner_kept (by show (5 : Nat) < 1000; decide) rfl (putF_skip (by decide) (putF_skip (by decide) (putF_skip (by decide) putF_hit))) (fun _ => O.put3) fun H O => ?_
            have Oz := O
            have hq_ := Option.some.inj hm
            replace hq_ := Prod.mk.inj hq_
            obtain ⟨hq1_, hq_⟩ := hq_
            subst hq1_
            subst hq_
            exact ⟨H0, ((vs_41 ++ [.ref p_73])), ((a_2, .ins ad.c_Joiner dx_39 [("tag", (V.non)), ("due", .int due_16), ("joined", .int joined_63), ("kept", .ref p_76), ("broken_tag", (V.non))]) :: (dx_39, .own a_2) :: ((p_76, .lst (List.map V.int ([] : List Int))) :: [])), _, _, _, _, rfl, eJ70, (Own.cv (Oz.sel (L' := [(a_34, .lst (vs_41 ++ [.ref p_73])), (a_2, .ins ad.c_Joiner dx_39 [("tag", (V.non)), ("due", .int due_16), ("joined", .int joined_63), ("kept", .ref p_76), ("broken_tag", (V.non))]), (dx_39, .own a_2), (p_76, .lst (List.map V.int ([] : List Int)))]) [5, 3, 4, 0] (by decide) rfl) (by first | with_reducible rfl | simp only [List.map_nil, List.flatten_cons, List.flatten_nil, List.cons_append, List.nil_append, List.append_nil, List.append_assoc])), ha_a_34, ⟨dx_39, p_76, rfl⟩⟩
          · replace hm := ifF h72 h71
            refine o_next ?_
            have Oz := O
            have hq_ := Option.some.inj hm
            replace hq_ := Prod.mk.inj hq_
            obtain ⟨hq1_, hq_⟩ := hq_
            subst hq1_
            subst hq_
            exact ⟨H0, (vs_41), ((a_2, .ins ad.c_Joiner dx_39 [("tag", (V.int e_12)), ("due", .int due_16), ("joined", .int joined_63), ("kept", .ref p_69), ("broken_tag", (V.non))]) :: (dx_39, .own a_2) :: ((p_69, .lst (List.map V.int t_67)) :: [])), _, _, _, _, rfl, eJ70, (Own.cv (Oz.sel (L' := [(a_34, .lst vs_41), (a_2, .ins ad.c_Joiner dx_39 [("tag", (V.int e_12)), ("due", .int due_16), ("joined", .int joined_63), ("kept", .ref p_69), ("broken_tag", (V.non))]), (dx_39, .own a_2), (p_69, .lst (List.map V.int t_67))]) [5, 3, 4, 0] (by decide) rfl) (by first | with_reducible rfl | simp only [List.map_nil, List.flatten_cons, List.flatten_nil, List.cons_append, List.nil_append, List.append_nil, List.append_assoc])), ha_a_34, ⟨dx_39, p_69, rfl⟩⟩
        rintro σ H ⟨H0, vs_85, B_78, j_80, j_81, j_82, j_83, rfl, eJ_, O, ha_a_34, h79⟩
        replace eB := eB.trans eJ_
        obtain ⟨dx_86, p_87, rfl⟩ := h79
        replace O : Own H0 H [(a_34, .lst vs_85), (a_2, .ins ad.c_Joiner dx_86 [("tag", (ov V.int self_77.tag)), ("due", .int self_77.due), ("joined", .int self_77.joined), ("kept", .ref p_87), ("broken_tag", (ov V.int self_77.broken_tag))]), (dx_86, .own a_2), (p_87, .lst (List.map V.int self_77.kept))] := Own.cv O (by first | with_reducible rfl | simp only [List.map_nil, List.flatten_cons, List.flatten_nil, List.cons_append, List.nil_append, List.append_nil, List.append_assoc])
        -- 60
        refine o_ret ?_
        refine ⟨_, rfl, ?_⟩
        obtain rfl := Option.some.inj hm
        obtain ⟨H0, O, e_, hp_a_34⟩ := O.frzO (R0 := R0) eB
        replace ha_a_34 := mA (mU (mT2 mS mI) (mT3 mS mI (mL mI))) (ovr_mono e_) ha_a_34
        replace eB := eB.trans e_
        have hn_a_34 : (rL (rU (rT2 rS rI) (rT3 rS rI (rL rI)))) (ovr R0 Hb H0) (.ref a_34) told_84 := ⟨_, _, rfl, hp_a_34, ha_a_34⟩
        exact k _ _ H0 (((a_2, .ins ad.c_Joiner dx_86 [("tag", (ov V.int self_77.tag)), ("due", .int self_77.due), ("joined", .int self_77.joined), ("kept", .ref p_87), ("broken_tag", (ov V.int self_77.broken_tag))]) :: (dx_86, .own a_2) :: ((p_87, .lst (List.map V.int self_77.kept)) :: [])) ++ []) eB (Own.cv O (by first | with_reducible rfl | simp only [List.map_nil, List.flatten_cons, List.flatten_nil, List.cons_append, List.nil_append, List.append_nil, List.append_assoc])) ⟨_, _, rfl, ⟨dx_86, p_87, rfl⟩, ⟨rfl, hn_a_34⟩⟩
    · replace hm := ifF hm h28
      refine o_next ?_
      -- 54
      refine o_seq ?_
      refine o_sfld ?_
      refine ⟨_, rfl, a_2, ad.c_Joiner, dx_6, [("tag", (ov V.int self_1.tag)), ("due", .int self_1.due), ("joined", .int self_1.joined), ("kept", .ref p_7), ("broken_tag", (ov V.int self_1.broken_tag))], (.int self_1.joined), rfl, (O.mem (List.Mem.tail _ (List.Mem.head _))), T.C_Joiner, T.N_Joiner_joined, (lk_skip (by decide) (lk_skip (by decide) lk_hit)), _, _, rfl, rfl, _, rfl, ?_⟩
      obtain ⟨joined_88, h89, hm⟩ := ltvE hm
      refine k_sfld (fs' := [("tag", (ov V.int self_1.tag)), ("due", .int self_1.due), ("joined", .int joined_88), ("kept", .ref p_7), ("broken_tag", (ov V.int self_1.broken_tag))]) (O.mem (List.Mem.tail _ (List.Mem.head _))) T.C_Joiner T.N_Joiner_joined (by show (5 : Nat) < 1000; decide) (congrArg V.int h89) (putF_skip (by decide) (putF_skip (by decide) putF_hit)) (fun _ => O.put1) fun H O => ?_
      -- 55
      refine o_seq ?_
      refine o_sfld ?_
      refine ⟨_, rfl, a_2, ad.c_Joiner, dx_6, [("tag", (ov V.int self_1.tag)), ("due", .int self_1.due), ("joined", .int joined_88), ("kept", .ref p_7), ("broken_tag", (ov V.int self_1.broken_tag))], (.ref p_7), rfl, (O.mem (List.Mem.tail _ (List.Mem.head _))), T.C_Joiner, T.N_Joiner_kept, (lk_skip (by decide) (lk_skip (by decide) (lk_skip (by decide) lk_hit))), _, rfl, _, rfl, ?_⟩
      refine x_np ?_
      refine k_cut (f := V.int) O (SqL.of (O.ex _ _ hp_a_5)) fun p_90 H O => ?_
      refine x_nil ?_
      refine n_list O (SqL.of (O.mem (List.Mem.head _))) fun p_91 H O => ?_
      obtain ⟨t_92, h93, hm⟩ := bndE hm
      refine k_cat (f := V.int) O (O.mem (List.Mem.tail _ (List.Mem.tail _ (List.Mem.tail _ (List.Mem.tail _ (List.Mem.tail _ (List.Mem.head _))))))) (O.mem (List.Mem.head _)) h93 fun p_94 H O => ?_
      refine ⟨_, rfl, ?_⟩
      refine k_sfld (fs' := [("tag", (ov V.int self_1.tag)), ("due", .int self_1.due), ("joined", .int joined_88), ("kept", .ref p_94), ("broken_tag", (ov V.int self_1.broken_tag))]) (O.mem (List.Mem.tail _ (List.Mem.tail _ (List.Mem.tail _ (List.Mem.tail _ (List.Mem.head _)))))) T.C_Joiner T.N_Joiner_kept (by show (5 : Nat) < 1000; decide) rfl (putF_skip (by decide) (putF_skip (by decide) (putF_skip (by decide) putF_hit))) (fun _ => O.put4) fun H O => ?_
      replace O := (O.sel (L' := [(p_94, .lst (List.map V.int t_92)), (p_91, .lst (List.map V.int (cutL piece_4 (some (2 : Int)) none))), (p_90, .lst (List.map V.int (cutL piece_4 (some (2 : Int)) none))), (p_22, .lst ([] : List V)), (a_2, .ins ad.c_Joiner dx_6 [("tag", (ov V.int self_1.tag)), ("due", .int self_1.due), ("joined", .int joined_88), ("kept", .ref p_94), ("broken_tag", (ov V.int self_1.broken_tag))]), (dx_6, .own a_2)]) [0, 1, 2, 3, 4, 5] (by decide) rfl)
      -- 56
      obtain ⟨⟨self_102, told_109⟩, h97, hm⟩ := bndE hm
      refine o_cut (fun σ H => ∃ (R_ : Hp) (vs_110 : List V) (B_103 : List Cell) (j_105 : Option V) (j_106 : Option V) (j_107 : Option V) (j_108 : Option V), σ = [some (.ref a_2), j_105, j_106, j_107, j_108, some (.ref p_22)] ∧ Ex H0 R_ ∧ Own R_ H ((p_22, .lst vs_110) :: (B_103 ++ [])) ∧ All2 ((rU (rT2 rS rI) (rT3 rS rI (rL rI))) (ovr R0 Hb R_)) vs_110 told_109 ∧ (o_Joiner ad) (ovr R0 Hb R_) a_2 B_103 self_102) ?_ ?_
      · have eJ95 : Ex H0 H0 := Ex.refl _
        refine o_ifs ?_
        refine ⟨_, rfl, a_2, ad.c_Joiner, dx_6, [("tag", (ov V.int self_1.tag)), ("due", .int self_1.due), ("joined", .int joined_88), ("kept", .ref p_94), ("broken_tag", (ov V.int self_1.broken_tag))], (.int joined_88), rfl, (O.mem (List.Mem.tail _ (List.Mem.tail _ (List.Mem.tail _ (List.Mem.tail _ (List.Mem.head _)))))), T.C_Joiner, T.N_Joiner_joined, (lk_skip (by decide) (lk_skip (by decide) lk_hit)), _, rfl, a_2, ad.c_Joiner, dx_6, [("tag", (ov V.int self_1.tag)), ("due", .int self_1.due), ("joined", .int joined_88), ("kept", .ref p_94), ("broken_tag", (ov V.int self_1.broken_tag))], (.int self_1.due), rfl, (O.mem (List.Mem.tail _ (List.Mem.tail _ (List.Mem.tail _ (List.Mem.tail _ (List.Mem.head _)))))), T.C_Joiner, T.N_Joiner_due, (lk_skip (by decide) lk_hit), ?_⟩
        refine k_eqI ?_
        refine ⟨_, rfl, ?_⟩
        refine iteS (c := (decide (joined_88 = self_1.due))) (fun h96 => ?_) (fun h96 => ?_)
        · replace hm := ifT h97 h96
          -- 57
          refine o_seq ?_
          refine o_sfld ?_
          refine ⟨_, rfl, ?_⟩
          refine k_sfld (fs' := [("tag", (V.non)), ("due", .int self_1.due), ("joined", .int joined_88), ("kept", .ref p_94), ("broken_tag", (ov V.int self_1.broken_tag))]) (O.mem (List.Mem.tail _ (List.Mem.tail _ (List.Mem.tail _ (List.Mem.tail _ (List.Mem.head _)))))) T.C_Joiner T.N_Joiner_tag (by show (5 : Nat) < 1000; decide) rfl putF_hit (fun _ => O.put4) fun H O => ?_
          -- 58
          refine o_seq ?_
          refine o_drop ?_
          refine ⟨_, rfl, .inl ⟨rfl, _, (SqL.of (O.mem (List.Mem.tail _ (List.Mem.tail _ (List.Mem.tail _ (List.Mem.head _))))))⟩, _, rfl, _, rfl, a_2, ad.c_Joiner, dx_6, [("tag", (V.non)), ("due", .int self_1.due), ("joined", .int joined_88), ("kept", .ref p_94), ("broken_tag", (ov V.int self_1.broken_tag))], (.ref p_94), rfl, (O.mem (List.Mem.tail _ (List.Mem.tail _ (List.Mem.tail _ (List.Mem.tail _ (List.Mem.head _)))))), T.C_Joiner, T.N_Joiner_kept, (lk_skip (by decide) (lk_skip (by decide) (lk_skip (by decide) lk_hit))), ?_⟩
          refine x_nil ?_
          obtain ⟨H0, O, e_, hp_p_94⟩ := O.frzO (R0 := R0) eB
          replace hp_a_5 := e_ _ _ hp_a_5
          replace ha_p_22 := mA (mU (mT2 mS mI) (mT3 mS mI (mL mI))) (ovr_mono e_) ha_p_22
          replace eB := eB.trans e_
          replace eJ95 := eJ95.trans e_
          refine n_tup O (by show 3 ≤ sizeLine; decide) fun p_98 H O => ?_
          obtain ⟨H0, O, e_, hp_p_98⟩ := O.frzO (R0 := R0) eB
          replace hp_a_5 := e_ _ _ hp_a_5
          replace ha_p_22 := mA (mU (mT2 mS mI) (mT3 mS mI (mL mI))) (ovr_mono e_) ha_p_22
          replace hp_p_94 := (ovr_mono e_) _ _ hp_p_94
          replace eB := eB.trans e_
          replace eJ95 := eJ95.trans e_
          have hn_p_98 : (rT3 rS rI (rL rI)) (ovr R0 Hb H0) (.ref p_98) ((("whole" : Str), e_12, t_92) : Str × Int × (List Int)) := ⟨_, _, _, _, rfl, hp_p_98, rfl, rfl, (gI hp_p_94)⟩
          refine x_nil ?_
          obtain ⟨l_99, h100, hm⟩ := bndE hm
          refine k_appA (O.mem (List.Mem.tail _ (List.Mem.tail _ (List.Mem.head _)))) ha_p_22 (fun _ => O.put2) h100 hn_p_98 fun H O ha_p_22 => ?_
          -- 59
          refine o_sfld ?_
          refine x_nil ?_
          refine n_lst (f := V.int) (xs := ([] : List Int)) O rfl (Nat.zero_le _) fun p_101 H O => ?_
          refine ⟨_, rfl, ?_⟩
          refine k_sfld (fs' := [("tag", (V.non)), ("due", .int self_1.due), ("joined", .int joined_88), ("kept", .ref p_101), ("broken_tag", (ov V.int self_1.broken_tag))]) (O.mem (List.Mem.tail _ (List.Mem.tail _ (List.Mem.tail _ (List.Mem.tail _ (List.Mem.head _)))))) T.C_Joiner T.N_Joiner_kept (by show (5 : Nat) < 1000; decide) rfl (putF_skip (by decide) (putF_skip (by decide) (putF_skip (by decide) putF_hit))) (fun _ => O.put4) fun H O => ?_
          have Oz := O
          have hq_ := Option.some.inj hm
          replace hq_ := Prod.mk.inj hq_
          obtain ⟨hq1_, hq_⟩ := hq_
          subst hq1_
          subst hq_
          exact ⟨H0, ((([] : List V) ++ [.ref p_98])), ((a_2, .ins ad.c_Joiner dx_6 [("tag", (V.non)), ("due", .int self_1.due), ("joined", .int joined_88), ("kept", .ref p_101), ("broken_tag", (ov V.int self_1.broken_tag))]) :: (dx_6, .own a_2) :: ((p_101, .lst (List.map V.int ([] : List Int))) :: [])), _, _, _, _, rfl, eJ95, (Own.cv (Oz.sel (L' := [(p_22, .lst (([] : List V) ++ [.ref p_98])), (a_2, .ins ad.c_Joiner dx_6 [("tag", (V.non)), ("due", .int self_1.due), ("joined", .int joined_88), ("kept", .ref p_101), ("broken_tag", (ov V.int self_1.broken_tag))]), (dx_6, .own a_2), (p_101, .lst (List.map V.int ([] : List Int)))]) [3, 4, 5, 0] (by decide) rfl) (by first | with_reducible rfl | simp only [List.map_nil, List.flatten_cons, List.flatten_nil, List.cons_append, List.nil_append, List.append_nil, List.append_assoc])), ha_p_22, ⟨dx_6, p_101, rfl⟩⟩
        · replace hm := ifF h97 h96
          refine o_next ?_
          have Oz := O
          have hq_ := Option.some.inj hm
          replace hq_ := Prod.mk.inj hq_
          obtain ⟨hq1_, hq_⟩ := hq_
          subst hq1_
          subst hq_
          exact ⟨H0, (([] : List V)), ((a_2, .ins ad.c_Joiner dx_6 [("tag", (ov V.int self_1.tag)), ("due", .int self_1.due), ("joined", .int joined_88), ("kept", .ref p_94), ("broken_tag", (ov V.int self_1.broken_tag))]) :: (dx_6, .own a_2) :: ((p_94, .lst (List.map V.int t_92)) :: [])), _, _, _, _, rfl, eJ95, (Own.cv (Oz.sel (L' := [(p_22, .lst ([] : List V)), (a_2, .ins ad.c_Joiner dx_6 [("tag", (ov V.int self_1.tag)), ("due", .int self_1.due), ("joined", .int joined_88), ("kept", .ref p_94), ("broken_tag", (ov V.int self_1.broken_tag))]), (dx_6, .own a_2), (p_94, .lst (List.map V.int t_92))]) [3, 4, 5, 0] (by decide) rfl) (by first | with_reducible rfl | simp only [List.map_nil, List.flatten_cons, List.flatten_nil, List.cons_append, List.nil_append, List.append_nil, List.append_assoc])), ha_p_22, ⟨dx_6, p_94, rfl⟩⟩
      rintro σ H ⟨H0, vs_110, B_103, j_105, j_106, j_107, j_108, rfl, eJ_, O, ha_p_22, h104⟩
      replace eB := eB.trans eJ_
      obtain ⟨dx_111, p_112, rfl⟩ := h104
      replace O : Own H0 H [(p_22, .lst vs_110), (a_2, .ins ad.c_Joiner dx_111 [("tag", (ov V.int self_102.tag)), ("due", .int self_102.due), ("joined", .int self_102.joined), ("kept", .ref p_112), ("broken_tag", (ov V.int self_102.broken_tag))]), (dx_111, .own a_2), (p_112, .lst (List.map V.int self_102.kept))] := Own.cv O (by first | with_reducible rfl | simp only [List.map_nil, List.flatten_cons, List.flatten_nil, List.cons_append, List.nil_append, List.append_nil, List.append_assoc])
      -- 60
      refine o_ret ?_
      refine ⟨_, rfl, ?_⟩
      obtain rfl := Option.some.inj hm
      obtain ⟨H0, O, e_, hp_p_22⟩ := O.frzO (R0 := R0) eB
      replace ha_p_22 := mA (mU (mT2 mS mI) (mT3 mS mI (mL mI))) (ovr_mono e_) ha_p_22
      replace eB := eB.trans e_
      have hn_p_22 : (rL (rU (rT2 rS rI) (rT3 rS rI (rL rI)))) (ovr R0 Hb H0) (.ref p_22) told_109 := ⟨_, _, rfl, hp_p_22, ha_p_22⟩
      exact k _ _ H0 (((a_2, .ins ad.c_Joiner dx_111 [("tag", (ov V.int self_102.tag)), ("due", .int self_102.due), ("joined", .int self_102.joined), ("kept", .ref p_112), ("broken_tag", (ov V.int self_102.broken_tag))]) :: (dx_111, .own a_2) :: ((p_112, .lst (List.map V.int self_102.kept)) :: [])) ++ []) eB (Own.cv O (by first | with_reducible rfl | simp only [List.map_nil, List.flatten_cons, List.flatten_nil, List.cons_append, List.nil_append, List.append_nil, List.append_assoc])) ⟨_, _, rfl, ⟨dx_111, p_112, rfl⟩, ⟨rfl, hn_p_22⟩⟩
def m__law_is_apart (joiner_1 : S_Joiner) (tag_4 : Int) : Option (S_Joiner × Bool) :=
  bnd (m_Joiner_is_open joiner_1) fun is_ope_9 =>
  bnd (repG ([(("broken" : Str), tag_4)]) (if is_ope_9 = true then (1 : Int) else 0)) fun t_14 =>
  bndO (m_Joiner_take joiner_1 ([tag_4, (32 : Int), (1 : Int), (2 : Int), (3 : Int), (4 : Int), (5 : Int)])) fun (self_23, take_24) =>
  bnd (okD (dqL (dqU (dqT2 dqS (De.q deI)) (dqT3 dqS (De.q deI) (De.q (deL deI))) (by intros; constructor <;> simp [deI, deB, deL, deT2, deT3, deO, deU, dqS, De.q, dqL, dqT2, dqT3, dqO, dqU, sumD, optD, PyData.eqv, PyData.eqvAll]))).d take_24) fun u_35 =>
  bnd (okD (dqL (dqU (dqT2 dqS (De.q deI)) (dqT3 dqS (De.q deI) (De.q (deL deI))) (by intros; constructor <;> simp [deI, deB, deL, deT2, deT3, deO, deU, dqS, De.q, dqL, dqT2, dqT3, dqO, dqU, sumD, optD, PyData.eqv, PyData.eqvAll]))).d (List.map (fun (x_ : Str × Int) => ((.inl x_) : (Str × Int) ⊕ (Str × Int × (List Int)))) t_14)) fun u_37 =>
  bnd (ifB (decide ((take_24 : List ((Str × Int) ⊕ (Str × Int × (List Int)))) = (List.map (fun (x_ : Str × Int) => ((.inl x_) : (Str × Int) ⊕ (Str × Int × (List Int)))) t_14))) (bnd (m_Joiner_is_open self_23) fun is_ope_41 => some is_ope_41) (some false)) fun c_46 =>
  some (self_23, c_46)
def sp__law_is_apart (K : PySem.W.Frag) (ad : Ad) : Sp := fun vs H Q _ => ∃ (joiner_1 : S_Joiner) (a_2 : Addr) (L_3 : List Cell) (tag_4 : Int) (R0 : Hp) (r : S_Joiner × Bool), vs = [.ref a_2, .int tag_4] ∧ Own R0 H (L_3 ++ []) ∧ (o_Joiner ad) R0 a_2 L_3 joiner_1 ∧ m__law_is_apart joiner_1 tag_4 = some r ∧ RetX R0 (hsub H (L_3 ++ [])) (dX (o_Joiner ad) a_2 r.1 (dV (.bl r.2))) Q
abbrev N__law_is_apart : List Str := ["joiner", "tag", "due"]
theorem sc__law_is_apart : FnScope N__law_is_apart ["joiner", "tag"] (defScope s__law_is_apart) := ⟨rfl, rfl, rfl, by decide +kernel, rfl, by decide +kernel, by decide +kernel⟩
theorem ok__law_is_apart {ad : Ad} (T : Txt K mg ad) : FnOk P w K mg base CX0 3 ad.f__law_is_apart ad.fd__law_is_apart ["joiner", "tag"] (sp__law_is_apart K ad) := by
  have G_Joiner_is_open := ok_Joiner_is_open (P := P) (w := w) (base := base) T
  have G_Joiner_take := ok_Joiner_take (P := P) (w := w) (base := base) T
  refine T.F__law_is_apart.ok sc__law_is_apart (fun vs H Q E h => ?_) (fun cdv A outer s H vs Q E hr h => ?_)
  · obtain ⟨_, _, _, _, _, _, rfl, _⟩ := h
    rfl
  · obtain ⟨joiner_1, a_2, L_3, tag_4, R0, r, rfl, OO, hb_a_2, hm, k⟩ := h
    unfold m__law_is_apart at hm
    obtain ⟨Hb, hHb⟩ : ∃ Hb : Hp, Hb = hsub H (L_3 ++ []) := ⟨_, rfl⟩
    obtain ⟨H0, hH0⟩ : ∃ H0 : Hp, H0 = Hb := ⟨Hb, rfl⟩
    have O : Own H0 H (L_3 ++ []) := by rw [hH0, hHb]; exact OO.startX
    have eR : Ex R0 Hb := by rw [hHb]; exact OO.subR
    rw [← hHb] at k
    have eB : Ex Hb H0 := by rw [hH0]; exact Ex.refl _
    have eS : Ex R0 (ovr R0 Hb H0) := by rw [hH0]; exact ovr_start eR
    replace hb_a_2 := (mo_Joiner ad) _ _ _ _ _ eS hb_a_2
    clear hH0
    refine ⟨_, (pss_cons (ps_set (i := 2) sc__law_is_apart.nd rfl (Or.inl rfl) (pe_op op_rep (pe_lstQ (pe_lst (pa_cons (pe_tupQ (pe_tup (pa_cons pe_str (pa_cons (pv 1) pa_nil)))) pa_nil))) (pe_callTy (r := rInt) call_intQ (by rfl) T.z_int (by decide +kernel) (pa_cons (pe_meth0 (pv 0) T.C_Joiner T.M_Joiner_is_open G_Joiner_is_open (hr.mono (by decide)) T.b_Joiner_is_open .nil pass0) pa_nil)))) (pss_one (ps_ret (pe_and (pe_cmpR (r := rEqD K) (op_eqD hr.units) (pe_meth (pv 0) T.C_Joiner T.M_Joiner_take G_Joiner_take (hr.mono (by decide)) T.b_Joiner_take .nil passN (pa_cons (pe_lstQ (pe_lst (pa_cons (pv 1) (pa_cons pe_int (pa_cons pe_int (pa_cons pe_int (pa_cons pe_int (pa_cons pe_int (pa_cons pe_int pa_nil))))))))) pa_nil)) (pv 2) (nomark _)) (pe_one (pe_meth0 (pv 0) T.C_Joiner T.M_Joiner_is_open G_Joiner_is_open (hr.mono (by decide)) T.b_Joiner_is_open .nil pass0)))))), ?_⟩
    obtain ⟨dx_5, p_6, rfl⟩ := hb_a_2
    replace O : Own H0 H [(a_2, .ins ad.c_Joiner dx_5 [("tag", (ov V.int joiner_1.tag)), ("due", .int joiner_1.due), ("joined", .int joiner_1.joined), ("kept", .ref p_6), ("broken_tag", (ov V.int joiner_1.broken_tag))]), (dx_5, .own a_2), (p_6, .lst (List.map V.int joiner_1.kept))] := Own.cv O (by first | with_reducible rfl | simp only [List.map_nil, List.flatten_cons, List.flatten_nil, List.cons_append, List.nil_append, List.append_nil, List.append_assoc])
    -- 94
    refine o_seq ?_
    refine o_asg ?_
    refine ⟨_, rfl, ?_⟩
    refine x_nil ?_
    refine n_tup O (by show 2 ≤ sizeLine; decide) fun p_7 H O => ?_
    refine x_nil ?_
    obtain ⟨H0, O, e_, hp_p_7⟩ := O.frzO (R0 := R0) eB
    replace eB := eB.trans e_
    have hn_p_7 : (rT2 rS rI) (ovr R0 Hb H0) (.ref p_7) (("broken" : Str), tag_4) := ⟨_, _, _, rfl, hp_p_7, rfl, rfl⟩
    refine n_lstV O (by show 1 ≤ sizeLine; decide) fun p_8 H O => ?_
    have ha_p_8 : All2 ((rT2 rS rI) (ovr R0 Hb H0)) ([.ref p_7] : List V) ([(("broken" : Str), tag_4)] : List (Str × Int)) := (.cons hn_p_7 .nil)
    refine ⟨_, rfl, a_2, dx_5, [("tag", (ov V.int joiner_1.tag)), ("due", .int joiner_1.due), ("joined", .int joiner_1.joined), ("kept", .ref p_6), ("broken_tag", (ov V.int joiner_1.broken_tag))], rfl, (O.mem (List.Mem.tail _ (List.Mem.head _))), (lk_skip (by decide) (lk_skip (by decide) (lk_skip (by decide) (lk_skip (by decide) (lk_skip (by decide) lk_nil))))), ?_⟩
    refine x_nil ?_
    obtain ⟨is_ope_9, h10, hm⟩ := bndE hm
    have Oc : Own H0 H ((((a_2, .ins ad.c_Joiner dx_5 [("tag", (ov V.int joiner_1.tag)), ("due", .int joiner_1.due), ("joined", .int joiner_1.joined), ("kept", .ref p_6), ("broken_tag", (ov V.int joiner_1.broken_tag))]) :: (dx_5, .own a_2) :: ((p_6, .lst (List.map V.int joiner_1.kept)) :: [])) ++ []) ++ [(p_8, .lst ([.ref p_7] : List V))]) := Own.cv (O.sel (L' := [(a_2, .ins ad.c_Joiner dx_5 [("tag", (ov V.int joiner_1.tag)), ("due", .int joiner_1.due), ("joined", .int joiner_1.joined), ("kept", .ref p_6), ("broken_tag", (ov V.int joiner_1.broken_tag))]), (dx_5, .own a_2), (p_6, .lst (List.map V.int joiner_1.kept)), (p_8, .lst ([.ref p_7] : List V))]) [1, 2, 3, 0] (by decide) rfl) (by first | with_reducible rfl | simp only [List.map_nil, List.flatten_cons, List.flatten_nil, List.cons_append, List.nil_append, List.append_nil, List.append_assoc])
    refine ⟨joiner_1, a_2, ((a_2, .ins ad.c_Joiner dx_5 [("tag", (ov V.int joiner_1.tag)), ("due", .int joiner_1.due), ("joined", .int joiner_1.joined), ("kept", .ref p_6), ("broken_tag", (ov V.int joiner_1.broken_tag))]) :: (dx_5, .own a_2) :: ((p_6, .lst (List.map V.int joiner_1.kept)) :: [])), ovr R0 Hb H0, is_ope_9, rfl, (Own.shrink Oc.left ovr_ex), ⟨dx_5, p_6, rfl⟩, h10, ?_⟩
    refine Oc.retXO (mdK mdV) eB fun w_11 H H0 L_12 O e_ d_ => ?_
    replace hn_p_7 := (mT2 mS mI) _ _ _ _ (ovr_mono e_) hn_p_7
    replace hp_p_7 := (ovr_mono e_) _ _ hp_p_7
    replace ha_p_8 := mA (mT2 mS mI) (ovr_mono e_) ha_p_8
    replace eB := eB.trans e_
    obtain ⟨L_13, rfl, ⟨rfl, rfl⟩⟩ := d_
    replace O : Own H0 H [(a_2, .ins ad.c_Joiner dx_5 [("tag", (ov V.int joiner_1.tag)), ("due", .int joiner_1.due), ("joined", .int joiner_1.joined), ("kept", .ref p_6), ("broken_tag", (ov V.int joiner_1.broken_tag))]), (dx_5, .own a_2), (p_6, .lst (List.map V.int joiner_1.kept)), (p_8, .lst ([.ref p_7] : List V))] := Own.cv O (by first | with_reducible rfl | simp only [List.map_nil, List.flatten_cons, List.flatten_nil, List.cons_append, List.nil_append, List.append_nil, List.append_assoc])
    refine x_nil ?_
    refine .inr ⟨_, rfl, ?_⟩
    obtain ⟨t_14, h15, hm⟩ := bndE hm
    refine k_repA O (O.mem (List.Mem.tail _ (List.Mem.tail _ (List.Mem.tail _ (List.Mem.head _))))) ha_p_8 h15 fun p_16 H vs_17 O ha_p_16 => ?_
    -- 95
    refine o_ret ?_
    obtain ⟨⟨self_23, take_24⟩, h25, hm⟩ := bndOE hm
    obtain ⟨u_35, h36, hm⟩ := bndE hm
    obtain ⟨u_37, h38, hm⟩ := bndE hm
    obtain ⟨c_46, h47, hm⟩ := bndE hm
    refine x_andVJ (c := (decide ((take_24 : List ((Str × Int) ⊕ (Str × Int × (List Int)))) = (List.map (fun (x_ : Str × Int) => ((.inl x_) : (Str × Int) ⊕ (Str × Int × (List Int)))) t_14)))) (e := c_46) (d := c_46) (fun H => ∃ (R_ : Hp) (B_19 : List Cell), Ex H0 R_ ∧ Own R_ H ((p_16, .lst vs_17) :: ((p_8, .lst ([.ref p_7] : List V)) :: (B_19 ++ []))) ∧ (o_Joiner ad) (ovr R0 Hb R_) a_2 B_19 self_23) (fun Q1 k1 => ?_) (fun h18 => ⟨rfl, fun H hJ Q2 k2 => ?_⟩) (fun h18 => Option.some.inj (ifF h47 h18)) (fun H hJ => ?_)
    · have eJ21 : Ex H0 H0 := Ex.refl _
      refine ⟨_, rfl, a_2, dx_5, [("tag", (ov V.int joiner_1.tag)), ("due", .int joiner_1.due), ("joined", .int joiner_1.joined), ("kept", .ref p_6), ("broken_tag", (ov V.int joiner_1.broken_tag))], rfl, (O.mem (List.Mem.tail _ (List.Mem.head _))), (lk_skip (by decide) (lk_skip (by decide) (lk_skip (by decide) (lk_skip (by decide) (lk_skip (by decide) lk_nil))))), _, rfl, ?_⟩
      refine o_cons ?_
      refine o_c ?_
      refine o_cons ?_
      refine o_c ?_
      refine o_cons ?_
      refine o_c ?_
      refine o_cons ?_
      refine o_c ?_
      refine o_cons ?_
      refine o_c ?_
      refine o_cons ?_
      refine o_c ?_
      refine x_nil ?_
      refine n_lst (f := V.int) (xs := [tag_4, (32 : Int), (1 : Int), (2 : Int), (3 : Int), (4 : Int), (5 : Int)]) O rfl (by show 7 ≤ sizeLine; decide) fun p_22 H O => ?_
      refine x_nil ?_
      have Oc : Own H0 H ((((a_2, .ins ad.c_Joiner dx_5 [("tag", (ov V.int joiner_1.tag)), ("due", .int joiner_1.due), ("joined", .int joiner_1.joined), ("kept", .ref p_6), ("broken_tag", (ov V.int joiner_1.broken_tag))]) :: (dx_5, .own a_2) :: ((p_6, .lst (List.map V.int joiner_1.kept)) :: [])) ++ []) ++ [(p_22, .lst (List.map V.int ([tag_4, (32 : Int), (1 : Int), (2 : Int), (3 : Int), (4 : Int), (5 : Int)]))), (p_16, .lst vs_17), (p_8, .lst ([.ref p_7] : List V))]) := Own.cv (O.sel (L' := [(a_2, .ins ad.c_Joiner dx_5 [("tag", (ov V.int joiner_1.tag)), ("due", .int joiner_1.due), ("joined", .int joiner_1.joined), ("kept", .ref p_6), ("broken_tag", (ov V.int joiner_1.broken_tag))]), (dx_5, .own a_2), (p_6, .lst (List.map V.int joiner_1.kept)), (p_22, .lst (List.map V.int ([tag_4, (32 : Int), (1 : Int), (2 : Int), (3 : Int), (4 : Int), (5 : Int)]))), (p_16, .lst vs_17), (p_8, .lst ([.ref p_7] : List V))]) [2, 3, 4, 0, 1, 5] (by decide) rfl) (by first | with_reducible rfl | simp only [List.map_nil, List.flatten_cons, List.flatten_nil, List.cons_append, List.nil_append, List.append_nil, List.append_assoc])
      refine ⟨joiner_1, a_2, ((a_2, .ins ad.c_Joiner dx_5 [("tag", (ov V.int joiner_1.tag)), ("due", .int joiner_1.due), ("joined", .int joiner_1.joined), ("kept", .ref p_6), ("broken_tag", (ov V.int joiner_1.broken_tag))]) :: (dx_5, .own a_2) :: ((p_6, .lst (List.map V.int joiner_1.kept)) :: [])), [tag_4, (32 : Int), (1 : Int), (2 : Int), (3 : Int), (4 : Int), (5 : Int)], p_22, ovr R0 Hb H0, (.ok (self_23, take_24)), rfl, (Own.shrink Oc.left ovr_ex), ⟨dx_5, p_6, rfl⟩, (Own.inC Oc (List.Mem.head _)), h25, ?_⟩
      refine RetR.ok ?_
      refine Oc.retXO (mdX (mo_Joiner ad) (mdP (mL (mU (mT2 mS mI) (mT3 mS mI (mL mI)))))) eB fun w_26 H H0 L_27 O e_ d_ => ?_
      replace hn_p_7 := (mT2 mS mI) _ _ _ _ (ovr_mono e_) hn_p_7
      replace hp_p_7 := (ovr_mono e_) _ _ hp_p_7
      replace ha_p_8 := mA (mT2 mS mI) (ovr_mono e_) ha_p_8
      replace ha_p_16 := mA (mT2 mS mI) (ovr_mono e_) ha_p_16
      replace eB := eB.trans e_
      replace eJ21 := eJ21.trans e_
      obtain ⟨L_29, L_31, rfl, h30, ⟨rfl, h28⟩⟩ := d_
      obtain ⟨dx_32, p_33, rfl⟩ := h30
      replace O : Own H0 H [(a_2, .ins ad.c_Joiner dx_32 [("tag", (ov V.int self_23.tag)), ("due", .int self_23.due), ("joined", .int self_23.joined), ("kept", .ref p_33), ("broken_tag", (ov V.int self_23.broken_tag))]), (dx_32, .own a_2), (p_33, .lst (List.map V.int self_23.kept)), (p_22, .lst (List.map V.int ([tag_4, (32 : Int), (1 : Int), (2 : Int), (3 : Int), (4 : Int), (5 : Int)]))), (p_16, .lst vs_17), (p_8, .lst ([.ref p_7] : List V))] := Own.cv O (by first | with_reducible rfl | simp only [List.map_nil, List.flatten_cons, List.flatten_nil, List.cons_append, List.nil_append, List.append_nil, List.append_assoc])
      obtain ⟨p_34, rfl⟩ := rL_ref h28
      have hn_p_34 := h28
      refine ⟨_, rfl, ?_⟩
      refine k_eqQ (x := take_24) (y := (List.map (fun (x_ : Str × Int) => ((.inl x_) : (Str × Int) ⊕ (Str × Int × (List Int)))) t_14)) (dqL (dqU (dqT2 dqS (De.q deI)) (dqT3 dqS (De.q deI) (De.q (deL deI))) (by intros; constructor <;> simp [deI, deB, deL, deT2, deT3, deO, deU, dqS, De.q, dqL, dqT2, dqT3, dqO, dqU, sumD, optD, PyData.eqv, PyData.eqvAll]))) (mL (mU (mT2 mS mI) (mT3 mS mI (mL mI)))) (by decide) (okDE h36) (okDE h38) ((mL (mU (mT2 mS mI) (mT3 mS mI (mL mI)))) _ _ _ _ (ovr_ex.trans O.ex) hn_p_34) (Ex.refl _) (rL_map (P := (rT2 rS rI)) (P' := (rU (rT2 rS rI) (rT3 rS rI (rL rI)))) (g := fun (x_ : Str × Int) => ((.inl x_) : (Str × Int) ⊕ (Str × Int × (List Int)))) (fun _ _ _ h => h) ⟨_, _, rfl, (O.mem (List.Mem.tail _ (List.Mem.tail _ (List.Mem.tail _ (List.Mem.tail _ (List.Mem.head _)))))), (mA (mT2 mS mI) (ovr_ex.trans O.ex) ha_p_16)⟩) (Ex.refl _) ?_
      replace O := (O.sel (L' := [(a_2, .ins ad.c_Joiner dx_32 [("tag", (ov V.int self_23.tag)), ("due", .int self_23.due), ("joined", .int self_23.joined), ("kept", .ref p_33), ("broken_tag", (ov V.int self_23.broken_tag))]), (dx_32, .own a_2), (p_33, .lst (List.map V.int self_23.kept)), (p_16, .lst vs_17), (p_8, .lst ([.ref p_7] : List V))]) [0, 1, 2, 4, 5] (by decide) rfl)
      exact k1 _ ⟨H0, ((a_2, .ins ad.c_Joiner dx_32 [("tag", (ov V.int self_23.tag)), ("due", .int self_23.due), ("joined", .int self_23.joined), ("kept", .ref p_33), ("broken_tag", (ov V.int self_23.broken_tag))]) :: (dx_32, .own a_2) :: ((p_33, .lst (List.map V.int self_23.kept)) :: [])), eJ21, (Own.cv (O.sel (L' := [(p_16, .lst vs_17), (p_8, .lst ([.ref p_7] : List V)), (a_2, .ins ad.c_Joiner dx_32 [("tag", (ov V.int self_23.tag)), ("due", .int self_23.due), ("joined", .int self_23.joined), ("kept", .ref p_33), ("broken_tag", (ov V.int self_23.broken_tag))]), (dx_32, .own a_2), (p_33, .lst (List.map V.int self_23.kept))]) [3, 4, 0, 1, 2] (by decide) rfl) (by first | with_reducible rfl | simp only [List.map_nil, List.flatten_cons, List.flatten_nil, List.cons_append, List.nil_append, List.append_nil, List.append_assoc])), ⟨dx_32, p_33, rfl⟩⟩
    · replace hm := ifT h47 h18
      obtain ⟨is_ope_41, h42, hm⟩ := bndE hm
      obtain rfl := Option.some.inj hm
      obtain ⟨H0, B_19, eJ21, O, h20⟩ := hJ
      replace hn_p_7 := (mT2 mS mI) _ _ _ _ (ovr_mono eJ21) hn_p_7
      replace hp_p_7 := (ovr_mono eJ21) _ _ hp_p_7
      replace ha_p_8 := mA (mT2 mS mI) (ovr_mono eJ21) ha_p_8
      replace ha_p_16 := mA (mT2 mS mI) (ovr_mono eJ21) ha_p_16
      replace eB := eB.trans eJ21
      obtain ⟨dx_39, p_40, rfl⟩ := h20
      replace O : Own H0 H [(p_16, .lst vs_17), (p_8, .lst ([.ref p_7] : List V)), (a_2, .ins ad.c_Joiner dx_39 [("tag", (ov V.int self_23.tag)), ("due", .int self_23.due), ("joined", .int self_23.joined), ("kept", .ref p_40), ("broken_tag", (ov V.int self_23.broken_tag))]), (dx_39, .own a_2), (p_40, .lst (List.map V.int self_23.kept))] := Own.cv O (by first | with_reducible rfl | simp only [List.map_nil, List.flatten_cons, List.flatten_nil, List.cons_append, List.nil_append, List.append_nil, List.append_assoc])
      refine ⟨_, rfl, a_2, dx_39, [("tag", (ov V.int self_23.tag)), ("due", .int self_23.due), ("joined", .int self_23.joined), ("kept", .ref p_40), ("broken_tag", (ov V.int self_23.broken_tag))], rfl, (O.mem (List.Mem.tail _ (List.Mem.tail _ (List.Mem.head _)))), (lk_skip (by decide) (lk_skip (by decide) (lk_skip (by decide) (lk_skip (by decide) (lk_skip (by decide) lk_nil))))), ?_⟩
      refine x_nil ?_
      have Oc : Own H0 H ((((a_2, .ins ad.c_Joiner dx_39 [("tag", (ov V.int self_23.tag)), ("due", .int self_23.due), ("joined", .int self_23.joined), ("kept", .ref p_40), ("broken_tag", (ov V.int self_23.broken_tag))]) :: (dx_39, .own a_2) :: ((p_40, .lst (List.map V.int self_23.kept)) :: [])) ++ []) ++ [(p_16, .lst vs_17), (p_8, .lst ([.ref p_7] : List V))]) := Own.cv (O.sel (L' := [(a_2, .ins ad.c_Joiner dx_39 [("tag", (ov V.int self_23.tag)), ("due", .int self_23.due), ("joined", .int self_23.joined), ("kept", .ref p_40), ("broken_tag", (ov V.int self_23.broken_tag))]), (dx_39, .own a_2), (p_40, .lst (List.map V.int self_23.kept)), (p_16, .lst vs_17), (p_8, .lst ([.ref p_7] : List V))]) [2, 3, 4, 0, 1] (by decide) rfl) (by first | with_reducible rfl | simp only [List.map_nil, List.flatten_cons, List.flatten_nil, List.cons_append, List.nil_append, List.append_nil, List.append_assoc])
      refine ⟨self_23, a_2, ((a_2, .ins ad.c_Joiner dx_39 [("tag", (ov V.int self_23.tag)), ("due", .int self_23.due), ("joined", .int self_23.joined), ("kept", .ref p_40), ("broken_tag", (ov V.int self_23.broken_tag))]) :: (dx_39, .own a_2) :: ((p_40, .lst (List.map V.int self_23.kept)) :: [])), ovr R0 Hb H0, is_ope_41, rfl, (Own.shrink Oc.left ovr_ex), ⟨dx_39, p_40, rfl⟩, h42, ?_⟩
      refine Oc.retXO (mdK mdV) eB fun w_43 H H0 L_44 O e_ d_ => ?_
      replace hn_p_7 := (mT2 mS mI) _ _ _ _ (ovr_mono e_) hn_p_7
      replace hp_p_7 := (ovr_mono e_) _ _ hp_p_7
      replace ha_p_8 := mA (mT2 mS mI) (ovr_mono e_) ha_p_8
      replace ha_p_16 := mA (mT2 mS mI) (ovr_mono e_) ha_p_16
      replace eB := eB.trans e_
      replace eJ21 := eJ21.trans e_
      obtain ⟨L_45, rfl, ⟨rfl, rfl⟩⟩ := d_
      replace O : Own H0 H [(a_2, .ins ad.c_Joiner dx_39 [("tag", (ov V.int self_23.tag)), ("due", .int self_23.due), ("joined", .int self_23.joined), ("kept", .ref p_40), ("broken_tag", (ov V.int self_23.broken_tag))]), (dx_39, .own a_2), (p_40, .lst (List.map V.int self_23.kept)), (p_16, .lst vs_17), (p_8, .lst ([.ref p_7] : List V))] := Own.cv O (by first | with_reducible rfl | simp only [List.map_nil, List.flatten_cons, List.flatten_nil, List.cons_append, List.nil_append, List.append_nil, List.append_assoc])
      exact k2 _ ⟨H0, ((a_2, .ins ad.c_Joiner dx_39 [("tag", (ov V.int self_23.tag)), ("due", .int self_23.due), ("joined", .int self_23.joined), ("kept", .ref p_40), ("broken_tag", (ov V.int self_23.broken_tag))]) :: (dx_39, .own a_2) :: ((p_40, .lst (List.map V.int self_23.kept)) :: [])), eJ21, (Own.cv (O.sel (L' := [(p_16, .lst vs_17), (p_8, .lst ([.ref p_7] : List V)), (a_2, .ins ad.c_Joiner dx_39 [("tag", (ov V.int self_23.tag)), ("due", .int self_23.due), ("joined", .int self_23.joined), ("kept", .ref p_40), ("broken_tag", (ov V.int self_23.broken_tag))]), (dx_39, .own a_2), (p_40, .lst (List.map V.int self_23.kept))]) [3, 4, 0, 1, 2] (by decide) rfl) (by first | with_reducible rfl | simp only [List.map_nil, List.flatten_cons, List.flatten_nil, List.cons_append, List.nil_append, List.append_nil, List.append_assoc])), ⟨dx_39, p_40, rfl⟩⟩
    obtain ⟨H0, B_19, eJ21, O, h20⟩ := hJ
    replace hn_p_7 := (mT2 mS mI) _ _ _ _ (ovr_mono eJ21) hn_p_7
    replace hp_p_7 := (ovr_mono eJ21) _ _ hp_p_7
    replace ha_p_8 := mA (mT2 mS mI) (ovr_mono eJ21) ha_p_8
    replace ha_p_16 := mA (mT2 mS mI) (ovr_mono eJ21) ha_p_16
    replace eB := eB.trans eJ21
    obtain ⟨dx_48, p_49, rfl⟩ := h20
    replace O : Own H0 H [(p_16, .lst vs_17), (p_8, .lst ([.ref p_7] : List V)), (a_2, .ins ad.c_Joiner dx_48 [("tag", (ov V.int self_23.tag)), ("due", .int self_23.due), ("joined", .int self_23.joined), ("kept", .ref p_49), ("broken_tag", (ov V.int self_23.broken_tag))]), (dx_48, .own a_2), (p_49, .lst (List.map V.int self_23.kept))] := Own.cv O (by first | with_reducible rfl | simp only [List.map_nil, List.flatten_cons, List.flatten_nil, List.cons_append, List.nil_append, List.append_nil, List.append_assoc])
    obtain rfl := Option.some.inj hm
    exact k _ _ H0 (((a_2, .ins ad.c_Joiner dx_48 [("tag", (ov V.int self_23.tag)), ("due", .int self_23.due), ("joined", .int self_23.joined), ("kept", .ref p_49), ("broken_tag", (ov V.int self_23.broken_tag))]) :: (dx_48, .own a_2) :: ((p_49, .lst (List.map V.int self_23.kept)) :: [])) ++ []) eB (Own.cv (O.sel (L' := [(a_2, .ins ad.c_Joiner dx_48 [("tag", (ov V.int self_23.tag)), ("due", .int self_23.due), ("joined", .int self_23.joined), ("kept", .ref p_49), ("broken_tag", (ov V.int self_23.broken_tag))]), (dx_48, .own a_2), (p_49, .lst (List.map V.int self_23.kept))]) [2, 3, 4] (by decide) rfl) (by first | with_reducible rfl | simp only [List.map_nil, List.flatten_cons, List.flatten_nil, List.cons_append, List.nil_append, List.append_nil, List.append_assoc])) ⟨_, _, rfl, ⟨dx_48, p_49, rfl⟩, ⟨rfl, rfl⟩⟩
def m_law_C0 (script_1 : List Int) (k_19 : Int) : Option (List Int) :=
  bnd (m__law_thing script_1 k_19) fun law_th_27 =>
  some law_th_27
def m_law_L2 (script_1 : List Int) (law_dr_15 : Int) (share_32 : Int) (law_dr_34 : Int) (wide_48 : Int) (piece_145 : List Int) (told_122 : List ((Str × Int) ⊕ (Str × Int × (List Int)))) (at_125 : Int) (lost_126 : Int) (joiner_127 : S_Joiner) (other_130 : S_Joiner) (came_133 : Int) : Option (Fl ((List ((Str × Int) ⊕ (Str × Int × (List Int)))) × Int × Int × S_Joiner × S_Joiner × Int) (Bool)) :=
  bnd (m__law_draw script_1 ((4000 : Int) + at_125) (8 : Int)) fun law_dr_156 =>
  ltv ((decide (law_dr_156 < (share_32 - (3 : Int))) || (decide (law_dr_34 ≤ at_125) && decide (at_125 < (law_dr_34 + wide_48))))) fun gone_159 =>
  ifB (gone_159 && decide (lost_126 < (254 : Int))) (
    some (.nx (told_122, (at_125 + (1 : Int)), (lost_126 + (1 : Int)), joiner_127, other_130, came_133))) (
    ltv ((came_133 + (1 : Int))) fun came_163 =>
    bnd (m__law_is_apart other_130 law_dr_15) fun (joiner_165, law_is_166) =>
    ifB (!law_is_166) (
      some (.rt false)) (
      bndO (m_Joiner_take joiner_127 piece_145) fun (self_176, take_177) =>
      bnd (catG told_122 take_177) fun t_188 =>
      some (.nx (t_188, (at_125 + (1 : Int)), (0 : Int), self_176, joiner_165, came_163))))
def m_law_L1 (script_1 : List Int) (law_dr_15 : Int) (l_20 : List (List Int)) (share_32 : Int) (law_dr_34 : Int) (wide_48 : Int) (k_97 : Int) (told_69 : List ((Str × Int) ⊕ (Str × Int × (List Int)))) (due_72 : List ((Str × Int) ⊕ (Str × Int × (List Int)))) (at_74 : Int) (lost_75 : Int) (joiner_77 : S_Joiner) (other_80 : S_Joiner) : Option (Fl ((List ((Str × Int) ⊕ (Str × Int × (List Int)))) × (List ((Str × Int) ⊕ (Str × Int × (List Int)))) × Int × Int × S_Joiner × S_Joiner) (Bool)) :=
  ltv (((law_dr_15 + k_97) % (256 : Int))) fun tag_105 =>
  bnd (atI l_20 k_97) fun e_107 =>
  bndO (m_cut tag_105 e_107) fun cut_113 =>
  flo (loopF (fun piece_145 s => m_law_L2 script_1 law_dr_15 share_32 law_dr_34 wide_48 piece_145 s.1 s.2.1 s.2.2.1 s.2.2.2.1 s.2.2.2.2.1 s.2.2.2.2.2) cut_113 (told_69, at_74, lost_75, joiner_77, other_80, (0 : Int))) fun (told_122, at_125, lost_126, joiner_127, other_130, came_133) =>
  ifB (decide (came_133 = (List.length cut_113 : Int))) (
    bnd (atI l_20 k_97) fun e_203 =>
    bnd (appG due_72 (.inr (("whole" : Str), tag_105, e_203))) fun l_209 =>
    some (.nx (told_122, l_209, at_125, lost_126, joiner_127, other_130))) (
    ifB (decide ((0 : Int) < came_133)) (
      bnd (appG due_72 (.inl (("broken" : Str), tag_105))) fun l_213 =>
      some (.nx (told_122, l_213, at_125, lost_126, joiner_127, other_130))) (
      some (.nx (told_122, due_72, at_125, lost_126, joiner_127, other_130))))
def m_law (script_1 : List Int) : Option (Bool) :=
  bnd (m__law_draw script_1 (0 : Int) (8 : Int)) fun law_dr_3 =>
  ltv (((1 : Int) + law_dr_3)) fun many_5 =>
  bnd (m__law_draw script_1 (1 : Int) (6 : Int)) fun law_dr_8 =>
  bnd (ifB (decide (law_dr_8 = (0 : Int))) (
    bnd (m__law_draw script_1 (0 : Int) (40 : Int)) fun law_dr_12 =>
    some ((1 : Int) + law_dr_12)) (
    some many_5)) fun many_14 =>
  bnd (m__law_draw script_1 (2 : Int) (256 : Int)) fun law_dr_15 =>
  bnd (rng1 many_14) fun rg_17 =>
  bnd (compM (m_law_C0 script_1) rg_17 []) fun l_20 =>
  bnd (m__law_draw script_1 (3 : Int) (6 : Int)) fun law_dr_30 =>
  ltv (((1 : Int) + law_dr_30)) fun share_32 =>
  bnd (m__law_draw script_1 (4 : Int) (((3 : Int) * many_14) + (2 : Int))) fun law_dr_34 =>
  bnd (m__law_draw script_1 (5 : Int) (2 : Int)) fun law_dr_37 =>
  bnd (ifB (decide (law_dr_37 = (0 : Int))) (
    bnd (m__law_draw script_1 (7 : Int) (3 : Int)) fun law_dr_42 =>
    bnd (atI ([(4 : Int), (20 : Int), (255 : Int)]) law_dr_42) fun e_44 =>
    bnd (m__law_draw script_1 (6 : Int) e_44) fun law_dr_46 =>
    some law_dr_46) (
    some (0 : Int))) fun wide_48 =>
  bnd (m_Joiner_init ) fun joiner_51 =>
  bnd (m_Joiner_init ) fun joiner_59 =>
  bnd (rng1 many_14) fun rg_67 =>
  fin (loopF (fun k_97 s => m_law_L1 script_1 law_dr_15 l_20 share_32 law_dr_34 wide_48 k_97 s.1 s.2.1 s.2.2.1 s.2.2.2.1 s.2.2.2.2.1 s.2.2.2.2.2) rg_67 (([] : List ((Str × Int) ⊕ (Str × Int × (List Int)))), ([] : List ((Str × Int) ⊕ (Str × Int × (List Int)))), (0 : Int), (0 : Int), joiner_51, joiner_59)) fun (told_69, due_72, at_74, lost_75, joiner_77, other_80) =>
  bnd (m_Joiner_end joiner_77) fun (self_219, end_220) =>
  bnd (ifB (!true) (some true) (bnd (m_Joiner_is_open self_219) fun is_ope_234 => some (!decide (is_ope_234 = false)))) fun c_239 =>
  ifB c_239 (
    some false) (
    bnd (catG told_69 end_220) fun t_246 =>
    bnd (okD (dqL (dqU (dqT2 dqS (De.q deI)) (dqT3 dqS (De.q deI) (De.q (deL deI))) (by intros; constructor <;> simp [deI, deB, deL, deT2, deT3, deO, deU, dqS, De.q, dqL, dqT2, dqT3, dqO, dqU, sumD, optD, PyData.eqv, PyData.eqvAll]))).d t_246) fun u_250 =>
    bnd (okD (dqL (dqU (dqT2 dqS (De.q deI)) (dqT3 dqS (De.q deI) (De.q (deL deI))) (by intros; constructor <;> simp [deI, deB, deL, deT2, deT3, deO, deU, dqS, De.q, dqL, dqT2, dqT3, dqO, dqU, sumD, optD, PyData.eqv, PyData.eqvAll]))).d due_72) fun u_252 =>
    bnd (ifB (decide ((t_246 : List ((Str × Int) ⊕ (Str × Int × (List Int)))) = due_72)) (bnd (m_Joiner_end self_219) fun (self_256, end_257) =>
    bnd (okD (dqL (dqU (dqT2 dqS (De.q deI)) (dqT3 dqS (De.q deI) (De.q (deL deI))) (by intros; constructor <;> simp [deI, deB, deL, deT2, deT3, deO, deU, dqS, De.q, dqL, dqT2, dqT3, dqO, dqU, sumD, optD, PyData.eqv, PyData.eqvAll]))).d end_257) fun u_270 =>
    bnd (okD (dqL (dqU (dqT2 dqS (De.q deI)) (dqT3 dqS (De.q deI) (De.q (deL deI))) (by intros; constructor <;> simp [deI, deB, deL, deT2, deT3, deO, deU, dqS, De.q, dqL, dqT2, dqT3, dqO, dqU, sumD, optD, PyData.eqv, PyData.eqvAll]))).d ([] : List ((Str × Int) ⊕ (Str × Int × (List Int))))) fun u_272 => some (decide ((end_257 : List ((Str × Int) ⊕ (Str × Int × (List Int)))) = ([] : List ((Str × Int) ⊕ (Str × Int × (List Int))))))) (some false)) fun c_274 =>
    some c_274)
def sp_law (K : PySem.W.Frag) : Sp := fun vs H Q _ => ∃ (script_1 : List Int) (a_2 : Addr) (r : Bool), vs = [.ref a_2] ∧ SqL K H a_2 (List.map V.int script_1) ∧ m_law script_1 = some r ∧ RetV (.bl r) H Q
abbrev N_law : List Str := ["script", "many", "first", "things", "share", "hole", "wide", "told", "due", "at", "lost", "k", "ends", "joiner", "other", "tag", "pieces", "came", "piece", "gone"]
theorem sc_law : FnScope N_law ["script"] (defScope s_law) := ⟨rfl, rfl, rfl, by decide +kernel, rfl, by decide +kernel, by decide +kernel⟩
theorem ok_law {ad : Ad} (T : Txt K mg ad) : FnOk P w K mg base CX0 4 ad.f_law ad.fd_law ["script"] (sp_law K) := by
  have G_Joiner_init := ok_Joiner_init (P := P) (w := w) (base := base) T
  have G_Joiner_end := ok_Joiner_end (P := P) (w := w) (base := base) T
  have G_Joiner_is_open := ok_Joiner_is_open (P := P) (w := w) (base := base) T
  have G_Joiner_take := ok_Joiner_take (P := P) (w := w) (base := base) T
  have G__law_draw := ok__law_draw (P := P) (w := w) (base := base) T
  have G__law_is_apart := ok__law_is_apart (P := P) (w := w) (base := base) T
  have G__law_thing := ok__law_thing (P := P) (w := w) (base := base) T
  have G_cut := ok_cut (P := P) (w := w) (base := base) T
  refine T.F_law.ok sc_law (fun vs H Q E h => ?_) (fun cdv A outer s H vs Q E hr h => ?_)
  · obtain ⟨_, _, _, rfl, _⟩ := h
    rfl
  · obtain ⟨script_1, a_2, r, rfl, hp_a_2, hm, k⟩ := h
    unfold m_law at hm
    obtain ⟨Hb, hHb⟩ : ∃ Hb : Hp, Hb = H := ⟨H, rfl⟩
    obtain ⟨H0, hH0⟩ : ∃ H0 : Hp, H0 = Hb := ⟨Hb, rfl⟩
    have O : Own H0 H [] := by rw [hH0, hHb]; exact Own.start H
    rw [← hHb] at k hp_a_2
    rw [← hH0] at hp_a_2
    have eB : Ex Hb H0 := by rw [hH0]; exact Ex.refl _
    clear hH0 hHb
    refine ⟨_, (pss_cons (ps_set (i := 1) sc_law.nd rfl (Or.inl rfl) (pe_op op_add pe_int (pe_call G__law_draw (hr.mono (by decide)) (by rfl) T.g__law_draw T.F__law_draw.kp T.b__law_draw .nil pass0 (pa_cons (pv 0) (pa_cons pe_int (pa_cons pe_int pa_nil)))))) (Evl.pss_cut (ps_if (pt_cmpR op_eq (pe_call G__law_draw (hr.mono (by decide)) (by rfl) T.g__law_draw T.F__law_draw.kp T.b__law_draw .nil pass0 (pa_cons (pv 0) (pa_cons pe_int (pa_cons pe_int pa_nil)))) pe_int (nomark _)) (pss_one (ps_set (i := 1) sc_law.nd rfl (Or.inl rfl) (pe_op op_add pe_int (pe_call G__law_draw (hr.mono (by decide)) (by rfl) T.g__law_draw T.F__law_draw.kp T.b__law_draw .nil pass0 (pa_cons (pv 0) (pa_cons pe_int (pa_cons pe_int pa_nil))))))) pss_nil) (pss_cons (ps_set (i := 2) sc_law.nd rfl (Or.inl rfl) (pe_call G__law_draw (hr.mono (by decide)) (by rfl) T.g__law_draw T.F__law_draw.kp T.b__law_draw .nil pass0 (pa_cons (pv 0) (pa_cons pe_int (pa_cons pe_int pa_nil))))) (pss_cons (ps_setLc (i := 3) (own := [("k", 11)]) (g := gName 11) (tt := tYes) rfl sc_law.nd rfl rfl (sw_true rfl rfl rfl (by decide +kernel)) (pi_range1 (by rfl) T.z_range (pa_cons (pv 1) pa_nil)) (blkOk_by (own := [("k", 11)]) (N := N_law) (sc := defScope s_law) (by decide +kernel)) (fun _ _ _ _ _ => pg_name (i := 11) sc_law.nd rfl (Or.inl rfl)) (fun _ _ _ _ _ => pts_nil) (fun _ _ _ _ _ => (pe_call G__law_thing (hr.mono (by decide)) (by rfl) T.g__law_thing T.F__law_thing.kp T.b__law_thing .nil pass0 (pa_cons (pv 0) (pa_cons (pv 11) pa_nil))))) (pss_cons (ps_set (i := 4) sc_law.nd rfl (Or.inl rfl) (pe_op op_add pe_int (pe_call G__law_draw (hr.mono (by decide)) (by rfl) T.g__law_draw T.F__law_draw.kp T.b__law_draw .nil pass0 (pa_cons (pv 0) (pa_cons pe_int (pa_cons pe_int pa_nil)))))) (pss_cons (ps_set (i := 5) sc_law.nd rfl (Or.inl rfl) (pe_call G__law_draw (hr.mono (by decide)) (by rfl) T.g__law_draw T.F__law_draw.kp T.b__law_draw .nil pass0 (pa_cons (pv 0) (pa_cons pe_int (pa_cons (pe_op op_add (pe_op op_mul pe_int (pv 1)) pe_int) pa_nil))))) (pss_cons (ps_set (i := 6) sc_law.nd rfl (Or.inl rfl) pe_int) (Evl.pss_cut (ps_if (pt_cmpR op_eq (pe_call G__law_draw (hr.mono (by decide)) (by rfl) T.g__law_draw T.F__law_draw.kp T.b__law_draw .nil pass0 (pa_cons (pv 0) (pa_cons pe_int (pa_cons pe_int pa_nil)))) pe_int (nomark _)) (pss_one (ps_set (i := 6) sc_law.nd rfl (Or.inl rfl) (pe_call G__law_draw (hr.mono (by decide)) (by rfl) T.g__law_draw T.F__law_draw.kp T.b__law_draw .nil pass0 (pa_cons (pv 0) (pa_cons pe_int (pa_cons (pe_ix (r := rIxL K) ix_list (pe_lstQ (pe_lst (pa_cons pe_int (pa_cons pe_int (pa_cons pe_int pa_nil))))) (pe_call G__law_draw (hr.mono (by decide)) (by rfl) T.g__law_draw T.F__law_draw.kp T.b__law_draw .nil pass0 (pa_cons (pv 0) (pa_cons pe_int (pa_cons pe_int pa_nil)))) (fun _ _ => rfl)) pa_nil)))))) pss_nil) (pss_cons (ps_par (i := 13) (j := 14) rfl sc_law.nd rfl rfl (by decide) rfl rfl (pa_cons (pe_make0 T.K_Joiner G_Joiner_init (hr.mono (by decide)) (by rfl) T.k_Joiner T.b_Joiner_init .nil pass0) (pa_cons (pe_make0 T.K_Joiner G_Joiner_init (hr.mono (by decide)) (by rfl) T.k_Joiner T.b_Joiner_init .nil pass0) pa_nil)) (by rfl)) (pss_cons (ps_set (i := 7) sc_law.nd rfl (Or.inl rfl) (pe_lstQ (pe_lst pa_nil))) (pss_cons (ps_set (i := 8) sc_law.nd rfl (Or.inl rfl) (pe_lstQ (pe_lst pa_nil))) (pss_cons (ps_set (i := 9) sc_law.nd rfl (Or.inl rfl) pe_int) (pss_cons (ps_set (i := 10) sc_law.nd rfl (Or.inl rfl) pe_int) (pss_cons (ps_for PassesOwn.never rfl (pi_range1 (by rfl) T.z_range (pa_cons (pv 1) pa_nil)) (pg_name (i := 11) sc_law.nd rfl (Or.inl rfl)) (pss_cons (ps_set (i := 15) sc_law.nd rfl (Or.inl rfl) (pe_op op_mod (pe_op op_add (pv 2) (pv 11)) pe_int)) (pss_cons (ps_set (i := 16) sc_law.nd rfl (Or.inl rfl) (pe_call G_cut (hr.mono (by decide)) (by rfl) T.g_cut T.F_cut.kp T.b_cut .nil passN (pa_cons (pv 15) (pa_cons (pe_callTy (r := rListQ K) call_listQ (by rfl) T.z_list (by decide +kernel) (pa_cons (pe_ix (r := rIxL K) ix_list (pv 3) (pv 11) (fun _ _ => rfl)) pa_nil)) pa_nil)))) (pss_cons (ps_set (i := 17) sc_law.nd rfl (Or.inl rfl) pe_int) (pss_cons (ps_for PassesOwn.never rfl (pi_list (pv 16)) (pg_name (i := 18) sc_law.nd rfl (Or.inl rfl)) (pss_cons (ps_set (i := 19) sc_law.nd rfl (Or.inl rfl) (pe_or (pe_cmpR op_lt (pe_call G__law_draw (hr.mono (by decide)) (by rfl) T.g__law_draw T.F__law_draw.kp T.b__law_draw .nil pass0 (pa_cons (pv 0) (pa_cons (pe_op op_add pe_int (pv 9)) (pa_cons pe_int pa_nil)))) (pe_op op_sub (pv 4) pe_int) (nomark _)) (pe_one (pe_chain op_le op_lt (pv 5) (pv 9) (pe_op op_add (pv 5) (pv 6)))))) (pss_cons (ps_if (PW.pt (pw_and (pt_val (pv 19)) (pw_and1 (pt_cmpR op_lt (pv 10) pe_int (nomark _))))) (pss_one (ps_set (i := 10) sc_law.nd rfl (Or.inl rfl) (pe_op op_add (pv 10) pe_int))) (pss_cons (ps_set (i := 10) sc_law.nd rfl (Or.inl rfl) pe_int) (pss_cons (ps_set (i := 17) sc_law.nd rfl (Or.inl rfl) (pe_op op_add (pv 17) pe_int)) (pss_cons (ps_if (pt_not (pt_val (pe_call G__law_is_apart (hr.mono (by decide)) (by rfl) T.g__law_is_apart T.F__law_is_apart.kp T.b__law_is_apart .nil pass0 (pa_cons (pv 14) (pa_cons (pv 2) pa_nil))))) (pss_one (ps_ret pe_bl)) pss_nil) (pss_one (ps_set (i := 7) sc_law.nd rfl (Or.inl rfl) (pe_op op_cat (pv 7) (pe_meth (pv 13) T.C_Joiner T.M_Joiner_take G_Joiner_take (hr.mono (by decide)) T.b_Joiner_take .nil passN (pa_cons (pv 18) pa_nil))))))))) (pss_one (ps_set (i := 9) sc_law.nd rfl (Or.inl rfl) (pe_op op_add (pv 9) pe_int)))))) (pss_one (ps_if (pt_cmpR op_eq (pv 17) (pe_callB (r := rLenQ K) call_lenQ (by rfl) T.z_len PySem.boot_len (pa_cons (pv 16) pa_nil)) (nomark _)) (pss_one (ps_expr (pe_bm PySem.F.plainAttrs_list PySem.F.slot_list_append PySem.F.type_list_append mt_append (pv 8) (pa_cons (pe_tupQ (pe_tup (pa_cons pe_str (pa_cons (pv 15) (pa_cons (pe_ix (r := rIxL K) ix_list (pv 3) (pv 11) (fun _ _ => rfl)) pa_nil))))) pa_nil)))) (pss_one (ps_if (pt_cmpR op_gt (pv 17) pe_int (nomark _)) (pss_one (ps_expr (pe_bm PySem.F.plainAttrs_list PySem.F.slot_list_append PySem.F.type_list_append mt_append (pv 8) (pa_cons (pe_tupQ (pe_tup (pa_cons pe_str (pa_cons (pv 15) pa_nil)))) pa_nil)))) pss_nil))))))))) (pss_cons (ps_set (i := 12) sc_law.nd rfl (Or.inl rfl) (pe_meth0 (pv 13) T.C_Joiner T.M_Joiner_end G_Joiner_end (hr.mono (by decide)) T.b_Joiner_end .nil pass0)) (pss_cons (ps_if (PW.pt (pw_or (pt_not (pt_val (pe_callB (r := rIsi K) call_isi (by rfl) T.z_isinstance (by decide +kernel) (pa_cons (pv 12) (pa_cons (pe_bltn (v := V.ty "list") (u := .type "list") (by rfl) T.z_list (by decide +kernel) rfl) pa_nil))))) (pw_or1 (pt_cmpR op_notBl (pe_meth0 (pv 13) T.C_Joiner T.M_Joiner_is_open G_Joiner_is_open (hr.mono (by decide)) T.b_Joiner_is_open .nil pass0) pe_bl (nomark _))))) (pss_one (ps_ret pe_bl)) pss_nil) (pss_one (ps_ret (pe_and (pe_cmpR (r := rEqD K) (op_eqD hr.units) (pe_op op_cat (pv 7) (pv 12)) (pv 8) (nomark _)) (pe_one (pe_cmpR (r := rEqD K) (op_eqD hr.units) (pe_meth0 (pv 13) T.C_Joiner T.M_Joiner_end G_Joiner_end (hr.mono (by decide)) T.b_Joiner_end .nil pass0) (pe_lstQ (pe_lst pa_nil)) (nomark _)))))))))))))))))))))), ?_⟩
    -- 97
    refine o_seq ?_
    refine o_asg ?_
    obtain ⟨law_dr_3, h4, hm⟩ := bndE hm
    refine ⟨_, rfl, ?_⟩
    refine o_cons ?_
    refine o_c ?_
    refine o_cons ?_
    refine o_c ?_
    refine x_nil ?_
    refine ⟨_, _, _, _, law_dr_3, rfl, (O.ex.l hp_a_2), h4, ?_⟩
    refine O.retV fun H O => ?_
    refine ⟨_, _, rfl, rfl, ?_⟩
    obtain ⟨many_5, h6, hm⟩ := ltvE hm
    refine a_set (congrArg V.int h6) ?_
    -- 98
    obtain ⟨law_dr_8, h9, hm⟩ := bndE hm
    obtain ⟨many_14, h11, hm⟩ := bndE hm
    refine o_cut (fun σ H => ∃ (R_ : Hp), σ = [some (.ref a_2), some (.int many_14), none, none, none, none, none, none, none, none, none, none, none, none, none, none, none, none, none, none] ∧ Ex H0 R_ ∧ Own R_ H []) ?_ ?_
    · have eJ7 : Ex H0 H0 := Ex.refl _
      refine o_ifs ?_
      refine ⟨_, rfl, ?_⟩
      refine o_cons ?_
      refine o_c ?_
      refine o_cons ?_
      refine o_c ?_
      refine x_nil ?_
      refine ⟨_, _, _, _, law_dr_8, rfl, (O.ex.l hp_a_2), h9, ?_⟩
      refine O.retV fun H O => ?_
      refine o_c ?_
      refine k_eqI ?_
      refine ⟨_, rfl, ?_⟩
      refine iteS (c := (decide (law_dr_8 = (0 : Int)))) (fun h10 => ?_) (fun h10 => ?_)
      · replace hm := ifT h11 h10
        -- 99
        refine o_asg ?_
        obtain ⟨law_dr_12, h13, hm⟩ := bndE hm
        refine ⟨_, rfl, ?_⟩
        refine o_cons ?_
        refine o_c ?_
        refine o_cons ?_
        refine o_c ?_
        refine x_nil ?_
        refine ⟨_, _, _, _, law_dr_12, rfl, (O.ex.l hp_a_2), h13, ?_⟩
        refine O.retV fun H O => ?_
        refine ⟨_, _, rfl, rfl, ?_⟩
        have Oz := O
        have hq_ := Option.some.inj hm
        subst hq_
        exact ⟨H0, rfl, eJ7, Oz⟩
      · replace hm := ifF h11 h10
        refine o_next ?_
        have Oz := O
        have hq_ := Option.some.inj hm
        subst hq_
        exact ⟨H0, rfl, eJ7, Oz⟩
    rintro σ H ⟨H0, rfl, eJ_, O⟩
    replace hp_a_2 := eJ_.l hp_a_2
    replace eB := eB.trans eJ_
    -- 100
    refine o_seq ?_
    refine o_asg ?_
    obtain ⟨law_dr_15, h16, hm⟩ := bndE hm
    refine ⟨_, rfl, ?_⟩
    refine o_cons ?_
    refine o_c ?_
    refine o_cons ?_
    refine o_c ?_
    refine x_nil ?_
    refine ⟨_, _, _, _, law_dr_15, rfl, (O.ex.l hp_a_2), h16, ?_⟩
    refine O.retV fun H O => ?_
    -- 101
    refine o_seq ?_
    refine o_asg ?_
    obtain ⟨rg_17, h18, hm⟩ := bndE hm
    refine ⟨_, rfl, ?_⟩
    refine x_nil ?_
    obtain ⟨c1, c2, rfl⟩ := rng1E h18
    obtain ⟨l_20, h21, hm⟩ := bndE hm
    refine ⟨_, rfl, c1, c2, fun p_22 hD => k_lcR (fun r H => ∃ (R_ : Hp) (vs_23 : List V) (acc : List (List Int)), Ex H0 R_ ∧ Own R_ H [(p_22, .lst vs_23)] ∧ All2 ((rL rI) (R_)) vs_23 acc ∧ compM (m_law_C0 script_1) r acc = some l_20) ⟨H0, ([] : List V), [], Ex.refl _, O.new hD, .nil, h21⟩ ?_ ?_⟩
    · rintro k_19 r H ⟨H0, vs_23, acc, eC22, O, ha_p_22, hC⟩
      replace hp_a_2 := eC22.l hp_a_2
      replace eB := eB.trans eC22
      obtain ⟨y, hm, hz, hC⟩ := compM_cons hC
      refine ⟨rfl, ?_⟩
      unfold m_law_C0 at hm
      obtain ⟨law_th_27, h28, hm⟩ := bndE hm
      refine ⟨_, rfl, _, rfl, ?_⟩
      refine x_nil ?_
      refine ⟨_, _, _, law_th_27, rfl, (O.ex.l hp_a_2), h28, ?_⟩
      refine O.retL fun p_29 H O => ?_
      obtain ⟨H0, O, e_, hp_p_29⟩ := O.frz
      replace hp_a_2 := e_.l hp_a_2
      replace ha_p_22 := mA (mL mI) e_ ha_p_22
      replace eB := eB.trans e_
      replace eC22 := eC22.trans e_
      obtain rfl := Option.some.inj hm
      exact ⟨_, O.mem (List.Mem.head _), (by rw [ha_p_22.len]; exact hz), H0, _, _, eC22, O.put0, ha_p_22.snoc (gI hp_p_29), hC⟩
    rintro H ⟨H0, vs_23, acc, eC22, O, ha_p_22, hC⟩
    replace hp_a_2 := eC22.l hp_a_2
    replace eB := eB.trans eC22
    obtain rfl := compM_nil hC
    -- 102
    refine o_seq ?_
    refine o_asg ?_
    obtain ⟨law_dr_30, h31, hm⟩ := bndE hm
    refine ⟨_, rfl, ?_⟩
    refine o_cons ?_
    refine o_c ?_
    refine o_cons ?_
    refine o_c ?_
    refine x_nil ?_
    refine ⟨_, _, _, _, law_dr_30, rfl, (O.ex.l hp_a_2), h31, ?_⟩
    refine O.retV fun H O => ?_
    refine ⟨_, _, rfl, rfl, ?_⟩
    obtain ⟨share_32, h33, hm⟩ := ltvE hm
    refine a_set (congrArg V.int h33) ?_
    -- 103
    refine o_seq ?_
    refine o_asg ?_
    obtain ⟨law_dr_34, h35, hm⟩ := bndE hm
    refine ⟨_, rfl, _, rfl, _, _, rfl, rfl, .inl ⟨by decide, by decide⟩, _, _, rfl, rfl, ?_⟩
    refine x_nil ?_
    refine ⟨_, _, _, _, law_dr_34, rfl, (O.ex.l hp_a_2), h35, ?_⟩
    refine O.retV fun H O => ?_
    -- 104
    refine o_seq ?_
    refine o_asg ?_
    refine o_c ?_
    -- 105
    obtain ⟨law_dr_37, h38, hm⟩ := bndE hm
    obtain ⟨wide_48, h40, hm⟩ := bndE hm
    refine o_cut (fun σ H => ∃ (R_ : Hp), σ = [some (.ref a_2), some (.int many_14), some (.int law_dr_15), some (.ref p_22), some (.int share_32), some (.int law_dr_34), some (.int wide_48), none, none, none, none, none, none, none, none, none, none, none, none, none] ∧ Ex H0 R_ ∧ Own R_ H [(p_22, .lst vs_23)]) ?_ ?_
    · have eJ36 : Ex H0 H0 := Ex.refl _
      refine o_ifs ?_
      refine ⟨_, rfl, ?_⟩
      refine o_cons ?_
      refine o_c ?_
      refine o_cons ?_
      refine o_c ?_
      refine x_nil ?_
      refine ⟨_, _, _, _, law_dr_37, rfl, (O.ex.l hp_a_2), h38, ?_⟩
      refine O.retV fun H O => ?_
      refine o_c ?_
      refine k_eqI ?_
      refine ⟨_, rfl, ?_⟩
      refine iteS (c := (decide (law_dr_37 = (0 : Int)))) (fun h39 => ?_) (fun h39 => ?_)
      · replace hm := ifT h40 h39
        -- 106
        refine o_asg ?_
        refine ⟨_, rfl, ?_⟩
        refine o_cons ?_
        refine o_c ?_
        refine o_cons ?_
        refine o_op ?_
        refine o_cons ?_
        refine o_c ?_
        refine o_cons ?_
        refine o_c ?_
        refine o_cons ?_
        refine o_c ?_
        refine x_nil ?_
        refine n_lst (f := V.int) (xs := [(4 : Int), (20 : Int), (255 : Int)]) O rfl (by show 3 ≤ sizeLine; decide) fun p_41 H O => ?_
        obtain ⟨law_dr_42, h43, hm⟩ := bndE hm
        refine ⟨_, rfl, ?_⟩
        refine o_cons ?_
        refine o_c ?_
        refine o_cons ?_
        refine o_c ?_
        refine x_nil ?_
        refine ⟨_, _, _, _, law_dr_42, rfl, (O.ex.l hp_a_2), h43, ?_⟩
        refine O.retV fun H O => ?_
        obtain ⟨e_44, h45, hm⟩ := bndE hm
        refine k_ixL (f := V.int) (SqL.of (O.mem (List.Mem.head _))) h45 ?_
        obtain ⟨law_dr_46, h47, hm⟩ := bndE hm
        refine x_nil ?_
        refine ⟨_, _, _, _, law_dr_46, rfl, (O.ex.l hp_a_2), h47, ?_⟩
        refine O.retV fun H O => ?_
        have Oz := O
        have hq_ := Option.some.inj hm
        subst hq_
        exact ⟨H0, rfl, eJ36, (Oz.sel (L' := [(p_22, .lst vs_23)]) [1] (by decide) rfl)⟩
      · replace hm := ifF h40 h39
        refine o_next ?_
        have Oz := O
        have hq_ := Option.some.inj hm
        subst hq_
        exact ⟨H0, rfl, eJ36, Oz⟩
    rintro σ H ⟨H0, rfl, eJ_, O⟩
    replace hp_a_2 := eJ_.l hp_a_2
    replace ha_p_22 := mA (mL mI) eJ_ ha_p_22
    replace eB := eB.trans eJ_
    -- 107
    refine o_seq ?_
    refine o_par ?_
    refine o_cons ?_
    refine o_make ?_
    refine x_nil ?_
    refine k_make O fun a_49 dx_50 H O => ?_
    obtain ⟨joiner_51, h52, hm⟩ := bndE hm
    have Oc : Own H0 H (((a_49, .ins ad.c_Joiner dx_50 []) :: (dx_50, .own a_49) :: []) ++ [(p_22, .lst vs_23)]) := Own.cv O (by first | with_reducible rfl | simp only [List.map_nil, List.flatten_cons, List.flatten_nil, List.cons_append, List.nil_append, List.append_nil, List.append_assoc])
    refine ⟨a_49, dx_50, H0, joiner_51, rfl, Oc.left, h52, ?_⟩
    refine Oc.retX (mdI (mo_Joiner ad)) fun v_ H H0 L_54 O e_ d_ => ?_
    replace hp_a_2 := e_.l hp_a_2
    replace ha_p_22 := mA (mL mI) e_ ha_p_22
    replace eB := eB.trans e_
    obtain ⟨rfl, h53⟩ := d_
    refine ⟨rfl, ?_⟩
    obtain ⟨dx_55, p_56, rfl⟩ := h53
    replace O : Own H0 H [(a_49, .ins ad.c_Joiner dx_55 [("tag", (ov V.int joiner_51.tag)), ("due", .int joiner_51.due), ("joined", .int joiner_51.joined), ("kept", .ref p_56), ("broken_tag", (ov V.int joiner_51.broken_tag))]), (dx_55, .own a_49), (p_56, .lst (List.map V.int joiner_51.kept)), (p_22, .lst vs_23)] := Own.cv O (by first | with_reducible rfl | simp only [List.map_nil, List.flatten_cons, List.flatten_nil, List.cons_append, List.nil_append, List.append_nil, List.append_assoc])
    refine o_cons ?_
    refine o_make ?_
    refine x_nil ?_
    refine k_make O fun a_57 dx_58 H O => ?_
    obtain ⟨joiner_59, h60, hm⟩ := bndE hm
    have Oc : Own H0 H (((a_57, .ins ad.c_Joiner dx_58 []) :: (dx_58, .own a_57) :: []) ++ [(a_49, .ins ad.c_Joiner dx_55 [("tag", (ov V.int joiner_51.tag)), ("due", .int joiner_51.due), ("joined", .int joiner_51.joined), ("kept", .ref p_56), ("broken_tag", (ov V.int joiner_51.broken_tag))]), (dx_55, .own a_49), (p_56, .lst (List.map V.int joiner_51.kept)), (p_22, .lst vs_23)]) := Own.cv O (by first | with_reducible rfl | simp only [List.map_nil, List.flatten_cons, List.flatten_nil, List.cons_append, List.nil_append, List.append_nil, List.append_assoc])
    refine ⟨a_57, dx_58, H0, joiner_59, rfl, Oc.left, h60, ?_⟩
    refine Oc.retX (mdI (mo_Joiner ad)) fun v_ H H0 L_62 O e_ d_ => ?_
    replace hp_a_2 := e_.l hp_a_2
    replace ha_p_22 := mA (mL mI) e_ ha_p_22
    replace eB := eB.trans e_
    obtain ⟨rfl, h61⟩ := d_
    refine ⟨rfl, ?_⟩
    obtain ⟨dx_63, p_64, rfl⟩ := h61
    replace O : Own H0 H [(a_57, .ins ad.c_Joiner dx_63 [("tag", (ov V.int joiner_59.tag)), ("due", .int joiner_59.due), ("joined", .int joiner_59.joined), ("kept", .ref p_64), ("broken_tag", (ov V.int joiner_59.broken_tag))]), (dx_63, .own a_57), (p_64, .lst (List.map V.int joiner_59.kept)), (a_49, .ins ad.c_Joiner dx_55 [("tag", (ov V.int joiner_51.tag)), ("due", .int joiner_51.due), ("joined", .int joiner_51.joined), ("kept", .ref p_56), ("broken_tag", (ov V.int joiner_51.broken_tag))]), (dx_55, .own a_49), (p_56, .lst (List.map V.int joiner_51.kept)), (p_22, .lst vs_23)] := Own.cv O (by first | with_reducible rfl | simp only [List.map_nil, List.flatten_cons, List.flatten_nil, List.cons_append, List.nil_append, List.append_nil, List.append_assoc])
    refine x_nil ?_
    refine ⟨_, _, rfl, ?_⟩
    -- 108
    refine o_seq ?_
    refine o_asg ?_
    refine x_nil ?_
    refine n_lstV O (by show 0 ≤ sizeLine; decide) fun p_65 H O => ?_
    have ha_p_65 : All2 ((rU (rT2 rS rI) (rT3 rS rI (rL rI))) (H0)) ([] : List V) (([] : List ((Str × Int) ⊕ (Str × Int × (List Int)))) : List ((Str × Int) ⊕ (Str × Int × (List Int)))) := .nil
    -- 109
    refine o_seq ?_
    refine o_asg ?_
    refine x_nil ?_
    refine n_lstV O (by show 0 ≤ sizeLine; decide) fun p_66 H O => ?_
    have ha_p_66 : All2 ((rU (rT2 rS rI) (rT3 rS rI (rL rI))) (H0)) ([] : List V) (([] : List ((Str × Int) ⊕ (Str × Int × (List Int)))) : List ((Str × Int) ⊕ (Str × Int × (List Int)))) := .nil
    -- 110
    refine o_seq ?_
    refine o_asg ?_
    refine o_c ?_
    -- 111
    refine o_seq ?_
    refine o_asg ?_
    refine o_c ?_
    -- 112
    refine o_seq ?_
    refine o_for ?_
    obtain ⟨rg_67, h68, hm⟩ := bndE hm
    refine ⟨_, rfl, ?_⟩
    refine x_nil ?_
    obtain ⟨c1, c2, rfl⟩ := rng1E h68
    obtain ⟨out_98, h94, h95⟩ := bndE hm
    refine ⟨_, rfl, c1, c2, q_forR (fun r σ H => ∃ (R_ : Hp) (p_71 : Addr) (told_69 : List ((Str × Int) ⊕ (Str × Int × (List Int)))) (due_72 : List ((Str × Int) ⊕ (Str × Int × (List Int)))) (at_74 : Int) (lost_75 : Int) (joiner_77 : S_Joiner) (other_80 : S_Joiner) (vs_70 : List V) (vs_73 : List V) (B_78 : List Cell) (B_81 : List Cell) (j_76 : Option V) (j_83 : Option V) (j_84 : Option V) (j_85 : Option V) (j_86 : Option V) (j_87 : Option V), σ = [some (.ref a_2), some (.int many_14), some (.int law_dr_15), some (.ref p_22), some (.int share_32), some (.int law_dr_34), some (.int wide_48), some (.ref p_71), some (.ref p_66), some (.int at_74), some (.int lost_75), j_76, none, some (.ref a_49), some (.ref a_57), j_83, j_84, j_85, j_86, j_87] ∧ Ex H0 R_ ∧ Own R_ H ((p_22, .lst vs_23) :: ((p_71, .lst vs_70) :: ((p_66, .lst vs_73) :: (B_78 ++ (B_81 ++ []))))) ∧ All2 ((rU (rT2 rS rI) (rT3 rS rI (rL rI))) (R_)) vs_70 told_69 ∧ All2 ((rU (rT2 rS rI) (rT3 rS rI (rL rI))) (R_)) vs_73 due_72 ∧ (o_Joiner ad) (R_) a_49 B_78 joiner_77 ∧ (o_Joiner ad) (R_) a_57 B_81 other_80 ∧ loopF (fun k_97 s => m_law_L1 script_1 law_dr_15 l_20 share_32 law_dr_34 wide_48 k_97 s.1 s.2.1 s.2.2.1 s.2.2.2.1 s.2.2.2.2.1 s.2.2.2.2.2) r (told_69, due_72, at_74, lost_75, joiner_77, other_80) = some out_98) ⟨H0, p_65, ([] : List ((Str × Int) ⊕ (Str × Int × (List Int)))), ([] : List ((Str × Int) ⊕ (Str × Int × (List Int)))), _, _, _, _, (([] : List V)), (([] : List V)), ((a_49, .ins ad.c_Joiner dx_55 [("tag", (ov V.int joiner_51.tag)), ("due", .int joiner_51.due), ("joined", .int joiner_51.joined), ("kept", .ref p_56), ("broken_tag", (ov V.int joiner_51.broken_tag))]) :: (dx_55, .own a_49) :: ((p_56, .lst (List.map V.int joiner_51.kept)) :: [])), ((a_57, .ins ad.c_Joiner dx_63 [("tag", (ov V.int joiner_59.tag)), ("due", .int joiner_59.due), ("joined", .int joiner_59.joined), ("kept", .ref p_64), ("broken_tag", (ov V.int joiner_59.broken_tag))]) :: (dx_63, .own a_57) :: ((p_64, .lst (List.map V.int joiner_59.kept)) :: [])), _, _, _, _, _, _, rfl, Ex.refl _, (Own.cv (O.sel (L' := [(p_22, .lst vs_23), (p_65, .lst ([] : List V)), (p_66, .lst ([] : List V)), (a_49, .ins ad.c_Joiner dx_55 [("tag", (ov V.int joiner_51.tag)), ("due", .int joiner_51.due), ("joined", .int joiner_51.joined), ("kept", .ref p_56), ("broken_tag", (ov V.int joiner_51.broken_tag))]), (dx_55, .own a_49), (p_56, .lst (List.map V.int joiner_51.kept)), (a_57, .ins ad.c_Joiner dx_63 [("tag", (ov V.int joiner_59.tag)), ("due", .int joiner_59.due), ("joined", .int joiner_59.joined), ("kept", .ref p_64), ("broken_tag", (ov V.int joiner_59.broken_tag))]), (dx_63, .own a_57), (p_64, .lst (List.map V.int joiner_59.kept))]) [8, 1, 0, 5, 6, 7, 2, 3, 4] (by decide) rfl) (by first | with_reducible rfl | simp only [List.map_nil, List.flatten_cons, List.flatten_nil, List.cons_append, List.nil_append, List.append_nil, List.append_assoc])), ha_p_65, ha_p_66, ⟨dx_55, p_56, rfl⟩, ⟨dx_63, p_64, rfl⟩, h94⟩ ?_ ?_⟩
    · rintro k_97 r σ H ⟨H0, p_71, told_69, due_72, at_74, lost_75, joiner_77, other_80, vs_70, vs_73, B_78, B_81, j_76, j_83, j_84, j_85, j_86, j_87, rfl, eL98, O, ha_p_71, ha_p_66, h79, h82, hL⟩
      replace hp_a_2 := eL98.l hp_a_2
      replace ha_p_22 := mA (mL mI) eL98 ha_p_22
      replace eB := eB.trans eL98
      obtain ⟨s_, hm, h96⟩ := loopF_cons hL
      replace hm : m_law_L1 script_1 law_dr_15 l_20 share_32 law_dr_34 wide_48 k_97 told_69 due_72 at_74 lost_75 joiner_77 other_80 = some s_ := hm
      unfold m_law_L1 at hm
      obtain ⟨dx_101, p_102, rfl⟩ := h79
      obtain ⟨dx_103, p_104, rfl⟩ := h82
      replace O : Own H0 H [(p_22, .lst vs_23), (p_71, .lst vs_70), (p_66, .lst vs_73), (a_49, .ins ad.c_Joiner dx_101 [("tag", (ov V.int joiner_77.tag)), ("due", .int joiner_77.due), ("joined", .int joiner_77.joined), ("kept", .ref p_102), ("broken_tag", (ov V.int joiner_77.broken_tag))]), (dx_101, .own a_49), (p_102, .lst (List.map V.int joiner_77.kept)), (a_57, .ins ad.c_Joiner dx_103 [("tag", (ov V.int other_80.tag)), ("due", .int other_80.due), ("joined", .int other_80.joined), ("kept", .ref p_104), ("broken_tag", (ov V.int other_80.broken_tag))]), (dx_103, .own a_57), (p_104, .lst (List.map V.int other_80.kept))] := Own.cv O (by first | with_reducible rfl | simp only [List.map_nil, List.flatten_cons, List.flatten_nil, List.cons_append, List.nil_append, List.append_nil, List.append_assoc])
      -- 113
      refine o_seq ?_
      refine o_asg ?_
      refine ⟨_, rfl, _, rfl, _, _, rfl, rfl, _, _, rfl, rfl, (by show (0 : Int) < 256; decide), ?_⟩
      obtain ⟨tag_105, h106, hm⟩ := ltvE hm
      refine a_set (congrArg V.int h106) ?_
      -- 114
      refine o_seq ?_
      refine o_asg ?_
      obtain ⟨e_107, h108, hm⟩ := bndE hm
      refine ⟨_, rfl, _, rfl, _, rfl, ?_⟩
      refine k_ixA (SqL.of (O.mem (List.Mem.head _))) ha_p_22 h108 fun w_109 h110 => ?_
      obtain ⟨p_111, rfl, hp_p_111⟩ := fI h110
      refine x_nil ?_
      refine n_list O (SqL.of (O.ex _ _ hp_p_111)) fun p_112 H O => ?_
      obtain ⟨cut_113, h114, hm⟩ := bndOE hm
      refine x_nil ?_
      have Oc : Own H0 H ([] ++ [(p_112, .lst (List.map V.int e_107)), (p_22, .lst vs_23), (p_71, .lst vs_70), (p_66, .lst vs_73), (a_49, .ins ad.c_Joiner dx_101 [("tag", (ov V.int joiner_77.tag)), ("due", .int joiner_77.due), ("joined", .int joiner_77.joined), ("kept", .ref p_102), ("broken_tag", (ov V.int joiner_77.broken_tag))]), (dx_101, .own a_49), (p_102, .lst (List.map V.int joiner_77.kept)), (a_57, .ins ad.c_Joiner dx_103 [("tag", (ov V.int other_80.tag)), ("due", .int other_80.due), ("joined", .int other_80.joined), ("kept", .ref p_104), ("broken_tag", (ov V.int other_80.broken_tag))]), (dx_103, .own a_57), (p_104, .lst (List.map V.int other_80.kept))]) := Own.cv O (by first | with_reducible rfl | simp only [List.map_nil, List.flatten_cons, List.flatten_nil, List.cons_append, List.nil_append, List.append_nil, List.append_assoc])
      refine ⟨tag_105, e_107, p_112, H0, (.ok cut_113), rfl, Oc.left, (Own.inC Oc (List.Mem.head _)), h114, ?_⟩
      refine RetR.ok ?_
      refine Oc.retX (mdP (mL (mL mI))) fun w_115 H H0 L_116 O e_ d_ => ?_
      replace hp_a_2 := e_.l hp_a_2
      replace ha_p_22 := mA (mL mI) e_ ha_p_22
      replace ha_p_71 := mA (mU (mT2 mS mI) (mT3 mS mI (mL mI))) e_ ha_p_71
      replace ha_p_66 := mA (mU (mT2 mS mI) (mT3 mS mI (mL mI))) e_ ha_p_66
      replace hp_p_111 := e_ _ _ hp_p_111
      replace eB := eB.trans e_
      replace eL98 := eL98.trans e_
      obtain ⟨rfl, h117⟩ := d_
      replace O : Own H0 H [(p_112, .lst (List.map V.int e_107)), (p_22, .lst vs_23), (p_71, .lst vs_70), (p_66, .lst vs_73), (a_49, .ins ad.c_Joiner dx_101 [("tag", (ov V.int joiner_77.tag)), ("due", .int joiner_77.due), ("joined", .int joiner_77.joined), ("kept", .ref p_102), ("broken_tag", (ov V.int joiner_77.broken_tag))]), (dx_101, .own a_49), (p_102, .lst (List.map V.int joiner_77.kept)), (a_57, .ins ad.c_Joiner dx_103 [("tag", (ov V.int other_80.tag)), ("due", .int other_80.due), ("joined", .int other_80.joined), ("kept", .ref p_104), ("broken_tag", (ov V.int other_80.broken_tag))]), (dx_103, .own a_57), (p_104, .lst (List.map V.int other_80.kept))] := Own.cv O (by first | with_reducible rfl | simp only [List.map_nil, List.flatten_cons, List.flatten_nil, List.cons_append, List.nil_append, List.append_nil, List.append_assoc])
      obtain ⟨p_118, rfl⟩ := rL_ref h117
      have hn_p_118 := h117
      -- 115
      refine o_seq ?_
      refine o_asg ?_
      refine o_c ?_
      -- 116
      refine o_seq ?_
      refine o_for ?_
      refine ⟨_, rfl, ?_⟩
      obtain ⟨vs_119, h120, h121⟩ := rL_at hn_p_118
      obtain ⟨out_146, h142, h143⟩ := bndE hm
      refine ⟨_, rfl, ⟨_, (SqL.of (O.ex _ _ h120))⟩, q_forA (b := fun _ _ => False) (k := fun _ _ => False) h121 (fun r σ H => ∃ (R_ : Hp) (p_124 : Addr) (told_122 : List ((Str × Int) ⊕ (Str × Int × (List Int)))) (at_125 : Int) (lost_126 : Int) (joiner_127 : S_Joiner) (other_130 : S_Joiner) (came_133 : Int) (vs_123 : List V) (B_128 : List Cell) (B_131 : List Cell) (j_134 : Option V) (j_135 : Option V), σ = [some (.ref a_2), some (.int many_14), some (.int law_dr_15), some (.ref p_22), some (.int share_32), some (.int law_dr_34), some (.int wide_48), some (.ref p_124), some (.ref p_66), some (.int at_125), some (.int lost_126), some (.int k_97), none, some (.ref a_49), some (.ref a_57), some (.int tag_105), some (.ref p_118), some (.int came_133), j_134, j_135] ∧ Ex H0 R_ ∧ Own R_ H ((p_22, .lst vs_23) :: ((p_124, .lst vs_123) :: ((p_66, .lst vs_73) :: (B_128 ++ (B_131 ++ []))))) ∧ All2 ((rU (rT2 rS rI) (rT3 rS rI (rL rI))) (R_)) vs_123 told_122 ∧ (o_Joiner ad) (R_) a_49 B_128 joiner_127 ∧ (o_Joiner ad) (R_) a_57 B_131 other_130 ∧ loopF (fun piece_145 s => m_law_L2 script_1 law_dr_15 share_32 law_dr_34 wide_48 piece_145 s.1 s.2.1 s.2.2.1 s.2.2.2.1 s.2.2.2.2.1 s.2.2.2.2.2) r (told_122, at_125, lost_126, joiner_127, other_130, came_133) = some out_146) ⟨H0, p_71, _, _, _, _, _, _, (vs_70), ((a_49, .ins ad.c_Joiner dx_101 [("tag", (ov V.int joiner_77.tag)), ("due", .int joiner_77.due), ("joined", .int joiner_77.joined), ("kept", .ref p_102), ("broken_tag", (ov V.int joiner_77.broken_tag))]) :: (dx_101, .own a_49) :: ((p_102, .lst (List.map V.int joiner_77.kept)) :: [])), ((a_57, .ins ad.c_Joiner dx_103 [("tag", (ov V.int other_80.tag)), ("due", .int other_80.due), ("joined", .int other_80.joined), ("kept", .ref p_104), ("broken_tag", (ov V.int other_80.broken_tag))]) :: (dx_103, .own a_57) :: ((p_104, .lst (List.map V.int other_80.kept)) :: [])), _, _, rfl, Ex.refl _, (Own.cv (O.sel (L' := [(p_22, .lst vs_23), (p_71, .lst vs_70), (p_66, .lst vs_73), (a_49, .ins ad.c_Joiner dx_101 [("tag", (ov V.int joiner_77.tag)), ("due", .int joiner_77.due), ("joined", .int joiner_77.joined), ("kept", .ref p_102), ("broken_tag", (ov V.int joiner_77.broken_tag))]), (dx_101, .own a_49), (p_102, .lst (List.map V.int joiner_77.kept)), (a_57, .ins ad.c_Joiner dx_103 [("tag", (ov V.int other_80.tag)), ("due", .int other_80.due), ("joined", .int other_80.joined), ("kept", .ref p_104), ("broken_tag", (ov V.int other_80.broken_tag))]), (dx_103, .own a_57), (p_104, .lst (List.map V.int other_80.kept))]) [1, 2, 3, 4, 5, 6, 7, 8, 9] (by decide) rfl) (by first | with_reducible rfl | simp only [List.map_nil, List.flatten_cons, List.flatten_nil, List.cons_append, List.nil_append, List.append_nil, List.append_assoc])), ha_p_71, ⟨dx_101, p_102, rfl⟩, ⟨dx_103, p_104, rfl⟩, h142⟩ (by rintro r σ H ⟨H0, p_124, told_122, at_125, lost_126, joiner_127, other_130, came_133, vs_123, B_128, B_131, j_134, j_135, rfl, eJ_, O, ha_p_124, h129, h132, hL⟩; exact (SqL.of (O.ex _ _ (eJ_ _ _ h120)))) ?_ ?_⟩
      · rintro piece_145 w_147 r σ H h148 ⟨H0, p_124, told_122, at_125, lost_126, joiner_127, other_130, came_133, vs_123, B_128, B_131, j_134, j_135, rfl, eL146, O, ha_p_124, h129, h132, hL⟩
        replace hp_a_2 := eL146.l hp_a_2
        replace hn_p_118 := (mL (mL mI)) _ _ _ _ eL146 hn_p_118
        replace ha_p_22 := mA (mL mI) eL146 ha_p_22
        replace ha_p_66 := mA (mU (mT2 mS mI) (mT3 mS mI (mL mI))) eL146 ha_p_66
        replace eB := eB.trans eL146
        replace eL98 := eL98.trans eL146
        obtain ⟨s_, hm, h144⟩ := loopF_cons hL
        replace hm : m_law_L2 script_1 law_dr_15 share_32 law_dr_34 wide_48 piece_145 told_122 at_125 lost_126 joiner_127 other_130 came_133 = some s_ := hm
        unfold m_law_L2 at hm
        replace h148 := (mL mI) _ _ _ _ eL146 h148
        obtain ⟨p_149, rfl, hp_p_149⟩ := fI h148
        obtain ⟨dx_150, p_151, rfl⟩ := h129
        obtain ⟨dx_152, p_153, rfl⟩ := h132
        replace O : Own H0 H [(p_22, .lst vs_23), (p_124, .lst vs_123), (p_66, .lst vs_73), (a_49, .ins ad.c_Joiner dx_150 [("tag", (ov V.int joiner_127.tag)), ("due", .int joiner_127.due), ("joined", .int joiner_127.joined), ("kept", .ref p_151), ("broken_tag", (ov V.int joiner_127.broken_tag))]), (dx_150, .own a_49), (p_151, .lst (List.map V.int joiner_127.kept)), (a_57, .ins ad.c_Joiner dx_152 [("tag", (ov V.int other_130.tag)), ("due", .int other_130.due), ("joined", .int other_130.joined), ("kept", .ref p_153), ("broken_tag", (ov V.int other_130.broken_tag))]), (dx_152, .own a_57), (p_153, .lst (List.map V.int other_130.kept))] := Own.cv O (by first | with_reducible rfl | simp only [List.map_nil, List.flatten_cons, List.flatten_nil, List.cons_append, List.nil_append, List.append_nil, List.append_assoc])
        -- 117
        refine o_seq ?_
        refine o_asg ?_
        obtain ⟨law_dr_156, h157, hm⟩ := bndE hm
        refine x_orVJ (c := decide (law_dr_156 < (share_32 - (3 : Int)))) (e := (decide (law_dr_34 ≤ at_125) && decide (at_125 < (law_dr_34 + wide_48)))) (d := (decide (law_dr_156 < (share_32 - (3 : Int))) || (decide (law_dr_34 ≤ at_125) && decide (at_125 < (law_dr_34 + wide_48))))) (fun H => ∃ (R_ : Hp), Ex H0 R_ ∧ Own R_ H [(p_22, .lst vs_23), (p_124, .lst vs_123), (p_66, .lst vs_73), (a_49, .ins ad.c_Joiner dx_150 [("tag", (ov V.int joiner_127.tag)), ("due", .int joiner_127.due), ("joined", .int joiner_127.joined), ("kept", .ref p_151), ("broken_tag", (ov V.int joiner_127.broken_tag))]), (dx_150, .own a_49), (p_151, .lst (List.map V.int joiner_127.kept)), (a_57, .ins ad.c_Joiner dx_152 [("tag", (ov V.int other_130.tag)), ("due", .int other_130.due), ("joined", .int other_130.joined), ("kept", .ref p_153), ("broken_tag", (ov V.int other_130.broken_tag))]), (dx_152, .own a_57), (p_153, .lst (List.map V.int other_130.kept))]) (fun Q1 k1 => ?_) (fun h154 => ⟨by rw [h154]; rfl, fun H hJ Q2 k2 => ?_⟩) (fun h154 => by rw [h154]; rfl) (fun H hJ => ?_)
        · have eJ155 : Ex H0 H0 := Ex.refl _
          refine ⟨_, rfl, _, rfl, _, _, rfl, rfl, ?_⟩
          refine o_cons ?_
          refine o_c ?_
          refine x_nil ?_
          refine ⟨_, _, _, _, law_dr_156, rfl, (O.ex.l hp_a_2), h157, ?_⟩
          refine O.retV fun H O => ?_
          refine ⟨_, rfl, _, _, rfl, rfl, _, _, rfl, rfl, ?_⟩
          exact k1 _ ⟨H0, eJ155, O⟩
        · obtain ⟨H0, eJ155, O⟩ := hJ
          replace hp_a_2 := eJ155.l hp_a_2
          replace hn_p_118 := (mL (mL mI)) _ _ _ _ eJ155 hn_p_118
          replace ha_p_22 := mA (mL mI) eJ155 ha_p_22
          replace ha_p_124 := mA (mU (mT2 mS mI) (mT3 mS mI (mL mI))) eJ155 ha_p_124
          replace ha_p_66 := mA (mU (mT2 mS mI) (mT3 mS mI (mL mI))) eJ155 ha_p_66
          replace hp_p_149 := eJ155 _ _ hp_p_149
          replace eB := eB.trans eJ155
          replace eL98 := eL98.trans eJ155
          replace eL146 := eL146.trans eJ155
          refine x_chain (x := .int law_dr_34) (y := .int at_125) (z := .int (law_dr_34 + wide_48)) (c := decide (law_dr_34 ≤ at_125)) (e := decide (at_125 < (law_dr_34 + wide_48))) (d := (decide (law_dr_34 ≤ at_125) && decide (at_125 < (law_dr_34 + wide_48)))) O (fun Q1 k1 => ?_) (fun H O Q1 k1 => ?_) (fun _ _ k1 => ⟨_, _, rfl, rfl, k1⟩) (fun h158 => ⟨by rw [h158]; rfl, fun H O Q1 k1 => ?_⟩) (fun _ _ k1 => ⟨_, _, rfl, rfl, k1⟩) (fun h158 => by rw [h158]; rfl) (fun H O => ?_)
          · refine ⟨_, rfl, ?_⟩
            exact k1 _ O
          · refine ⟨_, rfl, ?_⟩
            exact k1 _ O
          · refine ⟨_, rfl, _, rfl, _, _, rfl, rfl, ?_⟩
            exact k1 _ O
          exact k2 _ ⟨H0, eJ155, O⟩
        obtain ⟨H0, eJ155, O⟩ := hJ
        replace hp_a_2 := eJ155.l hp_a_2
        replace hn_p_118 := (mL (mL mI)) _ _ _ _ eJ155 hn_p_118
        replace ha_p_22 := mA (mL mI) eJ155 ha_p_22
        replace ha_p_124 := mA (mU (mT2 mS mI) (mT3 mS mI (mL mI))) eJ155 ha_p_124
        replace ha_p_66 := mA (mU (mT2 mS mI) (mT3 mS mI (mL mI))) eJ155 ha_p_66
        replace hp_p_149 := eJ155 _ _ hp_p_149
        replace eB := eB.trans eJ155
        replace eL98 := eL98.trans eJ155
        replace eL146 := eL146.trans eJ155
        obtain ⟨gone_159, h160, hm⟩ := ltvE hm
        refine a_set (congrArg V.bl h160) ?_
        -- 118
        refine o_seq ?_
        refine o_ifs ?_
        refine x_and (c := gone_159) (e := decide (lost_126 < (254 : Int))) (d := (gone_159 && decide (lost_126 < (254 : Int)))) O (fun Q1 k1 => ?_) (fun h161 => ⟨by rw [h161]; rfl, fun H O Q2 k2 => ?_⟩) (fun h161 => by rw [h161]; rfl) (fun H O => ?_)
        · refine ⟨_, rfl, _, rfl, ?_⟩
          exact k1 _ O
        · refine ⟨_, rfl, _, _, rfl, rfl, _, rfl, ?_⟩
          exact k2 _ O
        refine iteS (c := (gone_159 && decide (lost_126 < (254 : Int)))) (fun h162 => ?_) (fun h162 => ?_)
        · replace hm := ifT hm h162
          -- 119
          refine o_asg ?_
          refine ⟨_, rfl, _, _, rfl, rfl, ?_⟩
          -- 126
          refine o_asg ?_
          refine ⟨_, rfl, _, _, rfl, rfl, ?_⟩
          have Oz := O
          obtain rfl := Option.some.inj hm
          exact ⟨H0, p_124, _, _, _, _, _, _, (vs_123), ((a_49, .ins ad.c_Joiner dx_150 [("tag", (ov V.int joiner_127.tag)), ("due", .int joiner_127.due), ("joined", .int joiner_127.joined), ("kept", .ref p_151), ("broken_tag", (ov V.int joiner_127.broken_tag))]) :: (dx_150, .own a_49) :: ((p_151, .lst (List.map V.int joiner_127.kept)) :: [])), ((a_57, .ins ad.c_Joiner dx_152 [("tag", (ov V.int other_130.tag)), ("due", .int other_130.due), ("joined", .int other_130.joined), ("kept", .ref p_153), ("broken_tag", (ov V.int other_130.broken_tag))]) :: (dx_152, .own a_57) :: ((p_153, .lst (List.map V.int other_130.kept)) :: [])), _, _, rfl, eL146, (Own.cv Oz (by first | with_reducible rfl | simp only [List.map_nil, List.flatten_cons, List.flatten_nil, List.cons_append, List.nil_append, List.append_nil, List.append_assoc])), ha_p_124, ⟨dx_150, p_151, rfl⟩, ⟨dx_152, p_153, rfl⟩, h144⟩
        · replace hm := ifF hm h162
          -- 121
          refine o_seq ?_
          refine o_asg ?_
          refine o_c ?_
          -- 122
          refine o_seq ?_
          refine o_asg ?_
          refine ⟨_, rfl, _, _, rfl, rfl, ?_⟩
          obtain ⟨came_163, h164, hm⟩ := ltvE hm
          refine a_set (congrArg V.int h164) ?_
          -- 123
          refine o_seq ?_
          refine o_ifs ?_
          obtain ⟨⟨joiner_165, law_is_166⟩, h167, hm⟩ := bndE hm
          refine ⟨_, rfl, _, rfl, ?_⟩
          refine x_nil ?_
          have Oc : Own H0 H ((((a_57, .ins ad.c_Joiner dx_152 [("tag", (ov V.int other_130.tag)), ("due", .int other_130.due), ("joined", .int other_130.joined), ("kept", .ref p_153), ("broken_tag", (ov V.int other_130.broken_tag))]) :: (dx_152, .own a_57) :: ((p_153, .lst (List.map V.int other_130.kept)) :: [])) ++ []) ++ [(p_22, .lst vs_23), (p_124, .lst vs_123), (p_66, .lst vs_73), (a_49, .ins ad.c_Joiner dx_150 [("tag", (ov V.int joiner_127.tag)), ("due", .int joiner_127.due), ("joined", .int joiner_127.joined), ("kept", .ref p_151), ("broken_tag", (ov V.int joiner_127.broken_tag))]), (dx_150, .own a_49), (p_151, .lst (List.map V.int joiner_127.kept))]) := Own.cv (O.sel (L' := [(a_57, .ins ad.c_Joiner dx_152 [("tag", (ov V.int other_130.tag)), ("due", .int other_130.due), ("joined", .int other_130.joined), ("kept", .ref p_153), ("broken_tag", (ov V.int other_130.broken_tag))]), (dx_152, .own a_57), (p_153, .lst (List.map V.int other_130.kept)), (p_22, .lst vs_23), (p_124, .lst vs_123), (p_66, .lst vs_73), (a_49, .ins ad.c_Joiner dx_150 [("tag", (ov V.int joiner_127.tag)), ("due", .int joiner_127.due), ("joined", .int joiner_127.joined), ("kept", .ref p_151), ("broken_tag", (ov V.int joiner_127.broken_tag))]), (dx_150, .own a_49), (p_151, .lst (List.map V.int joiner_127.kept))]) [6, 7, 8, 0, 1, 2, 3, 4, 5] (by decide) rfl) (by first | with_reducible rfl | simp only [List.map_nil, List.flatten_cons, List.flatten_nil, List.cons_append, List.nil_append, List.append_nil, List.append_assoc])
          refine ⟨other_130, a_57, ((a_57, .ins ad.c_Joiner dx_152 [("tag", (ov V.int other_130.tag)), ("due", .int other_130.due), ("joined", .int other_130.joined), ("kept", .ref p_153), ("broken_tag", (ov V.int other_130.broken_tag))]) :: (dx_152, .own a_57) :: ((p_153, .lst (List.map V.int other_130.kept)) :: [])), law_dr_15, H0, (joiner_165, law_is_166), rfl, Oc.left, ⟨dx_152, p_153, rfl⟩, h167, ?_⟩
          refine Oc.retX (mdX (mo_Joiner ad) mdV) fun w_168 H H0 L_169 O e_ d_ => ?_
          replace hp_a_2 := e_.l hp_a_2
          replace hn_p_118 := (mL (mL mI)) _ _ _ _ e_ hn_p_118
          replace ha_p_22 := mA (mL mI) e_ ha_p_22
          replace ha_p_124 := mA (mU (mT2 mS mI) (mT3 mS mI (mL mI))) e_ ha_p_124
          replace ha_p_66 := mA (mU (mT2 mS mI) (mT3 mS mI (mL mI))) e_ ha_p_66
          replace hp_p_149 := e_ _ _ hp_p_149
          replace eB := eB.trans e_
          replace eL98 := eL98.trans e_
          replace eL146 := eL146.trans e_
          obtain ⟨L_170, L_172, rfl, h171, ⟨rfl, rfl⟩⟩ := d_
          obtain ⟨dx_173, p_174, rfl⟩ := h171
          replace O : Own H0 H [(a_57, .ins ad.c_Joiner dx_173 [("tag", (ov V.int joiner_165.tag)), ("due", .int joiner_165.due), ("joined", .int joiner_165.joined), ("kept", .ref p_174), ("broken_tag", (ov V.int joiner_165.broken_tag))]), (dx_173, .own a_57), (p_174, .lst (List.map V.int joiner_165.kept)), (p_22, .lst vs_23), (p_124, .lst vs_123), (p_66, .lst vs_73), (a_49, .ins ad.c_Joiner dx_150 [("tag", (ov V.int joiner_127.tag)), ("due", .int joiner_127.due), ("joined", .int joiner_127.joined), ("kept", .ref p_151), ("broken_tag", (ov V.int joiner_127.broken_tag))]), (dx_150, .own a_49), (p_151, .lst (List.map V.int joiner_127.kept))] := Own.cv O (by first | with_reducible rfl | simp only [List.map_nil, List.flatten_cons, List.flatten_nil, List.cons_append, List.nil_append, List.append_nil, List.append_assoc])
          refine ⟨_, rfl, ?_⟩
          refine iteS (c := (!law_is_166)) (fun h175 => ?_) (fun h175 => ?_)
          · replace hm := ifT hm h175
            -- 124
            refine o_ret ?_
            refine o_c ?_
            obtain rfl := Option.some.inj hm
            obtain rfl := contRt h144
            obtain rfl := floRt h143
            obtain rfl := contRt h96
            obtain rfl := finRt h95
            exact RetV.goR k O eB
          · replace hm := ifF hm h175
            refine o_next ?_
            -- 125
            refine o_asg ?_
            refine ⟨_, rfl, _, rfl, a_49, dx_150, [("tag", (ov V.int joiner_127.tag)), ("due", .int joiner_127.due), ("joined", .int joiner_127.joined), ("kept", .ref p_151), ("broken_tag", (ov V.int joiner_127.broken_tag))], rfl, (O.mem (List.Mem.tail _ (List.Mem.tail _ (List.Mem.tail _ (List.Mem.tail _ (List.Mem.tail _ (List.Mem.tail _ (List.Mem.head _)))))))), (lk_skip (by decide) (lk_skip (by decide) (lk_skip (by decide) (lk_skip (by decide) (lk_skip (by decide) lk_nil))))), _, rfl, ?_⟩
            refine x_nil ?_
            obtain ⟨⟨self_176, take_177⟩, h178, hm⟩ := bndOE hm
            have Oc : Own H0 H ((((a_49, .ins ad.c_Joiner dx_150 [("tag", (ov V.int joiner_127.tag)), ("due", .int joiner_127.due), ("joined", .int joiner_127.joined), ("kept", .ref p_151), ("broken_tag", (ov V.int joiner_127.broken_tag))]) :: (dx_150, .own a_49) :: ((p_151, .lst (List.map V.int joiner_127.kept)) :: [])) ++ []) ++ [(a_57, .ins ad.c_Joiner dx_173 [("tag", (ov V.int joiner_165.tag)), ("due", .int joiner_165.due), ("joined", .int joiner_165.joined), ("kept", .ref p_174), ("broken_tag", (ov V.int joiner_165.broken_tag))]), (dx_173, .own a_57), (p_174, .lst (List.map V.int joiner_165.kept)), (p_22, .lst vs_23), (p_124, .lst vs_123), (p_66, .lst vs_73)]) := Own.cv (O.sel (L' := [(a_49, .ins ad.c_Joiner dx_150 [("tag", (ov V.int joiner_127.tag)), ("due", .int joiner_127.due), ("joined", .int joiner_127.joined), ("kept", .ref p_151), ("broken_tag", (ov V.int joiner_127.broken_tag))]), (dx_150, .own a_49), (p_151, .lst (List.map V.int joiner_127.kept)), (a_57, .ins ad.c_Joiner dx_173 [("tag", (ov V.int joiner_165.tag)), ("due", .int joiner_165.due), ("joined", .int joiner_165.joined), ("kept", .ref p_174), ("broken_tag", (ov V.int joiner_165.broken_tag))]), (dx_173, .own a_57), (p_174, .lst (List.map V.int joiner_165.kept)), (p_22, .lst vs_23), (p_124, .lst vs_123), (p_66, .lst vs_73)]) [6, 7, 8, 0, 1, 2, 3, 4, 5] (by decide) rfl) (by first | with_reducible rfl | simp only [List.map_nil, List.flatten_cons, List.flatten_nil, List.cons_append, List.nil_append, List.append_nil, List.append_assoc])
            refine ⟨joiner_127, a_49, ((a_49, .ins ad.c_Joiner dx_150 [("tag", (ov V.int joiner_127.tag)), ("due", .int joiner_127.due), ("joined", .int joiner_127.joined), ("kept", .ref p_151), ("broken_tag", (ov V.int joiner_127.broken_tag))]) :: (dx_150, .own a_49) :: ((p_151, .lst (List.map V.int joiner_127.kept)) :: [])), piece_145, p_149, H0, (.ok (self_176, take_177)), rfl, Oc.left, ⟨dx_150, p_151, rfl⟩, (Oc.left.subR _ _ hp_p_149), h178, ?_⟩
            refine RetR.ok ?_
            refine Oc.retX (mdX (mo_Joiner ad) (mdP (mL (mU (mT2 mS mI) (mT3 mS mI (mL mI)))))) fun w_179 H H0 L_180 O e_ d_ => ?_
            replace hp_a_2 := e_.l hp_a_2
            replace hn_p_118 := (mL (mL mI)) _ _ _ _ e_ hn_p_118
            replace ha_p_22 := mA (mL mI) e_ ha_p_22
            replace ha_p_124 := mA (mU (mT2 mS mI) (mT3 mS mI (mL mI))) e_ ha_p_124
            replace ha_p_66 := mA (mU (mT2 mS mI) (mT3 mS mI (mL mI))) e_ ha_p_66
            replace hp_p_149 := e_ _ _ hp_p_149
            replace eB := eB.trans e_
            replace eL98 := eL98.trans e_
            replace eL146 := eL146.trans e_
            obtain ⟨L_182, L_184, rfl, h183, ⟨rfl, h181⟩⟩ := d_
            obtain ⟨dx_185, p_186, rfl⟩ := h183
            replace O : Own H0 H [(a_49, .ins ad.c_Joiner dx_185 [("tag", (ov V.int self_176.tag)), ("due", .int self_176.due), ("joined", .int self_176.joined), ("kept", .ref p_186), ("broken_tag", (ov V.int self_176.broken_tag))]), (dx_185, .own a_49), (p_186, .lst (List.map V.int self_176.kept)), (a_57, .ins ad.c_Joiner dx_173 [("tag", (ov V.int joiner_165.tag)), ("due", .int joiner_165.due), ("joined", .int joiner_165.joined), ("kept", .ref p_174), ("broken_tag", (ov V.int joiner_165.broken_tag))]), (dx_173, .own a_57), (p_174, .lst (List.map V.int joiner_165.kept)), (p_22, .lst vs_23), (p_124, .lst vs_123), (p_66, .lst vs_73)] := Own.cv O (by first | with_reducible rfl | simp only [List.map_nil, List.flatten_cons, List.flatten_nil, List.cons_append, List.nil_append, List.append_nil, List.append_assoc])
            obtain ⟨p_187, rfl⟩ := rL_ref h181
            have hn_p_187 := h181
            obtain ⟨t_188, h189, hm⟩ := bndE hm
            obtain ⟨vs_190, h191, h192⟩ := rL_at hn_p_187
            refine k_catA O (O.mem (List.Mem.tail _ (List.Mem.tail _ (List.Mem.tail _ (List.Mem.tail _ (List.Mem.tail _ (List.Mem.tail _ (List.Mem.tail _ (List.Mem.head _))))))))) ha_p_124 (O.ex _ _ h191) h192 h189 fun p_193 H vs_194 O ha_p_193 => ?_
            -- 126
            refine o_asg ?_
            refine ⟨_, rfl, _, _, rfl, rfl, ?_⟩
            have Oz := O
            obtain rfl := Option.some.inj hm
            exact ⟨H0, p_193, _, _, _, _, _, _, (vs_194), ((a_49, .ins ad.c_Joiner dx_185 [("tag", (ov V.int self_176.tag)), ("due", .int self_176.due), ("joined", .int self_176.joined), ("kept", .ref p_186), ("broken_tag", (ov V.int self_176.broken_tag))]) :: (dx_185, .own a_49) :: ((p_186, .lst (List.map V.int self_176.kept)) :: [])), ((a_57, .ins ad.c_Joiner dx_173 [("tag", (ov V.int joiner_165.tag)), ("due", .int joiner_165.due), ("joined", .int joiner_165.joined), ("kept", .ref p_174), ("broken_tag", (ov V.int joiner_165.broken_tag))]) :: (dx_173, .own a_57) :: ((p_174, .lst (List.map V.int joiner_165.kept)) :: [])), _, _, rfl, eL146, (Own.cv (Oz.sel (L' := [(p_22, .lst vs_23), (p_193, .lst vs_194), (p_66, .lst vs_73), (a_49, .ins ad.c_Joiner dx_185 [("tag", (ov V.int self_176.tag)), ("due", .int self_176.due), ("joined", .int self_176.joined), ("kept", .ref p_186), ("broken_tag", (ov V.int self_176.broken_tag))]), (dx_185, .own a_49), (p_186, .lst (List.map V.int self_176.kept)), (a_57, .ins ad.c_Joiner dx_173 [("tag", (ov V.int joiner_165.tag)), ("due", .int joiner_165.due), ("joined", .int joiner_165.joined), ("kept", .ref p_174), ("broken_tag", (ov V.int joiner_165.broken_tag))]), (dx_173, .own a_57), (p_174, .lst (List.map V.int joiner_165.kept))]) [7, 0, 9, 1, 2, 3, 4, 5, 6] (by decide) rfl) (by first | with_reducible rfl | simp only [List.map_nil, List.flatten_cons, List.flatten_nil, List.cons_append, List.nil_append, List.append_nil, List.append_assoc])), ha_p_193, ⟨dx_185, p_186, rfl⟩, ⟨dx_173, p_174, rfl⟩, h144⟩
      rintro σ H ⟨H0, p_124, told_122, at_125, lost_126, joiner_127, other_130, came_133, vs_123, B_128, B_131, j_134, j_135, rfl, eJ_, O, ha_p_124, h129, h132, hL⟩
      replace hp_a_2 := eJ_.l hp_a_2
      replace hn_p_118 := (mL (mL mI)) _ _ _ _ eJ_ hn_p_118
      replace ha_p_22 := mA (mL mI) eJ_ ha_p_22
      replace ha_p_66 := mA (mU (mT2 mS mI) (mT3 mS mI (mL mI))) eJ_ ha_p_66
      replace eB := eB.trans eJ_
      replace eL98 := eL98.trans eJ_
      obtain rfl := loopF_nil hL
      replace hm := floNx h143
      obtain ⟨dx_195, p_196, rfl⟩ := h129
      obtain ⟨dx_197, p_198, rfl⟩ := h132
      replace O : Own H0 H [(p_22, .lst vs_23), (p_124, .lst vs_123), (p_66, .lst vs_73), (a_49, .ins ad.c_Joiner dx_195 [("tag", (ov V.int joiner_127.tag)), ("due", .int joiner_127.due), ("joined", .int joiner_127.joined), ("kept", .ref p_196), ("broken_tag", (ov V.int joiner_127.broken_tag))]), (dx_195, .own a_49), (p_196, .lst (List.map V.int joiner_127.kept)), (a_57, .ins ad.c_Joiner dx_197 [("tag", (ov V.int other_130.tag)), ("due", .int other_130.due), ("joined", .int other_130.joined), ("kept", .ref p_198), ("broken_tag", (ov V.int other_130.broken_tag))]), (dx_197, .own a_57), (p_198, .lst (List.map V.int other_130.kept))] := Own.cv O (by first | with_reducible rfl | simp only [List.map_nil, List.flatten_cons, List.flatten_nil, List.cons_append, List.nil_append, List.append_nil, List.append_assoc])
      -- 127
      refine o_ifs ?_
      refine ⟨_, rfl, _, rfl, ?_⟩
      refine x_nil ?_
      obtain ⟨vs_199, h200, h201⟩ := rL_at hn_p_118
      refine n_lenA (SqL.of (O.ex _ _ h200)) h201 ?_
      refine k_eqI ?_
      refine ⟨_, rfl, ?_⟩
      refine iteS (c := (decide (came_133 = (List.length cut_113 : Int)))) (fun h202 => ?_) (fun h202 => ?_)
      · replace hm := ifT hm h202
        -- 128
        refine o_drop ?_
        obtain ⟨e_203, h204, hm⟩ := bndE hm
        refine ⟨_, rfl, .inl ⟨rfl, _, (SqL.of (O.mem (List.Mem.tail _ (List.Mem.tail _ (List.Mem.head _)))))⟩, _, rfl, _, rfl, _, rfl, ?_⟩
        refine k_ixA (SqL.of (O.mem (List.Mem.head _))) ha_p_22 h204 fun w_205 h206 => ?_
        obtain ⟨p_207, rfl, hp_p_207⟩ := fI h206
        refine x_nil ?_
        refine n_tup O (by show 3 ≤ sizeLine; decide) fun p_208 H O => ?_
        obtain ⟨H0, O, e_, hp_p_208⟩ := O.frz
        replace hp_a_2 := e_.l hp_a_2
        replace hn_p_118 := (mL (mL mI)) _ _ _ _ e_ hn_p_118
        replace ha_p_22 := mA (mL mI) e_ ha_p_22
        replace ha_p_124 := mA (mU (mT2 mS mI) (mT3 mS mI (mL mI))) e_ ha_p_124
        replace ha_p_66 := mA (mU (mT2 mS mI) (mT3 mS mI (mL mI))) e_ ha_p_66
        replace hp_p_207 := e_ _ _ hp_p_207
        replace eB := eB.trans e_
        replace eL98 := eL98.trans e_
        have hn_p_208 : (rT3 rS rI (rL rI)) (H0) (.ref p_208) ((("whole" : Str), tag_105, e_203) : Str × Int × (List Int)) := ⟨_, _, _, _, rfl, hp_p_208, rfl, rfl, (gI hp_p_207)⟩
        refine x_nil ?_
        obtain ⟨l_209, h210, hm⟩ := bndE hm
        refine k_appA (O.mem (List.Mem.tail _ (List.Mem.tail _ (List.Mem.head _)))) ha_p_66 (fun _ => O.put2) h210 hn_p_208 fun H O ha_p_66 => ?_
        have Oz := O
        obtain rfl := Option.some.inj hm
        exact ⟨H0, p_124, _, _, _, _, _, _, (vs_123), ((vs_73 ++ [.ref p_208])), ((a_49, .ins ad.c_Joiner dx_195 [("tag", (ov V.int joiner_127.tag)), ("due", .int joiner_127.due), ("joined", .int joiner_127.joined), ("kept", .ref p_196), ("broken_tag", (ov V.int joiner_127.broken_tag))]) :: (dx_195, .own a_49) :: ((p_196, .lst (List.map V.int joiner_127.kept)) :: [])), ((a_57, .ins ad.c_Joiner dx_197 [("tag", (ov V.int other_130.tag)), ("due", .int other_130.due), ("joined", .int other_130.joined), ("kept", .ref p_198), ("broken_tag", (ov V.int other_130.broken_tag))]) :: (dx_197, .own a_57) :: ((p_198, .lst (List.map V.int other_130.kept)) :: [])), _, _, _, _, _, _, rfl, eL98, (Own.cv Oz (by first | with_reducible rfl | simp only [List.map_nil, List.flatten_cons, List.flatten_nil, List.cons_append, List.nil_append, List.append_nil, List.append_assoc])), ha_p_124, ha_p_66, ⟨dx_195, p_196, rfl⟩, ⟨dx_197, p_198, rfl⟩, h96⟩
      · replace hm := ifF hm h202
        -- 129
        refine o_ifs ?_
        refine ⟨_, rfl, _, _, rfl, rfl, _, rfl, ?_⟩
        refine iteS (c := decide ((0 : Int) < came_133)) (fun h211 => ?_) (fun h211 => ?_)
        · replace hm := ifT hm h211
          -- 130
          refine o_drop ?_
          refine ⟨_, rfl, .inl ⟨rfl, _, (SqL.of (O.mem (List.Mem.tail _ (List.Mem.tail _ (List.Mem.head _)))))⟩, _, rfl, ?_⟩
          refine x_nil ?_
          refine n_tup O (by show 2 ≤ sizeLine; decide) fun p_212 H O => ?_
          refine x_nil ?_
          obtain ⟨H0, O, e_, hp_p_212⟩ := O.frz
          replace hp_a_2 := e_.l hp_a_2
          replace hn_p_118 := (mL (mL mI)) _ _ _ _ e_ hn_p_118
          replace ha_p_22 := mA (mL mI) e_ ha_p_22
          replace ha_p_124 := mA (mU (mT2 mS mI) (mT3 mS mI (mL mI))) e_ ha_p_124
          replace ha_p_66 := mA (mU (mT2 mS mI) (mT3 mS mI (mL mI))) e_ ha_p_66
          replace eB := eB.trans e_
          replace eL98 := eL98.trans e_
          have hn_p_212 : (rT2 rS rI) (H0) (.ref p_212) (("broken" : Str), tag_105) := ⟨_, _, _, rfl, hp_p_212, rfl, rfl⟩
          obtain ⟨l_213, h214, hm⟩ := bndE hm
          refine k_appA (O.mem (List.Mem.tail _ (List.Mem.tail _ (List.Mem.head _)))) ha_p_66 (fun _ => O.put2) h214 hn_p_212 fun H O ha_p_66 => ?_
          have Oz := O
          obtain rfl := Option.some.inj hm
          exact ⟨H0, p_124, _, _, _, _, _, _, (vs_123), ((vs_73 ++ [.ref p_212])), ((a_49, .ins ad.c_Joiner dx_195 [("tag", (ov V.int joiner_127.tag)), ("due", .int joiner_127.due), ("joined", .int joiner_127.joined), ("kept", .ref p_196), ("broken_tag", (ov V.int joiner_127.broken_tag))]) :: (dx_195, .own a_49) :: ((p_196, .lst (List.map V.int joiner_127.kept)) :: [])), ((a_57, .ins ad.c_Joiner dx_197 [("tag", (ov V.int other_130.tag)), ("due", .int other_130.due), ("joined", .int other_130.joined), ("kept", .ref p_198), ("broken_tag", (ov V.int other_130.broken_tag))]) :: (dx_197, .own a_57) :: ((p_198, .lst (List.map V.int other_130.kept)) :: [])), _, _, _, _, _, _, rfl, eL98, (Own.cv Oz (by first | with_reducible rfl | simp only [List.map_nil, List.flatten_cons, List.flatten_nil, List.cons_append, List.nil_append, List.append_nil, List.append_assoc])), ha_p_124, ha_p_66, ⟨dx_195, p_196, rfl⟩, ⟨dx_197, p_198, rfl⟩, h96⟩
        · replace hm := ifF hm h211
          refine o_next ?_
          have Oz := O
          obtain rfl := Option.some.inj hm
          exact ⟨H0, p_124, _, _, _, _, _, _, (vs_123), (vs_73), ((a_49, .ins ad.c_Joiner dx_195 [("tag", (ov V.int joiner_127.tag)), ("due", .int joiner_127.due), ("joined", .int joiner_127.joined), ("kept", .ref p_196), ("broken_tag", (ov V.int joiner_127.broken_tag))]) :: (dx_195, .own a_49) :: ((p_196, .lst (List.map V.int joiner_127.kept)) :: [])), ((a_57, .ins ad.c_Joiner dx_197 [("tag", (ov V.int other_130.tag)), ("due", .int other_130.due), ("joined", .int other_130.joined), ("kept", .ref p_198), ("broken_tag", (ov V.int other_130.broken_tag))]) :: (dx_197, .own a_57) :: ((p_198, .lst (List.map V.int other_130.kept)) :: [])), _, _, _, _, _, _, rfl, eL98, (Own.cv Oz (by first | with_reducible rfl | simp only [List.map_nil, List.flatten_cons, List.flatten_nil, List.cons_append, List.nil_append, List.append_nil, List.append_assoc])), ha_p_124, ha_p_66, ⟨dx_195, p_196, rfl⟩, ⟨dx_197, p_198, rfl⟩, h96⟩
    rintro σ H ⟨H0, p_71, told_69, due_72, at_74, lost_75, joiner_77, other_80, vs_70, vs_73, B_78, B_81, j_76, j_83, j_84, j_85, j_86, j_87, rfl, eJ_, O, ha_p_71, ha_p_66, h79, h82, hL⟩
    replace hp_a_2 := eJ_.l hp_a_2
    replace ha_p_22 := mA (mL mI) eJ_ ha_p_22
    replace eB := eB.trans eJ_
    obtain rfl := loopF_nil hL
    replace hm := finNx h95
    obtain ⟨dx_215, p_216, rfl⟩ := h79
    obtain ⟨dx_217, p_218, rfl⟩ := h82
    replace O : Own H0 H [(p_22, .lst vs_23), (p_71, .lst vs_70), (p_66, .lst vs_73), (a_49, .ins ad.c_Joiner dx_215 [("tag", (ov V.int joiner_77.tag)), ("due", .int joiner_77.due), ("joined", .int joiner_77.joined), ("kept", .ref p_216), ("broken_tag", (ov V.int joiner_77.broken_tag))]), (dx_215, .own a_49), (p_216, .lst (List.map V.int joiner_77.kept)), (a_57, .ins ad.c_Joiner dx_217 [("tag", (ov V.int other_80.tag)), ("due", .int other_80.due), ("joined", .int other_80.joined), ("kept", .ref p_218), ("broken_tag", (ov V.int other_80.broken_tag))]), (dx_217, .own a_57), (p_218, .lst (List.map V.int other_80.kept))] := Own.cv O (by first | with_reducible rfl | simp only [List.map_nil, List.flatten_cons, List.flatten_nil, List.cons_append, List.nil_append, List.append_nil, List.append_assoc])
    -- 131
    refine o_seq ?_
    refine o_asg ?_
    refine ⟨_, rfl, a_49, dx_215, [("tag", (ov V.int joiner_77.tag)), ("due", .int joiner_77.due), ("joined", .int joiner_77.joined), ("kept", .ref p_216), ("broken_tag", (ov V.int joiner_77.broken_tag))], rfl, (O.mem (List.Mem.tail _ (List.Mem.tail _ (List.Mem.tail _ (List.Mem.head _))))), (lk_skip (by decide) (lk_skip (by decide) (lk_skip (by decide) (lk_skip (by decide) (lk_skip (by decide) lk_nil))))), ?_⟩
    refine x_nil ?_
    obtain ⟨⟨self_219, end_220⟩, h221, hm⟩ := bndE hm
    have Oc : Own H0 H ((((a_49, .ins ad.c_Joiner dx_215 [("tag", (ov V.int joiner_77.tag)), ("due", .int joiner_77.due), ("joined", .int joiner_77.joined), ("kept", .ref p_216), ("broken_tag", (ov V.int joiner_77.broken_tag))]) :: (dx_215, .own a_49) :: ((p_216, .lst (List.map V.int joiner_77.kept)) :: [])) ++ []) ++ [(p_22, .lst vs_23), (p_71, .lst vs_70), (p_66, .lst vs_73), (a_57, .ins ad.c_Joiner dx_217 [("tag", (ov V.int other_80.tag)), ("due", .int other_80.due), ("joined", .int other_80.joined), ("kept", .ref p_218), ("broken_tag", (ov V.int other_80.broken_tag))]), (dx_217, .own a_57), (p_218, .lst (List.map V.int other_80.kept))]) := Own.cv (O.sel (L' := [(a_49, .ins ad.c_Joiner dx_215 [("tag", (ov V.int joiner_77.tag)), ("due", .int joiner_77.due), ("joined", .int joiner_77.joined), ("kept", .ref p_216), ("broken_tag", (ov V.int joiner_77.broken_tag))]), (dx_215, .own a_49), (p_216, .lst (List.map V.int joiner_77.kept)), (p_22, .lst vs_23), (p_71, .lst vs_70), (p_66, .lst vs_73), (a_57, .ins ad.c_Joiner dx_217 [("tag", (ov V.int other_80.tag)), ("due", .int other_80.due), ("joined", .int other_80.joined), ("kept", .ref p_218), ("broken_tag", (ov V.int other_80.broken_tag))]), (dx_217, .own a_57), (p_218, .lst (List.map V.int other_80.kept))]) [3, 4, 5, 0, 1, 2, 6, 7, 8] (by decide) rfl) (by first | with_reducible rfl | simp only [List.map_nil, List.flatten_cons, List.flatten_nil, List.cons_append, List.nil_append, List.append_nil, List.append_assoc])
    refine ⟨joiner_77, a_49, ((a_49, .ins ad.c_Joiner dx_215 [("tag", (ov V.int joiner_77.tag)), ("due", .int joiner_77.due), ("joined", .int joiner_77.joined), ("kept", .ref p_216), ("broken_tag", (ov V.int joiner_77.broken_tag))]) :: (dx_215, .own a_49) :: ((p_216, .lst (List.map V.int joiner_77.kept)) :: [])), H0, (self_219, end_220), rfl, Oc.left, ⟨dx_215, p_216, rfl⟩, h221, ?_⟩
    refine Oc.retX (mdX (mo_Joiner ad) (mdOb (moRowD (mU (mT2 mS mI) (mT3 mS mI (mL mI)))))) fun w_222 H H0 L_223 O e_ d_ => ?_
    replace hp_a_2 := e_.l hp_a_2
    replace ha_p_22 := mA (mL mI) e_ ha_p_22
    replace ha_p_71 := mA (mU (mT2 mS mI) (mT3 mS mI (mL mI))) e_ ha_p_71
    replace ha_p_66 := mA (mU (mT2 mS mI) (mT3 mS mI (mL mI))) e_ ha_p_66
    replace eB := eB.trans e_
    obtain ⟨L_226, L_228, rfl, h227, ⟨a_224, rfl, h225⟩⟩ := d_
    obtain ⟨dx_229, p_230, rfl⟩ := h227
    obtain ⟨vs_231, rfl, ha_a_224⟩ := h225
    replace O : Own H0 H [(a_49, .ins ad.c_Joiner dx_229 [("tag", (ov V.int self_219.tag)), ("due", .int self_219.due), ("joined", .int self_219.joined), ("kept", .ref p_230), ("broken_tag", (ov V.int self_219.broken_tag))]), (dx_229, .own a_49), (p_230, .lst (List.map V.int self_219.kept)), (a_224, .lst vs_231), (p_22, .lst vs_23), (p_71, .lst vs_70), (p_66, .lst vs_73), (a_57, .ins ad.c_Joiner dx_217 [("tag", (ov V.int other_80.tag)), ("due", .int other_80.due), ("joined", .int other_80.joined), ("kept", .ref p_218), ("broken_tag", (ov V.int other_80.broken_tag))]), (dx_217, .own a_57), (p_218, .lst (List.map V.int other_80.kept))] := Own.cv O (by first | with_reducible rfl | simp only [List.map_nil, List.flatten_cons, List.flatten_nil, List.cons_append, List.nil_append, List.append_nil, List.append_assoc])
    -- 132
    refine o_seq ?_
    refine o_ifs ?_
    obtain ⟨c_239, h240, hm⟩ := bndE hm
    refine x_orJ (c := (!true)) (e := c_239) (d := c_239) (fun H => ∃ (R_ : Hp), Ex H0 R_ ∧ Own R_ H [(a_49, .ins ad.c_Joiner dx_229 [("tag", (ov V.int self_219.tag)), ("due", .int self_219.due), ("joined", .int self_219.joined), ("kept", .ref p_230), ("broken_tag", (ov V.int self_219.broken_tag))]), (dx_229, .own a_49), (p_230, .lst (List.map V.int self_219.kept)), (a_224, .lst vs_231), (p_22, .lst vs_23), (p_71, .lst vs_70), (p_66, .lst vs_73), (a_57, .ins ad.c_Joiner dx_217 [("tag", (ov V.int other_80.tag)), ("due", .int other_80.due), ("joined", .int other_80.joined), ("kept", .ref p_218), ("broken_tag", (ov V.int other_80.broken_tag))]), (dx_217, .own a_57), (p_218, .lst (List.map V.int other_80.kept))]) (fun Q1 k1 => ?_) (fun h232 => ⟨rfl, fun H hJ Q2 k2 => ?_⟩) (fun h232 => Option.some.inj (ifT h240 h232)) (fun H hJ => ?_)
    · have eJ233 : Ex H0 H0 := Ex.refl _
      refine ⟨_, rfl, _, _, _, _, true, rfl, .ty _, .base (.lst (O.mem (List.Mem.tail _ (List.Mem.tail _ (List.Mem.tail _ (List.Mem.head _)))))), kit_ty (by decide +kernel), _, rfl, ?_⟩
      exact k1 _ ⟨H0, eJ233, O⟩
    · replace hm := ifF h240 h232
      obtain ⟨is_ope_234, h235, hm⟩ := bndE hm
      obtain rfl := Option.some.inj hm
      obtain ⟨H0, eJ233, O⟩ := hJ
      replace hp_a_2 := eJ233.l hp_a_2
      replace ha_p_22 := mA (mL mI) eJ233 ha_p_22
      replace ha_p_71 := mA (mU (mT2 mS mI) (mT3 mS mI (mL mI))) eJ233 ha_p_71
      replace ha_p_66 := mA (mU (mT2 mS mI) (mT3 mS mI (mL mI))) eJ233 ha_p_66
      replace ha_a_224 := mA (mU (mT2 mS mI) (mT3 mS mI (mL mI))) eJ233 ha_a_224
      replace eB := eB.trans eJ233
      refine ⟨_, rfl, a_49, dx_229, [("tag", (ov V.int self_219.tag)), ("due", .int self_219.due), ("joined", .int self_219.joined), ("kept", .ref p_230), ("broken_tag", (ov V.int self_219.broken_tag))], rfl, (O.mem (List.Mem.head _)), (lk_skip (by decide) (lk_skip (by decide) (lk_skip (by decide) (lk_skip (by decide) (lk_skip (by decide) lk_nil))))), ?_⟩
      refine x_nil ?_
      have Oc : Own H0 H ((((a_49, .ins ad.c_Joiner dx_229 [("tag", (ov V.int self_219.tag)), ("due", .int self_219.due), ("joined", .int self_219.joined), ("kept", .ref p_230), ("broken_tag", (ov V.int self_219.broken_tag))]) :: (dx_229, .own a_49) :: ((p_230, .lst (List.map V.int self_219.kept)) :: [])) ++ []) ++ [(a_224, .lst vs_231), (p_22, .lst vs_23), (p_71, .lst vs_70), (p_66, .lst vs_73), (a_57, .ins ad.c_Joiner dx_217 [("tag", (ov V.int other_80.tag)), ("due", .int other_80.due), ("joined", .int other_80.joined), ("kept", .ref p_218), ("broken_tag", (ov V.int other_80.broken_tag))]), (dx_217, .own a_57), (p_218, .lst (List.map V.int other_80.kept))]) := Own.cv O (by first | with_reducible rfl | simp only [List.map_nil, List.flatten_cons, List.flatten_nil, List.cons_append, List.nil_append, List.append_nil, List.append_assoc])
      refine ⟨self_219, a_49, ((a_49, .ins ad.c_Joiner dx_229 [("tag", (ov V.int self_219.tag)), ("due", .int self_219.due), ("joined", .int self_219.joined), ("kept", .ref p_230), ("broken_tag", (ov V.int self_219.broken_tag))]) :: (dx_229, .own a_49) :: ((p_230, .lst (List.map V.int self_219.kept)) :: [])), H0, is_ope_234, rfl, Oc.left, ⟨dx_229, p_230, rfl⟩, h235, ?_⟩
      refine Oc.retX (mdK mdV) fun w_236 H H0 L_237 O e_ d_ => ?_
      replace hp_a_2 := e_.l hp_a_2
      replace ha_p_22 := mA (mL mI) e_ ha_p_22
      replace ha_p_71 := mA (mU (mT2 mS mI) (mT3 mS mI (mL mI))) e_ ha_p_71
      replace ha_p_66 := mA (mU (mT2 mS mI) (mT3 mS mI (mL mI))) e_ ha_p_66
      replace ha_a_224 := mA (mU (mT2 mS mI) (mT3 mS mI (mL mI))) e_ ha_a_224
      replace eB := eB.trans e_
      replace eJ233 := eJ233.trans e_
      obtain ⟨L_238, rfl, ⟨rfl, rfl⟩⟩ := d_
      replace O : Own H0 H [(a_49, .ins ad.c_Joiner dx_229 [("tag", (ov V.int self_219.tag)), ("due", .int self_219.due), ("joined", .int self_219.joined), ("kept", .ref p_230), ("broken_tag", (ov V.int self_219.broken_tag))]), (dx_229, .own a_49), (p_230, .lst (List.map V.int self_219.kept)), (a_224, .lst vs_231), (p_22, .lst vs_23), (p_71, .lst vs_70), (p_66, .lst vs_73), (a_57, .ins ad.c_Joiner dx_217 [("tag", (ov V.int other_80.tag)), ("due", .int other_80.due), ("joined", .int other_80.joined), ("kept", .ref p_218), ("broken_tag", (ov V.int other_80.broken_tag))]), (dx_217, .own a_57), (p_218, .lst (List.map V.int other_80.kept))] := Own.cv O (by first | with_reducible rfl | simp only [List.map_nil, List.flatten_cons, List.flatten_nil, List.cons_append, List.nil_append, List.append_nil, List.append_assoc])
      refine ⟨_, _, rfl, rfl, _, rfl, ?_⟩
      exact k2 _ ⟨H0, eJ233, O⟩
    obtain ⟨H0, eJ233, O⟩ := hJ
    replace hp_a_2 := eJ233.l hp_a_2
    replace ha_p_22 := mA (mL mI) eJ233 ha_p_22
    replace ha_p_71 := mA (mU (mT2 mS mI) (mT3 mS mI (mL mI))) eJ233 ha_p_71
    replace ha_p_66 := mA (mU (mT2 mS mI) (mT3 mS mI (mL mI))) eJ233 ha_p_66
    replace ha_a_224 := mA (mU (mT2 mS mI) (mT3 mS mI (mL mI))) eJ233 ha_a_224
    replace eB := eB.trans eJ233
    refine iteS (c := c_239) (fun h241 => ?_) (fun h241 => ?_)
    · replace hm := ifT hm h241
      -- 133
      refine o_ret ?_
      refine o_c ?_
      obtain rfl := Option.some.inj hm
      exact RetV.goR k O eB
    · replace hm := ifF hm h241
      refine o_next ?_
      -- 134
      refine o_ret ?_
      obtain ⟨t_246, h247, hm⟩ := bndE hm
      obtain ⟨u_250, h251, hm⟩ := bndE hm
      obtain ⟨u_252, h253, hm⟩ := bndE hm
      obtain ⟨c_274, h275, hm⟩ := bndE hm
      refine x_andVJ2 (c := (decide ((t_246 : List ((Str × Int) ⊕ (Str × Int × (List Int)))) = due_72))) (e := c_274) (d := c_274) (fun H => ∃ (R_ : Hp) (B_243 : List Cell), Ex H0 R_ ∧ Own R_ H ((a_224, .lst vs_231) :: ((p_22, .lst vs_23) :: ((p_71, .lst vs_70) :: ((p_66, .lst vs_73) :: ((a_57, .ins ad.c_Joiner dx_217 [("tag", (ov V.int other_80.tag)), ("due", .int other_80.due), ("joined", .int other_80.joined), ("kept", .ref p_218), ("broken_tag", (ov V.int other_80.broken_tag))]) :: ((dx_217, .own a_57) :: ((p_218, .lst (List.map V.int other_80.kept)) :: (B_243 ++ [])))))))) ∧ (o_Joiner ad) (R_) a_49 B_243 self_219) (fun H => ∃ (R_ : Hp) (B_243 : List Cell), Ex H0 R_ ∧ Own R_ H ((a_224, .lst vs_231) :: ((p_22, .lst vs_23) :: ((p_71, .lst vs_70) :: ((p_66, .lst vs_73) :: ((a_57, .ins ad.c_Joiner dx_217 [("tag", (ov V.int other_80.tag)), ("due", .int other_80.due), ("joined", .int other_80.joined), ("kept", .ref p_218), ("broken_tag", (ov V.int other_80.broken_tag))]) :: ((dx_217, .own a_57) :: ((p_218, .lst (List.map V.int other_80.kept)) :: (B_243 ++ []))))))))) (by rintro H ⟨H0, B_243, eJ245, O, h244⟩; exact ⟨_, _, eJ245, O⟩) (fun Q1 k1 => ?_) (fun h242 => ⟨rfl, fun H hJ Q2 k2 => ?_⟩) (fun h242 => Option.some.inj (ifF h275 h242)) (fun H hJ => ?_)
      · have eJ245 : Ex H0 H0 := Ex.refl _
        refine ⟨_, rfl, _, rfl, ?_⟩
        refine k_catA O (O.mem (List.Mem.tail _ (List.Mem.tail _ (List.Mem.tail _ (List.Mem.tail _ (List.Mem.tail _ (List.Mem.head _))))))) ha_p_71 (O.mem (List.Mem.tail _ (List.Mem.tail _ (List.Mem.tail _ (List.Mem.head _))))) ha_a_224 h247 fun p_248 H vs_249 O ha_p_248 => ?_
        refine ⟨_, rfl, ?_⟩
        refine k_eqQ (x := t_246) (y := due_72) (dqL (dqU (dqT2 dqS (De.q deI)) (dqT3 dqS (De.q deI) (De.q (deL deI))) (by intros; constructor <;> simp [deI, deB, deL, deT2, deT3, deO, deU, dqS, De.q, dqL, dqT2, dqT3, dqO, dqU, sumD, optD, PyData.eqv, PyData.eqvAll]))) (mL (mU (mT2 mS mI) (mT3 mS mI (mL mI)))) (by decide) (okDE h251) (okDE h253) ⟨_, _, rfl, (O.mem (List.Mem.head _)), (mA (mU (mT2 mS mI) (mT3 mS mI (mL mI))) O.ex ha_p_248)⟩ (Ex.refl _) ⟨_, _, rfl, (O.mem (List.Mem.tail _ (List.Mem.tail _ (List.Mem.tail _ (List.Mem.tail _ (List.Mem.tail _ (List.Mem.tail _ (List.Mem.tail _ (List.Mem.head _))))))))), (mA (mU (mT2 mS mI) (mT3 mS mI (mL mI))) O.ex ha_p_66)⟩ (Ex.refl _) ?_
        replace O := O.tl
        exact k1 _ ⟨H0, ((a_49, .ins ad.c_Joiner dx_229 [("tag", (ov V.int self_219.tag)), ("due", .int self_219.due), ("joined", .int self_219.joined), ("kept", .ref p_230), ("broken_tag", (ov V.int self_219.broken_tag))]) :: (dx_229, .own a_49) :: ((p_230, .lst (List.map V.int self_219.kept)) :: [])), eJ245, (Own.cv (O.sel (L' := [(a_224, .lst vs_231), (p_22, .lst vs_23), (p_71, .lst vs_70), (p_66, .lst vs_73), (a_57, .ins ad.c_Joiner dx_217 [("tag", (ov V.int other_80.tag)), ("due", .int other_80.due), ("joined", .int other_80.joined), ("kept", .ref p_218), ("broken_tag", (ov V.int other_80.broken_tag))]), (dx_217, .own a_57), (p_218, .lst (List.map V.int other_80.kept)), (a_49, .ins ad.c_Joiner dx_229 [("tag", (ov V.int self_219.tag)), ("due", .int self_219.due), ("joined", .int self_219.joined), ("kept", .ref p_230), ("broken_tag", (ov V.int self_219.broken_tag))]), (dx_229, .own a_49), (p_230, .lst (List.map V.int self_219.kept))]) [3, 4, 5, 6, 7, 8, 9, 0, 1, 2] (by decide) rfl) (by first | with_reducible rfl | simp only [List.map_nil, List.flatten_cons, List.flatten_nil, List.cons_append, List.nil_append, List.append_nil, List.append_assoc])), ⟨dx_229, p_230, rfl⟩⟩
      · replace hm := ifT h275 h242
        obtain ⟨⟨self_256, end_257⟩, h258, hm⟩ := bndE hm
        obtain ⟨u_270, h271, hm⟩ := bndE hm
        obtain ⟨u_272, h273, hm⟩ := bndE hm
        obtain rfl := Option.some.inj hm
        obtain ⟨H0, B_243, eJ245, O, h244⟩ := hJ
        replace hp_a_2 := eJ245.l hp_a_2
        replace ha_p_22 := mA (mL mI) eJ245 ha_p_22
        replace ha_p_71 := mA (mU (mT2 mS mI) (mT3 mS mI (mL mI))) eJ245 ha_p_71
        replace ha_p_66 := mA (mU (mT2 mS mI) (mT3 mS mI (mL mI))) eJ245 ha_p_66
        replace ha_a_224 := mA (mU (mT2 mS mI) (mT3 mS mI (mL mI))) eJ245 ha_a_224
        replace eB := eB.trans eJ245
        obtain ⟨dx_254, p_255, rfl⟩ := h244
        replace O : Own H0 H [(a_224, .lst vs_231), (p_22, .lst vs_23), (p_71, .lst vs_70), (p_66, .lst vs_73), (a_57, .ins ad.c_Joiner dx_217 [("tag", (ov V.int other_80.tag)), ("due", .int other_80.due), ("joined", .int other_80.joined), ("kept", .ref p_218), ("broken_tag", (ov V.int other_80.broken_tag))]), (dx_217, .own a_57), (p_218, .lst (List.map V.int other_80.kept)), (a_49, .ins ad.c_Joiner dx_254 [("tag", (ov V.int self_219.tag)), ("due", .int self_219.due), ("joined", .int self_219.joined), ("kept", .ref p_255), ("broken_tag", (ov V.int self_219.broken_tag))]), (dx_254, .own a_49), (p_255, .lst (List.map V.int self_219.kept))] := Own.cv O (by first | with_reducible rfl | simp only [List.map_nil, List.flatten_cons, List.flatten_nil, List.cons_append, List.nil_append, List.append_nil, List.append_assoc])
        refine ⟨_, rfl, a_49, dx_254, [("tag", (ov V.int self_219.tag)), ("due", .int self_219.due), ("joined", .int self_219.joined), ("kept", .ref p_255), ("broken_tag", (ov V.int self_219.broken_tag))], rfl, (O.mem (List.Mem.tail _ (List.Mem.tail _ (List.Mem.tail _ (List.Mem.tail _ (List.Mem.tail _ (List.Mem.tail _ (List.Mem.tail _ (List.Mem.head _))))))))), (lk_skip (by decide) (lk_skip (by decide) (lk_skip (by decide) (lk_skip (by decide) (lk_skip (by decide) lk_nil))))), ?_⟩
        refine x_nil ?_
        have Oc : Own H0 H ((((a_49, .ins ad.c_Joiner dx_254 [("tag", (ov V.int self_219.tag)), ("due", .int self_219.due), ("joined", .int self_219.joined), ("kept", .ref p_255), ("broken_tag", (ov V.int self_219.broken_tag))]) :: (dx_254, .own a_49) :: ((p_255, .lst (List.map V.int self_219.kept)) :: [])) ++ []) ++ [(a_224, .lst vs_231), (p_22, .lst vs_23), (p_71, .lst vs_70), (p_66, .lst vs_73), (a_57, .ins ad.c_Joiner dx_217 [("tag", (ov V.int other_80.tag)), ("due", .int other_80.due), ("joined", .int other_80.joined), ("kept", .ref p_218), ("broken_tag", (ov V.int other_80.broken_tag))]), (dx_217, .own a_57), (p_218, .lst (List.map V.int other_80.kept))]) := Own.cv (O.sel (L' := [(a_49, .ins ad.c_Joiner dx_254 [("tag", (ov V.int self_219.tag)), ("due", .int self_219.due), ("joined", .int self_219.joined), ("kept", .ref p_255), ("broken_tag", (ov V.int self_219.broken_tag))]), (dx_254, .own a_49), (p_255, .lst (List.map V.int self_219.kept)), (a_224, .lst vs_231), (p_22, .lst vs_23), (p_71, .lst vs_70), (p_66, .lst vs_73), (a_57, .ins ad.c_Joiner dx_217 [("tag", (ov V.int other_80.tag)), ("due", .int other_80.due), ("joined", .int other_80.joined), ("kept", .ref p_218), ("broken_tag", (ov V.int other_80.broken_tag))]), (dx_217, .own a_57), (p_218, .lst (List.map V.int other_80.kept))]) [7, 8, 9, 0, 1, 2, 3, 4, 5, 6] (by decide) rfl) (by first | with_reducible rfl | simp only [List.map_nil, List.flatten_cons, List.flatten_nil, List.cons_append, List.nil_append, List.append_nil, List.append_assoc])
        refine ⟨self_219, a_49, ((a_49, .ins ad.c_Joiner dx_254 [("tag", (ov V.int self_219.tag)), ("due", .int self_219.due), ("joined", .int self_219.joined), ("kept", .ref p_255), ("broken_tag", (ov V.int self_219.broken_tag))]) :: (dx_254, .own a_49) :: ((p_255, .lst (List.map V.int self_219.kept)) :: [])), H0, (self_256, end_257), rfl, Oc.left, ⟨dx_254, p_255, rfl⟩, h258, ?_⟩
        refine Oc.retX (mdX (mo_Joiner ad) (mdOb (moRowD (mU (mT2 mS mI) (mT3 mS mI (mL mI)))))) fun w_259 H H0 L_260 O e_ d_ => ?_
        replace hp_a_2 := e_.l hp_a_2
        replace ha_p_22 := mA (mL mI) e_ ha_p_22
        replace ha_p_71 := mA (mU (mT2 mS mI) (mT3 mS mI (mL mI))) e_ ha_p_71
        replace ha_p_66 := mA (mU (mT2 mS mI) (mT3 mS mI (mL mI))) e_ ha_p_66
        replace ha_a_224 := mA (mU (mT2 mS mI) (mT3 mS mI (mL mI))) e_ ha_a_224
        replace eB := eB.trans e_
        replace eJ245 := eJ245.trans e_
        obtain ⟨L_263, L_265, rfl, h264, ⟨a_261, rfl, h262⟩⟩ := d_
        obtain ⟨dx_266, p_267, rfl⟩ := h264
        obtain ⟨vs_268, rfl, ha_a_261⟩ := h262
        replace O : Own H0 H [(a_49, .ins ad.c_Joiner dx_266 [("tag", (ov V.int self_256.tag)), ("due", .int self_256.due), ("joined", .int self_256.joined), ("kept", .ref p_267), ("broken_tag", (ov V.int self_256.broken_tag))]), (dx_266, .own a_49), (p_267, .lst (List.map V.int self_256.kept)), (a_261, .lst vs_268), (a_224, .lst vs_231), (p_22, .lst vs_23), (p_71, .lst vs_70), (p_66, .lst vs_73), (a_57, .ins ad.c_Joiner dx_217 [("tag", (ov V.int other_80.tag)), ("due", .int other_80.due), ("joined", .int other_80.joined), ("kept", .ref p_218), ("broken_tag", (ov V.int other_80.broken_tag))]), (dx_217, .own a_57), (p_218, .lst (List.map V.int other_80.kept))] := Own.cv O (by first | with_reducible rfl | simp only [List.map_nil, List.flatten_cons, List.flatten_nil, List.cons_append, List.nil_append, List.append_nil, List.append_assoc])
        refine x_nil ?_
        refine n_lst (f := V.int) (xs := ([] : List Int)) O rfl (Nat.zero_le _) fun p_269 H O => ?_
        refine k_eqQ (x := end_257) (y := ([] : List ((Str × Int) ⊕ (Str × Int × (List Int))))) (dqL (dqU (dqT2 dqS (De.q deI)) (dqT3 dqS (De.q deI) (De.q (deL deI))) (by intros; constructor <;> simp [deI, deB, deL, deT2, deT3, deO, deU, dqS, De.q, dqL, dqT2, dqT3, dqO, dqU, sumD, optD, PyData.eqv, PyData.eqvAll]))) (mL (mU (mT2 mS mI) (mT3 mS mI (mL mI)))) (by decide) (okDE h271) (okDE h273) ⟨_, _, rfl, (O.mem (List.Mem.tail _ (List.Mem.tail _ (List.Mem.tail _ (List.Mem.tail _ (List.Mem.head _)))))), (mA (mU (mT2 mS mI) (mT3 mS mI (mL mI))) O.ex ha_a_261)⟩ (Ex.refl _) ⟨_, [], rfl, (O.mem (List.Mem.head _)), .nil⟩ (Ex.refl _) ?_
        replace O := (O.sel (L' := [(a_49, .ins ad.c_Joiner dx_266 [("tag", (ov V.int self_256.tag)), ("due", .int self_256.due), ("joined", .int self_256.joined), ("kept", .ref p_267), ("broken_tag", (ov V.int self_256.broken_tag))]), (dx_266, .own a_49), (p_267, .lst (List.map V.int self_256.kept)), (a_224, .lst vs_231), (p_22, .lst vs_23), (p_71, .lst vs_70), (p_66, .lst vs_73), (a_57, .ins ad.c_Joiner dx_217 [("tag", (ov V.int other_80.tag)), ("due", .int other_80.due), ("joined", .int other_80.joined), ("kept", .ref p_218), ("broken_tag", (ov V.int other_80.broken_tag))]), (dx_217, .own a_57), (p_218, .lst (List.map V.int other_80.kept))]) [1, 2, 3, 5, 6, 7, 8, 9, 10, 11] (by decide) rfl)
        exact k2 _ ⟨H0, ((a_49, .ins ad.c_Joiner dx_266 [("tag", (ov V.int self_256.tag)), ("due", .int self_256.due), ("joined", .int self_256.joined), ("kept", .ref p_267), ("broken_tag", (ov V.int self_256.broken_tag))]) :: (dx_266, .own a_49) :: ((p_267, .lst (List.map V.int self_256.kept)) :: [])), eJ245, (Own.cv (O.sel (L' := [(a_224, .lst vs_231), (p_22, .lst vs_23), (p_71, .lst vs_70), (p_66, .lst vs_73), (a_57, .ins ad.c_Joiner dx_217 [("tag", (ov V.int other_80.tag)), ("due", .int other_80.due), ("joined", .int other_80.joined), ("kept", .ref p_218), ("broken_tag", (ov V.int other_80.broken_tag))]), (dx_217, .own a_57), (p_218, .lst (List.map V.int other_80.kept)), (a_49, .ins ad.c_Joiner dx_266 [("tag", (ov V.int self_256.tag)), ("due", .int self_256.due), ("joined", .int self_256.joined), ("kept", .ref p_267), ("broken_tag", (ov V.int self_256.broken_tag))]), (dx_266, .own a_49), (p_267, .lst (List.map V.int self_256.kept))]) [3, 4, 5, 6, 7, 8, 9, 0, 1, 2] (by decide) rfl) (by first | with_reducible rfl | simp only [List.map_nil, List.flatten_cons, List.flatten_nil, List.cons_append, List.nil_append, List.append_nil, List.append_assoc]))⟩
      obtain ⟨H0, B_243, eJ245, O⟩ := hJ
      replace hp_a_2 := eJ245.l hp_a_2
      replace ha_p_22 := mA (mL mI) eJ245 ha_p_22
      replace ha_p_71 := mA (mU (mT2 mS mI) (mT3 mS mI (mL mI))) eJ245 ha_p_71
      replace ha_p_66 := mA (mU (mT2 mS mI) (mT3 mS mI (mL mI))) eJ245 ha_p_66
      replace ha_a_224 := mA (mU (mT2 mS mI) (mT3 mS mI (mL mI))) eJ245 ha_a_224
      replace eB := eB.trans eJ245
      obtain rfl := Option.some.inj hm
      exact RetV.goR k O eB
end
theorem walk {l : PySem.W.OpenLaw} {q : Program} {loose : List Str} {XP : (Str → Option Value) → Heap → Prop} {YP : World → Heap → Prop} {d : DefRec} {K : Params → PySem.W.Frag} (M : ∀ ns : List Int, ns.length ≤ 63 → m_law ns = some true) (hn : l.most = some 63) (hdf : d.params.defaults = [])
    (hY : ∀ (w : World) (h : Heap), YP w h → (K w.params).In h)
    (F : ∀ (w : World) (mg : Str → Option Value) (fa : Addr) (h : Heap), (K w.params).In h → h.Ns mainGlobals mg → mg d.name = some (.ref fa) →
      ∃ fd : FuncData, (∀ (s : Shared) (u : Value), BindsTo s fd ⟨[u], []⟩ [("script", u)]) ∧ ∀ base : Heap, (K w.params).In base → base.Ns mainGlobals mg → FnOk l.prog w (K w.params) mg base CX0 4 fa fd ["script"] (sp_law (K w.params))) :
    PySem.W.WalkO q loose XP YP l.row.toRowW d [] (fun f vs => PySem.call f vs) :=
  L2.walk_of (n := 63) (k := 4) (x := "script") (CX := fun _ => CX0) (sp := fun w => sp_law (K w.params)) hn (by decide) hdf ⟨rfl, by decide, by decide⟩ hY F (fun _ _ a ns hl _ hS => ⟨ns, a, true, rfl, hS, M ns hl, fun _ _ => rfl⟩) fun _ _ _ _ _ z => z
theorem packc {K : PySem.W.Frag} {h : Heap} {mg : Str → Option Value} (X : K.In h) (G : h.Ns mainGlobals mg) {C_Joiner : Addr} {q_Joiner_end : Addr} {oc_Joiner_end kV_Joiner_end doc_Joiner_end pm_Joiner_end cdv_Joiner_end ct_Joiner_end : Value} {od_Joiner_end an_Joiner_end : Option Addr} {osl_Joiner_end : Array (Option Value)} {q_Joiner_init : Addr} {oc_Joiner_init kV_Joiner_init doc_Joiner_init pm_Joiner_init cdv_Joiner_init ct_Joiner_init : Value} {od_Joiner_init an_Joiner_init : Option Addr} {osl_Joiner_init : Array (Option Value)} {q_Joiner_is_open : Addr} {oc_Joiner_is_open kV_Joiner_is_open doc_Joiner_is_open pm_Joiner_is_open cdv_Joiner_is_open ct_Joiner_is_open : Value} {od_Joiner_is_open an_Joiner_is_open : Option Addr} {osl_Joiner_is_open : Array (Option Value)} {q_Joiner_stray : Addr} {oc_Joiner_stray kV_Joiner_stray doc_Joiner_stray pm_Joiner_stray cdv_Joiner_stray ct_Joiner_stray : Value} {od_Joiner_stray an_Joiner_stray : Option Addr} {osl_Joiner_stray : Array (Option Value)} {q_Joiner_take : Addr} {oc_Joiner_take kV_Joiner_take doc_Joiner_take pm_Joiner_take cdv_Joiner_take ct_Joiner_take : Value} {od_Joiner_take an_Joiner_take : Option Addr} {osl_Joiner_take : Array (Option Value)} (a_Joiner : PySem.W.nsIn K mainGlobals "Joiner" = some (some (.ref C_Joiner))) (pg_Joiner : PySem.W.plainGet K C_Joiner Str.empty = true) (hd_Joiner : PySem.W.hasDictIn K C_Joiner = true) (po_Joiner : PySem.W.plainOver K C_Joiner = true) (sa_Joiner : PySem.W.findIn K (.ref C_Joiner) "__setattr__" = some (some (.builtin "object.__setattr__"))) (n_Joiner_broken_tag : PySem.W.findIn K (.ref C_Joiner) "broken_tag" = some none) (n_Joiner_due : PySem.W.findIn K (.ref C_Joiner) "due" = some none) (n_Joiner_joined : PySem.W.findIn K (.ref C_Joiner) "joined" = some none) (n_Joiner_kept : PySem.W.findIn K (.ref C_Joiner) "kept" = some none) (n_Joiner_tag : PySem.W.findIn K (.ref C_Joiner) "tag" = some none) (at_Joiner_end : PySem.W.findIn K (.ref C_Joiner) "end" = some (some (.ref q_Joiner_end))) (if_Joiner_end : PySem.W.isFn K (.ref q_Joiner_end) = true) (il_Joiner_end : K.lookup q_Joiner_end = some ⟨oc_Joiner_end, od_Joiner_end, .func (PySem.W.fnOf "end" "Joiner.end" (defArgs s_Joiner_end) (defBody s_Joiner_end) (defScope s_Joiner_end) .none kV_Joiner_end doc_Joiner_end pm_Joiner_end an_Joiner_end cdv_Joiner_end ct_Joiner_end), osl_Joiner_end⟩) (ic_Joiner_end : PySem.W.codeIn K cdv_Joiner_end "Joiner.end" = true) (ik_Joiner_end : PySem.W.keepIn K (.ref q_Joiner_end) = true) (at_Joiner_init : PySem.W.findIn K (.ref C_Joiner) "__init__" = some (some (.ref q_Joiner_init))) (if_Joiner_init : PySem.W.isFn K (.ref q_Joiner_init) = true) (il_Joiner_init : K.lookup q_Joiner_init = some ⟨oc_Joiner_init, od_Joiner_init, .func (PySem.W.fnOf "__init__" "Joiner.__init__" (defArgs s_Joiner_init) (defBody s_Joiner_init) (defScope s_Joiner_init) .none kV_Joiner_init doc_Joiner_init pm_Joiner_init an_Joiner_init cdv_Joiner_init ct_Joiner_init), osl_Joiner_init⟩) (ic_Joiner_init : PySem.W.codeIn K cdv_Joiner_init "Joiner.__init__" = true) (ik_Joiner_init : PySem.W.keepIn K (.ref q_Joiner_init) = true) (at_Joiner_is_open : PySem.W.findIn K (.ref C_Joiner) "is_open" = some (some (.ref q_Joiner_is_open))) (if_Joiner_is_open : PySem.W.isFn K (.ref q_Joiner_is_open) = true) (il_Joiner_is_open : K.lookup q_Joiner_is_open = some ⟨oc_Joiner_is_open, od_Joiner_is_open, .func (PySem.W.fnOf "is_open" "Joiner.is_open" (defArgs s_Joiner_is_open) (defBody s_Joiner_is_open) (defScope s_Joiner_is_open) .none kV_Joiner_is_open doc_Joiner_is_open pm_Joiner_is_open an_Joiner_is_open cdv_Joiner_is_open ct_Joiner_is_open), osl_Joiner_is_open⟩) (ic_Joiner_is_open : PySem.W.codeIn K cdv_Joiner_is_open "Joiner.is_open" = true) (ik_Joiner_is_open : PySem.W.keepIn K (.ref q_Joiner_is_open) = true) (at_Joiner_stray : PySem.W.findIn K (.ref C_Joiner) "stray" = some (some (.ref q_Joiner_stray))) (if_Joiner_stray : PySem.W.isFn K (.ref q_Joiner_stray) = true) (il_Joiner_stray : K.lookup q_Joiner_stray = some ⟨oc_Joiner_stray, od_Joiner_stray, .func (PySem.W.fnOf "stray" "Joiner.stray" (defArgs s_Joiner_stray) (defBody s_Joiner_stray) (defScope s_Joiner_stray) .none kV_Joiner_stray doc_Joiner_stray pm_Joiner_stray an_Joiner_stray cdv_Joiner_stray ct_Joiner_stray), osl_Joiner_stray⟩) (ic_Joiner_stray : PySem.W.codeIn K cdv_Joiner_stray "Joiner.stray" = true) (ik_Joiner_stray : PySem.W.keepIn K (.ref q_Joiner_stray) = true) (at_Joiner_take : PySem.W.findIn K (.ref C_Joiner) "take" = some (some (.ref q_Joiner_take))) (if_Joiner_take : PySem.W.isFn K (.ref q_Joiner_take) = true) (il_Joiner_take : K.lookup q_Joiner_take = some ⟨oc_Joiner_take, od_Joiner_take, .func (PySem.W.fnOf "take" "Joiner.take" (defArgs s_Joiner_take) (defBody s_Joiner_take) (defScope s_Joiner_take) .none kV_Joiner_take doc_Joiner_take pm_Joiner_take an_Joiner_take cdv_Joiner_take ct_Joiner_take), osl_Joiner_take⟩) (ic_Joiner_take : PySem.W.codeIn K cdv_Joiner_take "Joiner.take" = true) (ik_Joiner_take : PySem.W.keepIn K (.ref q_Joiner_take) = true) (mk_Joiner : PySem.W.makesIn K C_Joiner = true) (kc_Joiner : PySem.W.keepIn K (.ref C_Joiner) = true) :
  ∃ (c_Joiner f_Joiner_end f_Joiner_init f_Joiner_is_open f_Joiner_stray f_Joiner_take : Addr) (fd_Joiner_end fd_Joiner_init fd_Joiner_is_open fd_Joiner_stray fd_Joiner_take : FuncData), Cls K c_Joiner ∧ NoAttr K c_Joiner "broken_tag" ∧ NoAttr K c_Joiner "due" ∧ NoAttr K c_Joiner "joined" ∧ NoAttr K c_Joiner "kept" ∧ NoAttr K c_Joiner "tag" ∧ L2.Fun K "end" "Joiner.end" s_Joiner_end f_Joiner_end fd_Joiner_end ∧ L2.Fun K "__init__" "Joiner.__init__" s_Joiner_init f_Joiner_init fd_Joiner_init ∧ L2.Fun K "is_open" "Joiner.is_open" s_Joiner_is_open f_Joiner_is_open fd_Joiner_is_open ∧ L2.Fun K "stray" "Joiner.stray" s_Joiner_stray f_Joiner_stray fd_Joiner_stray ∧ L2.Fun K "take" "Joiner.take" s_Joiner_take f_Joiner_take fd_Joiner_take ∧ Meth K c_Joiner "end" f_Joiner_end ∧ Meth K c_Joiner "is_open" f_Joiner_is_open ∧ Meth K c_Joiner "stray" f_Joiner_stray ∧ Meth K c_Joiner "take" f_Joiner_take ∧ Mk K c_Joiner f_Joiner_init ∧ mg "Joiner" = some (.ref c_Joiner) :=
  ⟨C_Joiner, q_Joiner_end, q_Joiner_init, q_Joiner_is_open, q_Joiner_stray, q_Joiner_take, _, _, _, _, _, ⟨pg_Joiner, hd_Joiner, po_Joiner, sa_Joiner⟩, n_Joiner_broken_tag, n_Joiner_due, n_Joiner_joined, n_Joiner_kept, n_Joiner_tag, L2.fun_mk il_Joiner_end ic_Joiner_end ik_Joiner_end, L2.fun_mk il_Joiner_init ic_Joiner_init ik_Joiner_init, L2.fun_mk il_Joiner_is_open ic_Joiner_is_open ik_Joiner_is_open, L2.fun_mk il_Joiner_stray ic_Joiner_stray ik_Joiner_stray, L2.fun_mk il_Joiner_take ic_Joiner_take ik_Joiner_take, ⟨at_Joiner_end, if_Joiner_end, ik_Joiner_end⟩, ⟨at_Joiner_is_open, if_Joiner_is_open, ik_Joiner_is_open⟩, ⟨at_Joiner_stray, if_Joiner_stray, ik_Joiner_stray⟩, ⟨at_Joiner_take, if_Joiner_take, ik_Joiner_take⟩, ⟨mk_Joiner, at_Joiner_init, if_Joiner_init, kc_Joiner⟩, PySem.W.mg_of X G a_Joiner⟩
theorem pack {K : PySem.W.Frag} {h : Heap} {mg : Str → Option Value} (X : K.In h) (G : h.Ns mainGlobals mg) {A_NoThing : Addr} (a_NoThing : PySem.W.nsIn K mainGlobals "NoThing" = some (some (.ref A_NoThing))) (e_NoThing : PySem.W.excIn K A_NoThing [.type "ValueError", .type "Exception", .type "BaseException", .type "object"] "ValueError.__new__" = true) (k_NoThing : PySem.W.keepIn K (.ref A_NoThing) = true) (s_NoThing : PySem.W.subIn K (.ref A_NoThing) (.type "BaseException") = some true) (t_NoThing : PySem.W.typeIn K (.ref A_NoThing) = some (.type "type")) :
  ∃ (es : Eds), mg "NoThing" = some (.ref es.NoThing) ∧ ErrC K mg "NoThing" es.NoThing :=
  ⟨(⟨A_NoThing, A_NoThing, A_NoThing, A_NoThing, A_NoThing, A_NoThing, A_NoThing, A_NoThing, A_NoThing, A_NoThing, A_NoThing⟩ : Eds), PySem.W.mg_of X G a_NoThing, ⟨PySem.W.mg_of X G a_NoThing, e_NoThing, k_NoThing, s_NoThing, t_NoThing⟩⟩
end Bt

/-! Slices by whole numbers. -/
namespace Bt
open PySem L2
section
variable {α : Type}
theorem cut_seg (xs : List α) (a b : Nat) (h : a ≤ b) : cutL xs (some (a : Int)) (some (b : Int)) = (xs.drop a).take (b - a) := by
  unfold cutL
  rw [HT.sIx_nat, HT.sIx_nat]
  by_cases h1 : a ≤ xs.length
  · rw [Nat.min_eq_left h1]
    by_cases h2 : b ≤ xs.length
    · rw [Nat.min_eq_left h2]
    · rw [Nat.min_eq_right (by omega), List.take_of_length_le (by simp), List.take_of_length_le (by simp; omega)]
  · rw [Nat.min_eq_right (by omega), Nat.min_eq_right (by omega), List.drop_of_length_le (Nat.le_refl _), List.drop_of_length_le (by omega)]
    simp
theorem cut_to (xs : List α) (n : Nat) : cutL xs none (some (n : Int)) = xs.take n := by
  unfold cutL
  rw [show HT.sIx xs.length 0 none = 0 from rfl, HT.sIx_nat, List.drop_zero, Nat.sub_zero]
  by_cases h : n ≤ xs.length
  · rw [Nat.min_eq_left h]
  · rw [Nat.min_eq_right (by omega), List.take_of_length_le (Nat.le_refl _), List.take_of_length_le (by omega)]
theorem cut_fr (xs : List α) (n : Nat) : cutL xs (some (n : Int)) none = xs.drop n := by
  unfold cutL
  rw [HT.sIx_nat, show HT.sIx xs.length xs.length none = xs.length from rfl]
  by_cases h : n ≤ xs.length
  · rw [Nat.min_eq_left h, List.take_of_length_le (by simp)]
  · rw [Nat.min_eq_right (by omega), List.drop_of_length_le (Nat.le_refl _), List.drop_of_length_le (by omega)]
    simp
end
end Bt

/-! The program's own Joiner. -/
namespace Bt
open PySem L2
abbrev TD2 := (Str × Int) ⊕ (Str × Int × List Int)
abbrev Th := Option (Int × Int × Int × List Int)
def isP : List Int → Bool
  | _ :: d :: rest => decide (d % 16 < d / 16) && (if d % 16 < d / 16 - 1 then decide (rest.length = 5) else decide (rest.length ≤ 5) && (decide (rest.length ≠ 0) || decide (d / 16 ≤ 1)))
  | _ => false
theorem ix0 (t d : Int) (r : List Int) : atI (t :: d :: r) (0 : Int) = some t := by
  rw [atI_ok (by decide) (by simp; omega)]
  rfl
theorem ix1 (t d : Int) (r : List Int) : atI (t :: d :: r) (1 : Int) = some d := by
  rw [atI_ok (by decide) (by simp; omega)]
  rfl
theorem isP_form {data : List Int} (h : isP data = true) : ∃ t d r, data = t :: d :: r ∧ d % 16 < d / 16 ∧ r.length ≤ 5 := by
  match data, h with
  | t :: d :: r, h =>
    unfold isP at h
    rw [Bool.and_eq_true, decide_eq_true_eq] at h
    refine ⟨t, d, r, rfl, h.1, ?_⟩
    have h2 := h.2
    split at h2
    · rw [decide_eq_true_eq] at h2
      omega
    · rw [Bool.and_eq_true, decide_eq_true_eq] at h2
      exact h2.1
theorem isP_cons (t d : Int) (r : List Int) : isP (t :: d :: r) = (decide (d % 16 < d / 16) && (if d % 16 < d / 16 - 1 then decide (r.length = 5) else decide (r.length ≤ 5) && (decide (r.length ≠ 0) || decide (d / 16 ≤ 1)))) := rfl
theorem ask_okB (data : List Int) (hz : data.length ≤ 1000) : m_ask_piece data = some (ifB (isP data) (.ok ()) (.er .NoThing)) := by
  unfold m_ask_piece
  match data with
  | [] => rfl
  | [a] => rfl
  | t :: d :: r =>
    simp only [List.length_cons] at hz
    have e1 : (List.length (t :: d :: r) : Int) = (r.length : Int) + 2 := by simp; omega
    rw [e1, decide_eq_false (by omega), ifB_f, ix1, bnd_some, ltv_eq, bnd_some, ltv_eq, ltv_eq]
    rw [isP_cons]
    by_cases c1 : d % 16 < d / 16
    · rw [decide_eq_false (show ¬ d / 16 ≤ d % 16 by omega), ifB_f, decide_eq_true c1, Bool.true_and]
      by_cases c2 : d % 16 < d / 16 - 1
      · rw [decide_eq_true c2, Bool.true_and, if_pos c2]
        by_cases c3 : r.length = 5
        · rw [decide_eq_true (show (r.length : Int) + 2 - 2 = 5 by omega), decide_eq_true c3, Bool.not_true, ifB_f, decide_eq_false (by omega), decide_eq_false (show ¬ ((r.length : Int) + 2 - 2 = 0) by omega)]
          rfl
        · rw [decide_eq_false (show ¬ ((r.length : Int) + 2 - 2 = 5) by omega), decide_eq_false c3]
          rfl
      · rw [decide_eq_false c2, Bool.false_and, ifB_f, if_neg c2]
        by_cases c3 : r.length ≤ 5
        · rw [decide_eq_false (by omega), decide_eq_true c3, Bool.true_and, Bool.false_or]
          by_cases c4 : r.length = 0
          · rw [decide_eq_true (show (r.length : Int) + 2 - 2 = 0 by omega), decide_eq_false (show ¬ (r.length ≠ 0) by omega), Bool.true_and, Bool.false_or]
            by_cases c5 : d / 16 ≤ 1
            · rw [decide_eq_false (by omega), decide_eq_true c5]
              rfl
            · rw [decide_eq_true (by omega), decide_eq_false c5]
              rfl
          · rw [decide_eq_false (show ¬ ((r.length : Int) + 2 - 2 = 0) by omega), decide_eq_true (show r.length ≠ 0 from c4)]
            rfl
        · rw [decide_eq_true (by omega), decide_eq_false c3]
          rfl
    · rw [decide_eq_true (show d / 16 ≤ d % 16 by omega), decide_eq_false c1]
      rfl
theorem ask_ok (data : List Int) (hz : data.length ≤ 1000) : m_ask_piece data = some (if isP data = true then .ok () else .er .NoThing) := by
  rw [ask_okB data hz]
  cases isP data <;> rfl
/-- what is told behind a piece, and what is open, and what was told broken last -/
def told0 (th : Th) : List TD2 := match th with
  | some t => [.inl ("broken", t.1)]
  | none => []
def gone0 (th : Th) (g : Option Int) : Option Int := match th with
  | some t => some t.1
  | none => g
def TK (th : Th) (g : Option Int) (tag p n : Int) (rest : List Int) : List TD2 × Th × Option Int :=
  match (if 0 < n then th.bind fun t => if (t.1, t.2.1, t.2.2.1) = (tag, p, n) then some t else none else none) with
  | some t => if n + 1 = p then ([.inr ("whole", tag, t.2.2.2 ++ rest)], none, g) else ([], some (tag, p, n + 1, t.2.2.2 ++ rest), g)
  | none =>
    if n = 0 then (if 1 = p then (told0 th ++ [.inr ("whole", tag, rest)], none, none) else (told0 th, some (tag, p, 1, rest), none))
    else if gone0 th g = some tag then (told0 th, none, gone0 th g) else (told0 th ++ [.inl ("broken", tag)], none, some tag)
/-- the joiner is as is told by what is open and by what was told broken last -/
structure Rj (J : S_Joiner) (th : Th) (g : Option Int) (B : Nat) : Prop where
  tag : J.tag = th.map (·.1)
  gone : J.broken_tag = g
  op : ∀ t, th = some t → J.due = t.2.1 ∧ J.joined = t.2.2.1 ∧ J.kept = t.2.2.2
  len : J.kept.length ≤ B
theorem end_ok {J : S_Joiner} {th : Th} {g : Option Int} {B : Nat} (R : Rj J th g B) : ∃ J', m_Joiner_end J = some (J', told0 th) ∧ Rj J' none (gone0 th g) B := by
  unfold m_Joiner_end
  have ht := R.tag
  cases th with
  | none =>
    rw [ht]
    exact ⟨J, rfl, ht, R.gone, (fun _ h => nomatch h), R.len⟩
  | some t =>
    rw [ht]
    exact ⟨_, rfl, rfl, rfl, (fun _ h => nomatch h), R.len⟩
theorem told0_len (th : Th) : (told0 th).length ≤ 1 := by cases th <;> simp [told0]
theorem take_ok {J : S_Joiner} {th : Th} {g : Option Int} {B : Nat} (R : Rj J th g B) (hB : B ≤ 100000) (tag d : Int) (rest : List Int) (hp : isP (tag :: d :: rest) = true) :
    ∃ J', m_Joiner_take J (tag :: d :: rest) = some (.ok (J', (TK th g tag (d / 16) (d % 16) rest).1)) ∧ Rj J' (TK th g tag (d / 16) (d % 16) rest).2.1 (TK th g tag (d / 16) (d % 16) rest).2.2 (B + 10) := by
  obtain ⟨_, _, _, e, _, hr⟩ := isP_form hp
  cases e
  unfold m_Joiner_take
  have hcut : cutL (tag :: d :: rest) (some (2 : Int)) none = rest := by
    rw [show (2 : Int) = ((2 : Nat) : Int) from rfl, cut_fr]
    rfl
  rw [ask_ok _ (by simp; omega), if_pos hp, bndR_ok, ix0, bnd_some, ix1, bnd_some, ltv_eq, bnd_some, ltv_eq, hcut]
  have hn : 0 ≤ d % 16 := Int.emod_nonneg _ (by decide)
  generalize d / 16 = p
  generalize d % 16 = n at hn
  unfold TK
  have hc : ((!decide ((J.tag : Option Int) = (some tag))) || ((!decide (J.due = p)) || ((!decide (J.joined = n)) || (decide (n = (0 : Int)))))) = (Option.isNone (if 0 < n then th.bind fun t => if (t.1, t.2.1, t.2.2.1) = (tag, p, n) then some t else none else none)) := by
    rw [R.tag]
    cases th with
    | none =>
      rw [decide_eq_false (by simp)]
      by_cases c : 0 < n
      · rw [if_pos c]; rfl
      · rw [if_neg c]; rfl
    | some t =>
      obtain ⟨h1, h2, h3⟩ := R.op t rfl
      rw [h1, h2]
      by_cases c : 0 < n
      · rw [if_pos c, decide_eq_false (show ¬ n = 0 by omega)]
        show _ = Option.isNone (if (t.1, t.2.1, t.2.2.1) = (tag, p, n) then some t else none)
        by_cases c2 : (t.1, t.2.1, t.2.2.1) = (tag, p, n)
        · rw [if_pos c2]
          simp only [Prod.mk.injEq] at c2
          rw [decide_eq_true (show (Option.map (fun x => x.1) (some t) : Option Int) = some tag by rw [← c2.1]; rfl), decide_eq_true c2.2.1, decide_eq_true c2.2.2]
          rfl
        · rw [if_neg c2]
          simp only [Prod.mk.injEq] at c2
          by_cases q1 : t.1 = tag
          · by_cases q2 : t.2.1 = p
            · by_cases q3 : t.2.2.1 = n
              · exact absurd ⟨q1, q2, q3⟩ c2
              · rw [decide_eq_false q3]; simp
            · rw [decide_eq_false q2]; simp
          · rw [decide_eq_false (show ¬ (Option.map (fun x => x.1) (some t) : Option Int) = some tag by simpa using q1)]
            rfl
      · rw [if_neg c, decide_eq_true (show n = 0 by omega)]
        simp
  rw [hc]
  cases hcont : (if 0 < n then th.bind fun t => if (t.1, t.2.1, t.2.2.1) = (tag, p, n) then some t else none else none) with
  | some t =>
    have hth : th = some t ∧ t.1 = tag ∧ t.2.1 = p ∧ t.2.2.1 = n := by
      split at hcont
      · cases th with
        | none => cases hcont
        | some u =>
          have hcont : (if (u.1, u.2.1, u.2.2.1) = (tag, p, n) then some u else none) = some t := hcont
          split at hcont
          · rename_i q
            cases hcont
            simp only [Prod.mk.injEq] at q
            exact ⟨rfl, q⟩
          · cases hcont
      · cases hcont
    obtain ⟨rfl, rfl, rfl, rfl⟩ := hth
    obtain ⟨h1, h2, h3⟩ := R.op t rfl
    have hl := R.len
    rw [show Option.isNone (some t) = false from rfl, ifB_f, ltv_eq, h2, catG_ok (by omega), bnd_some, h1, h3]
    dsimp only
    have hl2 : t.2.2.2.length ≤ B := by rw [← h3]; exact hl
    by_cases c : t.2.2.1 + 1 = t.2.1
    · rw [decide_eq_true c, ifB_t, if_pos c, appG_ok (by simp), bnd_some, bnd_some]
      exact ⟨_, rfl, rfl, R.gone, (fun _ h => nomatch h), by simp⟩
    · rw [decide_eq_false c, ifB_f, if_neg c, bnd_some]
      exact ⟨_, rfl, R.tag, R.gone, (fun u h => by cases h; exact ⟨rfl, rfl, rfl⟩), by simp; omega⟩
  | none =>
    obtain ⟨J1, e1, R1⟩ := end_ok R
    have hl := R1.len
    have h0 := told0_len th
    rw [show Option.isNone (none : Th) = true from rfl, ifB_t, e1, bnd_some]
    dsimp only
    by_cases c : n = 0
    · subst c
      rw [decide_eq_false (by decide), ifB_f, ltv_eq, if_pos rfl, catG_ok (by simp; omega), bnd_some, List.nil_append]
      by_cases c1 : 1 = p
      · rw [decide_eq_true (show (0 : Int) + 1 = p by omega), ifB_t, if_pos c1, appG_ok (by omega), bnd_some, bnd_some]
        exact ⟨_, rfl, rfl, rfl, (fun _ h => nomatch h), by simp⟩
      · rw [decide_eq_false (show ¬ (0 : Int) + 1 = p by omega), ifB_f, if_neg c1, bnd_some]
        exact ⟨_, rfl, rfl, rfl, (fun u h => by cases h; exact ⟨rfl, rfl, rfl⟩), by simp; omega⟩
    · rw [decide_eq_true (show 0 < n by omega), ifB_t, if_neg c]
      unfold m_Joiner_stray
      rw [R1.gone]
      by_cases c1 : gone0 th g = some tag
      · rw [decide_eq_true c1, ifB_t, if_pos c1, bnd_some, catG_ok (by simp; omega), bnd_some, List.append_nil]
        exact ⟨J1, rfl, R1.tag, R1.gone, R1.op, by omega⟩
      · rw [decide_eq_false c1, ifB_f, if_neg c1, bnd_some, catG_ok (by simp; omega), bnd_some]
        exact ⟨_, rfl, R1.tag, rfl, (fun _ h => nomatch h), by show J1.kept.length ≤ _; omega⟩
/-- words that may be laid -/
def okw (x : TD2) : Prop := match x with
  | .inl y => y.1 = "broken"
  | .inr y => y.1 = "whole"
theorem told0_okw (th : Th) : ∀ x ∈ told0 th, okw x := fun x hx => by
  cases th with
  | none => cases hx
  | some t => rw [List.mem_singleton.mp hx]; rfl
theorem TK_okw (th : Th) (g : Option Int) (tag p n : Int) (rest : List Int) : ∀ x ∈ (TK th g tag p n rest).1, okw x := fun x hx => by
  unfold TK at hx
  have h1 : ∀ (y : TD2), okw y → x ∈ told0 th ++ [y] → okw x := fun y hy hx => by
    rcases List.mem_append.mp hx with hx | hx
    · exact told0_okw th x hx
    · rw [List.mem_singleton.mp hx]; exact hy
  split at hx
  · split at hx
    · rw [List.mem_singleton.mp hx]; rfl
    · cases hx
  · split at hx
    · split at hx
      · exact h1 (.inr ("whole", tag, rest)) rfl hx
      · exact told0_okw th x hx
    · split at hx
      · exact told0_okw th x hx
      · exact h1 (.inl ("broken", tag)) rfl hx
theorem TK_len (th : Th) (g : Option Int) (tag p n : Int) (rest : List Int) : (TK th g tag p n rest).1.length ≤ 2 := by
  have h0 := told0_len th
  unfold TK
  split
  · split <;> simp
  · split
    · split <;> simp <;> omega
    · split <;> simp <;> omega
end Bt

/-! Things cut into pieces. -/
namespace Bt
open PySem L2
def byteB (b : Int) : Bool := decide (0 ≤ b) && decide (b ≤ 255)
theorem is_byte_eq (b : Int) : m_is_byte b = some (byteB b) := rfl
def manyP (n : Nat) : Nat := max 1 ((n + 4) / 5)
def pieceP (tag : Int) (m : Nat) (xs : List Int) (k : Nat) : List Int := [tag, 16 * (m : Int) + k] ++ (xs.drop (5 * k)).take 5
def piecesP (tag : Int) (xs : List Int) : List (List Int) := (List.range (manyP xs.length)).map (pieceP tag (manyP xs.length) xs)
theorem cut_loop (xs : List Int) : loopF (fun byte (_ : Unit) => m_cut_L0 byte) xs () = some (if xs.all byteB = true then .nx () else .rt (.er .NoThing)) := by
  induction xs with
  | nil => rfl
  | cons x r ih =>
    show bnd (m_cut_L0 x) (contF (loopF (fun byte (_ : Unit) => m_cut_L0 byte) r)) = _
    unfold m_cut_L0
    rw [is_byte_eq, bnd_some, List.all_cons]
    cases h : byteB x with
    | true =>
      show loopF (fun byte (_ : Unit) => m_cut_L0 byte) r () = _
      rw [ih, Bool.true_and]
    | false => rfl
theorem cut_bad {tag : Int} {xs : List Int} (h : byteB tag = false ∨ 75 < xs.length ∨ ∃ b ∈ xs, byteB b = false) : m_cut tag xs = some (.er .NoThing) := by
  unfold m_cut
  rw [is_byte_eq, bnd_some]
  cases ht : byteB tag with
  | false => rfl
  | true =>
    by_cases hl : 75 < xs.length
    · rw [decide_eq_true (show (75 : Int) < (xs.length : Int) by omega), Bool.or_true, ifB_t]
    · rcases h with h | h | ⟨b, hb, h⟩
      · rw [ht] at h; cases h
      · exact absurd h hl
      · rw [decide_eq_false (show ¬ (75 : Int) < (xs.length : Int) by omega), show ((!true) || false) = false from rfl, ifB_f, cut_loop, if_neg (fun z => by
          have := List.all_eq_true.mp z b hb
          rw [h] at this
          cases this), fin_rt]
theorem cut_good {tag : Int} {xs : List Int} (ht : byteB tag = true) (hl : xs.length ≤ 75) (hb : ∀ b ∈ xs, byteB b = true) : m_cut tag xs = some (.ok (piecesP tag xs)) := by
  unfold m_cut
  rw [is_byte_eq, bnd_some, ht, decide_eq_false (show ¬ (75 : Int) < (xs.length : Int) by omega), show ((!true) || false) = false from rfl, ifB_f, cut_loop, if_pos (List.all_eq_true.mpr hb), fin_nx]
  rw [fdivG_ok (b := 10) (by decide) (by omega) (by omega), bnd_some, ltv_eq]
  have hm : (if ((xs.length : Int) + 5 - 1) / 5 > 1 then ((xs.length : Int) + 5 - 1) / 5 else 1) = (manyP xs.length : Int) := by
    unfold manyP
    split <;> omega
  have hm2 : manyP xs.length ≤ 16 := by unfold manyP; omega
  rw [hm, rng1_ok (by omega) (by omega), bnd_some]
  obtain ⟨out, h1, h2, h3⟩ := loopM_rng (f := fun k s => m_cut_L1 tag xs (manyP xs.length) k s) (hi := (manyP xs.length : Int)) (fun i s => 0 ≤ i ∧ s = (List.range i.toNat).map (pieceP tag (manyP xs.length) xs)) (by
    rintro i s hi ⟨h0, rfl⟩
    obtain ⟨k, rfl⟩ : ∃ k : Nat, i = k := ⟨i.toNat, by omega⟩
    refine ⟨_, ?_, by omega, rfl⟩
    show m_cut_L1 tag xs (manyP xs.length) k _ = _
    unfold m_cut_L1
    rw [mulG_ok (a := 3) (b := 6) (by omega) (by omega) (by omega), bnd_some, bnd_some]
    rw [show (5 : Int) * (k : Int) = ((5 * k : Nat) : Int) by omega, show ((5 * k : Nat) : Int) + 5 = ((5 * k + 5 : Nat) : Int) by omega, cut_seg _ _ _ (by omega), show 5 * k + 5 - 5 * k = 5 by omega]
    rw [catG_ok (by simp; omega), bnd_some, appG_ok (by simp; omega), bnd_some, show ((k : Int) + 1).toNat = k + 1 by omega, show ((k : Int)).toNat = k from rfl, List.range_succ, List.map_append]
    rfl) (manyP xs.length) 0 [] (by omega) (by omega) ⟨by omega, rfl⟩
  rw [h1, bnd_some, h3]
  rfl
theorem chunks (xs : List Int) : ∀ m : Nat, (List.range m).flatMap (fun k => (xs.drop (5 * k)).take 5) = xs.take (5 * m)
  | 0 => rfl
  | m + 1 => by
    rw [List.range_succ, List.flatMap_append, chunks xs m, show 5 * (m + 1) = 5 * m + 5 by omega, List.take_add]
    simp
theorem pieces_all (tag : Int) (xs : List Int) : (piecesP tag xs).flatMap (fun p => p.drop 2) = xs := by
  unfold piecesP
  rw [List.flatMap_map]
  have : (fun k => List.drop 2 (pieceP tag (manyP xs.length) xs k)) = fun k => (xs.drop (5 * k)).take 5 := by
    funext k
    rfl
  rw [this, chunks, List.take_of_length_le]
  unfold manyP
  omega
end Bt

/-! The laws' own draw: the same text in all of them. -/
namespace Bt
open PySem L2
theorem draw_ok (ns : List Int) (k many : Int) (hk : 0 ≤ k) (hk2 : k ≤ 1000000000) (hm : 0 < many) : ∃ v, m__law_draw ns k many = some v ∧ 0 ≤ v ∧ v < many := by
  have hc : ∃ c, (ifB (decide ((0 : Int) < (List.length ns : Int))) (bnd (modG k (List.length ns : Int)) fun t => bnd (atI ns t) fun e => some e) (some (0 : Int))) = some c := by
    by_cases h : (0 : Int) < (List.length ns : Int)
    · rw [decide_eq_true h, ifB_t, modG_ok h, bnd_some]
      obtain ⟨x, hx, _⟩ := atI_mem (xs := ns) (i := k % (ns.length : Int)) (Int.emod_nonneg _ (by omega)) (Int.emod_lt_of_pos _ h)
      exact ⟨x, by rw [hx]; rfl⟩
    · rw [decide_eq_false h]
      exact ⟨0, rfl⟩
  obtain ⟨c, hc⟩ := hc
  refine ⟨(((c % 1000003 + 31 * k * k + 1) * 48271 % 999983) * 7919 % 524287) % many, ?_, Int.emod_nonneg _ (by omega), Int.emod_lt_of_pos _ hm⟩
  unfold m__law_draw
  rw [bnd_of hc, mulG_ok (a := 40) (b := 40) (by omega) (by omega) (by omega), bnd_some, ltv_eq, modG_ok hm, bnd_some]
end Bt

set_option synthInstance.maxHeartbeats 400000
set_option synthInstance.maxSize 4096
namespace Bt
open PySem L2
theorem lay_td (l : List TD2) (h : ∀ x ∈ l, okw x) {hn : _} : okD (dqL (dqU (dqT2 dqS (De.q deI)) (dqT3 dqS (De.q deI) (De.q (deL deI))) hn)).d l = some () := by
  refine grd_of ?_
  show PyData.canLay0 (.list (l.map _)) = true
  rw [PyData.canLay0]
  induction l with
  | nil => rfl
  | cons x r ih =>
    rw [List.map_cons, PyData.canLayAll0, ih fun y hy => h y (List.mem_cons_of_mem _ hy), Bool.and_true]
    have hx := h x (List.mem_cons_self ..)
    match x, hx with
    | .inl (s, i), hx =>
      have hx : s = "broken" := hx
      subst hx
      show (PyData.canLay0 (PyData.str "broken") && (PyData.canLay0 ((De.q deI).d i) && true)) = true
      rw [okDe]
      decide +kernel
    | .inr (s, i, ks), hx =>
      have hx : s = "whole" := hx
      subst hx
      show (PyData.canLay0 (PyData.str "whole") && (PyData.canLay0 ((De.q deI).d i) && (PyData.canLay0 ((De.q (deL deI)).d ks) && true))) = true
      rw [okDe, okDe]
      decide +kernel
abbrev Bw (t : Int) : TD2 := .inl ("broken", t)
abbrev Ww (t : Int) (xs : List Int) : TD2 := .inr ("whole", t, xs)
theorem Rj.tight {J : S_Joiner} {t : Int × Int × Int × List Int} {g : Option Int} {B : Nat} (R : Rj J (some t) g B) : Rj J (some t) g t.2.2.2.length :=
  ⟨R.tag, R.gone, R.op, by rw [(R.op t rfl).2.2]; exact Nat.le_refl _⟩
theorem Rj.more {J : S_Joiner} {th : Th} {g : Option Int} {B C : Nat} (R : Rj J th g B) (h : B ≤ C) : Rj J th g C := ⟨R.tag, R.gone, R.op, Nat.le_trans R.len h⟩
/-! the other joiner -/
def Ot (O : S_Joiner) (first : Int) : Prop := ∃ th g, Rj O th g 100 ∧ ∀ t, th = some t → t.1 = first
theorem apart_ok {O : S_Joiner} {first : Int} (h : Ot O first) : ∃ O', m__law_is_apart O first = some (O', true) ∧ Ot O' first := by
  obtain ⟨th, g, R, ht⟩ := h
  obtain ⟨O', e1, R'⟩ := take_ok R (by decide) first 32 [1, 2, 3, 4, 5] (by rw [isP_cons]; decide)
  have hk : TK th g first (32 / 16) (32 % 16) [1, 2, 3, 4, 5] = (told0 th, some (first, 2, 1, [1, 2, 3, 4, 5]), none) := by
    unfold TK
    rw [if_neg (by decide)]
    dsimp only
    rw [if_pos (by decide), if_neg (by decide)]
    rfl
  rw [hk] at e1 R'
  dsimp only at e1 R'
  have h1 : m_Joiner_is_open O = some (!Option.isNone th) := by
    unfold m_Joiner_is_open
    rw [R.tag]
    cases th <;> rfl
  have h2 : m_Joiner_is_open O' = some true := by
    unfold m_Joiner_is_open
    rw [R'.tag]
    rfl
  have h3 : ∃ z, repG [(("broken" : Str), first)] (if (!Option.isNone th) = true then (1 : Int) else 0) = some z ∧ z.map (fun (x_ : Str × Int) => ((.inl x_) : TD2)) = told0 th := by
    cases th with
    | none => exact ⟨[], rfl, rfl⟩
    | some t => exact ⟨[("broken", first)], rfl, by show _ = [(.inl ("broken", t.1) : TD2)]; rw [ht t rfl]; rfl⟩
  obtain ⟨z, h3, h4⟩ := h3
  unfold m__law_is_apart
  rw [h1, bnd_some, h3, bnd_some, e1, bndO_ok]
  dsimp only
  rw [h4, lay_td _ (told0_okw th), bnd_some, bnd_some, decide_eq_true rfl, ifB_t, h2, bnd_some, bnd_some]
  exact ⟨O', rfl, _, _, R'.tight.more (by show 5 ≤ 100; decide), fun t h => by cases h; rfl⟩
/-! one thing's pieces -/
theorem piece_eq (tag : Int) (m : Nat) (xs : List Int) (k : Nat) : pieceP tag m xs k = tag :: (16 * (m : Int) + k) :: (xs.drop (5 * k)).take 5 := rfl
theorem piece_isP (tag : Int) (xs : List Int) (hx : xs.length ≤ 75) (k : Nat) (hk : k < manyP xs.length) : isP (tag :: (16 * (manyP xs.length : Int) + k) :: (xs.drop (5 * k)).take 5) = true := by
  have hm : manyP xs.length = max 1 ((xs.length + 4) / 5) := rfl
  have hl : ((xs.drop (5 * k)).take 5).length = min 5 (xs.length - 5 * k) := by rw [List.length_take, List.length_drop]
  generalize manyP xs.length = m at hk hm
  rw [isP_cons, hl, show (16 * (m : Int) + k) % 16 = k by omega, show (16 * (m : Int) + k) / 16 = m by omega, decide_eq_true (by omega), Bool.true_and]
  by_cases c : (k : Int) < (m : Int) - 1
  · rw [if_pos c, decide_eq_true (by omega)]
  · rw [if_neg c, decide_eq_true (by omega), Bool.true_and]
    by_cases c2 : (m : Int) ≤ 1
    · rw [decide_eq_true c2, Bool.or_true]
    · rw [decide_eq_true (show min 5 (xs.length - 5 * k) ≠ 0 by omega), Bool.true_or]
def PH (T0 : List TD2) (th0 : Th) (g0 : Option Int) (T : Int) (m : Nat) (xs : List Int) (i : Nat) (told : List TD2) (came : Int) (th : Th) (g : Option Int) : Prop :=
  (came = 0 ∧ told = T0 ∧ th = th0 ∧ g = g0) ∨
  (∃ j : Nat, 1 ≤ j ∧ j ≤ i ∧ j < m ∧ came = (j : Int) ∧ told = T0 ++ told0 th0 ∧ th = some (T, (m : Int), (j : Int), xs.take (5 * j)) ∧ g = none) ∨
  (0 < came ∧ came < (i : Int) ∧ told = T0 ++ told0 th0 ++ [Bw T] ∧ th = none ∧ g = some T) ∨
  (i = m ∧ came = (m : Int) ∧ told = T0 ++ told0 th0 ++ [Ww T xs] ∧ th = none ∧ g = none)
theorem PH.lost {T0 : List TD2} {th0 : Th} {g0 : Option Int} {T : Int} {m : Nat} {xs : List Int} {i : Nat} {told : List TD2} {came : Int} {th : Th} {g : Option Int} (h : PH T0 th0 g0 T m xs i told came th g) (hi : i < m) : PH T0 th0 g0 T m xs (i + 1) told came th g := by
  rcases h with h | ⟨j, h1, h2, h3⟩ | ⟨h1, h2, h3⟩ | ⟨h1, _⟩
  · exact .inl h
  · exact .inr (.inl ⟨j, h1, by omega, h3⟩)
  · exact .inr (.inr (.inl ⟨h1, by omega, h3⟩))
  · omega
theorem PH.came {T0 : List TD2} {th0 : Th} {g0 : Option Int} {T : Int} {xs : List Int} {i : Nat} {told : List TD2} {came : Int} {th : Th} {g : Option Int} (h0 : ∀ t, th0 = some t → t.1 ≠ T) (h1 : g0 ≠ some T)
    (h : PH T0 th0 g0 T (manyP xs.length) xs i told came th g) (hi : i < manyP xs.length) :
    PH T0 th0 g0 T (manyP xs.length) xs (i + 1) (told ++ (TK th g T (manyP xs.length : Int) (i : Int) ((xs.drop (5 * i)).take 5)).1) (came + 1) (TK th g T (manyP xs.length : Int) (i : Int) ((xs.drop (5 * i)).take 5)).2.1 (TK th g T (manyP xs.length : Int) (i : Int) ((xs.drop (5 * i)).take 5)).2.2 := by
  have hm : xs.length ≤ 5 * manyP xs.length := by unfold manyP; omega
  generalize manyP xs.length = m at h hi hm
  rcases h with ⟨rfl, rfl, rfl, rfl⟩ | ⟨j, a1, a2, a3, rfl, rfl, rfl, rfl⟩ | ⟨a1, a2, rfl, rfl, rfl⟩ | ⟨a1, _⟩
  · by_cases c : i = 0
    · subst c
      unfold TK
      rw [if_neg (by decide)]
      dsimp only
      rw [if_pos (show (((0 : Nat)) : Int) = 0 from rfl), show 5 * 0 = 0 from rfl, List.drop_zero]
      by_cases c1 : m = 1
      · subst c1
        rw [if_pos (by decide)]
        exact .inr (.inr (.inr ⟨rfl, rfl, by rw [List.take_of_length_le (by omega), List.append_assoc], rfl, rfl⟩))
      · rw [if_neg (by omega)]
        exact .inr (.inl ⟨1, Nat.le_refl _, Nat.le_refl _, by omega, rfl, rfl, rfl, rfl⟩)
    · have hc : (if 0 < (i : Int) then th.bind fun t => if (t.1, t.2.1, t.2.2.1) = (T, (m : Int), (i : Int)) then some t else none else none) = none := by
        rw [if_pos (by omega)]
        cases th with
        | none => rfl
        | some t =>
          show (if (t.1, t.2.1, t.2.2.1) = (T, (m : Int), (i : Int)) then some t else none) = none
          rw [if_neg]
          intro q
          simp only [Prod.mk.injEq] at q
          exact h0 t rfl q.1
      have hg : ¬ gone0 th g = some T := by
        cases th with
        | none => exact h1
        | some t => exact fun q => h0 t rfl (Option.some.inj q)
      unfold TK
      rw [hc]
      dsimp only
      rw [if_neg (by omega), if_neg hg]
      exact .inr (.inr (.inl ⟨by omega, by omega, by rw [List.append_assoc], rfl, rfl⟩))
  · by_cases c : j = i
    · subst c
      have hc : (if 0 < (j : Int) then (some (T, (m : Int), (j : Int), xs.take (5 * j)) : Th).bind fun t => if (t.1, t.2.1, t.2.2.1) = (T, (m : Int), (j : Int)) then some t else none else none) = some (T, (m : Int), (j : Int), xs.take (5 * j)) := by
        rw [if_pos (by omega)]
        show (if _ then _ else _) = _
        rw [if_pos rfl]
      have ht : xs.take (5 * j) ++ (xs.drop (5 * j)).take 5 = xs.take (5 * (j + 1)) := by
        rw [show 5 * (j + 1) = 5 * j + 5 by omega, List.take_add]
      unfold TK
      rw [hc]
      dsimp only
      rw [ht]
      by_cases c1 : j + 1 = m
      · rw [if_pos (by omega)]
        exact .inr (.inr (.inr ⟨c1, by omega, by rw [List.take_of_length_le (by omega)], rfl, rfl⟩))
      · rw [if_neg (by omega)]
        exact .inr (.inl ⟨j + 1, by omega, Nat.le_refl _, by omega, by omega, by rw [List.append_nil], by simp, rfl⟩)
    · have hc : (if 0 < (i : Int) then (some (T, (m : Int), (j : Int), xs.take (5 * j)) : Th).bind fun t => if (t.1, t.2.1, t.2.2.1) = (T, (m : Int), (i : Int)) then some t else none else none) = none := by
        rw [if_pos (by omega)]
        show (if _ then _ else _) = _
        rw [if_neg]
        intro q
        simp only [Prod.mk.injEq] at q
        omega
      unfold TK
      rw [hc]
      dsimp only
      rw [if_neg (by omega), if_pos (show gone0 (some (T, (m : Int), (j : Int), xs.take (5 * j))) none = some T from rfl)]
      exact .inr (.inr (.inl ⟨by omega, by omega, rfl, rfl, rfl⟩))
  · have hc : (if 0 < (i : Int) then (none : Th).bind fun t => if (t.1, t.2.1, t.2.2.1) = (T, (m : Int), (i : Int)) then some t else none else none) = none := by
      split <;> rfl
    unfold TK
    rw [hc]
    dsimp only
    rw [if_neg (by omega), if_pos (show gone0 none (some T) = some T from rfl)]
    exact .inr (.inr (.inl ⟨by omega, by omega, by show _ ++ [] = _; rw [List.append_nil], rfl, rfl⟩))
  · omega
/-- the state amid a thing's pieces -/
abbrev S2 := List TD2 × Int × Int × S_Joiner × S_Joiner × Int
def I2 (first : Int) (T0 : List TD2) (th0 : Th) (g0 : Option Int) (T : Int) (m : Nat) (xs : List Int) (c : Nat) (i : Nat) (s : S2) : Prop :=
  ∃ th g, PH T0 th0 g0 T m xs i s.1 s.2.2.2.2.2 th g ∧ s.2.1 = ((c + i : Nat) : Int) ∧ Rj s.2.2.2.1 th g (10 * (c + i)) ∧ Ot s.2.2.2.2.1 first ∧ s.1.length ≤ 2 * (c + i)
theorem pieces_ok (ns : List Int) (first share hole wide : Int) (T0 : List TD2) (th0 : Th) (g0 : Option Int) (T : Int) (xs : List Int) (hx : xs.length ≤ 75) (c : Nat) (hc : c ≤ 3000) (h0 : ∀ t, th0 = some t → t.1 ≠ T) (h1 : g0 ≠ some T) :
    ∀ (d i : Nat) (s : S2), manyP xs.length - i = d → i ≤ manyP xs.length → I2 first T0 th0 g0 T (manyP xs.length) xs c i s →
    ∃ s', loopF (fun piece_145 (s : S2) => m_law_L2 ns first share hole wide piece_145 s.1 s.2.1 s.2.2.1 s.2.2.2.1 s.2.2.2.2.1 s.2.2.2.2.2) (((List.range (manyP xs.length)).drop i).map (pieceP T (manyP xs.length) xs)) s = some (.nx s') ∧ I2 first T0 th0 g0 T (manyP xs.length) xs c (manyP xs.length) s'
  | 0, i, s, e, hi, I => by
    rw [List.drop_of_length_le (by rw [List.length_range]; omega)]
    have : i = manyP xs.length := by omega
    refine ⟨s, rfl, ?_⟩
    rw [this] at I
    exact I
  | d + 1, i, s, e, hi, I => by
    have hlt : i < manyP xs.length := by omega
    have hm : manyP xs.length ≤ 15 := by unfold manyP; omega
    rw [List.drop_eq_getElem_cons (by rw [List.length_range]; exact hlt), List.getElem_range, List.map_cons]
    obtain ⟨told, at_, lost, J, O, came⟩ := s
    obtain ⟨th, g, hP, rfl, R, hO, hl⟩ := I
    dsimp only at hP R hO hl
    have hs : ∃ s', m_law_L2 ns first share hole wide (pieceP T (manyP xs.length) xs i) told ((c + i : Nat) : Int) lost J O came = some (.nx s') ∧ I2 first T0 th0 g0 T (manyP xs.length) xs c (i + 1) s' := by
      unfold m_law_L2
      obtain ⟨v, e1, v0, v1⟩ := draw_ok ns ((4000 : Int) + ((c + i : Nat) : Int)) 8 (by omega) (by omega) (by decide)
      rw [e1, bnd_some, ltv_eq]
      generalize ((decide (v < (share - (3 : Int))) || (decide (hole ≤ ((c + i : Nat) : Int)) && decide (((c + i : Nat) : Int) < (hole + wide)))) && decide (lost < (254 : Int))) = z
      cases z with
      | true =>
        rw [ifB_t]
        exact ⟨_, rfl, th, g, hP.lost hlt, by show ((c + i : Nat) : Int) + 1 = _; omega, R.more (by omega), hO, by show told.length ≤ _; omega⟩
      | false =>
        obtain ⟨O', a1, a2⟩ := apart_ok hO
        rw [piece_eq]
        obtain ⟨J', b1, b2⟩ := take_ok R (by omega) T (16 * (manyP xs.length : Int) + i) ((xs.drop (5 * i)).take 5) (piece_isP T xs hx i hlt)
        rw [show (16 * (manyP xs.length : Int) + i) / 16 = (manyP xs.length : Int) by omega, show (16 * (manyP xs.length : Int) + i) % 16 = (i : Int) by omega] at b1 b2
        have hlen := TK_len th g T (manyP xs.length : Int) (i : Int) ((xs.drop (5 * i)).take 5)
        rw [ifB_f, ltv_eq, a1, bnd_some]
        dsimp only
        rw [Bool.not_true, ifB_f, b1, bndO_ok]
        dsimp only
        rw [catG_ok (by omega), bnd_some]
        exact ⟨_, rfl, _, _, hP.came h0 h1 hlt, by show ((c + i : Nat) : Int) + 1 = _; omega, b2.more (by omega), a2, by show List.length (told ++ _) ≤ _; rw [List.length_append]; omega⟩
    obtain ⟨s', e1, I'⟩ := hs
    obtain ⟨s2, e2, I2'⟩ := pieces_ok ns first share hole wide T0 th0 g0 T xs hx c hc h0 h1 d (i + 1) s' (by omega) hlt I'
    refine ⟨s2, ?_, I2'⟩
    rw [loopF_go (f := fun piece_145 (s : S2) => m_law_L2 ns first share hole wide piece_145 s.1 s.2.1 s.2.2.1 s.2.2.2.1 s.2.2.2.2.1 s.2.2.2.2.2) e1]
    exact e2
/-! all things -/
abbrev S1 := List TD2 × List TD2 × Int × Int × S_Joiner × S_Joiner
def tg (first : Int) (k : Nat) : Int := (first + (k : Int)) % 256
def I1 (first : Int) (k : Int) (s : S1) : Prop :=
  0 ≤ k ∧ ∃ th g, s.1 ++ told0 th = s.2.1 ∧ (∀ t, th = some t → ∃ j : Nat, (j : Int) < k ∧ t.1 = tg first j) ∧ (∀ x, g = some x → ∃ j : Nat, (j : Int) < k ∧ x = tg first j) ∧
    (∃ c : Nat, s.2.2.1 = (c : Int) ∧ c ≤ 15 * k.toNat ∧ Rj s.2.2.2.2.1 th g (10 * c) ∧ s.1.length ≤ 2 * c) ∧ Ot s.2.2.2.2.2 first ∧ (∀ x ∈ s.2.1, okw x) ∧ s.2.1.length ≤ k.toNat
theorem tg_ne {first : Int} {j k : Nat} (h : j < k) (hk : k ≤ 100) : tg first j ≠ tg first k := by
  unfold tg
  omega
theorem thing_step (ns : List Int) (first share hole wide : Int) (ths : List (List Int)) (hths : ∀ xs ∈ ths, xs.length ≤ 75 ∧ ∀ b ∈ xs, byteB b = true) (k : Int) (hk : k < (ths.length : Int)) (hn : ths.length ≤ 40) (s : S1) (I : I1 first k s) :
    ∃ s', m_law_L1 ns first ths share hole wide k s.1 s.2.1 s.2.2.1 s.2.2.2.1 s.2.2.2.2.1 s.2.2.2.2.2 = some (.nx s') ∧ I1 first (k + 1) s' := by
  obtain ⟨told, due, at_, lost, J, O⟩ := s
  obtain ⟨k0, th, g, hd, ht, hg, ⟨c, rfl, hc, R, hl⟩, hO, hw, hdl⟩ := I
  dsimp only at hd ht hg hc R hl hO hw hdl ⊢
  obtain ⟨k, rfl⟩ := Int.eq_ofNat_of_zero_le k0
  rw [show ((k : Int)).toNat = k from rfl] at hc hdl
  have hkl : k < ths.length := by omega
  have hget : ths[k]? = some ths[k] := List.getElem?_eq_getElem hkl
  obtain ⟨hx, hb⟩ := hths _ (List.mem_of_getElem? hget)
  have ha : atI ths (k : Int) = some ths[k] := by rw [atI_ok (by omega) (by omega)]; exact hget
  generalize ths[k] = xs at ha hx hb
  have hT : tg first k = (first + (k : Int)) % 256 := rfl
  have hTb : byteB (tg first k) = true := by
    unfold byteB
    rw [decide_eq_true (by rw [hT]; omega), decide_eq_true (by rw [hT]; omega)]
    rfl
  have hm : manyP xs.length ≤ 15 ∧ 1 ≤ manyP xs.length := by unfold manyP; omega
  unfold m_law_L1
  rw [ltv_eq, ha, bnd_some, ← hT, cut_good hTb hx hb, bndO_ok]
  obtain ⟨⟨told', at', lost', J', O', came⟩, e1, th', g', hP, h2, R', hO', hl'⟩ := pieces_ok ns first share hole wide told th g (tg first k) xs hx c (by omega) (fun t h q => by
    obtain ⟨j, j1, j2⟩ := ht t h
    exact tg_ne (first := first) (show j < k by omega) (by omega) (by rw [← j2, q])) (fun h => by
    obtain ⟨j, j1, j2⟩ := hg _ h
    exact tg_ne (first := first) (show j < k by omega) (by omega) j2.symm) _ 0 (told, (c : Int), lost, J, O, 0) rfl (Nat.zero_le _) ⟨th, g, .inl ⟨rfl, rfl, rfl, rfl⟩, rfl, R, hO, hl⟩
  have e1 : loopF (fun piece_145 (s : S2) => m_law_L2 ns first share hole wide piece_145 s.1 s.2.1 s.2.2.1 s.2.2.2.1 s.2.2.2.2.1 s.2.2.2.2.2) (piecesP (tg first k) xs) (told, (c : Int), lost, J, O, 0) = _ := e1
  rw [e1]
  dsimp only at hP h2 R' hO' hl'
  have hpl : (List.length (piecesP (tg first k) xs) : Int) = (manyP xs.length : Int) := by unfold piecesP; simp
  show ∃ s', ifB _ _ _ = _ ∧ _
  rw [hpl]
  have hstay : ∀ due', told' ++ told0 th' = due' → (∀ t, th' = some t → ∃ j : Nat, (j : Int) < (k : Int) + 1 ∧ t.1 = tg first j) → (∀ x, g' = some x → ∃ j : Nat, (j : Int) < (k : Int) + 1 ∧ x = tg first j) → (∀ x ∈ due', okw x) → due'.length ≤ k + 1 → I1 first ((k : Int) + 1) (told', due', at', lost', J', O') := fun due' q1 q2 q3 q4 q5 =>
    ⟨by omega, th', g', q1, q2, q3, ⟨c + manyP xs.length, h2, by rw [show ((k : Int) + 1).toNat = k + 1 by omega]; omega, R', hl'⟩, hO', q4, by rw [show ((k : Int) + 1).toNat = k + 1 by omega]; exact q5⟩
  have hwa : ∀ y : TD2, okw y → ∀ x ∈ due ++ [y], okw x := fun y hy x hx => by
    rcases List.mem_append.mp hx with hx | hx
    · exact hw x hx
    · rw [List.mem_singleton.mp hx]; exact hy
  rcases hP with ⟨rfl, rfl, rfl, rfl⟩ | ⟨j, a1, a2, a3, rfl, rfl, rfl, rfl⟩ | ⟨a1, a2, rfl, rfl, rfl⟩ | ⟨_, rfl, rfl, rfl, rfl⟩
  · rw [decide_eq_false (by omega), ifB_f, decide_eq_false (by omega), ifB_f]
    exact ⟨_, rfl, hstay due hd (fun t h => by obtain ⟨j, j1, j2⟩ := ht t h; exact ⟨j, by omega, j2⟩) (fun x h => by obtain ⟨j, j1, j2⟩ := hg x h; exact ⟨j, by omega, j2⟩) hw (by omega)⟩
  · rw [decide_eq_false (by omega), ifB_f, decide_eq_true (by omega), ifB_t, appG_ok (by omega), bnd_some]
    exact ⟨_, rfl, hstay _ (by rw [hd]; rfl) (fun t h => by cases h; exact ⟨k, by omega, rfl⟩) (fun x h => nomatch h) (hwa (Bw (tg first k)) rfl) (by simp; omega)⟩
  · rw [decide_eq_false (by omega), ifB_f, decide_eq_true (by omega), ifB_t, appG_ok (by omega), bnd_some]
    exact ⟨_, rfl, hstay _ (by rw [hd]; show _ ++ [] = _; rw [List.append_nil]) (fun t h => nomatch h) (fun x h => by cases h; exact ⟨k, by omega, rfl⟩) (hwa (Bw (tg first k)) rfl) (by simp; omega)⟩
  · rw [decide_eq_true rfl, ifB_t, bnd_some, appG_ok (by omega), bnd_some]
    exact ⟨_, rfl, hstay _ (by rw [hd]; show _ ++ [] = _; rw [List.append_nil]) (fun t h => nomatch h) (fun x h => nomatch h) (hwa (Ww (tg first k) xs) rfl) (by simp; omega)⟩
theorem things_ok (ns : List Int) (k : Int) (h0 : 0 ≤ k) (h1 : k ≤ 100) : ∃ xs, m_law_C0 ns k = some xs ∧ xs.length ≤ 75 ∧ ∀ b ∈ xs, byteB b = true := by
  unfold m_law_C0 m__law_thing
  obtain ⟨a, e1, a0, a1⟩ := draw_ok ns ((10 : Int) + ((3 : Int) * k)) 18 (by omega) (by omega) (by decide)
  obtain ⟨b, e2, b0, b1⟩ := draw_ok ns ((11 : Int) + ((3 : Int) * k)) 9 (by omega) (by omega) (by decide)
  obtain ⟨c, e3, c0, c1⟩ := draw_ok ns ((10 : Int) + ((3 : Int) * k)) 76 (by omega) (by omega) (by decide)
  rw [e1, bnd_some, e2, bnd_some, e3, bnd_some]
  obtain ⟨n, en, n1⟩ : ∃ n : Nat, (ifB (decide (b = (0 : Int))) (some c) (some a)) = some (n : Int) ∧ n ≤ 75 := by
    cases decide (b = (0 : Int)) with
    | true => exact ⟨c.toNat, by rw [ifB_t]; congr 1; omega, by omega⟩
    | false => exact ⟨a.toNat, by rw [ifB_f]; congr 1; omega, by omega⟩
  have hbt : ∀ v : Int, 0 ≤ v → v < 256 → byteB v = true := fun v h0 h1 => by
    unfold byteB
    rw [decide_eq_true h0, decide_eq_true (show v ≤ 255 by omega)]
    rfl
  rw [en, bnd_some, rng1_ok (by omega) (by omega), bnd_some]
  obtain ⟨xs, f2, f3, f4⟩ := compM_all (f := m__law_thing_C0 ns k) (P := fun v => byteB v = true) (rangeI 0 (n : Int)) [] (fun j hj => by
    have hj := mem_rangeI hj
    obtain ⟨v, g1, g2, g3⟩ := draw_ok ns (((200 : Int) + ((80 : Int) * k)) + j) 256 (by omega) (by omega) (by decide)
    exact ⟨v, by unfold m__law_thing_C0; rw [g1, bnd_some], hbt v g2 g3⟩) (by rw [rangeI_length]; simp; omega) (fun _ h => nomatch h)
  rw [rangeI_length] at f3
  rw [f2, bnd_some, bnd_some]
  exact ⟨xs, rfl, by rw [f3]; simp; omega, f4⟩
theorem law_true (ns : List Int) (hn : ns.length ≤ 63) : m_law ns = some true := by
  unfold m_law
  obtain ⟨a, e1, a0, a1⟩ := draw_ok ns 0 8 (by decide) (by decide) (by decide)
  obtain ⟨b, e2, b0, b1⟩ := draw_ok ns 1 6 (by decide) (by decide) (by decide)
  obtain ⟨c, e3, c0, c1⟩ := draw_ok ns 0 40 (by decide) (by decide) (by decide)
  obtain ⟨first, e4, f0, f1⟩ := draw_ok ns 2 256 (by decide) (by decide) (by decide)
  obtain ⟨e, e5, g0, g1⟩ := draw_ok ns 3 6 (by decide) (by decide) (by decide)
  obtain ⟨g, e7, i0, i1⟩ := draw_ok ns 5 2 (by decide) (by decide) (by decide)
  obtain ⟨h, e8, j0, j1⟩ := draw_ok ns 7 3 (by decide) (by decide) (by decide)
  rw [e1, bnd_some, ltv_eq, e2, bnd_some, e3, bnd_some]
  obtain ⟨many, em, m0, m1⟩ : ∃ many : Nat, (ifB (decide (b = (0 : Int))) (some ((1 : Int) + c)) (some ((1 : Int) + a))) = some (many : Int) ∧ 1 ≤ many ∧ many ≤ 40 := by
    cases decide (b = (0 : Int)) with
    | true => exact ⟨(1 + c).toNat, by rw [ifB_t]; congr 1; omega, by omega, by omega⟩
    | false => exact ⟨(1 + a).toNat, by rw [ifB_f]; congr 1; omega, by omega, by omega⟩
  obtain ⟨hole, e6, h60, h61⟩ := draw_ok ns 4 (((3 : Int) * (many : Int)) + (2 : Int)) (by decide) (by decide) (by omega)
  rw [em, bnd_some, e4, bnd_some, rng1_ok (by omega) (by omega), bnd_some]
  obtain ⟨ths, q1, q2, q3⟩ := compM_all (f := m_law_C0 ns) (P := fun xs => xs.length ≤ 75 ∧ ∀ b ∈ xs, byteB b = true) (rangeI 0 (many : Int)) [] (fun k hk => by
    have hk := mem_rangeI hk
    exact things_ok ns k hk.1 (by omega)) (by rw [rangeI_length]; simp; omega) (fun _ h => nomatch h)
  rw [rangeI_length] at q2
  have hlen : ths.length = many := by rw [q2]; simp
  rw [q1, bnd_some, e5, bnd_some, ltv_eq, e6, bnd_some, e7, bnd_some, e8, bnd_some]
  obtain ⟨wide, ew⟩ : ∃ w, (ifB (decide (g = (0 : Int))) (bnd (atI ([(4 : Int), (20 : Int), (255 : Int)]) h) fun e_44 => bnd (m__law_draw ns (6 : Int) e_44) fun law_dr_46 => some law_dr_46) (some (0 : Int))) = some w := by
    cases decide (g = (0 : Int)) with
    | false => exact ⟨0, rfl⟩
    | true =>
      obtain ⟨x, hx, hm⟩ := atI_mem (xs := [(4 : Int), 20, 255]) j0 (by simpa using j1)
      have : 0 < x := by
        simp only [List.mem_cons, List.not_mem_nil, or_false] at hm
        omega
      obtain ⟨v, ev, _, _⟩ := draw_ok ns 6 x (by decide) (by decide) this
      exact ⟨v, by rw [ifB_t, hx, bnd_some, ev, bnd_some]⟩
  have hi : m_Joiner_init = some (S_Joiner.mk none 0 0 [] none) := rfl
  have hR : Rj (S_Joiner.mk none 0 0 [] none) none none 0 := ⟨rfl, rfl, (fun _ h => nomatch h), Nat.le_refl _⟩
  rw [ew, bnd_some, hi, bnd_some, bnd_some, bnd_some]
  obtain ⟨⟨told, due, at_, lost, J, O⟩, r1, k0, th, gg, hd, ht, hg, ⟨cc, hc1, hc2, R, hl⟩, hO, hw, hdl⟩ := loopF_rng (R := Bool) (f := fun k_97 (s : S1) => m_law_L1 ns first ths ((1 : Int) + e) hole wide k_97 s.1 s.2.1 s.2.2.1 s.2.2.2.1 s.2.2.2.2.1 s.2.2.2.2.2) (I1 first) (hi := (many : Int)) (fun k s hk I => thing_step ns first _ hole wide ths q3 k (by omega) (by omega) s I) many 0 ([], [], 0, 0, S_Joiner.mk none 0 0 [] none, S_Joiner.mk none 0 0 [] none) (by omega) (by omega) ⟨by omega, none, none, rfl, (fun _ h => nomatch h), (fun _ h => nomatch h), ⟨0, rfl, by omega, hR, by simp⟩, ⟨none, none, hR.more (by decide), (fun _ h => nomatch h)⟩, (fun _ h => nomatch h), by simp⟩
  rw [r1, fin_nx]
  dsimp only at hd ht hg hc1 R hl hO hw hdl ⊢
  rw [show ((many : Int)).toNat = many from rfl] at hc2 hdl
  obtain ⟨J1, t1, R1⟩ := end_ok R
  obtain ⟨J2, t2, R2⟩ := end_ok R1
  have ho : m_Joiner_is_open J1 = some false := by
    unfold m_Joiner_is_open
    rw [R1.tag]
    rfl
  have h0 := told0_len th
  rw [t1, bnd_some]
  dsimp only
  rw [Bool.not_true, ifB_f, ho, bnd_some, bnd_some, decide_eq_true rfl, Bool.not_true, ifB_f, catG_ok (by omega), bnd_some, hd, lay_td _ hw, bnd_some, bnd_some, decide_eq_true rfl, ifB_t, t2, bnd_some]
  dsimp only
  rw [show told0 (none : Th) = [] from rfl, lay_td [] (fun _ h => nomatch h), bnd_some, bnd_some, decide_eq_true rfl, bnd_some]
end Bt

open PySem PySem.W PyProof.Rows in
set_option maxRecDepth 100000 in
set_option maxHeartbeats 0 in
theorem PySem.Challenge.cw_bitrail_k73_whole_things_whole_or_broken_holds : PySem.Challenge.rw_bitrail_k73_whole_things_whole_or_broken.Holds := by
  w_on; o_law; k_head; (case hw => w_witness2)
  k_fill
  refine Bt.walk Bt.law_true (l := PySem.Challenge.rw_bitrail_k73_whole_things_whole_or_broken) rfl rfl (fun w h Y => PySem.W.kIn_of Y) ?F
  case F =>
    intro w mg fa h KX G hmg
    obtain ⟨f__law_draw, fd__law_draw, F__law_draw, g__law_draw⟩ : ∃ f fd, L2.Fun _ "_law_draw" "_law_draw" Bt.s__law_draw f fd ∧ mg "_law_draw" = some (.ref f) := by
      refine' Bt.def_mk KX G ?a ?l ?c ?k
      (case a => k_is)
      (case l => k_is)
      (case c => k_is)
      (case k => k_is)
    obtain ⟨f__law_thing, fd__law_thing, F__law_thing, g__law_thing⟩ : ∃ f fd, L2.Fun _ "_law_thing" "_law_thing" Bt.s__law_thing f fd ∧ mg "_law_thing" = some (.ref f) := by
      refine' Bt.def_mk KX G ?a ?l ?c ?k
      (case a => k_is)
      (case l => k_is)
      (case c => k_is)
      (case k => k_is)
    obtain ⟨f_is_byte, fd_is_byte, F_is_byte, g_is_byte⟩ : ∃ f fd, L2.Fun _ "is_byte" "is_byte" Bt.s_is_byte f fd ∧ mg "is_byte" = some (.ref f) := by
      refine' Bt.def_mk KX G ?a ?l ?c ?k
      (case a => k_is)
      (case l => k_is)
      (case c => k_is)
      (case k => k_is)
    obtain ⟨f_cut, fd_cut, F_cut, g_cut⟩ : ∃ f fd, L2.Fun _ "cut" "cut" Bt.s_cut f fd ∧ mg "cut" = some (.ref f) := by
      refine' Bt.def_mk KX G ?a ?l ?c ?k
      (case a => k_is)
      (case l => k_is)
      (case c => k_is)
      (case k => k_is)
    obtain ⟨f_ask_piece, fd_ask_piece, F_ask_piece, g_ask_piece⟩ : ∃ f fd, L2.Fun _ "ask_piece" "ask_piece" Bt.s_ask_piece f fd ∧ mg "ask_piece" = some (.ref f) := by
      refine' Bt.def_mk KX G ?a ?l ?c ?k
      (case a => k_is)
      (case l => k_is)
      (case c => k_is)
      (case k => k_is)
    obtain ⟨f__law_is_apart, fd__law_is_apart, F__law_is_apart, g__law_is_apart⟩ : ∃ f fd, L2.Fun _ "_law_is_apart" "_law_is_apart" Bt.s__law_is_apart f fd ∧ mg "_law_is_apart" = some (.ref f) := by
      refine' Bt.def_mk KX G ?a ?l ?c ?k
      (case a => k_is)
      (case l => k_is)
      (case c => k_is)
      (case k => k_is)
    obtain ⟨f_law, fd_law, F_law, g_law⟩ : ∃ f fd, L2.Fun _ "law" "law" Bt.s_law f fd ∧ mg "law" = some (.ref f) := by
      refine' Bt.def_mk KX G ?a ?l ?c ?k
      (case a => k_is)
      (case l => k_is)
      (case c => k_is)
      (case k => k_is)
    have z_int : mg "int" = none := PySem.W.mg_none_of KX G (by k_is)
    have z_isinstance : mg "isinstance" = none := PySem.W.mg_none_of KX G (by k_is)
    have z_len : mg "len" = none := PySem.W.mg_none_of KX G (by k_is)
    have z_list : mg "list" = none := PySem.W.mg_none_of KX G (by k_is)
    have z_max : mg "max" = none := PySem.W.mg_none_of KX G (by k_is)
    have z_range : mg "range" = none := PySem.W.mg_none_of KX G (by k_is)
    have g_LONGEST : Bt.Gv mg "LONGEST" (.int 75) := by
      refine' Bt.gv_int KX G ?a
      (case a => k_is)
    have g_PART_joiners : Bt.Gv mg "PART_joiners" (.int 5) := by
      refine' Bt.gv_int KX G ?a
      (case a => k_is)
    have g_PART_things : Bt.Gv mg "PART_things" (.int 5) := by
      refine' Bt.gv_int KX G ?a
      (case a => k_is)
    obtain ⟨c_Joiner, f_Joiner_end, f_Joiner_init, f_Joiner_is_open, f_Joiner_stray, f_Joiner_take, fd_Joiner_end, fd_Joiner_init, fd_Joiner_is_open, fd_Joiner_stray, fd_Joiner_take, C_Joiner, N_Joiner_broken_tag, N_Joiner_due, N_Joiner_joined, N_Joiner_kept, N_Joiner_tag, F_Joiner_end, F_Joiner_init, F_Joiner_is_open, F_Joiner_stray, F_Joiner_take, M_Joiner_end, M_Joiner_is_open, M_Joiner_stray, M_Joiner_take, K_Joiner, k_Joiner⟩ : ∃ (c_Joiner f_Joiner_end f_Joiner_init f_Joiner_is_open f_Joiner_stray f_Joiner_take : Addr) (fd_Joiner_end fd_Joiner_init fd_Joiner_is_open fd_Joiner_stray fd_Joiner_take : FuncData), L2.Cls _ c_Joiner ∧ L2.NoAttr _ c_Joiner "broken_tag" ∧ L2.NoAttr _ c_Joiner "due" ∧ L2.NoAttr _ c_Joiner "joined" ∧ L2.NoAttr _ c_Joiner "kept" ∧ L2.NoAttr _ c_Joiner "tag" ∧ L2.Fun _ "end" "Joiner.end" Bt.s_Joiner_end f_Joiner_end fd_Joiner_end ∧ L2.Fun _ "__init__" "Joiner.__init__" Bt.s_Joiner_init f_Joiner_init fd_Joiner_init ∧ L2.Fun _ "is_open" "Joiner.is_open" Bt.s_Joiner_is_open f_Joiner_is_open fd_Joiner_is_open ∧ L2.Fun _ "stray" "Joiner.stray" Bt.s_Joiner_stray f_Joiner_stray fd_Joiner_stray ∧ L2.Fun _ "take" "Joiner.take" Bt.s_Joiner_take f_Joiner_take fd_Joiner_take ∧ L2.Meth _ c_Joiner "end" f_Joiner_end ∧ L2.Meth _ c_Joiner "is_open" f_Joiner_is_open ∧ L2.Meth _ c_Joiner "stray" f_Joiner_stray ∧ L2.Meth _ c_Joiner "take" f_Joiner_take ∧ L2.Mk _ c_Joiner f_Joiner_init ∧ mg "Joiner" = some (.ref c_Joiner) := by
      refine' Bt.packc KX G ?a_Joiner ?pg_Joiner ?hd_Joiner ?po_Joiner ?sa_Joiner ?n_Joiner_broken_tag ?n_Joiner_due ?n_Joiner_joined ?n_Joiner_kept ?n_Joiner_tag ?at_Joiner_end ?if_Joiner_end ?il_Joiner_end ?ic_Joiner_end ?ik_Joiner_end ?at_Joiner_init ?if_Joiner_init ?il_Joiner_init ?ic_Joiner_init ?ik_Joiner_init ?at_Joiner_is_open ?if_Joiner_is_open ?il_Joiner_is_open ?ic_Joiner_is_open ?ik_Joiner_is_open ?at_Joiner_stray ?if_Joiner_stray ?il_Joiner_stray ?ic_Joiner_stray ?ik_Joiner_stray ?at_Joiner_take ?if_Joiner_take ?il_Joiner_take ?ic_Joiner_take ?ik_Joiner_take ?mk_Joiner ?kc_Joiner
      (case a_Joiner => k_is)
      (case pg_Joiner => k_is)
      (case hd_Joiner => k_is)
      (case po_Joiner => k_is)
      (case sa_Joiner => k_is)
      (case n_Joiner_broken_tag => k_is)
      (case n_Joiner_due => k_is)
      (case n_Joiner_joined => k_is)
      (case n_Joiner_kept => k_is)
      (case n_Joiner_tag => k_is)
      (case at_Joiner_end => k_is)
      (case if_Joiner_end => k_is)
      (case il_Joiner_end => k_is)
      (case ic_Joiner_end => k_is)
      (case ik_Joiner_end => k_is)
      (case at_Joiner_init => k_is)
      (case if_Joiner_init => k_is)
      (case il_Joiner_init => k_is)
      (case ic_Joiner_init => k_is)
      (case ik_Joiner_init => k_is)
      (case at_Joiner_is_open => k_is)
      (case if_Joiner_is_open => k_is)
      (case il_Joiner_is_open => k_is)
      (case ic_Joiner_is_open => k_is)
      (case ik_Joiner_is_open => k_is)
      (case at_Joiner_stray => k_is)
      (case if_Joiner_stray => k_is)
      (case il_Joiner_stray => k_is)
      (case ic_Joiner_stray => k_is)
      (case ik_Joiner_stray => k_is)
      (case at_Joiner_take => k_is)
      (case if_Joiner_take => k_is)
      (case il_Joiner_take => k_is)
      (case ic_Joiner_take => k_is)
      (case ik_Joiner_take => k_is)
      (case mk_Joiner => k_is)
      (case kc_Joiner => k_is)
    obtain ⟨es, n_NoThing, e_NoThing⟩ : ∃ (es : Bt.Eds), mg "NoThing" = some (.ref es.NoThing) ∧ Bt.ErrC _ mg "NoThing" es.NoThing := by
      refine' Bt.pack KX G ?a_NoThing ?e_NoThing ?k_NoThing ?s_NoThing ?t_NoThing
      (case a_NoThing => k_is)
      (case e_NoThing => first | k_exc | k_is | decide +kernel)
      (case k_NoThing => k_is)
      (case s_NoThing => k_is)
      (case t_NoThing => k_is)
    cases hmg.symm.trans g_law
    refine ⟨fd_law, ?_, fun base _ _ => Bt.ok_law (ad := ⟨f__law_draw, fd__law_draw, f_Joiner_end, fd_Joiner_end, f__law_thing, fd__law_thing, f_Joiner_init, fd_Joiner_init, f_is_byte, fd_is_byte, f_cut, fd_cut, f_Joiner_is_open, fd_Joiner_is_open, f_ask_piece, fd_ask_piece, f_Joiner_stray, fd_Joiner_stray, f_Joiner_take, fd_Joiner_take, f__law_is_apart, fd__law_is_apart, fa, fd_law, c_Joiner, es⟩) ⟨F__law_draw, g__law_draw, F__law_draw.binds (ps := ["script", "k", "many"]) fun _ _ _ _ _ _ us hl => match us, hl with | [_, _, _], _ => rfl, F_Joiner_end, F_Joiner_end.binds (ps := ["self"]) fun _ _ _ _ _ _ us hl => match us, hl with | [_], _ => rfl, F__law_thing, g__law_thing, F__law_thing.binds (ps := ["script", "k"]) fun _ _ _ _ _ _ us hl => match us, hl with | [_, _], _ => rfl, F_Joiner_init, F_Joiner_init.binds (ps := ["self"]) fun _ _ _ _ _ _ us hl => match us, hl with | [_], _ => rfl, F_is_byte, g_is_byte, F_is_byte.binds (ps := ["number"]) fun _ _ _ _ _ _ us hl => match us, hl with | [_], _ => rfl, F_cut, g_cut, F_cut.binds (ps := ["tag", "thing"]) fun _ _ _ _ _ _ us hl => match us, hl with | [_, _], _ => rfl, F_Joiner_is_open, F_Joiner_is_open.binds (ps := ["self"]) fun _ _ _ _ _ _ us hl => match us, hl with | [_], _ => rfl, F_ask_piece, g_ask_piece, F_ask_piece.binds (ps := ["piece"]) fun _ _ _ _ _ _ us hl => match us, hl with | [_], _ => rfl, F_Joiner_stray, F_Joiner_stray.binds (ps := ["self", "tag"]) fun _ _ _ _ _ _ us hl => match us, hl with | [_, _], _ => rfl, F_Joiner_take, F_Joiner_take.binds (ps := ["self", "piece"]) fun _ _ _ _ _ _ us hl => match us, hl with | [_, _], _ => rfl, F__law_is_apart, g__law_is_apart, F__law_is_apart.binds (ps := ["joiner", "tag"]) fun _ _ _ _ _ _ us hl => match us, hl with | [_, _], _ => rfl, F_law, g_law, F_law.binds (ps := ["script"]) fun _ _ _ _ _ _ us hl => match us, hl with | [_], _ => rfl, z_int, z_isinstance, z_len, z_list, z_max, z_range, g_LONGEST, g_PART_joiners, g_PART_things, e_NoThing, C_Joiner, N_Joiner_broken_tag, N_Joiner_due, N_Joiner_joined, N_Joiner_kept, N_Joiner_tag, M_Joiner_end, M_Joiner_is_open, M_Joiner_stray, M_Joiner_take, K_Joiner, k_Joiner⟩⟩
    obtain ⟨oc, od, kV, doc, pm, an, cdv, ct, osl, rfl, lk, hcd⟩ := F_law.ex
    exact fun s u => .of_eq rfl
