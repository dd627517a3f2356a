import PyProof.Rows.All
import Wide.All
import OpenK.AllK
import Wide.FinOn
import HandS.ForMost
import HandS.Exc
import HandS.TryOnly
import HandS.ExcOwn
import HandS.WordsExc
import HandS.IsInst
import HandS.Wide
import HandS.WideBits
import HandS.Flow
import HandS.Evl
import HandS.TryMany
import HandS.Style
import HandS.SortKw
import KE.DatumOrd
import HandS.ExcIs
import HandS.HotCalls
import KE.KExcIs
import HandS.ExcInit
import HandS.ExcField
import PySem.Challenge.RW_bitrail_k30_counts
set_option Elab.async false
set_option linter.all false
set_option maxRecDepth 100000
set_option maxHeartbeats 4000000
/-! The base of all proofs over bitrail: owned cells over a frame, and the readings' steps, one a construct. -/
namespace Bt
open PySem L2

/-! ### owned cells -/
abbrev Cell := Addr × HO
abbrev Ex (H H' : Hp) : Prop := ∀ a o, H a = some o → H' a = some o
theorem Ex.refl (H : Hp) : Ex H H := fun _ _ h => h
theorem Ex.trans {H H1 H2 : Hp} (a : Ex H H1) (b : Ex H1 H2) : Ex H H2 := fun x o h => b x o (a x o h)
theorem Ex.new {H : Hp} {p : Addr} {o : HO} (h : H p = none) : Ex H (upd H p o) := fun a u e => by
  rw [upd_ne (ne_of_none e h)]
  exact e
theorem Ex.back {H H' : Hp} {p : Addr} (e : Ex H H') (h : H' p = none) : H p = none := by
  cases h1 : H p with
  | none => rfl
  | some o =>
    rw [e p o h1] at h
    cases h
theorem Ex.rd {H H' : Hp} {a : Addr} {u : HO} (e : Ex H H') (h : Rd H a u) : Rd H' a u := by
  rcases h with h | ⟨o, h⟩
  · exact Or.inl (e a _ h)
  · exact Or.inr ⟨o, e a _ h⟩
theorem Ex.l {K : PySem.W.Frag} {H H' : Hp} {a : Addr} {xs : List V} (e : Ex H H') (h : SqL K H a xs) : SqL K H' a xs := by
  rcases h with h | h
  · exact Or.inl (e.rd h)
  · exact Or.inr h
theorem Ex.t {K : PySem.W.Frag} {H H' : Hp} {a : Addr} {xs : List V} (e : Ex H H') (h : SqT K H a xs) : SqT K H' a xs := by
  rcases h with h | h
  · exact Or.inl (e.rd h)
  · exact Or.inr h

/-- H holds the frame R, and beside it the cells L, at unlike places that R does not know -/
structure Own (R H : Hp) (L : List Cell) : Prop where
  ex : Ex R H
  at_ : ∀ c ∈ L, H c.1 = some c.2
  fr : ∀ c ∈ L, R c.1 = none
  nd : (L.map (·.1)).Nodup

section
variable {R H H' : Hp} {L L' A B C : List Cell} {a p q : Addr} {o o' : HO}
theorem Own.start (H : Hp) : Own H H [] := ⟨Ex.refl H, fun _ h => (nomatch h), fun _ h => (nomatch h), List.Pairwise.nil⟩
theorem Own.mem (O : Own R H L) (h : (a, o) ∈ L) : H a = some o := O.at_ _ h
theorem Own.g0 {c1 : Cell} (O : Own R H (c1 :: L)) : H c1.1 = some c1.2 := O.at_ _ (List.Mem.head _)
theorem Own.tl {c1 : Cell} (O : Own R H (c1 :: L)) : Own R H L :=
  ⟨O.ex, fun c h => O.at_ c (List.Mem.tail _ h), fun c h => O.fr c (List.Mem.tail _ h), (List.nodup_cons.mp O.nd).2⟩
theorem Own.ext (O : Own R H L) (e : Ex H H') : Own R H' L := ⟨O.ex.trans e, fun c h => e _ _ (O.at_ c h), O.fr, O.nd⟩
theorem Own.notin (O : Own R H L) (h : H p = none) : p ∉ L.map (·.1) := fun m => by
  obtain ⟨c, hc, e⟩ := List.mem_map.mp m
  have := O.at_ c hc
  rw [e, h] at this
  cases this
theorem Own.ext1 (O : Own R H L) (e : Ex H H') (h : H p = none) (h' : H' p = some o) : Own R H' ((p, o) :: L) :=
  ⟨O.ex.trans e, fun c hc => by
    rcases List.mem_cons.mp hc with rfl | hc
    · exact h'
    · exact e _ _ (O.at_ c hc), fun c hc => by
    rcases List.mem_cons.mp hc with rfl | hc
    · exact O.ex.back h
    · exact O.fr c hc, List.nodup_cons.mpr ⟨O.notin h, O.nd⟩⟩
theorem Own.new (O : Own R H L) (h : H p = none) : Own R (upd H p o) ((p, o) :: L) := O.ext1 (Ex.new h) h upd_same
/-- more cells, owned over H -/
theorem Own.app (O : Own R H L) (N : Own H H' A) : Own R H' (A ++ L) :=
  ⟨O.ex.trans N.ex, fun c hc => by
    rcases List.mem_append.mp hc with hc | hc
    · exact N.at_ c hc
    · exact N.ex _ _ (O.at_ c hc), fun c hc => by
    rcases List.mem_append.mp hc with hc | hc
    · exact O.ex.back (N.fr c hc)
    · exact O.fr c hc, by
    rw [List.map_append]
    refine List.nodup_append.mpr ⟨N.nd, O.nd, fun x hx y hy e => ?_⟩
    subst e
    obtain ⟨c, hc, e⟩ := List.mem_map.mp hx
    have := N.fr c hc
    rw [e] at this
    exact O.notin this hy⟩
theorem Own.put (O : Own R H (A ++ (p, o) :: B)) : Own R (upd H p o') (A ++ (p, o') :: B) := by
  have nd := O.nd
  rw [List.map_append, List.map_cons] at nd
  have nA : p ∉ A.map (·.1) := fun m => by
    have := (List.nodup_append.mp nd).2.2
    exact this _ m p (List.Mem.head _) rfl
  have nB : p ∉ B.map (·.1) := (List.nodup_cons.mp (List.nodup_append.mp nd).2.1).1
  have hp : R p = none := O.fr (p, o) (by simp)
  refine ⟨fun b u e => ?_, fun c hc => ?_, fun c hc => ?_, by rw [List.map_append, List.map_cons]; exact nd⟩
  · rw [upd_ne (ne_of_none e hp)]
    exact O.ex _ _ e
  · rcases List.mem_append.mp hc with hA | hc
    · rw [upd_ne (fun e : c.1 = p => nA (by rw [← e]; exact List.mem_map_of_mem hA))]
      exact O.at_ c (List.mem_append.mpr (Or.inl hA))
    · rcases List.mem_cons.mp hc with rfl | hB
      · exact upd_same
      · rw [upd_ne (fun e : c.1 = p => nB (by rw [← e]; exact List.mem_map_of_mem hB))]
        exact O.at_ c (List.mem_append.mpr (Or.inr (List.mem_cons_of_mem _ hB)))
  · rcases List.mem_append.mp hc with hA | hc
    · exact O.fr c (List.mem_append.mpr (Or.inl hA))
    · rcases List.mem_cons.mp hc with rfl | hB
      · exact hp
      · exact O.fr c (List.mem_append.mpr (Or.inr (List.mem_cons_of_mem _ hB)))
theorem Own.put0 (O : Own R H ((p, o) :: B)) : Own R (upd H p o') ((p, o') :: B) := Own.put (A := []) O
theorem Own.put1 {c1 : Cell} (O : Own R H (c1 :: (p, o) :: B)) : Own R (upd H p o') (c1 :: (p, o') :: B) := Own.put (A := [c1]) O
theorem Own.put2 {c1 c2 : Cell} (O : Own R H (c1 :: c2 :: (p, o) :: B)) : Own R (upd H p o') (c1 :: c2 :: (p, o') :: B) := Own.put (A := [c1, c2]) O
theorem Own.put3 {c1 c2 c3 : Cell} (O : Own R H (c1 :: c2 :: c3 :: (p, o) :: B)) : Own R (upd H p o') (c1 :: c2 :: c3 :: (p, o') :: B) := Own.put (A := [c1, c2, c3]) O
theorem Own.put4 {c1 c2 c3 c4 : Cell} (O : Own R H (c1 :: c2 :: c3 :: c4 :: (p, o) :: B)) : Own R (upd H p o') (c1 :: c2 :: c3 :: c4 :: (p, o') :: B) := Own.put (A := [c1, c2, c3, c4]) O
theorem Own.put5 {c1 c2 c3 c4 c5 : Cell} (O : Own R H (c1 :: c2 :: c3 :: c4 :: c5 :: (p, o) :: B)) : Own R (upd H p o') (c1 :: c2 :: c3 :: c4 :: c5 :: (p, o') :: B) := Own.put (A := [c1, c2, c3, c4, c5]) O
theorem Own.put6 {c1 c2 c3 c4 c5 c6 : Cell} (O : Own R H (c1 :: c2 :: c3 :: c4 :: c5 :: c6 :: (p, o) :: B)) : Own R (upd H p o') (c1 :: c2 :: c3 :: c4 :: c5 :: c6 :: (p, o') :: B) := Own.put (A := [c1, c2, c3, c4, c5, c6]) O
theorem Own.perm (O : Own R H L) (e : L.Perm L') : Own R H L' :=
  ⟨O.ex, fun c h => O.at_ c (e.mem_iff.mpr h), fun c h => O.fr c (e.mem_iff.mpr h), (e.map _).nodup_iff.mp O.nd⟩
/-- fewer cells -/
theorem Own.sub (O : Own R H L) (e : L'.Sublist L) : Own R H L' :=
  ⟨O.ex, fun c h => O.at_ c (e.subset h), fun c h => O.fr c (e.subset h), List.Nodup.sublist (e.map _) O.nd⟩
/-- THE FRAME: what is done to some of the cells, the others being its frame -/
theorem Own.focus (O : Own R H (A ++ B)) : ∃ R', Own R' H A ∧ Ex R R' ∧ (∀ c ∈ B, R' c.1 = some c.2) ∧ ∀ H' A', Own R' H' A' → Own R H' (A' ++ B) := by
  have nd := O.nd
  rw [List.map_append] at nd
  obtain ⟨ndA, ndB, dis⟩ := List.nodup_append.mp nd
  refine ⟨fun b => if b ∈ A.map (·.1) then none else H b, ⟨fun b u e => ?_, fun c h => O.at_ c (List.mem_append.mpr (Or.inl h)), fun c h => if_pos (List.mem_map_of_mem h), ndA⟩, fun b u e => ?_, fun c hc => ?_, fun H' A' O' => ?_⟩
  · by_cases hb : b ∈ A.map (·.1)
    · rw [if_pos hb] at e; cases e
    · rw [if_neg hb] at e; exact e
  · have hb : b ∉ A.map (·.1) := fun m => by
      obtain ⟨c, hc, e1⟩ := List.mem_map.mp m
      have := O.fr c (List.mem_append.mpr (Or.inl hc))
      rw [e1, e] at this
      cases this
    show (if b ∈ A.map (·.1) then none else H b) = some u
    rw [if_neg hb]
    exact O.ex _ _ e
  · have hb : c.1 ∉ A.map (·.1) := fun m => dis _ m _ (List.mem_map_of_mem hc) rfl
    show (if c.1 ∈ A.map (·.1) then none else H c.1) = some c.2
    rw [if_neg hb]
    exact O.at_ c (List.mem_append.mpr (Or.inr hc))
  · have hB : ∀ c ∈ B, (if c.1 ∈ A.map (·.1) then none else H c.1) = some c.2 := fun c hc => by
      have hb : c.1 ∉ A.map (·.1) := fun m => dis _ m _ (List.mem_map_of_mem hc) rfl
      rw [if_neg hb]
      exact O.at_ c (List.mem_append.mpr (Or.inr hc))
    have hR : ∀ b u, R b = some u → (if b ∈ A.map (·.1) then none else H b) = some u := fun b u e => by
      have hb : b ∉ A.map (·.1) := fun m => by
        obtain ⟨c, hc, e1⟩ := List.mem_map.mp m
        have := O.fr c (List.mem_append.mpr (Or.inl hc))
        rw [e1, e] at this
        cases this
      rw [if_neg hb]
      exact O.ex _ _ e
    refine ⟨fun b u e => O'.ex _ _ (hR b u e), fun c hc => ?_, fun c hc => ?_, ?_⟩
    · rcases List.mem_append.mp hc with hc | hc
      · exact O'.at_ c hc
      · exact O'.ex _ _ (hB c hc)
    · rcases List.mem_append.mp hc with hc | hc
      · cases e : R c.1 with
        | none => rfl
        | some u =>
          have := O'.fr c hc
          rw [hR _ _ e] at this
          cases this
      · exact O.fr c (List.mem_append.mpr (Or.inr hc))
    · rw [List.map_append]
      refine List.nodup_append.mpr ⟨O'.nd, ndB, fun x hx y hy e => ?_⟩
      subst e
      obtain ⟨c, hc, e⟩ := List.mem_map.mp hx
      obtain ⟨d, hd, e2⟩ := List.mem_map.mp hy
      have h1 := O'.fr c hc
      have h2 := hB d hd
      rw [e2, ← e, h1] at h2
      cases h2
/-- the frame may be what is there now: all else is kept -/
theorem Own.over (O : Own R H L) : Own H H [] := Own.start H
end

/-! ### what a call hands back: a value; a new list; a new tuple -/
def RetV (v : V) (H : Hp) (Q : VK) : Prop := ∀ H', Ex H H' → Q v H'
def RetL (xs : List V) (H : Hp) (Q : VK) : Prop := ∀ p H', H p = none → Ex H H' → H' p = some (.lst xs) → Q (.ref p) H'
def RetT (xs : List V) (H : Hp) (Q : VK) : Prop := ∀ p H', H p = none → Ex H H' → H' p = some (.tup xs) → Q (.ref p) H'
/-- any new cells, as D says -/
def RetN (D : V → List Cell → Prop) (H : Hp) (Q : VK) : Prop := ∀ v H' L, Own H H' L → D v L → Q v H'
section
variable {R H : Hp} {L : List Cell} {Q : VK} {v : V} {xs : List V}
theorem Own.retV (O : Own R H L) (k : ∀ H', Own R H' L → Q v H') : RetV v H Q := fun H' e => k H' (O.ext e)
theorem Own.retL (O : Own R H L) (k : ∀ p H', Own R H' ((p, .lst xs) :: L) → Q (.ref p) H') : RetL xs H Q := fun p H' h e h' => k p H' (O.ext1 e h h')
theorem Own.retT (O : Own R H L) (k : ∀ p H', Own R H' ((p, .tup xs) :: L) → Q (.ref p) H') : RetT xs H Q := fun p H' h e h' => k p H' (O.ext1 e h h')
theorem Own.retN {D : V → List Cell → Prop} (O : Own R H L) (k : ∀ v H' N, Own R H' (N ++ L) → D v N → Q v H') : RetN D H Q := fun v H' N o d => k v H' N (O.app o) d
/-- the end of a def that started at H: what it hands back is new -/
theorem RetV.go {H0 H : Hp} {L : List Cell} {v : V} {Q : VK} (k : RetV v H0 Q) (O : Own H0 H L) : Q v H := k H O.ex
theorem RetL.go {H0 H : Hp} {L : List Cell} {xs : List V} {Q : VK} {p : Addr} (k : RetL xs H0 Q) (O : Own H0 H L) (h : (p, HO.lst xs) ∈ L) : Q (.ref p) H := k p H (O.fr _ h) O.ex (O.at_ _ h)
theorem RetT.go {H0 H : Hp} {L : List Cell} {xs : List V} {Q : VK} {p : Addr} (k : RetT xs H0 Q) (O : Own H0 H L) (h : (p, HO.tup xs) ∈ L) : Q (.ref p) H := k p H (O.fr _ h) O.ex (O.at_ _ h)
theorem RetN.go {H0 H : Hp} {L N : List Cell} {D : V → List Cell → Prop} {Q : VK} {v : V} (k : RetN D H0 Q) (O : Own H0 H L) (e : N.Sublist L) (d : D v N) : Q v H := k v H N (O.sub e) d
end

end Bt

set_option Elab.async false
set_option linter.all false
set_option maxRecDepth 100000
set_option maxHeartbeats 4000000
/-! The mirror's words (partial functions: none where the program would stop), and the steps that join a reading with its mirror. -/
namespace Bt
open PySem L2

/-! ### the mirror's words -/
section
variable {α β γ S R T : Type}
def ltv (a : α) (f : α → Option β) : Option β := f a
theorem ltvE {a : α} {f : α → Option β} {r : β} (h : ltv a f = some r) : ∃ x, a = x ∧ f x = some r := ⟨a, rfl, h⟩
def bnd (a : Option α) (f : α → Option β) : Option β := match a with
  | some x => f x
  | none => none
theorem bndE {a : Option α} {f : α → Option β} {r : β} (h : bnd a f = some r) : ∃ x, a = some x ∧ f x = some r := by
  cases a with
  | none => cases h
  | some x => exact ⟨x, rfl, h⟩
def ifB (c : Bool) (a b : α) : α := match c with
  | true => a
  | false => b
theorem ifT {c : Bool} {a b r : α} (h : ifB c a b = r) (hc : c = true) : a = r := by subst hc; exact h
theorem ifF {c : Bool} {a b r : α} (h : ifB c a b = r) (hc : c = false) : b = r := by subst hc; exact h
inductive Fl (S R : Type) where
  | nx (s : S)
  | rt (r : R)
  | bk (s : S)
def finK (rest : S → Option R) : Fl S R → Option R
  | .nx s => rest s
  | .rt r => some r
  | .bk _ => none
def fin (a : Option (Fl S R)) (rest : S → Option R) : Option R := bnd a (finK rest)
def floK (rest : S → Option (Fl T R)) : Fl S R → Option (Fl T R)
  | .nx s => rest s
  | .rt r => some (.rt r)
  | .bk _ => none
def flo (a : Option (Fl S R)) (rest : S → Option (Fl T R)) : Option (Fl T R) := bnd a (floK rest)
theorem finRt {rest : S → Option R} {v r : R} (h : finK rest (.rt v) = some r) : v = r := Option.some.inj h
theorem floRt {rest : S → Option (Fl T R)} {v : R} {fl : Fl T R} (h : floK rest (.rt v) = some fl) : Fl.rt v = fl := Option.some.inj h
def loopM (f : α → S → Option S) : List α → S → Option S
  | [], s => some s
  | x :: r, s => bnd (f x s) (loopM f r)
theorem loopM_nil {f : α → S → Option S} {s out : S} (h : loopM f [] s = some out) : out = s := (Option.some.inj h).symm
theorem loopM_cons {f : α → S → Option S} {x : α} {r : List α} {s out : S} (h : loopM f (x :: r) s = some out) : ∃ s', f x s = some s' ∧ loopM f r s' = some out := bndE h
def contF (go : S → Option (Fl S R)) : Fl S R → Option (Fl S R)
  | .nx s => go s
  | .rt r => some (.rt r)
  | .bk s => some (.nx s)
def loopF (f : α → S → Option (Fl S R)) : List α → S → Option (Fl S R)
  | [], s => some (.nx s)
  | x :: r, s => bnd (f x s) (contF (loopF f r))
theorem loopF_nil {f : α → S → Option (Fl S R)} {s : S} {out : Fl S R} (h : loopF f [] s = some out) : Fl.nx s = out := Option.some.inj h
theorem loopF_cons {f : α → S → Option (Fl S R)} {x : α} {r : List α} {s : S} {out : Fl S R} (h : loopF f (x :: r) s = some out) : ∃ fl, f x s = some fl ∧ contF (loopF f r) fl = some out := bndE h
theorem contRt {go : S → Option (Fl S R)} {v : R} {out : Fl S R} (h : contF go (.rt v) = some out) : Fl.rt v = out := Option.some.inj h
theorem contBk {go : S → Option (Fl S R)} {s : S} {out : Fl S R} (h : contF go (.bk s) = some out) : Fl.nx s = out := Option.some.inj h
def whileM (c : S → Option Bool) (f : S → Option S) : Nat → S → Option S
  | 0, _ => none
  | n + 1, s => bnd (c s) fun b => ifB b (bnd (f s) (whileM c f n)) (some s)
theorem whileM_zero {c : S → Option Bool} {f : S → Option S} {s out : S} (h : whileM c f 0 s = some out) : False := nomatch h
theorem whileM_succ {c : S → Option Bool} {f : S → Option S} {n : Nat} {s out : S} (h : whileM c f (n + 1) s = some out) : ∃ b, c s = some b ∧ ifB b (bnd (f s) (whileM c f n)) (some s) = some out := bndE h
def whileF (c : S → Option Bool) (f : S → Option (Fl S R)) : Nat → S → Option (Fl S R)
  | 0, _ => none
  | n + 1, s => bnd (c s) fun b => ifB b (bnd (f s) (contF (whileF c f n))) (some (.nx s))
theorem whileF_succ {c : S → Option Bool} {f : S → Option (Fl S R)} {n : Nat} {s : S} {out : Fl S R} (h : whileF c f (n + 1) s = some out) : ∃ b, c s = some b ∧ ifB b (bnd (f s) (contF (whileF c f n))) (some (.nx s)) = some out := bndE h
/-- a comprehension: what is kept, in order -/
def compM (f : α → Option β) : List α → List β → Option (List β)
  | [], acc => some acc
  | x :: r, acc => bnd (f x) fun y => if acc.length < 16777216 then compM f r (acc ++ [y]) else none
theorem compM_cons {f : α → Option β} {x : α} {r : List α} {acc out : List β} (h : compM f (x :: r) acc = some out) : ∃ y, f x = some y ∧ acc.length < 16777216 ∧ compM f r (acc ++ [y]) = some out := by
  obtain ⟨y, h1, h2⟩ := bndE (show bnd (f x) (fun y => if acc.length < 16777216 then compM f r (acc ++ [y]) else none) = some out from h)
  by_cases c : acc.length < 16777216
  · rw [if_pos c] at h2
    exact ⟨y, h1, c, h2⟩
  · rw [if_neg c] at h2
    cases h2
theorem compM_nil {f : α → Option β} {acc out : List β} (h : compM f [] acc = some out) : out = acc := (Option.some.inj h).symm
/-- .. with a test -/
def compT (c : α → Option Bool) (f : α → Option β) : List α → List β → Option (List β)
  | [], acc => some acc
  | x :: r, acc => bnd (c x) fun b => ifB b (bnd (f x) fun y => if acc.length < 16777216 then compT c f r (acc ++ [y]) else none) (compT c f r acc)
theorem compT_nil {c : α → Option Bool} {f : α → Option β} {acc out : List β} (h : compT c f [] acc = some out) : out = acc := (Option.some.inj h).symm
theorem compT_cons {c : α → Option Bool} {f : α → Option β} {x : α} {r : List α} {acc out : List β} (h : compT c f (x :: r) acc = some out) :
    ∃ b, c x = some b ∧ ifB b (bnd (f x) fun y => if acc.length < 16777216 then compT c f r (acc ++ [y]) else none) (compT c f r acc) = some out := bndE h
theorem compT_yes {c : α → Option Bool} {f : α → Option β} {x : α} {r : List α} {acc out : List β} (h : (bnd (f x) fun y => if acc.length < 16777216 then compT c f r (acc ++ [y]) else none) = some out) :
    ∃ y, f x = some y ∧ acc.length < 16777216 ∧ compT c f r (acc ++ [y]) = some out := by
  obtain ⟨y, h1, h2⟩ := bndE h
  by_cases c : acc.length < 16777216
  · rw [if_pos c] at h2
    exact ⟨y, h1, c, h2⟩
  · rw [if_neg c] at h2
    cases h2
end
section
variable {α : Type}
def grd (c : Prop) [Decidable c] (a : α) : Option α := if c then some a else none
theorem grdE {c : Prop} [Decidable c] {a r : α} (h : grd c a = some r) : c ∧ a = r := by
  unfold grd at h
  by_cases hc : c
  · rw [if_pos hc] at h
    exact ⟨hc, Option.some.inj h⟩
  · rw [if_neg hc] at h
    cases h
theorem grd_of {c : Prop} [Decidable c] {a : α} (h : c) : grd c a = some a := if_pos h
def appG (xs : List α) (y : α) : Option (List α) := grd (xs.length < 16777216) (xs ++ [y])
def catG (xs ys : List α) : Option (List α) := grd (xs.length + ys.length ≤ 16777216) (xs ++ ys)
def repL (xs : List α) : Nat → List α
  | 0 => []
  | n + 1 => xs ++ repL xs n
def repG (xs : List α) (k : Int) : Option (List α) := grd (-(2 ^ 63) ≤ k ∧ k < 2 ^ 63 ∧ xs.length * k.toNat ≤ 16777216) (List.flatten (List.replicate k.toNat xs))
def setG (xs : List α) (i : Int) (y : α) : Option (List α) := match ixN xs.length i with
  | some j => some (xs.set j y)
  | none => none
def cutL (xs : List α) (lo hi : Option Int) : List α := (xs.drop (HT.sIx xs.length 0 lo)).take (HT.sIx xs.length xs.length hi - HT.sIx xs.length 0 lo)
def rangeI (lo hi : Int) : List Int := (List.range (hi - lo).toNat).map fun (i : Nat) => lo + (i : Int)
def rng1 (hi : Int) : Option (List Int) := grd (-(2 ^ 62) ≤ hi ∧ hi < 2 ^ 62) (rangeI 0 hi)
def rng2 (lo hi : Int) : Option (List Int) := grd (-(2 ^ 62) ≤ lo ∧ lo < 2 ^ 62 ∧ -(2 ^ 62) ≤ hi ∧ hi < 2 ^ 62) (rangeI lo hi)
end
def modG (i j : Int) : Option Int := grd (0 < j) (i % j)
def fdivG (i j : Int) : Option Int := grd (0 < j ∧ j.natAbs.log2 < 9000) (i / j)
def mulG (i j : Int) : Option Int := grd (i.natAbs.log2 + j.natAbs.log2 < 1000000) (i * j)
def shlG (i j : Int) : Option Int := grd (0 ≤ j ∧ (Builtin.Int.intBits i : Int) + j ≤ 2 ^ 27) (i * 2 ^ j.toNat)
def shrG (i j : Int) : Option Int := grd (0 ≤ j) (i / 2 ^ j.toNat)
def powG (i j : Int) : Option Int := grd (0 ≤ j ∧ j ≤ 1000000 ∧ i.natAbs < 2 ^ 64) (i ^ j.toNat)

/-! ### the steps -/
section
variable {K : PySem.W.Frag} {σ : St} {H R : Hp} {L : List Cell} {Q : VK} {i j t : Int} {x y z v : V} {a b p q : Addr} {α : Type} {f : α → V} {xs ys zs : List α} {xs' ys' : List Int}
theorem k_mul (h : mulG i j = some t) (k : Q (.int t) H) : rI CMulW (fun i j => .int (i * j)) (.int i) (.int j) H Q := by
  obtain ⟨c, rfl⟩ := grdE h
  exact ⟨_, _, rfl, rfl, c, k⟩
theorem k_mod (h : modG i j = some t) (k : Q (.int t) H) : rI (fun _ j => 0 < j) (fun i j => .int (i % j)) (.int i) (.int j) H Q := by
  obtain ⟨c, rfl⟩ := grdE h
  exact ⟨_, _, rfl, rfl, c, k⟩
theorem k_fdiv (h : fdivG i j = some t) (k : Q (.int t) H) : rI CDivW (fun i j => .int (i / j)) (.int i) (.int j) H Q := by
  obtain ⟨c, rfl⟩ := grdE h
  exact ⟨_, _, rfl, rfl, c, k⟩
theorem k_shl (h : shlG i j = some t) (k : Q (.int t) H) : rI CShl (fun i j => .int (i * 2 ^ j.toNat)) (.int i) (.int j) H Q := by
  obtain ⟨c, rfl⟩ := grdE h
  exact ⟨_, _, rfl, rfl, c, k⟩
theorem k_shr (h : shrG i j = some t) (k : Q (.int t) H) : rI (fun _ j => 0 ≤ j) (fun i j => .int (i / 2 ^ j.toNat)) (.int i) (.int j) H Q := by
  obtain ⟨c, rfl⟩ := grdE h
  exact ⟨_, _, rfl, rfl, c, k⟩
theorem k_pow (h : powG i j = some t) (k : Q (.int t) H) : rI CPow (fun i j => .int (i ^ j.toNat)) (.int i) (.int j) H Q := by
  obtain ⟨c, rfl⟩ := grdE h
  exact ⟨_, _, rfl, rfl, c, k⟩
theorem dec_int (i j : Int) : decide (V.int i = V.int j) = decide (i = j) := by
  by_cases h : i = j
  · subst h; simp
  · have : ¬ V.int i = V.int j := fun e => h (V.int.inj e)
    simp [h, this]
theorem dec_bl (i j : Bool) : decide (V.bl i = V.bl j) = decide (i = j) := by
  by_cases h : i = j
  · subst h; simp
  · have : ¬ V.bl i = V.bl j := fun e => h (V.bl.inj e)
    simp [h, this]
theorem dec_str (i j : Str) : decide (V.str i = V.str j) = decide (i = j) := by
  by_cases h : i = j
  · subst h; simp
  · have : ¬ V.str i = V.str j := fun e => h (V.str.inj e)
    simp [h, this]
theorem k_eqI (k : Q (.bl (decide (i = j))) H) : rEq (.int i) (.int j) H Q := ⟨rfl, by rw [dec_int]; exact k⟩
theorem k_neI (k : Q (.bl (!decide (i = j))) H) : rNe (.int i) (.int j) H Q := ⟨rfl, by rw [dec_int]; exact k⟩
theorem k_eqB {c d : Bool} (k : Q (.bl (decide (c = d))) H) : rEq (.bl c) (.bl d) H Q := ⟨rfl, by rw [dec_bl]; exact k⟩
theorem k_neB {c d : Bool} (k : Q (.bl (!decide (c = d))) H) : rNe (.bl c) (.bl d) H Q := ⟨rfl, by rw [dec_bl]; exact k⟩
theorem k_eqS {c d : Str} (k : Q (.bl (decide (c = d))) H) : rEq (.str c) (.str d) H Q := ⟨rfl, by rw [dec_str]; exact k⟩
theorem k_neS {c d : Str} (k : Q (.bl (!decide (c = d))) H) : rNe (.str c) (.str d) H Q := ⟨rfl, by rw [dec_str]; exact k⟩
/-! deep == of flat lists -/
theorem dpI : ∀ (ns : List Int), DpAll K H (ns.map V.int) (ns.map PyData.int)
  | [] => .nil
  | n :: r => .cons (.int n) (dpI r)
theorem dpB : ∀ (ns : List Bool), DpAll K H (ns.map V.bl) (ns.map PyData.bool)
  | [] => .nil
  | n :: r => .cons (.bl n) (dpB r)
theorem dpS : ∀ (ns : List Str), DpAll K H (ns.map V.str) (ns.map PyData.str)
  | [] => .nil
  | n :: r => .cons (.str n) (dpS r)

theorem sh_I (ns : List Int) : SeqAt.shaped (.list (ns.map PyData.int)) = true := by
  have h1 : ∀ ns : List Int, PyData.canLayAll0 (ns.map PyData.int) = true := fun ns => by
    induction ns with
    | nil => rfl
    | cons n r ih => simpa [PyData.canLayAll0, PyData.canLay0] using ih
  have h2 : ∀ ns : List Int, PyData.depthAll (ns.map PyData.int) = 0 := fun ns => by
    induction ns with
    | nil => rfl
    | cons n r ih => simpa [PyData.depthAll, PyData.depth] using ih
  simp [SeqAt.shaped, PyData.canLay0, h1, PyData.depth, h2]
theorem sh_B (ns : List Bool) : SeqAt.shaped (.list (ns.map PyData.bool)) = true := by
  have h1 : ∀ ns : List Bool, PyData.canLayAll0 (ns.map PyData.bool) = true := fun ns => by
    induction ns with
    | nil => rfl
    | cons n r ih => simpa [PyData.canLayAll0, PyData.canLay0] using ih
  have h2 : ∀ ns : List Bool, PyData.depthAll (ns.map PyData.bool) = 0 := fun ns => by
    induction ns with
    | nil => rfl
    | cons n r ih => simpa [PyData.depthAll, PyData.depth] using ih
  simp [SeqAt.shaped, PyData.canLay0, h1, PyData.depth, h2]
theorem ev_I : ∀ (ns ms : List Int), PyData.eqv (.list (ns.map PyData.int)) (.list (ms.map PyData.int)) = decide (ns = ms) := by
  have h : ∀ (ns ms : List Int), PyData.eqvAll (ns.map PyData.int) (ms.map PyData.int) = decide (ns = ms) := fun ns => by
    induction ns with
    | nil => intro ms; cases ms <;> simp [PyData.eqvAll]
    | cons n r ih =>
      intro ms
      cases ms with
      | nil => simp [PyData.eqvAll]
      | cons m s =>
        simp only [List.map_cons, PyData.eqvAll, PyData.eqv, ih, List.cons.injEq, Bool.decide_and]
        rw [Bool.beq_eq_decide_eq]
  exact fun ns ms => by simpa only [PyData.eqv] using h ns ms
theorem k_eqLI (ha : SqL K H a (xs'.map V.int)) (hb : SqL K H b (ys'.map V.int)) (k : Q (.bl (decide (xs' = ys'))) H) : rEqD K (.ref a) (.ref b) H Q :=
  ⟨_, _, .lst ha (dpI _), .lst hb (dpI _), sh_I _, sh_I _, by rw [ev_I]; exact k⟩
theorem k_neLI (ha : SqL K H a (xs'.map V.int)) (hb : SqL K H b (ys'.map V.int)) (k : Q (.bl (!decide (xs' = ys'))) H) : rNeD K (.ref a) (.ref b) H Q :=
  ⟨_, _, .lst ha (dpI _), .lst hb (dpI _), sh_I _, sh_I _, by rw [ev_I]; exact k⟩
/-! lists -/
theorem k_len (h : SqL K H a (xs.map f)) (k : Q (.int (xs.length : Int)) H) : ∃ p ys, [V.ref a] = [V.ref p] ∧ (SqL K H p ys ∨ SqT K H p ys) ∧ Q (.int ys.length) H :=
  ⟨a, _, rfl, .inl h, by rw [List.length_map]; exact k⟩
theorem k_list (O : Own R H L) {ys : List V} (h : SqL K H a ys) (k : ∀ p H', Own R H' ((p, .lst ys) :: L) → Q (.ref p) H') : ∃ p ys, [V.ref a] = [V.ref p] ∧ (SqL K H p ys ∨ SqT K H p ys) ∧ ∀ l, H l = none → Q (.ref l) (upd H l (.lst ys)) :=
  ⟨a, _, rfl, .inl h, fun l hl => k l _ (O.new hl)⟩
theorem k_sum (h : SqL K H a (xs'.map V.int)) (k : Q (.int xs'.sum) H) : rSum K [.ref a] H Q := ⟨a, _, rfl, h, k⟩
theorem k_new {zs : List V} (O : Own R H L) (k : ∀ p H', Own R H' ((p, .lst zs) :: L) → Q (.ref p) H') : ∀ p, H p = none → Q (.ref p) (upd H p (.lst zs)) := fun p hp => k p _ (O.new hp)
theorem k_newT {zs : List V} (O : Own R H L) (k : ∀ p H', Own R H' ((p, .tup zs) :: L) → Q (.ref p) H') : ∀ p, H p = none → Q (.ref p) (upd H p (.tup zs)) := fun p hp => k p _ (O.new hp)
theorem at_map {xs : List α} {i : Int} {x : α} (h : atI xs i = some x) (f : α → V) : atI (xs.map f) i = some (f x) := by
  unfold atI at h ⊢
  rw [List.length_map]
  cases e : ixN xs.length i with
  | none => rw [e] at h; cases h
  | some j =>
    rw [e] at h
    show (xs.map f)[j]? = some (f x)
    rw [List.getElem?_map, (show xs[j]? = some x from h)]
    rfl
theorem k_ixL {x : α} (hs : SqL K H a (xs.map f)) (h : atI xs i = some x) (k : Q (f x) H) : rIxL K (.ref a) (.int i) H Q := ⟨a, _, i, _, rfl, rfl, hs, at_map h f, k⟩
theorem map_snoc (xs : List α) (x : α) (f : α → V) : xs.map f ++ [f x] = (xs ++ [x]).map f := by rw [List.map_append]; rfl
theorem k_app {x : α} {g : HO → List Cell} (hl : H a = some (.lst (xs.map f))) (hp : ∀ o', Own R (upd H a o') (g o')) (h : appG xs x = some ys) (k : ∀ H', Own R H' (g (.lst (ys.map f))) → Q .non H') : rAppend (.ref a) [f x] H Q := by
  obtain ⟨c, rfl⟩ := grdE h
  refine ⟨a, _, _, rfl, rfl, hl, by rw [List.length_map]; exact c, ?_⟩
  rw [map_snoc]
  exact k _ (hp _)
theorem map_cut (xs : List α) (lo hi : Option Int) (f : α → V) : cutV (xs.map f) lo hi = (cutL xs lo hi).map f := by
  unfold cutV cutL
  rw [List.length_map, ← List.map_drop, ← List.map_take]
theorem k_cut {lo hi : Option Int} (O : Own R H L) (hs : SqL K H a (xs.map f)) (k : ∀ p H', Own R H' ((p, .lst ((cutL xs lo hi).map f)) :: L) → Q (.ref p) H') : rSlL K (.ref a) lo hi H Q :=
  ⟨a, _, rfl, hs, fun p hp => by rw [map_cut]; exact k p _ (O.new hp)⟩
theorem k_cat {ys zs : List α} (O : Own R H L) (h1 : H a = some (.lst (xs.map f))) (h2 : H b = some (.lst (ys.map f))) (h : catG xs ys = some zs) (k : ∀ p H', Own R H' ((p, .lst (zs.map f)) :: L) → Q (.ref p) H') : rCat (.ref a) (.ref b) H Q := by
  obtain ⟨c, rfl⟩ := grdE h
  exact ⟨a, b, _, _, rfl, rfl, h1, h2, by rw [List.length_map, List.length_map]; exact c, fun p hp => by rw [← List.map_append]; exact k p _ (O.new hp)⟩
theorem k_setL {x : α} {g : HO → List Cell} {QH : Hp → Prop} (hl : H a = some (.lst (xs.map f))) (hp : ∀ o', Own R (upd H a o') (g o')) (h : setG xs i x = some ys) (k : ∀ H', Own R H' (g (.lst (ys.map f))) → QH H') : rSetL (.ref a) (.int i) (f x) H QH := by
  unfold setG at h
  cases e : ixN xs.length i with
  | none => rw [e] at h; cases h
  | some j =>
    rw [e] at h
    cases h
    refine ⟨a, _, i, j, rfl, rfl, hl, by rw [List.length_map]; exact e, ?_⟩
    have e2 : (xs.map f).set j (f x) = (xs.set j x).map f := by rw [List.map_set]
    rw [e2]
    exact k _ (hp _)
/-! tests with two sides: what the one is asked for, the other is not seen -/
theorem x_and {c d e : Bool} {tt uu : TT} {QB : Bool → Hp → Prop} (O : Own R H L) (h1 : ∀ Q1 : Bool → Hp → Prop, (∀ H', Own R H' L → Q1 c H') → tt σ H Q1) (h2 : c = true → e = d ∧ ∀ H', Own R H' L → ∀ Q2 : Bool → Hp → Prop, (∀ H'', Own R H'' L → Q2 e H'') → uu σ H' Q2)
    (h3 : c = false → false = d) (k : ∀ H', Own R H' L → QB d H') : tAnd tt uu σ H QB := by
  refine h1 _ fun H' O' => ?_
  cases c with
  | true =>
    obtain ⟨e1, g2⟩ := h2 rfl
    subst e1
    exact g2 H' O' QB k
  | false =>
    rw [← h3 rfl] at k
    exact k H' O'
theorem x_or {c d e : Bool} {tt uu : TT} {QB : Bool → Hp → Prop} (O : Own R H L) (h1 : ∀ Q1 : Bool → Hp → Prop, (∀ H', Own R H' L → Q1 c H') → tt σ H Q1) (h2 : c = false → e = d ∧ ∀ H', Own R H' L → ∀ Q2 : Bool → Hp → Prop, (∀ H'', Own R H'' L → Q2 e H'') → uu σ H' Q2)
    (h3 : c = true → true = d) (k : ∀ H', Own R H' L → QB d H') : tOr tt uu σ H QB := by
  refine h1 _ fun H' O' => ?_
  cases c with
  | false =>
    obtain ⟨e1, g2⟩ := h2 rfl
    subst e1
    exact g2 H' O' QB k
  | true =>
    rw [← h3 rfl] at k
    exact k H' O'
theorem x_andV {c d e : Bool} {tt uu : TE} (O : Own R H L) (h1 : ∀ Q1 : VK, (∀ H', Own R H' L → Q1 (.bl c) H') → tt σ H Q1) (h2 : c = true → e = d ∧ ∀ H', Own R H' L → ∀ Q2 : VK, (∀ H'', Own R H'' L → Q2 (.bl e) H'') → uu σ H' Q2)
    (h3 : c = false → false = d) (k : ∀ H', Own R H' L → Q (.bl d) H') : tAndV tt uu σ H Q := by
  refine h1 _ fun H' O' => ⟨_, rfl, ?_⟩
  cases c with
  | true =>
    obtain ⟨e1, g2⟩ := h2 rfl
    subst e1
    exact g2 H' O' Q k
  | false =>
    rw [← h3 rfl] at k
    exact k H' O'
theorem x_orV {c d e : Bool} {tt uu : TE} (O : Own R H L) (h1 : ∀ Q1 : VK, (∀ H', Own R H' L → Q1 (.bl c) H') → tt σ H Q1) (h2 : c = false → e = d ∧ ∀ H', Own R H' L → ∀ Q2 : VK, (∀ H'', Own R H'' L → Q2 (.bl e) H'') → uu σ H' Q2)
    (h3 : c = true → true = d) (k : ∀ H', Own R H' L → Q (.bl d) H') : tOrV tt uu σ H Q := by
  refine h1 _ fun H' O' => ⟨_, rfl, ?_⟩
  cases c with
  | false =>
    obtain ⟨e1, g2⟩ := h2 rfl
    subst e1
    exact g2 H' O' Q k
  | true =>
    rw [← h3 rfl] at k
    exact k H' O'
/-- a < b < c -/
theorem x_chain {r r' : R2} {c d e : Bool} {ta tb tc : TE} (O : Own R H L) (h1 : ∀ Q1 : VK, (∀ H', Own R H' L → Q1 x H') → ta σ H Q1) (h2 : ∀ H', Own R H' L → ∀ Q1 : VK, (∀ H', Own R H' L → Q1 y H') → tb σ H' Q1) (h3 : ∀ H' (Q1 : VK), Q1 (.bl c) H' → r x y H' Q1)
    (h4 : c = true → e = d ∧ ∀ H', Own R H' L → ∀ Q1 : VK, (∀ H', Own R H' L → Q1 z H') → tc σ H' Q1) (h5 : ∀ H' (Q1 : VK), Q1 (.bl e) H' → r' y z H' Q1) (h6 : c = false → false = d) (k : ∀ H', Own R H' L → Q (.bl d) H') : tChain r r' ta tb tc σ H Q := by
  refine h1 _ fun H1 O1 => h2 H1 O1 _ fun H2 O2 => h3 H2 _ ⟨c, rfl, ?_⟩
  cases c with
  | true =>
    obtain ⟨e1, g4⟩ := h4 rfl
    subst e1
    exact g4 H2 O2 _ fun H3 O3 => h5 H3 _ (k H3 O3)
  | false =>
    rw [← h6 rfl] at k
    exact k H2 O2
/-- a if c else b, a value -/
theorem x_if {c : Bool} {tt : TT} {ta tb : TE} (O : Own R H L) (h1 : ∀ Q1 : Bool → Hp → Prop, (∀ H', Own R H' L → Q1 c H') → tt σ H Q1) (h2 : c = true → x = v ∧ ∀ H', Own R H' L → ∀ Q2 : VK, (∀ H'', Own R H'' L → Q2 x H'') → ta σ H' Q2)
    (h3 : c = false → y = v ∧ ∀ H', Own R H' L → ∀ Q2 : VK, (∀ H'', Own R H'' L → Q2 y H'') → tb σ H' Q2) (k : ∀ H', Own R H' L → Q v H') : tIf tt ta tb σ H Q := by
  refine h1 _ fun H' O' => ?_
  cases c with
  | true =>
    obtain ⟨e1, g2⟩ := h2 rfl
    subst e1
    exact g2 H' O' Q k
  | false =>
    obtain ⟨e1, g3⟩ := h3 rfl
    subst e1
    exact g3 H' O' Q k
theorem iteS {c : Bool} {A B : Prop} (h1 : c = true → A) (h2 : c = false → B) : if c = true then A else B := by
  cases c with
  | true => rw [if_pos rfl]; exact h1 rfl
  | false => rw [if_neg Bool.false_ne_true]; exact h2 rfl
/-! loops -/
theorem k_forL {g : TG} {tb : TS} {D : Ends} (J : List α → St → Hp → Prop) (h0 : J xs σ H) (hl : ∀ r σ H, J r σ H → SqL K H a (xs.map f))
    (hs : ∀ x r σ H, J (x :: r) σ H → g (f x) σ H fun σ2 H2 => tb { D with nx := J r, ct := J r, bk := D.nx } σ2 H2) (hd : ∀ σ H, J [] σ H → D.nx σ H) :
    ∃ W : Nat → Nat → St → Hp → Prop, (∃ m, W 0 m σ H) ∧ ∀ i m σ H, W i m σ H →
      ((Itl K a).stop i H ∧ D.nx σ H) ∨ ((Itl K a).go i H ∧ ∃ N : St → Hp → Prop, (∀ σ' H', N σ' H' → ∃ m', m' < m ∧ W (i + 1) m' σ' H') ∧ ∀ x H', (Itl K a).yld i H x H' → g x σ H' fun σ2 H2 => tb { D with nx := N, ct := N, bk := D.nx } σ2 H2) := by
  refine for_list (xs := xs.map f) (fun i σ H => J (xs.drop i) σ H) h0 (fun i σ H _ => hl _ σ H) (fun i x σ H hi hJ => ?_) fun σ H hJ => ?_
  · rw [List.getElem?_map] at hi
    cases e : xs[i]? with
    | none => rw [e] at hi; cases hi
    | some y =>
      rw [e] at hi
      cases hi
      have e2 : xs.drop i = y :: xs.drop (i + 1) := by
        obtain ⟨h1, h2⟩ := List.getElem?_eq_some_iff.mp e
        rw [← h2]
        exact List.drop_eq_getElem_cons h1
      rw [e2] at hJ
      exact hs y _ σ H hJ
  · rw [List.length_map, List.drop_length] at hJ
    exact hd σ H hJ
theorem k_forR {lo : Int} {n : Nat} {g : TG} {tb : TS} {D : Ends} (J : List Int → St → Hp → Prop) (h0 : J ((List.range n).map fun (i : Nat) => lo + (i : Int)) σ H)
    (hs : ∀ x r σ H, J (x :: r) σ H → g (.int x) σ H fun σ2 H2 => tb { D with nx := J r, ct := J r, bk := D.nx } σ2 H2) (hd : ∀ σ H, J [] σ H → D.nx σ H) :
    ∃ W : Nat → Nat → St → Hp → Prop, (∃ m, W 0 m σ H) ∧ ∀ i m σ H, W i m σ H →
      ((Itr lo n).stop i H ∧ D.nx σ H) ∨ ((Itr lo n).go i H ∧ ∃ N : St → Hp → Prop, (∀ σ' H', N σ' H' → ∃ m', m' < m ∧ W (i + 1) m' σ' H') ∧ ∀ x H', (Itr lo n).yld i H x H' → g x σ H' fun σ2 H2 => tb { D with nx := N, ct := N, bk := D.nx } σ2 H2) := by
  refine for_range (fun i σ H => J (((List.range n).map fun (i : Nat) => lo + (i : Int)).drop i) σ H) h0 (fun i σ H hi hJ => ?_) fun σ H hJ => ?_
  · have e2 : ((List.range n).map fun (i : Nat) => lo + (i : Int)).drop i = (lo + (i : Int)) :: ((List.range n).map fun (i : Nat) => lo + (i : Int)).drop (i + 1) := by
      have h1 : i < ((List.range n).map fun (i : Nat) => lo + (i : Int)).length := by simpa using hi
      rw [List.drop_eq_getElem_cons h1]
      simp
    rw [e2] at hJ
    exact hs _ _ σ H hJ
  · have e : ((List.range n).map fun (i : Nat) => lo + (i : Int)).drop n = [] := List.drop_eq_nil_of_le (by simp)
    rw [e] at hJ
    exact hd σ H hJ
theorem k_rng1 {RJ : It → Hp → Prop} (h : rng1 j = some xs') (k : xs' = ((List.range j.toNat).map fun (i : Nat) => (0 : Int) + (i : Int)) → RJ (Itr 0 j.toNat) H) : ∃ j' : Int, [V.int j] = [V.int j'] ∧ -(2 ^ 62) ≤ j' ∧ j' < 2 ^ 62 ∧ RJ (Itr 0 j'.toNat) H := by
  obtain ⟨⟨c1, c2⟩, rfl⟩ := grdE h
  exact ⟨j, rfl, c1, c2, k (by unfold rangeI; rw [Int.sub_zero])⟩
theorem k_rng2 {RJ : It → Hp → Prop} (h : rng2 i j = some xs') (k : xs' = ((List.range (j - i).toNat).map fun (n : Nat) => i + (n : Int)) → RJ (Itr i (j - i).toNat) H) :
    ∃ i' j' : Int, [V.int i, V.int j] = [V.int i', V.int j'] ∧ (-(2 ^ 62) ≤ i' ∧ i' < 2 ^ 62 ∧ -(2 ^ 62) ≤ j' ∧ j' < 2 ^ 62) ∧ RJ (Itr i' (j' - i').toNat) H := by
  obtain ⟨c, rfl⟩ := grdE h
  exact ⟨i, j, rfl, c, k rfl⟩
/-- while: J, by the turns that the mirror still has -/
theorem k_while {tc : TT} {tb : TS} {D : Ends} (J : Nat → St → Hp → Prop) (n : Nat) (h0 : J n σ H)
    (hs : ∀ n σ H, J n σ H → tc σ H fun b H1 => if b = true then ∃ N : St → Hp → Prop, (∀ σ' H', N σ' H' → ∃ m', m' < n ∧ J m' σ' H') ∧ tb { D with nx := N, ct := N, bk := D.nx } σ H1 else D.nx σ H1) : tWhile tc tb D σ H :=
  ⟨J, ⟨n, h0⟩, hs⟩
/-! comprehensions -/
theorem k_lcL {g : TG} {te : TE} {vs : List Nat} {D : Addr} {Qd : Hp → Prop} (J : List α → Hp → Prop) (h0 : J xs (upd H D (.lst []))) (hl : ∀ r H, J r H → SqL K H a (xs.map f))
    (hs : ∀ x r H, J (x :: r) H → g (f x) (wipe σ vs) H fun σ2 H2 => wipe σ2 vs = wipe σ vs ∧ te σ2 H2 fun y H4 => ∃ acc, H4 D = some (.lst acc) ∧ acc.length < sizeLine ∧ J r (upd H4 D (.lst (acc ++ [y])))) (hd : ∀ H, J [] H → Qd H) :
    ∃ W : Nat → Nat → Hp → Prop, (∃ m, W 0 m (upd H D (.lst []))) ∧ ∀ i m H, W i m H →
      ((Itl K a).stop i H ∧ Qd H) ∨ ((Itl K a).go i H ∧ ∃ Nx : Hp → Prop, (∀ H', Nx H' → ∃ m', m' < m ∧ W (i + 1) m' H') ∧ ∀ x H', (Itl K a).yld i H x H' → g x (wipe σ vs) H' fun σ2 H2 => wipe σ2 vs = wipe σ vs ∧ tYes σ2 H2 fun b H3 =>
        if b = true then te σ2 H3 fun y H4 => ∃ acc, H4 D = some (.lst acc) ∧ acc.length < sizeLine ∧ Nx (upd H4 D (.lst (acc ++ [y]))) else Nx H3) := by
  refine lc_list (xs := xs.map f) (fun i H => J (xs.drop i) H) h0 (fun i H _ => hl _ H) (fun i x H hi hJ => ?_) fun H hJ => ?_
  · rw [List.getElem?_map] at hi
    cases e : xs[i]? with
    | none => rw [e] at hi; cases hi
    | some y =>
      rw [e] at hi
      cases hi
      have e2 : xs.drop i = y :: xs.drop (i + 1) := by
        obtain ⟨h1, h2⟩ := List.getElem?_eq_some_iff.mp e
        rw [← h2]
        exact List.drop_eq_getElem_cons h1
      rw [e2] at hJ
      exact hs y _ H hJ
  · rw [List.length_map, List.drop_length] at hJ
    exact hd H hJ
theorem k_lcR {lo : Int} {n : Nat} {g : TG} {te : TE} {vs : List Nat} {D : Addr} {Qd : Hp → Prop} (J : List Int → Hp → Prop) (h0 : J ((List.range n).map fun (i : Nat) => lo + (i : Int)) (upd H D (.lst [])))
    (hs : ∀ x r H, J (x :: r) H → g (.int x) (wipe σ vs) H fun σ2 H2 => wipe σ2 vs = wipe σ vs ∧ te σ2 H2 fun y H4 => ∃ acc, H4 D = some (.lst acc) ∧ acc.length < sizeLine ∧ J r (upd H4 D (.lst (acc ++ [y])))) (hd : ∀ H, J [] H → Qd H) :
    ∃ W : Nat → Nat → Hp → Prop, (∃ m, W 0 m (upd H D (.lst []))) ∧ ∀ i m H, W i m H →
      ((Itr lo n).stop i H ∧ Qd H) ∨ ((Itr lo n).go i H ∧ ∃ Nx : Hp → Prop, (∀ H', Nx H' → ∃ m', m' < m ∧ W (i + 1) m' H') ∧ ∀ x H', (Itr lo n).yld i H x H' → g x (wipe σ vs) H' fun σ2 H2 => wipe σ2 vs = wipe σ vs ∧ tYes σ2 H2 fun b H3 =>
        if b = true then te σ2 H3 fun y H4 => ∃ acc, H4 D = some (.lst acc) ∧ acc.length < sizeLine ∧ Nx (upd H4 D (.lst (acc ++ [y]))) else Nx H3) := by
  refine lc_range (fun i H => J (((List.range n).map fun (i : Nat) => lo + (i : Int)).drop i) H) h0 (fun i H hi hJ => ?_) fun H hJ => ?_
  · have e2 : ((List.range n).map fun (i : Nat) => lo + (i : Int)).drop i = (lo + (i : Int)) :: ((List.range n).map fun (i : Nat) => lo + (i : Int)).drop (i + 1) := by
      have h1 : i < ((List.range n).map fun (i : Nat) => lo + (i : Int)).length := by simpa using hi
      rw [List.drop_eq_getElem_cons h1]
      simp
    rw [e2] at hJ
    exact hs _ _ H hJ
  · have e : ((List.range n).map fun (i : Nat) => lo + (i : Int)).drop n = [] := List.drop_eq_nil_of_le (by simp)
    rw [e] at hJ
    exact hd H hJ
end
end Bt

set_option Elab.async false
set_option linter.all false
set_option maxRecDepth 100000
set_option maxHeartbeats 4000000
/-! More steps. -/
namespace Bt
open PySem L2
/-- a name of the module that holds a value -/
def Gv (mg : Str → Option Value) (x : Str) (v : V) : Prop := ∃ u, mg x = some u ∧ RelV v u
theorem pe_gv {X : Cx} {x : Str} {v : V} {pos : Pos} (hg : Gl X x) (h : Gv X.mg x v) (hd : (x == ("__debug__" : Str)) = false := by decide) : PE X (.Name x pos) (tC v) := by
  obtain ⟨u, h1, h2⟩ := h
  exact pe_glob hg h1 h2 hd
section
variable {α S T R' : Type}
theorem finNx {rest : S → Option R'} {s : S} {r : R'} (h : finK rest (.nx s) = some r) : rest s = some r := h
theorem floNx {rest : S → Option (Fl T R')} {s : S} {fl : Fl T R'} (h : floK rest (.nx s) = some fl) : rest s = some fl := h
end
section
variable {K : PySem.W.Frag} {σ : St} {H R : Hp} {L L' : List Cell} {Q : VK} {a b p : Addr} {α : Type} {f : α → V} {xs ys zs : List α}
/-- some of the cells, by their places -/
theorem Own.sel (O : Own R H L) (is : List Nat) (hd : is.Nodup) (e : is.map (fun i => L[i]?) = L'.map some) : Own R H L' := by
  have hm : ∀ c ∈ L', c ∈ L := fun c hc => by
    have h1 : some c ∈ is.map (fun i => L[i]?) := by rw [e]; exact List.mem_map_of_mem hc
    obtain ⟨i, _, h2⟩ := List.mem_map.mp h1
    exact List.mem_of_getElem? h2
  refine ⟨O.ex, fun c h => O.at_ c (hm c h), fun c h => O.fr c (hm c h), ?_⟩
  clear hm
  induction is generalizing L' with
  | nil =>
    cases L' with
    | nil => exact List.Pairwise.nil
    | cons c r => simp at e
  | cons i is ih =>
    cases L' with
    | nil => simp at e
    | cons c r =>
      simp only [List.map_cons, List.cons.injEq] at e
      obtain ⟨e1, e2⟩ := e
      obtain ⟨n1, n2⟩ := List.nodup_cons.mp hd
      refine List.nodup_cons.mpr ⟨fun m => ?_, ih n2 e2⟩
      obtain ⟨d, hdm, ed⟩ := List.mem_map.mp m
      have h1 : some d ∈ is.map (fun i => L[i]?) := by rw [e2]; exact List.mem_map_of_mem hdm
      obtain ⟨j, hj, h2⟩ := List.mem_map.mp h1
      have g1 : (L.map (·.1))[i]? = some c.1 := by rw [List.getElem?_map, e1]; rfl
      have g2 : (L.map (·.1))[j]? = some c.1 := by
        rw [List.getElem?_map, h2]
        exact congrArg some ed
      have : i = j := nd_ix O.nd g1 g2
      subst this
      exact n1 hj
theorem a_set {v v' : V} {nx : St → Hp → Prop} {i : Nat} (e : v = v') (k : nx (σ.set i (some v')) H) : nx (σ.set i (some v)) H := by rw [e]; exact k
theorem k_newM {zs : List V} (O : Own R H L) (e : xs.map f = zs) (k : ∀ p H', Own R H' ((p, .lst (xs.map f)) :: L) → Q (.ref p) H') : ∀ p, H p = none → Q (.ref p) (upd H p (.lst zs)) := by
  subst e
  exact fun p hp => k p _ (O.new hp)
theorem k_rep {k : Int} (O : Own R H L) (h1 : H a = some (.lst (xs.map f))) (h : repG xs k = some zs) (q : ∀ p H', Own R H' ((p, .lst (zs.map f)) :: L) → Q (.ref p) H') : rRep (.ref a) (.int k) H Q := by
  obtain ⟨⟨c1, c2, c3⟩, rfl⟩ := grdE h
  refine ⟨a, k, _, rfl, rfl, h1, c1, c2, by rw [List.length_map]; exact c3, fun p hp => ?_⟩
  have e : ∀ n : Nat, (List.replicate n (xs.map f)).flatten = (List.replicate n xs).flatten.map f := fun n => by
    induction n with
    | zero => rfl
    | succ n ih => rw [List.replicate_succ, List.flatten_cons, ih, List.replicate_succ, List.flatten_cons, List.map_append]
  first
    | (rw [e]; exact q p _ (O.new hp))
    | (show Q (.ref p) _; simpa only [e] using q p _ (O.new hp))
end
end Bt
namespace Bt
open PySem L2
/-! readings under a name of their own, so that what follows stands as an argument -/
@[irreducible] def rNewL (xs : List V) (H : Hp) (Q : VK) : Prop := xs.length ≤ sizeLine ∧ ∀ p, H p = none → Q (.ref p) (upd H p (.lst xs))
@[irreducible] def rNewT (xs : List V) (H : Hp) (Q : VK) : Prop := xs.length ≤ sizeLine ∧ ∀ p, H p = none → Q (.ref p) (upd H p (.tup xs))
@[irreducible] def rLenQ (K : PySem.W.Frag) (xs : List V) (H : Hp) (Q : VK) : Prop := ∃ p ys, xs = [V.ref p] ∧ (SqL K H p ys ∨ SqT K H p ys) ∧ Q (.int ys.length) H
@[irreducible] def rListQ (K : PySem.W.Frag) (xs : List V) (H : Hp) (Q : VK) : Prop := ∃ p ys, xs = [V.ref p] ∧ (SqL K H p ys ∨ SqT K H p ys) ∧ ∀ l, H l = none → Q (.ref l) (upd H l (.lst ys))
section
variable {X : Cx}
theorem pe_lstQ {es : List Expr} {t : TA} {pos : Pos} (h : PE X (.List es pos) (tLst t)) : PE X (.List es pos) (fun σ H Q => t σ H fun xs H1 => rNewL xs H1 Q) := by
  unfold rNewL
  exact h
theorem pe_tupQ {es : List Expr} {k : Nat} {t : TA} {pos : Pos} (h : PE X (.Tuple es k pos) (tTup t)) : PE X (.Tuple es k pos) (fun σ H Q => t σ H fun xs H1 => rNewT xs H1 Q) := by
  unfold rNewT
  exact h
theorem call_lenQ : CallR X (.builtin "len") (rLenQ X.K) := by
  have e : rLenQ X.K = fun xs H Q => ∃ p ys, xs = [V.ref p] ∧ (SqL X.K H p ys ∨ SqT X.K H p ys) ∧ Q (.int ys.length) H := by
    funext xs H Q
    unfold rLenQ
    rfl
  rw [e]
  exact call_len_seq
theorem call_listQ : CallR X (.type "list") (rListQ X.K) := by
  have e : rListQ X.K = fun xs H Q => ∃ p ys, xs = [V.ref p] ∧ (SqL X.K H p ys ∨ SqT X.K H p ys) ∧ ∀ l, H l = none → Q (.ref l) (upd H l (.lst ys)) := by
    funext xs H Q
    unfold rListQ
    rfl
  rw [e]
  exact call_list_of
end
section
variable {K : PySem.W.Frag} {σ : St} {H R : Hp} {L L' : List Cell} {Q : VK} {a b p : Addr} {α : Type} {f : α → V} {xs ys zs : List α}
theorem x_nil {QA : List V → Hp → Prop} (h : QA [] H) : tNil σ H QA := h
theorem x_np {QO : Option Int → Hp → Prop} (h : QO none H) : tNoPart σ H QO := h
theorem n_lst {zs : List V} (O : Own R H L) (e : xs.map f = zs) (hz : zs.length ≤ sizeLine) (k : ∀ p H', Own R H' ((p, .lst (xs.map f)) :: L) → Q (.ref p) H') : rNewL zs H Q := by
  subst e
  unfold rNewL
  exact ⟨hz, fun p hp => k p _ (O.new hp)⟩
theorem n_lenT {K : PySem.W.Frag} {H : Hp} {Q : VK} {a : Addr} {ys : List V} {n : Nat} (hs : SqT K H a ys) (hn : ys.length = n) (q : Q (.int (n : Int)) H) : rLenQ K [.ref a] H Q := by
  unfold rLenQ
  exact ⟨a, ys, rfl, .inr hs, by rw [hn]; exact q⟩
theorem n_len (h : SqL K H a (xs.map f)) (k : Q (.int (xs.length : Int)) H) : rLenQ K [.ref a] H Q := by
  unfold rLenQ
  exact ⟨a, _, rfl, .inl h, by rw [List.length_map]; exact k⟩
theorem n_list {ys : List V} (O : Own R H L) (h : SqL K H a ys) (k : ∀ p H', Own R H' ((p, .lst ys) :: L) → Q (.ref p) H') : rListQ K [.ref a] H Q := by
  unfold rListQ
  exact ⟨a, _, rfl, .inl h, fun l hl => k l _ (O.new hl)⟩
theorem rng1E {j : Int} {xs : List Int} (h : rng1 j = some xs) : -(2 ^ 62) ≤ j ∧ j < 2 ^ 62 ∧ ((List.range j.toNat).map fun (i : Nat) => (0 : Int) + (i : Int)) = xs := by
  obtain ⟨⟨c1, c2⟩, rfl⟩ := grdE h
  exact ⟨c1, c2, by unfold rangeI; rw [Int.sub_zero]⟩
theorem rng2E {i j : Int} {xs : List Int} (h : rng2 i j = some xs) : (-(2 ^ 62) ≤ i ∧ i < 2 ^ 62 ∧ -(2 ^ 62) ≤ j ∧ j < 2 ^ 62) ∧ ((List.range (j - i).toNat).map fun (n : Nat) => i + (n : Int)) = xs := by
  obtain ⟨c, rfl⟩ := grdE h
  exact ⟨c, rfl⟩
end
end Bt
namespace Bt
open PySem L2
/-! a reading opened by one step, by its head -/
section
variable {K : PySem.W.Frag} {σ : St} {H : Hp} {Q : VK} {D : Ends} {t u ts : TS} {te ta tb tl : TE} {tr : TA} {c : TT} {v : V} {i : Nat} {r : R2} {QB : Bool → Hp → Prop} {QA : List V → Hp → Prop} {QO : Option Int → Hp → Prop} {R : It → Hp → Prop}
theorem o_seq {n b k : St → Hp → Prop} {w : VK} (h : t (Ends.mk (u (Ends.mk n w b k)) w b k) σ H) : tSeq t u (Ends.mk n w b k) σ H := h
theorem o_asg {n b k : St → Hp → Prop} {w : VK} (h : te σ H fun x H1 => n (σ.set i (some x)) H1) : tAsg te (gName i) (Ends.mk n w b k) σ H := h
theorem o_drop {n b k : St → Hp → Prop} {w : VK} (h : te σ H fun _ H1 => n σ H1) : tDrop te (Ends.mk n w b k) σ H := h
theorem o_ret {n b k : St → Hp → Prop} {w : VK} (h : te σ H w) : tRet te (Ends.mk n w b k) σ H := h
theorem o_ifs {n b k : St → Hp → Prop} {w : VK} (h : c σ H fun z H1 => if z = true then t (Ends.mk n w b k) σ H1 else u (Ends.mk n w b k) σ H1) : tIfS c t u (Ends.mk n w b k) σ H := h
theorem o_next {n b k : St → Hp → Prop} {w : VK} (h : n σ H) : tNext (Ends.mk n w b k) σ H := h
theorem o_brk {n b k : St → Hp → Prop} {w : VK} (h : b σ H) : tBreak (Ends.mk n w b k) σ H := h
theorem o_cont {n b k : St → Hp → Prop} {w : VK} (h : k σ H) : tCont (Ends.mk n w b k) σ H := h
theorem o_retN {n b k : St → Hp → Prop} {w : VK} (h : w .non H) : tRetN (Ends.mk n w b k) σ H := h
theorem o_cut {n b k : St → Hp → Prop} {w : VK} (Mid : St → Hp → Prop) (h1 : t (Ends.mk Mid w b k) σ H) (h2 : ∀ σ' H', Mid σ' H' → u (Ends.mk n w b k) σ' H') : Evl.tCut t u (Ends.mk n w b k) σ H := ⟨Mid, h1, h2⟩
theorem o_op (h : ta σ H fun x H1 => tb σ H1 fun y H2 => r x y H2 Q) : tOp r ta tb σ H Q := h
theorem o_un {r : V → Hp → VK → Prop} (h : ta σ H fun x H1 => r x H1 Q) : tUn r ta σ H Q := h
theorem o_c (h : Q v H) : tC v σ H Q := h
theorem o_test (h : te σ H fun x H' => ∃ k, x = .bl k ∧ QB k H') : tTest te σ H QB := h
theorem o_B (h : te σ H fun x H' => ∃ k, x = .bl k ∧ QB k H') : tB te σ H QB := h
theorem o_not (h : c σ H fun b H1 => QB (!b) H1) : tNot c σ H QB := h
theorem o_notV (h : te σ H fun x H1 => ∃ c, x = .bl c ∧ Q (.bl (!c)) H1) : tNotV te σ H Q := h
theorem o_cons (h : ta σ H fun x H1 => tr σ H1 fun xs H2 => QA (x :: xs) H2) : tCons ta tr σ H QA := h
theorem o_cb {r : List V → Hp → VK → Prop} (h : tr σ H fun vs H1 => r vs H1 Q) : tCB r tr σ H Q := h
theorem o_call {sp : Sp} {dvs : List V} {E : XK} (h : tr σ H fun vs H1 => sp (vs ++ dvs) H1 Q E) : tCall sp dvs E tr σ H Q := h
theorem o_bm {T : String} {r : V → List V → Hp → VK → Prop} (h : te σ H fun x H1 => tyV K T x H1 ∧ tr σ H1 fun xs H2 => r x xs H2 Q) : tBM K T r te tr σ H Q := h
theorem o_bm0 {T : String} {r : V → List V → Hp → VK → Prop} (h : te σ H fun x H1 => tyV K T x H1 ∧ r x [] H1 Q) : tBM0 K T r te σ H Q := h
theorem o_sl {r : V → Option Int → Option Int → Hp → VK → Prop} {t1 t2 : TO} (h : te σ H fun x H1 => t1 σ H1 fun l H2 => t2 σ H2 fun u H3 => r x l u H3 Q) : tSl r te t1 t2 σ H Q := h
theorem o_part (h : te σ H fun x H1 => ∃ i, x = .int i ∧ QO (some i) H1) : tPart te σ H QO := h
theorem o_for {wi : TI} {g : TG} {n b k : St → Hp → Prop} {w : VK} (h : wi σ H fun J H1 => ∃ W : Nat → Nat → St → Hp → Prop, (∃ m, W 0 m σ H1) ∧ ∀ i m σ H, W i m σ H →
    (J.stop i H ∧ n σ H) ∨ (J.go i H ∧ ∃ N : St → Hp → Prop, (∀ σ' H', N σ' H' → ∃ m', m' < m ∧ W (i + 1) m' σ' H') ∧ ∀ x H', J.yld i H x H' → g x σ H' fun σ2 H2 => ts (Ends.mk N w n N) σ2 H2)) : tFor wi g ts (Ends.mk n w b k) σ H := h
theorem o_il (h : tl σ H fun x H1 => ∃ a, x = .ref a ∧ (∃ xs, SqL K H1 a xs) ∧ R (Itl K a) H1) : iList K tl σ H R := h
theorem o_ir1 (h : tr σ H fun vs H1 => ∃ j : Int, vs = [.int j] ∧ -(2 ^ 62) ≤ j ∧ j < 2 ^ 62 ∧ R (Itr 0 j.toNat) H1) : iRng1 tr σ H R := h
theorem o_ir2 (h : tr σ H fun vs H1 => ∃ i j : Int, vs = [.int i, .int j] ∧ (-(2 ^ 62) ≤ i ∧ i < 2 ^ 62 ∧ -(2 ^ 62) ≤ j ∧ j < 2 ^ 62) ∧ R (Itr i (j - i).toNat) H1) : iRng2 tr σ H R := h
theorem o_sub {to ti : TE} {tset : TSet} {n b k : St → Hp → Prop} {w : VK} (h : te σ H fun x H1 => to σ H1 fun o H2 => ti σ H2 fun i H3 => tset o i x H3 fun H4 => n σ H4) : tAsg te (gSub to ti tset) (Ends.mk n w b k) σ H := h
/-! the loops once more, their ends apart -/
variable {α : Type} {f : α → V} {xs : List α} {a : Addr} {g : TG} {n b k : St → Hp → Prop} {w : VK}
theorem q_forL {j : Nat} (J : List α → St → Hp → Prop) (h0 : J xs σ H) (hl : ∀ r σ H, J r σ H → SqL K H a (xs.map f))
    (hs : ∀ x r σ H, J (x :: r) σ H → ts (Ends.mk (J r) w n (J r)) (σ.set j (some (f x))) H) (hd : ∀ σ H, J [] σ H → n σ H) :
    ∃ W : Nat → Nat → St → Hp → Prop, (∃ m, W 0 m σ H) ∧ ∀ i m σ H, W i m σ H →
      ((Itl K a).stop i H ∧ n σ H) ∨ ((Itl K a).go i H ∧ ∃ N : St → Hp → Prop, (∀ σ' H', N σ' H' → ∃ m', m' < m ∧ W (i + 1) m' σ' H') ∧ ∀ x H', (Itl K a).yld i H x H' → gName j x σ H' fun σ2 H2 => ts (Ends.mk N w n N) σ2 H2) :=
  k_forL (D := Ends.mk n w (fun _ _ => False) fun _ _ => False) (g := gName j) (tb := ts) J h0 hl hs hd
theorem q_forR {j : Nat} {lo : Int} {m : Nat} (J : List Int → St → Hp → Prop) (h0 : J ((List.range m).map fun (i : Nat) => lo + (i : Int)) σ H)
    (hs : ∀ x r σ H, J (x :: r) σ H → ts (Ends.mk (J r) w n (J r)) (σ.set j (some (.int x))) H) (hd : ∀ σ H, J [] σ H → n σ H) :
    ∃ W : Nat → Nat → St → Hp → Prop, (∃ m, W 0 m σ H) ∧ ∀ i m' σ H, W i m' σ H →
      ((Itr lo m).stop i H ∧ n σ H) ∨ ((Itr lo m).go i H ∧ ∃ N : St → Hp → Prop, (∀ σ' H', N σ' H' → ∃ m'', m'' < m' ∧ W (i + 1) m'' σ' H') ∧ ∀ x H', (Itr lo m).yld i H x H' → gName j x σ H' fun σ2 H2 => ts (Ends.mk N w n N) σ2 H2) :=
  k_forR (D := Ends.mk n w (fun _ _ => False) fun _ _ => False) (g := gName j) (tb := ts) J h0 hs hd
end
end Bt
namespace Bt
open PySem L2
/-! what the head tells of a def -/
theorem def_mk {K : PySem.W.Frag} {h : Heap} {mg : Str → Option Value} {name qual : Str} {st : Stmt} {f : Addr} {od an : Option Addr} {sl : Array (Option Value)} {oc kV dc pm cd ct : Value} (X : K.In h) (G : h.Ns mainGlobals mg)
    (a : PySem.W.nsIn K mainGlobals name = some (some (.ref f))) (l : K.lookup f = some ⟨oc, od, .func (PySem.W.fnOf name qual (defArgs st) (defBody st) (defScope st) .none kV dc pm an cd ct), sl⟩) (c : PySem.W.codeIn K cd qual = true) (k : PySem.W.keepIn K (.ref f) = true) :
    ∃ f fd, Fun K name qual st f fd ∧ mg name = some (.ref f) := ⟨f, _, fun_mk l c k, PySem.W.mg_of X G a⟩
theorem gv_int {K : PySem.W.Frag} {h : Heap} {mg : Str → Option Value} {x : Str} {i : Int} {t : Tok} (X : K.In h) (G : h.Ns mainGlobals mg) (a : PySem.W.nsIn K mainGlobals x = some (some (.int i t))) : Gv mg x (.int i) := ⟨_, PySem.W.mg_of X G a, _, rfl⟩
end Bt
namespace Bt
open PySem L2
section
variable {K : PySem.W.Frag} {σ : St} {H R : Hp} {L : List Cell} {Q : VK} {a p : Addr} {i : Int} {x v : V} {S R' : Type}
def FUEL : Nat := 100000
theorem whileM_end {c : Bool} {s out : S} {f : Option S} (h : ifB c f (some s) = some out) (hc : c = false) : out = s := (Option.some.inj (ifF h hc)).symm
theorem whileF_end {c : Bool} {s : S} {out : Fl S R'} {f : Option (Fl S R')} (h : ifB c f (some (.nx s)) = some out) (hc : c = false) : Fl.nx s = out := Option.some.inj (ifF h hc)
/-- while: J, by the turns that the mirror still has -/
theorem q_while {tc : TT} {ts : TS} {n b k : St → Hp → Prop} {w : VK} (J : Nat → St → Hp → Prop) (m : Nat) (h0 : J m σ H) (hz : ∀ σ H, J 0 σ H → False)
    (hs : ∀ m σ H, J (m + 1) σ H → tc σ H fun z H1 => if z = true then ts (Ends.mk (J m) w n (J m)) σ H1 else n σ H1) (mono : ∀ σ H (Q Q' : Bool → Hp → Prop), (∀ z H1, Q z H1 → Q' z H1) → tc σ H Q → tc σ H Q') : tWhile tc ts (Ends.mk n w b k) σ H := by
  refine ⟨J, ⟨m, h0⟩, fun m σ H hJ => ?_⟩
  cases m with
  | zero => exact (hz σ H hJ).elim
  | succ m =>
    refine mono σ H _ _ (fun z H1 q => ?_) (hs m σ H hJ)
    cases z with
    | true =>
      rw [if_pos rfl] at q ⊢
      exact ⟨J m, fun σ' H' hJ' => ⟨m, Nat.lt_succ_self m, hJ'⟩, q⟩
    | false =>
      rw [if_neg Bool.false_ne_true] at q ⊢
      exact q
theorem o_while {tc : TT} {ts : TS} {n b k : St → Hp → Prop} {w : VK} (J : Nat → St → Hp → Prop) (m : Nat) (h0 : J m σ H) (hz : ∀ σ H, J 0 σ H → False)
    (hs : ∀ m σ H, J (m + 1) σ H → tc σ H fun z H1 => if z = true then ∃ N : St → Hp → Prop, (∀ σ' H', N σ' H' → ∃ m', m' < m + 1 ∧ J m' σ' H') ∧ ts (Ends.mk N w n N) σ H1 else n σ H1) : tWhile tc ts (Ends.mk n w b k) σ H := by
  refine ⟨J, ⟨m, h0⟩, fun m σ H hJ => ?_⟩
  cases m with
  | zero => exact (hz σ H hJ).elim
  | succ m => exact hs m σ H hJ
theorem o_turn {J : Nat → St → Hp → Prop} {m : Nat} {ts : TS} {n : St → Hp → Prop} {w : VK} (h : ts (Ends.mk (J m) w n (J m)) σ H) :
    ∃ N : St → Hp → Prop, (∀ σ' H', N σ' H' → ∃ m', m' < m + 1 ∧ J m' σ' H') ∧ ts (Ends.mk N w n N) σ H := ⟨J m, fun _ _ hJ => ⟨m, Nat.lt_succ_self m, hJ⟩, h⟩
theorem n_tup {zs : List V} (O : Own R H L) (hz : zs.length ≤ sizeLine) (k : ∀ p H', Own R H' ((p, .tup zs) :: L) → Q (.ref p) H') : rNewT zs H Q := by
  unfold rNewT
  exact ⟨hz, fun p hp => k p _ (O.new hp)⟩
theorem k_ixT {xs : List V} (hs : SqT K H a xs) (h : atI xs i = some v) (k : Q v H) : rIxT K (.ref a) (.int i) H Q := ⟨a, xs, i, v, rfl, rfl, hs, h, k⟩
end
end Bt
namespace Bt
open PySem L2
section
variable {K : PySem.W.Frag} {σ : St} {H R : Hp} {L : List Cell} {Q : VK} {a p : Addr} {i : Int} {x v : V} {α : Type} {f : α → V} {xs : List α}
theorem inV_int (i : Int) : ∀ xs : List Int, inV (.int i) (xs.map V.int) = decide (i ∈ xs)
  | [] => rfl
  | y :: r => by
    have ih := inV_int i r
    have e : inV (.int i) ((y :: r).map V.int) = (eqV (.int y) (.int i) || inV (.int i) (r.map V.int)) := rfl
    rw [e, ih]
    have e2 : eqV (.int y) (.int i) = decide (i = y) := by
      by_cases h : i = y
      · subst h; simp [eqV]
      · have : ¬ y = i := fun q => h q.symm
        simp [eqV, h, this]
    rw [e2]
    simp
theorem flat_int : ∀ xs : List Int, (xs.map V.int).all flatV = true
  | [] => rfl
  | y :: r => by
    have ih := flat_int r
    show (flatV (.int y) && (r.map V.int).all flatV) = true
    rw [ih]
    rfl
theorem k_inL {ns : List Int} (hs : SqL K H a (ns.map V.int)) (k : Q (.bl (decide (i ∈ ns))) H) : rIn K false (.int i) (.ref a) H Q :=
  ⟨a, _, rfl, .inl hs, rfl, flat_int _, by rw [inV_int]; exact k⟩
theorem k_niL {ns : List Int} (hs : SqL K H a (ns.map V.int)) (k : Q (.bl (!decide (i ∈ ns))) H) : rIn K true (.int i) (.ref a) H Q :=
  ⟨a, _, rfl, .inl hs, rfl, flat_int _, by rw [inV_int]; exact k⟩
theorem k_inT {ns : List Int} (hs : SqT K H a (ns.map V.int)) (k : Q (.bl (decide (i ∈ ns))) H) : rIn K false (.int i) (.ref a) H Q :=
  ⟨a, _, rfl, .inr hs, rfl, flat_int _, by rw [inV_int]; exact k⟩
theorem k_niT {ns : List Int} (hs : SqT K H a (ns.map V.int)) (k : Q (.bl (!decide (i ∈ ns))) H) : rIn K true (.int i) (.ref a) H Q :=
  ⟨a, _, rfl, .inr hs, rfl, flat_int _, by rw [inV_int]; exact k⟩
/-! comprehensions with a test -/
theorem k_lcLt {g : TG} {tt : TT} {te : TE} {vs : List Nat} {D : Addr} {Qd : Hp → Prop} (J : List α → Hp → Prop) (h0 : J xs (upd H D (.lst []))) (hl : ∀ r H, J r H → SqL K H a (xs.map f))
    (hs : ∀ x r H, J (x :: r) H → g (f x) (wipe σ vs) H fun σ2 H2 => wipe σ2 vs = wipe σ vs ∧ tt σ2 H2 fun b H3 => if b = true then te σ2 H3 fun y H4 => ∃ acc, H4 D = some (.lst acc) ∧ acc.length < sizeLine ∧ J r (upd H4 D (.lst (acc ++ [y]))) else J r H3) (hd : ∀ H, J [] H → Qd H) :
    ∃ W : Nat → Nat → Hp → Prop, (∃ m, W 0 m (upd H D (.lst []))) ∧ ∀ i m H, W i m H →
      ((Itl K a).stop i H ∧ Qd H) ∨ ((Itl K a).go i H ∧ ∃ Nx : Hp → Prop, (∀ H', Nx H' → ∃ m', m' < m ∧ W (i + 1) m' H') ∧ ∀ x H', (Itl K a).yld i H x H' → g x (wipe σ vs) H' fun σ2 H2 => wipe σ2 vs = wipe σ vs ∧ tt σ2 H2 fun b H3 =>
        if b = true then te σ2 H3 fun y H4 => ∃ acc, H4 D = some (.lst acc) ∧ acc.length < sizeLine ∧ Nx (upd H4 D (.lst (acc ++ [y]))) else Nx H3) := by
  refine lc_list (xs := xs.map f) (fun i H => J (xs.drop i) H) h0 (fun i H _ => hl _ H) (fun i x H hi hJ => ?_) fun H hJ => ?_
  · rw [List.getElem?_map] at hi
    cases e : xs[i]? with
    | none => rw [e] at hi; cases hi
    | some y =>
      rw [e] at hi
      cases hi
      have e2 : xs.drop i = y :: xs.drop (i + 1) := by
        obtain ⟨h1, h2⟩ := List.getElem?_eq_some_iff.mp e
        rw [← h2]
        exact List.drop_eq_getElem_cons h1
      rw [e2] at hJ
      exact hs y _ H hJ
  · rw [List.length_map, List.drop_length] at hJ
    exact hd H hJ
theorem k_lcRt {lo : Int} {n : Nat} {g : TG} {tt : TT} {te : TE} {vs : List Nat} {D : Addr} {Qd : Hp → Prop} (J : List Int → Hp → Prop) (h0 : J ((List.range n).map fun (i : Nat) => lo + (i : Int)) (upd H D (.lst [])))
    (hs : ∀ x r H, J (x :: r) H → g (.int x) (wipe σ vs) H fun σ2 H2 => wipe σ2 vs = wipe σ vs ∧ tt σ2 H2 fun b H3 => if b = true then te σ2 H3 fun y H4 => ∃ acc, H4 D = some (.lst acc) ∧ acc.length < sizeLine ∧ J r (upd H4 D (.lst (acc ++ [y]))) else J r H3) (hd : ∀ H, J [] H → Qd H) :
    ∃ W : Nat → Nat → Hp → Prop, (∃ m, W 0 m (upd H D (.lst []))) ∧ ∀ i m H, W i m H →
      ((Itr lo n).stop i H ∧ Qd H) ∨ ((Itr lo n).go i H ∧ ∃ Nx : Hp → Prop, (∀ H', Nx H' → ∃ m', m' < m ∧ W (i + 1) m' H') ∧ ∀ x H', (Itr lo n).yld i H x H' → g x (wipe σ vs) H' fun σ2 H2 => wipe σ2 vs = wipe σ vs ∧ tt σ2 H2 fun b H3 =>
        if b = true then te σ2 H3 fun y H4 => ∃ acc, H4 D = some (.lst acc) ∧ acc.length < sizeLine ∧ Nx (upd H4 D (.lst (acc ++ [y]))) else Nx H3) := by
  refine lc_range (fun i H => J (((List.range n).map fun (i : Nat) => lo + (i : Int)).drop i) H) h0 (fun i H hi hJ => ?_) fun H hJ => ?_
  · have e2 : ((List.range n).map fun (i : Nat) => lo + (i : Int)).drop i = (lo + (i : Int)) :: ((List.range n).map fun (i : Nat) => lo + (i : Int)).drop (i + 1) := by
      have h1 : i < ((List.range n).map fun (i : Nat) => lo + (i : Int)).length := by simpa using hi
      rw [List.drop_eq_getElem_cons h1]
      simp
    rw [e2] at hJ
    exact hs _ _ H hJ
  · have e : ((List.range n).map fun (i : Nat) => lo + (i : Int)).drop n = [] := List.drop_eq_nil_of_le (by simp)
    rw [e] at hJ
    exact hd H hJ
/-! for i, x in enumerate(xs) -/
def enumI {α : Type} : Nat → List α → List (Int × α)
  | _, [] => []
  | n, x :: r => ((n : Int), x) :: enumI (n + 1) r
theorem enumI_drop {α : Type} : ∀ (xs : List α) (n i : Nat) (x : α), xs[i]? = some x → (enumI n xs).drop i = (((n + i : Nat) : Int), x) :: (enumI n xs).drop (i + 1)
  | [], _, _, _, h => by simp at h
  | y :: r, n, 0, x, h => by
    cases (Option.some.inj h)
    rfl
  | y :: r, n, i + 1, x, h => by
    have ih := enumI_drop r (n + 1) i x (by simpa using h)
    show (enumI (n + 1) r).drop i = _ :: (enumI (n + 1) r).drop (i + 1)
    rw [ih]
    have : n + 1 + i = n + (i + 1) := by omega
    rw [this]
theorem enumI_len {α : Type} : ∀ (xs : List α) (n : Nat), (enumI n xs).length = xs.length
  | [], _ => rfl
  | x :: r, n => by show (enumI (n + 1) r).length + 1 = r.length + 1; rw [enumI_len r]
theorem q_forE {i1 i2 : Nat} {ts : TS} {n b k : St → Hp → Prop} {w : VK} {KK : PySem.W.Frag} (J : List (Int × α) → St → Hp → Prop) (h0 : J (enumI 0 xs) σ H) (hl : ∀ r σ H, J r σ H → SqL K H a (xs.map f)) (hx : ∀ r σ H H', J r σ H → Ex H H' → J r σ H')
    (hs : ∀ j x r σ H, J ((j, x) :: r) σ H → ts (Ends.mk (J r) w n (J r)) ((σ.set i1 (some (.int j))).set i2 (some (f x))) H) (hd : ∀ σ H, J [] σ H → n σ H) :
    ∃ W : Nat → Nat → St → Hp → Prop, (∃ m, W 0 m σ H) ∧ ∀ i m σ H, W i m σ H →
      ((Ite K a).stop i H ∧ n σ H) ∨ ((Ite K a).go i H ∧ ∃ N : St → Hp → Prop, (∀ σ' H', N σ' H' → ∃ m', m' < m ∧ W (i + 1) m' σ' H') ∧ ∀ x H', (Ite K a).yld i H x H' → gTup KK 2 (gCons (gName i1) (gCons (gName i2) gNil)) x σ H' fun σ2 H2 => ts (Ends.mk N w n N) σ2 H2) := by
  refine ⟨fun i m σ H => m = xs.length - i ∧ i ≤ xs.length ∧ J ((enumI 0 xs).drop i) σ H, ⟨xs.length, by simp, Nat.zero_le _, h0⟩, ?_⟩
  rintro i m σ H ⟨rfl, hi, hJ⟩
  have hS := hl _ σ H hJ
  by_cases hlt : i < xs.length
  · have e : xs[i]? = some xs[i] := List.getElem?_eq_getElem hlt
    have e1 : (xs.map f)[i]? = some (f xs[i]) := by rw [List.getElem?_map, e]; rfl
    have e2 := enumI_drop xs 0 i xs[i] e
    rw [e2] at hJ
    refine .inr ⟨⟨_, _, hS, e1⟩, J ((enumI 0 xs).drop (i + 1)), fun σ' H' hJ' => ⟨_, by omega, rfl, hlt, hJ'⟩, fun y H' hy => ?_⟩
    obtain ⟨T, x, rfl, hT, rfl, hq⟩ := hy
    have hxx := hq _ hS
    rw [e1] at hxx
    cases hxx
    refine ⟨T, _, rfl, SqT.of upd_same, rfl, _, _, rfl, _, _, rfl, rfl, ?_⟩
    have hJ2 := hx _ _ _ (upd H T (.tup [.int ((i : Nat) : Int), f xs[i]])) hJ (Ex.new hT)
    have e3 : ((0 + i : Nat) : Int) = (i : Int) := by omega
    rw [e3] at hJ2
    exact hs _ _ _ _ _ hJ2
  · have e : (enumI 0 xs).drop i = [] := List.drop_eq_nil_of_le (by rw [enumI_len]; omega)
    rw [e] at hJ
    exact .inl ⟨⟨_, hS, by rw [List.length_map]; omega⟩, hd σ H hJ⟩
end
end Bt
namespace Bt
open PySem L2
/-! what is refused -/
inductive Er where
  | NoBits | NoName | NoKey | NoFrame | NoPost | NoThing | NoStrip | NoRail
  | NoWire (i : Int) | NoRow (i : Int)
  deriving DecidableEq
structure Eds where
  NoBits : Addr
  NoName : Addr
  NoKey : Addr
  NoFrame : Addr
  NoPost : Addr
  NoThing : Addr
  NoStrip : Addr
  NoRail : Addr
  NoWire : Addr
  NoRow : Addr
  RailError : Addr
def Eds.of (d : Eds) : Er → Addr
  | .NoBits => d.NoBits
  | .NoName => d.NoName
  | .NoKey => d.NoKey
  | .NoFrame => d.NoFrame
  | .NoPost => d.NoPost
  | .NoThing => d.NoThing
  | .NoStrip => d.NoStrip
  | .NoRail => d.NoRail
  | .NoWire _ => d.NoWire
  | .NoRow _ => d.NoRow
inductive Rs (R : Type) where
  | ok (r : R)
  | er (e : Er)
def RetE (d : Eds) (e : Er) (H : Hp) (E : XK) : Prop := match e with
  | .NoWire i => ∀ H' a, H a = none → Ex H H' → H' a = some (.xd [(("at" : Str), .int i)]) → E (.ref d.NoWire) (some a) H'
  | .NoRow i => ∀ H' a, H a = none → Ex H H' → H' a = some (.xd [(("word" : Str), .int i)]) → E (.ref d.NoRow) (some a) H'
  | e => ∀ H', Ex H H' → E (.ref (d.of e)) none H'
def RetR {R : Type} (P : R → Prop) (d : Eds) (r : Rs R) (H : Hp) (E : XK) : Prop := match r with
  | .ok r => P r
  | .er e => RetE d e H E
section
variable {α β S R' : Type} {d : Eds} {H H0 : Hp} {E : XK} {L : List Cell}
theorem RetE.go {e : Er} (k : RetE d e H0 E) (O : Own H0 H L) : RetE d e H E := by
  cases e <;> first
    | exact fun H' h => k H' (O.ex.trans h)
    | exact fun H' a ha h => k H' a (O.ex.back ha) (O.ex.trans h)
theorem RetR.ok {P : α → Prop} {y : α} (h : P y) : RetR P d (.ok y) H E := h
theorem RetR.split {P : α → Prop} {x : Rs α} (h2 : ∀ e, x = .er e → RetE d e H E) (h1 : ∀ y, x = .ok y → P y) : RetR P d x H E := by
  cases x with
  | ok y => exact h1 y rfl
  | er e => exact h2 e rfl
def contR (f : α → Option (Rs β)) : Rs α → Option (Rs β)
  | .ok x => f x
  | .er e => some (.er e)
def bndR (a : Option (Rs α)) (f : α → Option (Rs β)) : Option (Rs β) := bnd a (contR f)
def contRF (f : α → Option (Fl S (Rs β))) : Rs α → Option (Fl S (Rs β))
  | .ok x => f x
  | .er e => some (.rt (.er e))
def bndRF (a : Option (Rs α)) (f : α → Option (Fl S (Rs β))) : Option (Fl S (Rs β)) := bnd a (contRF f)
def contO (f : α → Option β) : Rs α → Option β
  | .ok x => f x
  | .er _ => none
def bndO (a : Option (Rs α)) (f : α → Option β) : Option β := bnd a (contO f)
theorem bndRE {a : Option (Rs α)} {f : α → Option (Rs β)} {r : Rs β} (h : bndR a f = some r) : ∃ x, a = some x ∧ contR f x = some r := bndE h
theorem bndRFE {a : Option (Rs α)} {f : α → Option (Fl S (Rs β))} {r : Fl S (Rs β)} (h : bndRF a f = some r) : ∃ x, a = some x ∧ contRF f x = some r := bndE h
theorem okR {f : α → Option (Rs β)} {y : α} {r : Rs β} (h : contR f (.ok y) = some r) : f y = some r := h
theorem okRF {f : α → Option (Fl S (Rs β))} {y : α} {r : Fl S (Rs β)} (h : contRF f (.ok y) = some r) : f y = some r := h
theorem erR {f : α → Option (Rs β)} {e : Er} {r : Rs β} (h : contR f (.er e) = some r) : Rs.er e = r := Option.some.inj h
theorem erRF {f : α → Option (Fl S (Rs β))} {e : Er} {r : Fl S (Rs β)} (h : contRF f (.er e) = some r) : Fl.rt (Rs.er e) = r := Option.some.inj h
theorem bndOE {a : Option (Rs α)} {f : α → Option β} {r : β} (h : bndO a f = some r) : ∃ y, a = some (.ok y) ∧ f y = some r := by
  obtain ⟨x, h1, h2⟩ := bndE h
  cases x with
  | ok y => exact ⟨y, h1, h2⟩
  | er e => cases h2
end
/-- a class of refusals, as the top has made it -/
structure ErrC (K : PySem.W.Frag) (mg : Str → Option Value) (x : Str) (C : Addr) : Prop where
  g : mg x = some (.ref C)
  ex : PySem.W.excIn K C [.type "ValueError", .type "Exception", .type "BaseException", .type "object"] "ValueError.__new__" = true
  kp : PySem.W.keepIn K (.ref C) = true
  b : PySem.W.subIn K (.ref C) (.type "BaseException") = some true
  t : PySem.W.typeIn K (.ref C) = some (.type "type")
theorem ps_err {X : Cx} {W : WX} {x m : Str} {j : Nat} {p p2 pos pos' : Pos} {C : Addr} (e : ErrC X.K X.mg x C) (tk : Takes X W) (hc : X.calm = true) (hg : Gl X x) (hdb : (x == ("__debug__" : Str)) = false := by decide) :
    PS X (.Raise (some (.Call (.Name x p) [.Constant (.str m) j p2] [] pos)) none pos') (fun _ σ H => W (.ref C) none σ H) :=
  ps_raise hc tk (pmk_own PySem.F.excBase_ValueError e.ex e.g e.kp (raises_own e.b e.t) hg hdb)
end Bt
namespace Bt
open PySem L2
theorem err_mk {K : PySem.W.Frag} {h : Heap} {mg : Str → Option Value} {x : Str} {C : Addr} (X : K.In h) (G : h.Ns mainGlobals mg) (a : PySem.W.nsIn K mainGlobals x = some (some (.ref C)))
    (e : PySem.W.excIn K C [.type "ValueError", .type "Exception", .type "BaseException", .type "object"] "ValueError.__new__" = true) (k : PySem.W.keepIn K (.ref C) = true) (b : PySem.W.subIn K (.ref C) (.type "BaseException") = some true) (t : PySem.W.typeIn K (.ref C) = some (.type "type")) :
    ∃ C, ErrC K mg x C := ⟨C, PySem.W.mg_of X G a, e, k, b, t⟩
end Bt
namespace Bt
open PySem L2
inductive Ek where
  | NoBits | NoName | NoKey | NoFrame | NoPost | NoThing | NoStrip | NoRail | NoWire | NoRow
  deriving DecidableEq
def Er.k : Er → Ek
  | .NoBits => .NoBits
  | .NoName => .NoName
  | .NoKey => .NoKey
  | .NoFrame => .NoFrame
  | .NoPost => .NoPost
  | .NoThing => .NoThing
  | .NoStrip => .NoStrip
  | .NoRail => .NoRail
  | .NoWire _ => .NoWire
  | .NoRow _ => .NoRow
def tryR {α β : Type} (x : Rs α) (f : α → β) (g : Er → β) : β := match x with
  | .ok y => f y
  | .er e => g e
theorem tryOk {α β : Type} {y : α} {f : α → β} {g : Er → β} {r : β} (h : tryR (.ok y) f g = r) : f y = r := h
theorem tryEr {α β : Type} {e : Er} {f : α → β} {g : Er → β} {r : β} (h : tryR (.er e) f g = r) : g e = r := h
theorem exm_mk {K : PySem.W.Frag} {C S : Addr} {r : Bool} (h1 : PySem.W.subIn K (.ref S) (.type "BaseException") = some true) (h2 : (PySem.W.clsIn K S).isSome = true) (h3 : PySem.W.typeIn K (.ref S) = some (.type "type")) (h4 : PySem.W.subIn K (.ref C) (.ref S) = some r) :
    PySem.W.exmOne K (.ref C) (.ref S) = some r := by
  have e1 : (PySem.W.subIn K (.ref S) (.type "BaseException") == some true) = true := by rw [h1] <;> rfl
  have e2 : ((PySem.W.clsIn K S).isSome && PySem.W.typeIn K (.ref S) == some (.type "type")) = true := by
    rw [h2, h3] <;> rfl
  unfold PySem.W.exmOne
  rw [if_pos e1]
  unfold PySem.W.kitCls
  dsimp only
  rw [if_pos e2]
  exact h4
end Bt
namespace Bt
open PySem L2
theorem o_callS {sp : Sp} {E : L2.St → XK} {tr : TA} {σ : L2.St} {H : Hp} {Q : VK} (h : tr σ H fun vs H1 => sp vs H1 Q (E σ)) : tCallS sp E tr σ H Q := h
end Bt
namespace Bt
open PySem L2
section
variable {α : Type} {R H : Hp} {Q : VK} {a : Addr} {xs ys : List α} {y : α} {f : α → V}
def popL (xs : List α) : Option (α × List α) := match xs[xs.length - 1]? with
  | some y => some (y, xs.dropLast)
  | none => none
theorem popE (h : popL xs = some (y, ys)) : xs[xs.length - 1]? = some y ∧ xs.dropLast = ys := by
  unfold popL at h
  split at h
  · rename_i e
    cases h
    exact ⟨e, rfl⟩
  · cases h
theorem popL_ok {xs : List α} {y : α} : popL (xs ++ [y]) = some (y, xs) := by
  unfold popL
  rw [List.length_append, List.length_singleton, Nat.add_sub_cancel, List.getElem?_append_right (Nat.le_refl _), Nat.sub_self]
  simp
theorem k_clr {g : HO → List Cell} (hl : H a = some (.lst (xs.map f))) (hp : ∀ o', Own R (upd H a o') (g o')) (k : ∀ H', Own R H' (g (.lst (([] : List α).map f))) → Q .non H') : rClear (.ref a) [] H Q :=
  ⟨a, _, rfl, rfl, hl, k _ (hp _)⟩
theorem k_pop {g : HO → List Cell} (hl : H a = some (.lst (xs.map f))) (hp : ∀ o', Own R (upd H a o') (g o')) (h : popL xs = some (y, ys)) (k : ∀ H', Own R H' (g (.lst (ys.map f))) → Q (f y) H') : rPop (.ref a) [] H Q := by
  obtain ⟨e, rfl⟩ := popE h
  refine ⟨a, _, f y, rfl, rfl, hl, ?_, ?_⟩
  · rw [List.length_map, List.getElem?_map, e]; rfl
  · rw [← List.map_dropLast]
    exact k _ (hp _)
theorem k_ext {b : Addr} {zs : List α} {g : HO → List Cell} (hl : H a = some (.lst (xs.map f))) (hb : H b = some (.lst (zs.map f))) (hp : ∀ o', Own R (upd H a o') (g o')) (h : catG xs zs = some ys) (k : ∀ H', Own R H' (g (.lst (ys.map f))) → Q .non H') : rExtend (.ref a) [.ref b] H Q := by
  obtain ⟨c, rfl⟩ := grdE h
  refine ⟨a, b, _, _, rfl, rfl, hl, hb, ?_, ?_⟩
  · rw [List.length_map, List.length_map]; exact c
  · rw [← List.map_append]
    exact k _ (hp _)
end
end Bt

set_option Elab.async false
set_option linter.all false
set_option maxRecDepth 100000
set_option maxHeartbeats 4000000
/-! Built-ins that the kit's rules do not name. -/
namespace Bt
open PySem L2 PyProof.Rows
section
variable {X : Cx}
def maxL (d : Int) : List Int → Int
  | [] => d
  | n :: ns => ns.foldl (fun a y => if a < y then y else a) n
def rMaxD (K : PySem.W.Frag) : List V → List V → Hp → VK → Prop := fun xs zs H Q => ∃ a ns d, xs = [.ref a] ∧ zs = [.int d] ∧ SqL K H a (ns.map V.int) ∧ Q (.int (maxL d ns)) H
theorem maxOf_int (x : Int) (xs : List Int) : PySem.W.maxOf x xs = xs.foldl (fun a y => if a < y then y else a) x := by
  unfold PySem.W.maxOf
  congr 1
  funext a y
  show (if decide (a < y) = true then y else a) = _
  by_cases h : a < y
  · rw [if_pos (decide_eq_true h), if_pos h]
  · rw [if_neg (by simpa using h), if_neg h]
theorem cr_maxD (hc : X.calm = true) (hu : X.A.units + 64 < cLine) : CallRK X (.builtin "max") [Str.ofString "default"] (rMaxD X.K) := by
  intro pins s σ H xs zs us ws Q I r1 r2 h
  obtain ⟨a, ns, d, rfl, rfl, hs, q⟩ := h
  obtain ⟨its, rv, hl, _⟩ := I.list hs
  rw [Vals.ref1 r1]
  obtain ⟨w, rfl, t, rfl⟩ := r2.one
  refine PySem.W.max_list_datum_default (α := Int) (I.ok.hd hc) hl.isList (PySem.W.HoldAll.of_ints rv.ints) (by show X.A.units + 1 + 0 < cLine; omega) (fun e h' tk k => ?_) fun y ys i v h' tk e _ hv k => ?_
  · subst e
    exact ⟨.int d, H, I.kept k, ⟨_, rfl⟩, q⟩
  · subst e
    obtain ⟨bs, hv⟩ := hv
    rw [maxOf_int] at hv
    cases hv
    exact ⟨.int _, H, I.kept k, ⟨_, rfl⟩, q⟩
variable {K : PySem.W.Frag} {H : Hp} {Q : VK} {a : Addr} {ns : List Int} {d : Int} {t tk : TA} {r : List V → List V → Hp → VK → Prop} {σ : L2.St}
theorem o_kw (h : t σ H fun vs H1 => tk σ H1 fun zs H2 => r vs zs H2 Q) : tCKw r t tk σ H Q := h
theorem k_maxD (hs : SqL K H a (ns.map V.int)) (q : Q (.int (maxL d ns)) H) : rMaxD K [.ref a] [.int d] H Q := ⟨a, ns, d, rfl, rfl, hs, q⟩
theorem o_en {ta : TA} {R : It → Hp → Prop} (h : ta σ H fun vs H1 => ∃ a xs, vs = [.ref a] ∧ SqL K H1 a xs ∧ R (Ite K a) H1) : iEnum K ta σ H R := h
end
end Bt

set_option Elab.async false
set_option linter.all false
set_option maxRecDepth 100000
set_option maxHeartbeats 4000000
/-! Data in data: what stands in a heap that only grows. -/
namespace Bt
open PySem L2
inductive All2 {α β : Type} (P : α → β → Prop) : List α → List β → Prop
  | nil : All2 P [] []
  | cons {a : α} {b : β} {as : List α} {bs : List β} : P a b → All2 P as bs → All2 P (a :: as) (b :: bs)
section
variable {α β : Type} {P Q : α → β → Prop} {as cs : List α} {bs ds : List β} {a : α} {b : β}
theorem All2.mp (f : ∀ a b, P a b → Q a b) (h : All2 P as bs) : All2 Q as bs := by
  induction h with
  | nil => exact .nil
  | cons h _ ih => exact .cons (f _ _ h) ih
theorem All2.app (h : All2 P as bs) (k : All2 P cs ds) : All2 P (as ++ cs) (bs ++ ds) := by
  induction h with
  | nil => exact k
  | cons h _ ih => exact .cons h ih
theorem All2.snoc (h : All2 P as bs) (k : P a b) : All2 P (as ++ [a]) (bs ++ [b]) := h.app (.cons k .nil)
theorem All2.len (h : All2 P as bs) : as.length = bs.length := by
  induction h with
  | nil => rfl
  | cons _ _ ih => simp [ih]
theorem All2.get (h : All2 P as bs) : ∀ {i : Nat} {b : β}, bs[i]? = some b → ∃ a, as[i]? = some a ∧ P a b := by
  induction h with
  | nil => intro i b e; simp at e
  | cons h _ ih =>
    intro i b e
    cases i with
    | zero => cases Option.some.inj e; exact ⟨_, rfl, h⟩
    | succ i => exact ih (by simpa using e)
theorem All2.drop (h : All2 P as bs) : ∀ n, All2 P (as.drop n) (bs.drop n) := by
  induction h with
  | nil => intro n; simp; exact .nil
  | cons h t ih =>
    intro n
    cases n with
    | zero => exact .cons h t
    | succ n => exact ih n
theorem All2.take (h : All2 P as bs) : ∀ n, All2 P (as.take n) (bs.take n) := by
  induction h with
  | nil => intro n; simp; exact .nil
  | cons h t ih =>
    intro n
    cases n with
    | zero => exact .nil
    | succ n => exact .cons h (ih n)
theorem All2.set (h : All2 P as bs) (k : P a b) : ∀ n, All2 P (as.set n a) (bs.set n b) := by
  induction h with
  | nil => intro n; exact .nil
  | cons h t ih =>
    intro n
    cases n with
    | zero => exact .cons k t
    | succ n => exact .cons h (ih n)
end
/-- what a value stands for, in a heap -/
abbrev Rp (α : Type) := Hp → V → α → Prop
def Mono {α : Type} (P : Rp α) : Prop := ∀ F F' v x, Ex F F' → P F v x → P F' v x
def rI : Rp Int := fun _ v a => v = .int a
def rB : Rp Bool := fun _ v a => v = .bl a
def rS : Rp Str := fun _ v a => v = .str a
def rL {α : Type} (P : Rp α) : Rp (List α) := fun F v xs => ∃ p vs, v = .ref p ∧ F p = some (.lst vs) ∧ All2 (P F) vs xs
def rT2 {α β : Type} (P : Rp α) (Q : Rp β) : Rp (α × β) := fun F v x => ∃ p a b, v = .ref p ∧ F p = some (.tup [a, b]) ∧ P F a x.1 ∧ Q F b x.2
def rT3 {α β γ : Type} (P : Rp α) (Q : Rp β) (R : Rp γ) : Rp (α × β × γ) := fun F v x => ∃ p a b c, v = .ref p ∧ F p = some (.tup [a, b, c]) ∧ P F a x.1 ∧ Q F b x.2.1 ∧ R F c x.2.2
def rT4 {α β γ δ : Type} (P : Rp α) (Q : Rp β) (R : Rp γ) (S : Rp δ) : Rp (α × β × γ × δ) := fun F v x => ∃ p a b c d, v = .ref p ∧ F p = some (.tup [a, b, c, d]) ∧ P F a x.1 ∧ Q F b x.2.1 ∧ R F c x.2.2.1 ∧ S F d x.2.2.2
def rO {α : Type} (P : Rp α) : Rp (Option α) := fun F v x => match x with
  | none => v = .non
  | some y => P F v y
theorem mI : Mono rI := fun _ _ _ _ _ h => h
theorem mB : Mono rB := fun _ _ _ _ _ h => h
theorem mS : Mono rS := fun _ _ _ _ _ h => h
theorem mL {α : Type} {P : Rp α} (m : Mono P) : Mono (rL P) := fun F F' v x e ⟨p, vs, h1, h2, h3⟩ => ⟨p, vs, h1, e _ _ h2, h3.mp fun a b h => m F F' a b e h⟩
theorem mA {α : Type} {P : Rp α} (m : Mono P) {F F' : Hp} {vs : List V} {xs : List α} (e : Ex F F') (h : All2 (P F) vs xs) : All2 (P F') vs xs := h.mp fun a b h => m F F' a b e h
theorem mT2 {α β : Type} {P : Rp α} {Q : Rp β} (m : Mono P) (n : Mono Q) : Mono (rT2 P Q) := fun F F' v x e ⟨p, a, b, h1, h2, h3, h4⟩ => ⟨p, a, b, h1, e _ _ h2, m _ _ _ _ e h3, n _ _ _ _ e h4⟩
theorem mT3 {α β γ : Type} {P : Rp α} {Q : Rp β} {R : Rp γ} (m : Mono P) (n : Mono Q) (o : Mono R) : Mono (rT3 P Q R) := fun F F' v x e ⟨p, a, b, c, h1, h2, h3, h4, h5⟩ => ⟨p, a, b, c, h1, e _ _ h2, m _ _ _ _ e h3, n _ _ _ _ e h4, o _ _ _ _ e h5⟩
theorem mT4 {α β γ δ : Type} {P : Rp α} {Q : Rp β} {R : Rp γ} {S : Rp δ} (m : Mono P) (n : Mono Q) (o : Mono R) (q : Mono S) : Mono (rT4 P Q R S) := fun F F' v x e ⟨p, a, b, c, d, h1, h2, h3, h4, h5, h6⟩ => ⟨p, a, b, c, d, h1, e _ _ h2, m _ _ _ _ e h3, n _ _ _ _ e h4, o _ _ _ _ e h5, q _ _ _ _ e h6⟩
theorem mO {α : Type} {P : Rp α} (m : Mono P) : Mono (rO P) := fun F F' v x e h => by
  cases x with
  | none => exact h
  | some y => exact m _ _ _ _ e h
/-! flat lists in a heap -/
theorem aI {F : Hp} : ∀ {vs : List V} {xs : List Int}, All2 (rI F) vs xs → vs = xs.map V.int
  | _, _, .nil => rfl
  | _, _, .cons h t => by rw [show _ = _ from h, aI t]; rfl
theorem aB {F : Hp} : ∀ {vs : List V} {xs : List Bool}, All2 (rB F) vs xs → vs = xs.map V.bl
  | _, _, .nil => rfl
  | _, _, .cons h t => by rw [show _ = _ from h, aB t]; rfl
theorem aS {F : Hp} : ∀ {vs : List V} {xs : List Str}, All2 (rS F) vs xs → vs = xs.map V.str
  | _, _, .nil => rfl
  | _, _, .cons h t => by rw [show _ = _ from h, aS t]; rfl
theorem iA {F : Hp} : ∀ (xs : List Int), All2 (rI F) (xs.map V.int) xs
  | [] => .nil
  | x :: r => .cons rfl (iA r)
theorem bA {F : Hp} : ∀ (xs : List Bool), All2 (rB F) (xs.map V.bl) xs
  | [] => .nil
  | x :: r => .cons rfl (bA r)
theorem sA {F : Hp} : ∀ (xs : List Str), All2 (rS F) (xs.map V.str) xs
  | [] => .nil
  | x :: r => .cons rfl (sA r)
theorem fI {F : Hp} {v : V} {xs : List Int} (h : rL rI F v xs) : ∃ p, v = .ref p ∧ F p = some (.lst (xs.map V.int)) := by
  obtain ⟨p, vs, h1, h2, h3⟩ := h
  rw [aI h3] at h2
  exact ⟨p, h1, h2⟩
theorem fB {F : Hp} {v : V} {xs : List Bool} (h : rL rB F v xs) : ∃ p, v = .ref p ∧ F p = some (.lst (xs.map V.bl)) := by
  obtain ⟨p, vs, h1, h2, h3⟩ := h
  rw [aB h3] at h2
  exact ⟨p, h1, h2⟩
theorem fS {F : Hp} {v : V} {xs : List Str} (h : rL rS F v xs) : ∃ p, v = .ref p ∧ F p = some (.lst (xs.map V.str)) := by
  obtain ⟨p, vs, h1, h2, h3⟩ := h
  rw [aS h3] at h2
  exact ⟨p, h1, h2⟩
theorem gI {F : Hp} {p : Addr} {xs : List Int} (h : F p = some (.lst (xs.map V.int))) : rL rI F (.ref p) xs := ⟨p, _, rfl, h, iA xs⟩
theorem gB {F : Hp} {p : Addr} {xs : List Bool} (h : F p = some (.lst (xs.map V.bl))) : rL rB F (.ref p) xs := ⟨p, _, rfl, h, bA xs⟩
theorem gS {F : Hp} {p : Addr} {xs : List Str} (h : F p = some (.lst (xs.map V.str))) : rL rS F (.ref p) xs := ⟨p, _, rfl, h, sA xs⟩
/-! the frame grows -/
/-- of X what R knows, or what H does not -/
def ovr (R H X : Hp) : Hp := fun a => if R a ≠ none ∨ H a = none then X a else none
theorem ovr_some {R H X : Hp} {a : Addr} {u : HO} (h : ovr R H X a = some u) : (R a ≠ none ∨ H a = none) ∧ X a = some u := by
  unfold ovr at h
  split at h
  · exact ⟨by assumption, h⟩
  · cases h
theorem ovr_mk {R H X : Hp} {a : Addr} {u : HO} (h : R a ≠ none ∨ H a = none) (k : X a = some u) : ovr R H X a = some u := by
  unfold ovr
  rw [if_pos h]
  exact k
theorem ovr_ex {R H X : Hp} : Ex (ovr R H X) X := fun a o h => by
  unfold ovr at h
  split at h
  · exact h
  · cases h
theorem ovr_mono {R H X Y : Hp} (e : Ex X Y) : Ex (ovr R H X) (ovr R H Y) := fun a o h => by
  unfold ovr at h ⊢
  split at h
  · rename_i c
    rw [if_pos c]
    exact e _ _ h
  · cases h
theorem ovr_start {R H : Hp} (e : Ex R H) : Ex R (ovr R H H) := fun a o h => by
  unfold ovr
  rw [if_pos (.inl (by rw [h]; simp))]
  exact e _ _ h
section
variable {R H H' F H0 R0 : Hp} {L : List Cell} {p : Addr} {o : HO}
theorem Own.freeze (O : Own R H ((p, o) :: L)) : Own (upd R p o) H L :=
  ⟨fun a u h => by
    by_cases e : a = p
    · subst e
      rw [upd_same] at h
      cases h
      exact O.at_ _ (List.Mem.head _)
    · rw [upd_ne e] at h
      exact O.ex _ _ h, fun c h => O.at_ c (List.Mem.tail _ h), fun c h => by
    have hne : c.1 ≠ p := fun e => (List.nodup_cons.mp O.nd).1 (by rw [← e]; exact List.mem_map_of_mem (f := (·.1)) h)
    rw [upd_ne hne]
    exact O.fr c (List.Mem.tail _ h), (List.nodup_cons.mp O.nd).2⟩
/-- R grows by a cell; what was known of it stays, the new cell is known -/
theorem Own.frz (O : Own R H ((p, o) :: L)) : ∃ R', Own R' H L ∧ Ex R R' ∧ R' p = some o := ⟨_, O.freeze, Ex.new (O.fr _ (List.Mem.head _)), upd_same⟩
theorem Own.frzO (O : Own R H ((p, o) :: L)) (e0 : Ex H0 R) : ∃ R', Own R' H L ∧ Ex R R' ∧ ovr R0 H0 R' p = some o := ⟨_, O.freeze, Ex.new (O.fr _ (List.Mem.head _)), by
  unfold ovr
  rw [if_pos (.inr (e0.back (O.fr _ (List.Mem.head _))))]
  exact upd_same⟩
/-- R grows by all that is new -/
theorem Own.grow (O : Own R H L) (e : Ex H H') : ∃ R', Own R' H' L ∧ Ex R R' ∧ ∀ F, Ex F R → Ex (ovr F H H') R' := by
  refine ⟨fun a => if H a = none then H' a else R a, ⟨fun a u h => ?_, fun c h => e _ _ (O.at_ c h), fun c h => ?_, O.nd⟩, fun a u h => ?_, fun F hF a u h => ?_⟩
  · by_cases c : H a = none
    · rw [if_pos c] at h; exact h
    · rw [if_neg c] at h; exact e _ _ (O.ex _ _ h)
  · rw [if_neg (by rw [O.at_ c h]; simp)]
    exact O.fr c h
  · show (if H a = none then H' a else R a) = some u
    rw [if_neg (by rw [O.ex _ _ h]; simp)]
    exact h
  · unfold ovr at h
    split at h
    · rename_i q
      rcases q with q | q
      · cases hf : F a with
        | none => exact absurd hf q
        | some w =>
          have h1 := O.ex _ _ (hF _ _ hf)
          have h2 := e _ _ h1
          rw [h] at h2
          cases h2
          show (if H a = none then H' a else R a) = some u
          rw [if_neg (by rw [h1]; simp)]
          exact hF _ _ hf
      · show (if H a = none then H' a else R a) = some u
        rw [if_pos q]
        exact h
    · cases h
theorem Own.growO (O : Own R H L) (e : Ex H H') (e0 : Ex H0 R) : ∃ R', Own R' H' L ∧ Ex R R' ∧ Ex (ovr (ovr R0 H0 R) H H') (ovr R0 H0 R') := by
  obtain ⟨R', O', e1, e2⟩ := O.grow e
  refine ⟨R', O', e1, fun a u h => ?_⟩
  have h1 := e2 (ovr R0 H0 R) ovr_ex _ _ h
  obtain ⟨q, _⟩ := ovr_some h
  refine ovr_mk ?_ h1
  rcases q with q | q
  · cases hq : ovr R0 H0 R a with
    | none => exact absurd hq q
    | some w => exact (ovr_some hq).1
  · exact .inr (Ex.back (e0.trans O.ex) q)
end
/-- a new thing is handed back, in what R knows or what is new -/
def RetG {α : Type} (P : Rp α) (R : Hp) (r : α) (H : Hp) (Q : VK) : Prop := ∀ v H', Ex H H' → P (ovr R H H') v r → Q v H'
section
variable {α : Type} {P : Rp α} {R H F H0 R0 : Hp} {L : List Cell} {r : α} {Q : VK} {v : V}
theorem Own.retG (O : Own R H L) (m : Mono P) (k : ∀ v H' R', Own R' H' L → Ex R R' → P R' v r → Q v H') : RetG P R r H Q := fun v H' e h => by
  obtain ⟨R', O', e1, e2⟩ := O.grow e
  exact k v H' R' O' e1 (m _ _ _ _ (e2 R (Ex.refl R)) h)
theorem Own.retGO (O : Own R H L) (m : Mono P) (e0 : Ex H0 R) (k : ∀ v H' R', Own R' H' L → Ex R R' → P (ovr R0 H0 R') v r → Q v H') : RetG P (ovr R0 H0 R) r H Q := fun v H' e h => by
  obtain ⟨R', O', e1, e2⟩ := O.growO (R0 := R0) e e0
  exact k v H' R' O' e1 (m _ _ _ _ e2 h)
theorem RetG.go (k : RetG P R0 r H0 Q) (m : Mono P) (O : Own R H L) (e0 : Ex H0 R) (h : P (ovr R0 H0 R) v r) : Q v H := k v H (e0.trans O.ex) (m _ _ _ _ (ovr_mono O.ex) h)
theorem RetV.goR {v : V} (k : RetV v H0 Q) (O : Own R H L) (e0 : Ex H0 R) : Q v H := k H (e0.trans O.ex)
theorem RetL.goR {xs : List V} {p : Addr} (k : RetL xs H0 Q) (O : Own R H L) (e0 : Ex H0 R) (h : (p, HO.lst xs) ∈ L) : Q (.ref p) H := k p H (e0.back (O.fr _ h)) (e0.trans O.ex) (O.at_ _ h)
theorem RetT.goR {xs : List V} {p : Addr} (k : RetT xs H0 Q) (O : Own R H L) (e0 : Ex H0 R) (h : (p, HO.tup xs) ∈ L) : Q (.ref p) H := k p H (e0.back (O.fr _ h)) (e0.trans O.ex) (O.at_ _ h)
end
/-! == of such data -/
structure De {α : Type} [DecidableEq α] (P : Rp α) where
  d : α → PyData
  dp : ∀ (K : PySem.W.Frag) F v a, P F v a → Dp K F v (d a)
  ok : ∀ a, PyData.canLay0 (d a) = true
  n : Nat
  dep : ∀ a, PyData.depth (d a) ≤ n
  eq : ∀ a b, PyData.eqv (d a) (d b) = decide (a = b)
def deI : De rI where
  d := PyData.int
  dp := fun K F v a h => by rw [show v = V.int a from h]; exact .int a
  ok := fun _ => rfl
  n := 0
  dep := fun _ => Nat.le_refl _
  eq := fun a b => by simp only [PyData.eqv]; rw [Bool.beq_eq_decide_eq]
def deB : De rB where
  d := PyData.bool
  dp := fun K F v a h => by rw [show v = V.bl a from h]; exact .bl a
  ok := fun _ => rfl
  n := 0
  dep := fun _ => Nat.le_refl _
  eq := fun a b => by simp only [PyData.eqv]; rw [Bool.beq_eq_decide_eq]
section
variable {α β γ : Type} [DecidableEq α] [DecidableEq β] [DecidableEq γ]
theorem de_all {P : Rp α} (e : De P) {K : PySem.W.Frag} {F : Hp} : ∀ {vs : List V} {xs : List α}, All2 (P F) vs xs → DpAll K F vs (xs.map e.d)
  | _, _, .nil => .nil
  | _, _, .cons h t => .cons (e.dp K F _ _ h) (de_all e t)
theorem ok_all {P : Rp α} (e : De P) : ∀ xs : List α, PyData.canLayAll0 (xs.map e.d) = true
  | [] => rfl
  | x :: r => by simp only [List.map_cons, PyData.canLayAll0, e.ok x, ok_all e r, Bool.and_self]
theorem dep_all {P : Rp α} (e : De P) : ∀ xs : List α, PyData.depthAll (xs.map e.d) ≤ e.n
  | [] => by simp [PyData.depthAll]
  | x :: r => by
    have h1 := e.dep x
    have h2 := dep_all e r
    simp only [List.map_cons, PyData.depthAll]
    omega
theorem eq_all {P : Rp α} (e : De P) : ∀ xs ys : List α, PyData.eqvAll (xs.map e.d) (ys.map e.d) = decide (xs = ys)
  | [], [] => by simp [PyData.eqvAll]
  | [], y :: s => by simp [PyData.eqvAll]
  | x :: r, [] => by simp [PyData.eqvAll]
  | x :: r, y :: s => by simp only [List.map_cons, PyData.eqvAll, e.eq x y, eq_all e r s, List.cons.injEq, Bool.decide_and]
def deL {P : Rp α} (e : De P) : De (rL P) where
  d := fun xs => .list (xs.map e.d)
  dp := fun K F v xs ⟨p, vs, h1, h2, h3⟩ => by
    subst h1
    exact .lst (SqL.of h2) (de_all e h3)
  ok := fun xs => by simp only [PyData.canLay0]; exact ok_all e xs
  n := e.n + 1
  dep := fun xs => by
    have := dep_all e xs
    simp only [PyData.depth]
    omega
  eq := fun xs ys => by simp only [PyData.eqv]; exact eq_all e xs ys
def deT2 {P : Rp α} {Q : Rp β} (e : De P) (f : De Q) : De (rT2 P Q) where
  d := fun x => .tuple [e.d x.1, f.d x.2]
  dp := fun K F v x ⟨p, a, b, h1, h2, h3, h4⟩ => by
    subst h1
    exact .tup (SqT.of h2) (.cons (e.dp K F _ _ h3) (.cons (f.dp K F _ _ h4) .nil))
  ok := fun x => by simp only [PyData.canLay0, PyData.canLayAll0, e.ok, f.ok, Bool.and_self]
  n := max e.n f.n + 1
  dep := fun x => by
    have h1 := e.dep x.1
    have h2 := f.dep x.2
    simp only [PyData.depth, PyData.depthAll]
    omega
  eq := fun x y => by
    obtain ⟨x1, x2⟩ := x
    obtain ⟨y1, y2⟩ := y
    simp only [PyData.eqv, PyData.eqvAll, e.eq, f.eq, Prod.mk.injEq, Bool.decide_and, Bool.and_true]
def deT3 {P : Rp α} {Q : Rp β} {R : Rp γ} (e : De P) (f : De Q) (g : De R) : De (rT3 P Q R) where
  d := fun x => .tuple [e.d x.1, f.d x.2.1, g.d x.2.2]
  dp := fun K F v x ⟨p, a, b, c, h1, h2, h3, h4, h5⟩ => by
    subst h1
    exact .tup (SqT.of h2) (.cons (e.dp K F _ _ h3) (.cons (f.dp K F _ _ h4) (.cons (g.dp K F _ _ h5) .nil)))
  ok := fun x => by simp only [PyData.canLay0, PyData.canLayAll0, e.ok, f.ok, g.ok, Bool.and_self]
  n := max e.n (max f.n g.n) + 1
  dep := fun x => by
    have h1 := e.dep x.1
    have h2 := f.dep x.2.1
    have h3 := g.dep x.2.2
    simp only [PyData.depth, PyData.depthAll]
    omega
  eq := fun x y => by
    obtain ⟨x1, x2, x3⟩ := x
    obtain ⟨y1, y2, y3⟩ := y
    simp only [PyData.eqv, PyData.eqvAll, e.eq, f.eq, g.eq, Prod.mk.injEq, Bool.decide_and, Bool.and_true, Bool.and_assoc]
end
section
variable {α : Type} [DecidableEq α] {P : Rp α} {K : PySem.W.Frag} {F F' H : Hp} {v w : V} {x y : α} {Q : VK}
theorem sh_de (e : De P) (h : e.n ≤ 64) (x : α) : SeqAt.shaped (e.d x) = true := by
  have h1 := e.dep x
  simp only [SeqAt.shaped, e.ok, Bool.true_and]
  exact decide_eq_true (by omega)
theorem k_eqN (e : De P) (m : Mono P) (h : e.n ≤ 64) (h1 : P F v x) (e1 : Ex F H) (h2 : P F' w y) (e2 : Ex F' H) (k : Q (.bl (decide (x = y))) H) : rEqD K v w H Q :=
  ⟨_, _, e.dp K H _ _ (m _ _ _ _ e1 h1), e.dp K H _ _ (m _ _ _ _ e2 h2), sh_de e h x, sh_de e h y, by rw [e.eq]; exact k⟩
theorem k_neN (e : De P) (m : Mono P) (h : e.n ≤ 64) (h1 : P F v x) (e1 : Ex F H) (h2 : P F' w y) (e2 : Ex F' H) (k : Q (.bl (!decide (x = y))) H) : rNeD K v w H Q :=
  ⟨_, _, e.dp K H _ _ (m _ _ _ _ e1 h1), e.dp K H _ _ (m _ _ _ _ e2 h2), sh_de e h x, sh_de e h y, by rw [e.eq]; exact k⟩
end
section
variable {α : Type} {P : Rp α} {K : PySem.W.Frag} {F H R : Hp} {L : List Cell} {p a : Addr} {i : Int} {xs : List α} {y : α} {Q : VK} {vs : List V} {σ : L2.St}
theorem All2.at {β : Type} {P : α → β → Prop} {as : List α} {bs : List β} (h : All2 P as bs) {i : Int} {b : β} (e : atI bs i = some b) : ∃ a, atI as i = some a ∧ P a b := by
  unfold atI at e ⊢
  rw [h.len]
  cases hj : ixN bs.length i with
  | none => rw [hj] at e; cases e
  | some j =>
    rw [hj] at e
    obtain ⟨a, h1, h2⟩ := h.get e
    exact ⟨a, h1, h2⟩
theorem k_ixN (hn : rL P F (.ref p) xs) (e : Ex F H) (h : atI xs i = some y) (k : ∀ v, P F v y → Q v H) : rIxL K (.ref p) (.int i) H Q := by
  obtain ⟨q, vs, h1, h2, h3⟩ := hn
  cases h1
  obtain ⟨v, e1, hv⟩ := h3.at h
  exact ⟨p, vs, i, v, rfl, rfl, SqL.of (e _ _ h2), e1, k v hv⟩
theorem n_lenN (hn : rL P F (.ref p) xs) (e : Ex F H) (k : Q (.int (xs.length : Int)) H) : rLenQ K [.ref p] H Q := by
  obtain ⟨q, vs, h1, h2, h3⟩ := hn
  cases h1
  unfold rLenQ
  exact ⟨p, vs, rfl, .inl (SqL.of (e _ _ h2)), by rw [h3.len]; exact k⟩
theorem n_lstV (O : Own R H L) (hz : vs.length ≤ sizeLine) (k : ∀ p H', Own R H' ((p, .lst vs) :: L) → Q (.ref p) H') : rNewL vs H Q := by
  unfold rNewL
  exact ⟨hz, fun p hp => k p _ (O.new hp)⟩
end
end Bt

set_option Elab.async false
set_option linter.all false
set_option maxRecDepth 100000
set_option maxHeartbeats 4000000
/-! What is refused, caught by a name, asked of its class. -/
namespace Bt
open PySem L2 PyProof.Rows
theorem passN {X : Cx} : Passes (L2N.CX X.prog X.w) X E0 := fun _ _ _ _ _ _ _ h => by
  obtain ⟨_, _, _, _, _, _, _, _, _, _, _, _, z⟩ := h
  exact z.elim
theorem takesN0 {X : Cx} : L2N.Takes X (fun _ _ _ _ => False) := fun _ _ x => by
  obtain ⟨_, _, _, _, _, _, _, _, _, _, _, _, _, _, _, _, z⟩ := x
  exact z.elim
theorem okN {P : Program} {w : World} {K : PySem.W.Frag} {mg : Str → Option Value} {base : Heap} {x qual : Str} {st : Stmt} {f : Addr} {fd : FuncData} {N ps : List Str} {k : Nat} {sp : Sp} (F : Fun K x qual st f fd) (S : FnScope N ps (defScope st)) (len : ∀ vs H Q E, sp vs H Q E → vs.length = ps.length)
    (hbody : ∀ (cdv : Value) (A : Around) (outer : List Env) (s : Shared) (H : Hp) (vs : List V) (Q : VK) (E : XK), Room k (A.deeper (envOfC qual (defScope st) s.heap.objs.size f cdv)) → sp vs H Q E →
      ∃ t, PSs (cxOf (L2N.CX P w) P w K mg base N qual (defScope st) f cdv A outer s H E) (defBody st) t ∧ t { nx := fun _ H' => Q .non H', rt := Q } (start N vs) H) : FnOk P w K mg base (L2N.CX P w) (k + 1) f fd ps sp := by
  obtain ⟨oc, od, kV, doc, pm, an, cdv, ct, osl, rfl, lk, hcd⟩ := F.ex
  exact fn_of lk hcd S len fun A outer s H vs Q E hr hsp => hbody cdv A outer s H vs Q E hr hsp
theorem ps_errN {X : Cx} {W : WX} {x m : Str} {j : Nat} {p p2 pos pos' : Pos} {C : Addr} (e : ErrC X.K X.mg x C) (tk : L2N.Takes X W) (hc : X.calm = true) (hg : Gl X x) (hdb : (x == ("__debug__" : Str)) = false := by decide) :
    PS X (.Raise (some (.Call (.Name x p) [.Constant (.str m) j p2] [] pos)) none pos') (fun _ σ H => W (.ref C) none σ H) :=
  L2N.ps_raise hc tk (L2N.pmk_own PySem.F.excBase_ValueError e.ex e.g e.kp (raises_own e.b e.t) hg hdb)
/-! classes by their letters -/
def Eds.at (d : Eds) : Ek → Addr
  | .NoBits => d.NoBits
  | .NoName => d.NoName
  | .NoKey => d.NoKey
  | .NoFrame => d.NoFrame
  | .NoPost => d.NoPost
  | .NoThing => d.NoThing
  | .NoStrip => d.NoStrip
  | .NoRail => d.NoRail
  | .NoWire => d.NoWire
  | .NoRow => d.NoRow
/-- what the walk knows of the classes ks -/
structure EcF (K : PySem.W.Frag) (d : Eds) (ks : List Ek) : Prop where
  ec : ∀ k ∈ ks, ExcC K (d.at k)
  kt : ∀ k ∈ ks, ∀ c ∈ ks, PySem.W.kitOne K (.ref (d.at k)) (.ref (d.at c)) = some (decide (k = c))
  kv : ∀ k ∈ ks, PySem.W.kitOne K (.ref (d.at k)) (.type "ValueError") = some true
  kr : ∀ k ∈ ks, PySem.W.kitOne K (.ref (d.at k)) (.ref d.RailError) = some true
  xr : ∀ k ∈ ks, PySem.W.exmOne K (.ref (d.at k)) (.ref d.RailError) = some true
  xx : ∀ k ∈ ks, ∀ c ∈ ks, PySem.W.exmOne K (.ref (d.at k)) (.ref (d.at c)) = some (decide (k = c))
/-- what an exception's own dict holds -/
def XFl (e : Er) (d : Option Addr) (H : Hp) : Prop := match e with
  | .NoWire i => ∃ x, d = some x ∧ H x = some (.xd [(("at" : Str), .int i)])
  | .NoRow i => ∃ x, d = some x ∧ H x = some (.xd [(("word" : Str), .int i)])
  | _ => d = none
theorem XFl.ext {e : Er} {d : Option Addr} {H H' : Hp} (h : XFl e d H) (x : Ex H H') : XFl e d H' := by
  cases e <;> first
    | exact h
    | (obtain ⟨a, h1, h2⟩ := h; exact ⟨a, h1, x _ _ h2⟩)
theorem RetE.by {d : Eds} {e : Er} {H : Hp} {E : XK} (h : ∀ H' dd, Ex H H' → XFl e dd H' → E (.ref (d.at e.k)) dd H') : RetE d e H E := by
  cases e <;> first
    | exact fun H' x => h H' none x rfl
    | exact fun H' a _ x q => h H' (some a) x ⟨a, rfl, q⟩
/-! isinstance of the exception in hand -/
section
variable {X : Cx} {p : Addr × Obj} {D : Addr} {ex : Er}
theorem inst_pin {pins : List (Addr × Obj)} {σ : L2.St} {H : Hp} {s : Shared} (I : Inv X pins σ H s) (hp : p ∈ X.pn) (hz : p.2.cls = .ref D) (hd : XFl ex p.2.dict H) (hf : ∃ vs, p.2.data = .fields vs) : ∃ od, PySem.W.InstAt s.heap p.1 p.2 D od := by
  obtain ⟨hget, _⟩ := I.pin p (List.mem_append.mpr (.inl hp))
  obtain ⟨a, oc, od, oda, osl⟩ := p
  obtain ⟨vs, hv⟩ := hf
  dsimp only at hz hd hv hget
  subst hz hv
  have hk : od = none ∨ ∃ x fs, od = some x ∧ H x = some (.xd fs) := by
    cases ex <;> first
      | exact .inl hd
      | (obtain ⟨x, h1, h2⟩ := hd; exact .inr ⟨x, _, h1, h2⟩)
  rcases hk with rfl | ⟨x, fs, rfl, hx⟩
  · exact ⟨none, hget, rfl, rfl, trivial⟩
  · obtain ⟨_, ⟨o, _, _, e, _⟩, _⟩ := (show ∃ mA, s.heap.Ns1 x mA ∧ ∀ f, RelO (fs.lookup f) (mA f) from I.hok x _ hx)
    exact ⟨some _, hget, rfl, rfl, e⟩
theorem exc_cls {K : PySem.W.Frag} {D : Addr} (C : ExcC K D) : (PySem.W.clsIn K D).isSome = true := by
  obtain ⟨cd, hc, _⟩ := PySem.W.any_some C.hd
  rw [hc]; rfl
/-- isinstance(e, c), e the exception in hand -/
def rIsX (K : PySem.W.Frag) (D a : Addr) (ex : Er) (d : Option Addr) : List V → Hp → VK → Prop := fun xs H Q => ∃ (c : V) (cv : Value) (b : Bool), xs = [.ref a, c] ∧ ClsV c cv ∧ XFl ex d H ∧ PySem.W.kitOne K (.ref D) cv = some b ∧ Q (.bl b) H
theorem call_isP (hp : p ∈ X.pn) (C : ExcC X.K D) (hz : p.2.cls = .ref D) {d : Option Addr} (hdd : p.2.dict = d) (hf : ∃ vs, p.2.data = .fields vs) : CallR X (.builtin "isinstance") (rIsX X.K D p.1 ex d) := by
  subst hdd
  intro pins s σ H xs us Q I r h
  obtain ⟨c, cv, b, rfl, hcv, hd, e, q⟩ := h
  obtain ⟨u1, u2, rfl, r1, r2⟩ := vals2 r
  cases (show u1 = Value.ref p.1 from r1)
  have ec := hcv.eq r2
  subst ec
  obtain ⟨od, J⟩ := inst_pin I hp hz hd hf
  exact PySem.W.kia_one (PySem.W.kitx_exc (exc_cls C) C.hg C.hk C.hs C.ha C.hn C.ht C.hm) I.kIn J e (fun z => nomatch z) fun tk => ⟨.bl b, H, I.kept (t' := tk) fun _ _ z => z, rfl, q⟩
/-- .. and of a row of classes -/
def rIsXt (K : PySem.W.Frag) (D a : Addr) (ex : Er) (d : Option Addr) : List V → Hp → VK → Prop := fun xs H Q => ∃ (tp : Addr) (cs : List V) (us : List Value) (b : Bool), xs = [.ref a, .ref tp] ∧ H tp = some (.tup cs) ∧ Paired ClsV cs us ∧ XFl ex d H ∧ PySem.W.kitAny K (.ref D) us = some b ∧ Q (.bl b) H
theorem call_isPt (hp : p ∈ X.pn) (C : ExcC X.K D) (hz : p.2.cls = .ref D) {d : Option Addr} (hdd : p.2.dict = d) (hf : ∃ vs, p.2.data = .fields vs) : CallR X (.builtin "isinstance") (rIsXt X.K D p.1 ex d) := by
  subst hdd
  intro pins s σ H xs us Q I r h
  obtain ⟨tp, cs, ws, b, rfl, hT, k, hd, e, q⟩ := h
  obtain ⟨u1, u2, rfl, r1, r2⟩ := vals2 r
  cases (show u1 = Value.ref p.1 from r1)
  cases (show u2 = Value.ref tp from r2)
  obtain ⟨_, its, rv, o, h1, h2, n, h3⟩ := (show ObjOk X.prog X.w H s.heap tp (.tup cs) from I.hok tp _ hT)
  have e3 := ClsV.all k rv
  subst e3
  obtain ⟨oc, od, dt, sl⟩ := o
  simp only at h2 h3
  subst h2 h3
  obtain ⟨od, J⟩ := inst_pin I hp hz hd hf
  exact PySem.W.kia_tup (PySem.W.kitx_exc (exc_cls C) C.hg C.hk C.hs C.ha C.hn C.ht C.hm) I.kIn J h1 e (fun z => nomatch z) fun tk => ⟨.bl b, H, I.kept (t' := tk) fun _ _ z => z, rfl, q⟩
end
/-- the classes of a row, asked -/
def inKs (k : Ek) : List Ek → Bool
  | [] => false
  | c :: r => decide (k = c) || inKs k r
theorem kit_any {K : PySem.W.Frag} {d : Eds} {ks : List Ek} (T : EcF K d ks) {k : Ek} (hk : k ∈ ks) : ∀ (cs : List Ek), (∀ c ∈ cs, c ∈ ks) → PySem.W.kitAny K (.ref (d.at k)) (cs.map fun c => .ref (d.at c)) = some (inKs k cs)
  | [], _ => rfl
  | c :: r, h => by
    refine kitAny_cons (T.kt k hk c (h c (List.Mem.head _))) (fun e => ?_) fun e => ?_
    · rw [kit_any T hk r fun z hz => h z (List.Mem.tail _ hz)]
      show some (inKs k r) = some (decide (k = c) || inKs k r)
      rw [e, Bool.false_or]
    · show (decide (k = c) || inKs k r) = true
      rw [e, Bool.true_or]
/-! a def of the exception in hand, called in the suite -/
structure FnE (P : Program) (w : World) (K : PySem.W.Frag) (mg : Str → Option Value) (base : Heap) (k : Nat) (f : Addr) (fd : FuncData) (x : Str) (D : Addr) (ex : Er) (R : Bool) : Prop where
  run : ∀ (A : Around) (outer : List Env) (s : Shared) (H : Hp) (args : Args) (p : Addr × Obj) (Q : VK), L2H.RoomH k A → L2H.Hot1 A p → L2H.PinOk outer H s p → p.2.cls = .ref D → XFl ex p.2.dict H → Env0 P w K mg base A outer s H → BindsTo s fd args ([x].zip [.ref p.1]) → RetV (.bl R) H Q →
    codeAny (model P w) A (.call (.ref f) args) (CR CX0 outer P w H s Q E0) s
theorem fnE_of {P : Program} {w : World} {K : PySem.W.Frag} {mg : Str → Option Value} {base : Heap} {x qual : Str} {st : Stmt} {f : Addr} {fd : FuncData} {N : List Str} {y : Str} {k : Nat} {D : Addr} {ex : Er} {R : Bool} (F : Fun K x qual st f fd) (S : FnScope N [y] (defScope st))
    (hbody : ∀ (cdv : Value) (A : Around) (outer : List Env) (s : Shared) (H : Hp) (p : Addr × Obj) (Q : VK), A.units + 64 < cLine → p.2.cls = .ref D → XFl ex p.2.dict H → (∃ vs, p.2.data = .fields vs) → RetV (.bl R) H Q →
      ∃ t, PSs (L2H.cxH CX0 P w K mg base N qual (defScope st) f cdv A outer s H E0 p) (defBody st) t ∧ t { nx := fun _ H' => Q .non H', rt := Q } (start N [.ref p.1]) H) : FnE P w K mg base (k + 1) f fd y D ex R := by
  obtain ⟨oc, od, kV, doc, pm, an, cdv, ct, osl, rfl, lk, hcd⟩ := F.ex
  refine ⟨fun A outer s H args p Q hr hot hpin hz hd e0 hb hq => ?_⟩
  have KX : K.In s.heap := e0.mod.kin.keeps fun b o e => (e0.bs b o e).1
  have lim : s.heap.NoLimit := e0.mod.nolimit.keeps fun b o e => (e0.bs b o e).1
  have hkind : ∀ z ∈ [y].zip [Value.ref p.1], (defScope st).names.lookup z.1 = some .local ∨ ((defScope st).names.lookup z.1 = some .cell ∧ ((cellsFrom (s.heap.objs.size + 1) (defScope st).names []).lookup z.1).isSome = true) := fun ⟨n, v⟩ hy =>
    (S.par n (List.of_mem_zip hy).1).imp id fun q => ⟨q, PySem.W.cellsFrom_some _ _ _ (.inl q)⟩
  refine codeAny_call_function hr.depth (KX _ _ lk) rfl S.co S.gen rfl (PySem.W.codeRec_of KX hcd) (hb _ _ _ _ (wpAny_newFunctionEnv_cells S.kind hkind fun env he s1 hx => ?_))
  subst he
  refine ⟨lim.keeps hx.toInCall.keep, codeAny_func ?_⟩
  obtain ⟨h1, vs, h2, _⟩ := hot
  obtain ⟨t, ht, h3⟩ := hbody cdv A outer s H p Q (by have := hr.un; omega) hz hd ⟨vs, h2⟩ hq
  have rv : Vals [V.ref p.1] [Value.ref p.1] := .cons rfl .nil
  have I := L2H.inv_startH (CX := CX0) (qual := qual) (f := f) (cd := cdv) (E := E0) S hpin e0 rfl rv hx
  refine wpAny_mono (ht.run [] s1 _ H _ I h3) (fun fl s' hs => ?_) fun e s' hs => hs
  cases fl with
  | ret u =>
    obtain ⟨v, σ', H', J, r, q⟩ := hs
    exact ⟨v, H', J.os, J.bare, J.base, J.hok, r, q⟩
  | next =>
    obtain ⟨σ', H', J, q⟩ := hs
    exact ⟨V.non, H', J.os, J.bare, J.base, J.hok, rfl, q⟩
  | brk =>
    obtain ⟨_, _, _, q⟩ := hs
    exact q.elim
  | cont =>
    obtain ⟨_, _, _, q⟩ := hs
    exact q.elim
def tCallE (a : Addr) (ex : Er) (d : Option Addr) (R : Bool) (t : TA) : TE := fun σ H Q => t σ H fun vs H1 => vs = [.ref a] ∧ XFl ex d H1 ∧ RetV (.bl R) H1 Q
theorem pe_callE {X : Cx} {k : Nat} {f : Addr} {fd : FuncData} {x y : Str} {q pos : Pos} {e : Expr} {t : TA} {D : Addr} {ex : Er} {R : Bool} {p : Addr × Obj} (F : FnE X.prog X.w X.K X.mg X.base k f fd y D ex R) (hp : p ∈ X.pn) (hot : L2H.Hot1 X.A p) (hz : p.2.cls = .ref D) {d : Option Addr} (hdd : p.2.dict = d)
    (hr : L2H.RoomH k X.A) (hg : Gl X x) (hm : X.mg x = some (.ref f)) (hk : PySem.W.keepIn X.K (.ref f) = true) (hb : Binds X.K fd [y] []) (ha : PA X [e] t) (hdb : (x == ("__debug__" : Str)) = false := by decide)
    (he : starEach [e] X.env = (false, eval e X.env) :: starEach [] X.env := by rfl) (hpl : (backTo pos (starEach [] X.env)).any (·.1) = false := by rfl) : PE X (.Call (.Name x q) [e] [] pos) (tCallE p.1 ex d R t) := by
  subst hdd
  refine ⟨fun pins s σ H Q I h => ?_⟩
  refine wpAny_Call_Name_kw (ld_glob I hg hm ?_ hdb)
  refine PySem.W.callWith_K (h₀ := X.base) I.ok.mod.kin hk (thn (ha.run pos pins s σ H _ I h) fun us s1 ⟨vs, H1, I1, r, e1, hd, hq⟩ => ⟨I1.kIn, ?_⟩) he hpl
  subst e1
  obtain ⟨u, rfl, r1⟩ := r.one
  cases (show u = Value.ref p.1 from r1)
  have b := hb s1 [.ref p.1] I1.kIn (by rw [List.append_nil]; rfl)
  rw [List.append_nil] at b
  obtain ⟨p1, p2, p3, p4, p5⟩ := I1.pin p (List.mem_append_left _ hp)
  have hpin : L2H.PinOk X.stack H1 s1 p := ⟨p1, p2, fun hm => (List.mem_cons.mp (I1.stkSub p.1 hm)).elim p3 p4, p5⟩
  refine wpAny_call (codeAny_mono (F.run X.A X.stack s1 H1 ⟨[.ref p.1], []⟩ p Q hr hot hpin hz hd I1.env0 b hq) fun r s' hq => ?_)
  cases r with
  | error e => exact (show False from hq).elim
  | ok fl =>
    cases fl with
    | ret u => exact I1.after hq
    | next => exact False.elim hq
    | brk => exact False.elim hq
    | cont => exact False.elim hq
/-! all of it, class by class -/
structure EcP (K : PySem.W.Frag) (C : Addr) : Prop where
  hg : PySem.W.findIn K (.ref C) "__getattribute__" = some (some (.builtin "BaseException.__getattribute__"))
  hk : PySem.W.findIn K (.ref C) "__getattr__" = some none
  hs : PySem.W.subIn K (.ref C) (.type "BaseException") = some true
  hd : PySem.W.hasDictIn K C = true
  ha : PySem.W.findIn K (.ref C) "__class__" = some (some (.builtin "object.__class__"))
  hm : PySem.W.mroIn K C (.type "object") = some true
  ct : PySem.W.typeIn K (.ref C) = some (.type "type")
  sv : PySem.W.subIn K (.ref C) (.type "ValueError") = some true
theorem all_nil {α : Type} {P : α → Prop} : ∀ x ∈ ([] : List α), P x := fun _ h => (nomatch h)
theorem all_cons {α : Type} {P : α → Prop} {a : α} {l : List α} (h : P a) (t : ∀ x ∈ l, P x) : ∀ x ∈ a :: l, P x := fun x hx => by
  rcases List.mem_cons.mp hx with rfl | hx
  · exact h
  · exact t x hx
theorem ecf_mk {K : PySem.W.Frag} {d : Eds} {ks : List Ek} (h : ∀ k ∈ ks, EcP K (d.at k)) (hp : ∀ k ∈ ks, ∀ c ∈ ks, PySem.W.subIn K (.ref (d.at k)) (.ref (d.at c)) = some (decide (k = c)))
    (hr : ∀ k ∈ ks, PySem.W.subIn K (.ref (d.at k)) (.ref d.RailError) = some true) (rr : EcP K d.RailError)
    (hn : PySem.W.specialIn K (.builtin "object.__class__") "__get__" = some (some (.builtin "getset_descriptor.__get__"))) (ht : PySem.W.takesIn K (.builtin "object.__class__") = some true) (hv : PySem.W.kitMeta "ValueError" = true) : EcF K d ks := by
  have ec : ∀ k ∈ ks, ExcC K (d.at k) := fun k hk => by
    obtain ⟨h1, h2, h3, h4, h5, h6, h7, h8⟩ := h k hk
    exact ⟨h1, h2, h3, h4, h5, hn, ht, h6⟩
  have cl : ∀ {C : Addr}, EcP K C → (PySem.W.clsIn K C).isSome = true := fun q => by
    obtain ⟨cd, hc, _⟩ := PySem.W.any_some q.hd
    rw [hc]; rfl
  have ko : ∀ {a b : Addr} {r : Bool}, EcP K b → PySem.W.subIn K (.ref a) (.ref b) = some r → (a = b → r = true) → PySem.W.kitOne K (.ref a) (.ref b) = some r := fun {a b r} q e1 e2 => by
    unfold PySem.W.kitOne
    by_cases e : a = b
    · subst e
      rw [if_pos (by simp), e2 rfl]
    · rw [if_neg (by simp [e])]
      unfold PySem.W.kitCls
      dsimp only
      rw [if_pos (by rw [cl q, q.ct]; rfl)]
      exact e1
  refine ⟨ec, fun k hk c hc => ko (h c hc) (hp k hk c hc) (fun e => ?_), fun k hk => ?_, fun k hk => ko rr (hr k hk) fun _ => rfl, fun k hk => exm_mk rr.hs (cl rr) rr.ct (hr k hk), fun k hk c hc => exm_mk (h c hc).hs (cl (h c hc)) (h c hc).ct (hp k hk c hc)⟩
  · have e1 := hp k hk c hc
    have e2 := hp c hc c hc
    rw [e] at e1
    rw [e2] at e1
    rw [decide_eq_true (rfl : c = c)] at e1
    exact (Option.some.inj e1).symm
  · unfold PySem.W.kitOne
    rw [if_neg (by simp)]
    unfold PySem.W.kitCls
    dsimp only
    rw [if_pos hv]
    exact (h k hk).sv
theorem gv_ref {K : PySem.W.Frag} {h : Heap} {mg : Str → Option Value} {x : Str} {C : Addr} (X : K.In h) (G : h.Ns mainGlobals mg) (a : PySem.W.nsIn K mainGlobals x = some (some (.ref C))) : Gv mg x (.ref C) := ⟨_, PySem.W.mg_of X G a, rfl⟩
theorem err_at {K : PySem.W.Frag} {h : Heap} {mg : Str → Option Value} {x : Str} {C : Addr} (X : K.In h) (G : h.Ns mainGlobals mg) (a : PySem.W.nsIn K mainGlobals x = some (some (.ref C)))
    (e : PySem.W.excIn K C [.type "ValueError", .type "Exception", .type "BaseException", .type "object"] "ValueError.__new__" = true) (k : PySem.W.keepIn K (.ref C) = true) (b : PySem.W.subIn K (.ref C) (.type "BaseException") = some true) (t : PySem.W.typeIn K (.ref C) = some (.type "type")) : ErrC K mg x C :=
  ⟨PySem.W.mg_of X G a, e, k, b, t⟩
def Er.plain : Er → Bool
  | .NoWire _ => false
  | .NoRow _ => false
  | _ => true
theorem XFl.of {e : Er} {H : Hp} (h : e.plain = true) : XFl e none H := by
  cases e <;> first
    | rfl
    | cases h
theorem RetE.byP {d : Eds} {e : Er} {H : Hp} {E : XK} (hp : e.plain = true) (h : ∀ H', Ex H H' → E (.ref (d.at e.k)) none H') : RetE d e H E := by
  cases e <;> first
    | exact fun H' x => h H' x
    | cases hp
theorem Ek.all (k : Ek) : k ∈ [Ek.NoBits, .NoName, .NoKey, .NoFrame, .NoPost, .NoThing, .NoStrip, .NoRail, .NoWire, .NoRow] := by
  cases k <;> decide
/-! the suite, its exception known -/
theorem pss_exc {X : Cx} {ss : List Stmt} {es : Eds} {ks : List Ek} {cls : Value} {t : Er → TS} (h : ∀ e, e.k ∈ ks → cls = .ref (es.at e.k) → PSs X ss (t e)) :
    PSs X ss (fun D σ H => ∃ e : Er, e.k ∈ ks ∧ cls = .ref (es.at e.k) ∧ t e D σ H) :=
  ⟨fun pins s σ H D I ⟨e, h1, h2, q⟩ => (h e h1 h2).run pins s σ H D I q⟩
theorem hot_suite {X : Cx} {a : Addr} {oe : Obj} {pn : List (Addr × Obj)} {cls : Value} {d : Option Addr} (hz : L2N.Zn cls d oe) (hf : ∃ vs, oe.data = .fields vs) : L2H.Hot1 (X.suite a ((a, oe) :: pn)).A (a, oe) := by
  obtain ⟨vs, hv⟩ := hf
  exact ⟨rfl, vs, hv, hz.2.2 vs hv⟩
theorem roomE {X : Cx} {k : Nat} {v : Option Value} (hr : Room k X.A) : L2H.RoomH k (X.A.mark v) := ⟨hr.dp, hr.un⟩
def Er.num : Er → Int
  | .NoWire i => i
  | .NoRow i => i
  | _ => 0
end Bt
namespace Bt
open PySem L2 PyProof.Rows
def okE (ks : List Ek) (e : Er) : Bool := e.plain && decide (e.k ∈ ks)
theorem okE_iff {ks : List Ek} {e : Er} (h : okE ks e = true) : e.plain = true ∧ e.k ∈ ks := by
  unfold okE at h
  rw [Bool.and_eq_true, decide_eq_true_eq] at h
  exact h
theorem ifN {α : Type} {c : Bool} {a : Option α} {r : α} (h : ifB c a none = some r) : c = true ∧ a = some r := by
  cases c with
  | true => exact ⟨rfl, h⟩
  | false => cases h
theorem o_cE {a : Addr} {ex : Er} {d : Option Addr} {R : Bool} {t : TA} {σ : L2.St} {H : Hp} {Q : VK} (h : t σ H fun vs H1 => vs = [.ref a] ∧ XFl ex d H1 ∧ RetV (.bl R) H1 Q) : tCallE a ex d R t σ H Q := h
end Bt
namespace Bt
open PySem L2 PyProof.Rows
theorem pe_gr {X : Cx} {x : Str} {C : Addr} {pos : Pos} (hg : Gl X x) (h : X.mg x = some (.ref C)) (hd : (x == ("__debug__" : Str)) = false := by decide) : PE X (.Name x pos) (tC (.ref C)) := pe_gv hg ⟨_, h, rfl⟩ hd
end Bt
namespace Bt
open PySem L2 PyProof.Rows
theorem pe_callEs {X : Cx} {a : Addr} {oe : Obj} {pn : List (Addr × Obj)} {cls : Value} {k : Nat} {f : Addr} {fd : FuncData} {x y : Str} {q pos : Pos} {e : Expr} {t : TA} {D : Addr} {ex : Er} {R : Bool} {d : Option Addr} (F : FnE X.prog X.w X.K X.mg X.base k f fd y D ex R) (hz : L2N.Zn cls d oe) (hf : ∃ vs, oe.data = .fields vs) (hc : cls = .ref D)
    (hr : Room k X.A) (hg : Gl X x) (hm : X.mg x = some (.ref f)) (hk : PySem.W.keepIn X.K (.ref f) = true) (hb : Binds X.K fd [y] []) (ha : PA (X.suite a ((a, oe) :: pn)) [e] t) (hdb : (x == ("__debug__" : Str)) = false := by decide)
    (he : starEach [e] X.env = (false, eval e X.env) :: starEach [] X.env := by rfl) (hpl : (backTo pos (starEach [] X.env)).any (·.1) = false := by rfl) : PE (X.suite a ((a, oe) :: pn)) (.Call (.Name x q) [e] [] pos) (tCallE a ex d R t) :=
  pe_callE (X := X.suite a ((a, oe) :: pn)) (p := (a, oe)) F (List.Mem.head _) (hot_suite hz hf) (hz.1.trans hc) hz.2.1 (roomE hr) hg hm hk hb ha hdb he hpl
end Bt
namespace Bt
open PySem L2
theorem o_dn {n b k : L2.St → Hp → Prop} {w : VK} {σ : L2.St} {H : Hp} (h : n σ H) : (Ends.mk n w b k).nx σ H := h
end Bt
namespace Bt
open PySem L2
theorem RetE.up {d : Eds} {e : Er} {H H' : Hp} {E : XK} (k : RetE d e H E) (x : Ex H H') : RetE d e H' E := by
  cases e <;> first
    | exact fun H2 h => k H2 (x.trans h)
    | exact fun H2 a ha h => k H2 a (x.back ha) (x.trans h)
end Bt
namespace Bt
open PySem L2
/-! a refusal with its own dict, caught: the dict is laid in the frame -/
theorem RetE.byX {d : Eds} {e : Er} {H : Hp} {E : XK} (h : ∀ H' dd, Ex H H' → XFl e dd H' → (∀ x, dd = some x → H x = none) → E (.ref (d.at e.k)) dd H') : RetE d e H E := by
  cases e <;> first
    | exact fun H' x => h H' none x rfl (fun _ z => nomatch z)
    | exact fun H' a ha x q => h H' (some a) x ⟨a, rfl, q⟩ (fun y z => by cases z; exact ha)
theorem Own.growX {R H H' : Hp} {L : List Cell} {e : Er} {dd : Option Addr} (O : Own R H L) (x : Ex H H') (hX : XFl e dd H') (hn : ∀ y, dd = some y → H y = none) : ∃ R', Own R' H' L ∧ Ex R R' ∧ XFl e dd R' := by
  obtain ⟨R', O', e1, e2⟩ := O.grow x
  refine ⟨R', O', e1, ?_⟩
  cases e <;> first
    | exact hX
    | (obtain ⟨a, h1, h2⟩ := hX
       exact ⟨a, h1, e2 R (Ex.refl R) _ _ (ovr_mk (.inr (hn a h1)) h2)⟩)
end Bt

set_option Elab.async false
set_option linter.all false
set_option maxRecDepth 100000
set_option maxHeartbeats 4000000
/-! Refusals that are made of a whole number: their own __init__, raised where nothing is handled. -/
namespace Bt
open PySem L2 PyProof.Rows
/-- R.__init__(self, ..), R an own class that takes it from ValueError -/
theorem pe_rinit {X : Cx} {x : Str} {R : Addr} {e : Expr} {es : List Expr} {ta : TA} {p1 p2 pos : Pos} {pl : Sem Bool} (hg : Gl X x) (hm : X.mg x = some (.ref R))
    (ga : PySem.W.specialIn X.K (.ref R) "__getattribute__" = some (some (.builtin "type.__getattribute__"))) (rd : PySem.W.readsIn X.K R (.type "type") = true)
    (vV : PySem.W.findCls X.K (.ref R) (.type "type") "__init__" = some (.val (.builtin "ValueError.__init__"))) (ha : PA X (e :: es) ta)
    (hc : eval (.Call (.Attribute (.Name x p1) "__init__" p2) (e :: es) [] pos) X.env = (do
      let ov ← eval (.Name x p1) X.env
      standAt p2.atName
      let (f, first) ← holding [ov] (getMethod ov "__init__" pl)
      callWith pos f first (backTo pos (starEach (e :: es) X.env)) (backToKw pos (keywordEach [] X.env))) := by rfl)
    (hdb : (x == ("__debug__" : Str)) = false := by decide)
    (he : starEach (e :: es) X.env = (false, eval e X.env) :: starEach es X.env := by rfl) (hpl : (backTo pos (starEach es X.env)).any (·.1) = false := by rfl) :
    PE X (.Call (.Attribute (.Name x p1) "__init__" p2) (e :: es) [] pos) (tVeI X.K ta) := by
  refine ⟨fun pins s σ H Q I h => ?_⟩
  refine PySem.W.methodCall_KW (ld_glob I hg hm ?_ hdb) hc
  refine PySem.W.method_cls I.kIn ga (PySem.W.cls_value I.kIn rd vV (by decide +kernel) ?_)
  refine PyProof.Rows.callWith_method1 (thn (ha.run pos pins _ σ H _ (I.tok _) h) fun us s1 ⟨vs, H1, I1, r1, a, C, ws, ev, hl, T, ea, q⟩ => ?_) he hpl
  subst ev
  cases r1 with
  | @cons _ u0 _ ur ra rw' =>
    obtain rfl : u0 = Value.ref a := ra
    have hlen : ur.length ≤ sizeLine := by
      rw [← Paired.length rw', sizeLine_eq]
      omega
    exact oinit_ok T I1 ea hlen fun s' J => ⟨.non, H1, J, rfl, q⟩
/-- C(e, ..) where nothing is handled, its context None -/
theorem pmk_initN {X : Cx} {CX : CXT} {x : Str} {e : Expr} {es : List Expr} {ta : TA} {p pos : Pos} {C fI : Addr} {k : Nat} {fd : FuncData} {ps : List Str} {sp : Sp} (T : OexC X.K C) (iC : PySem.W.findIn X.K (.ref C) "__init__" = some (some (.ref fI))) (tI : PySem.W.typeIn X.K (.ref fI) = some (.type "function"))
    (F1 : FnOk X.prog X.w X.K X.mg X.base CX k fI fd ps sp) (hr : Room (k + 1) X.A) (hb : Binds X.K fd ps []) (hx : Passes CX X (fun _ _ _ => False)) (hg : Gl X x) (hm : X.mg x = some (.ref C)) (ha : PA X (e :: es) ta)
    (hdb : (x == ("__debug__" : Str)) = false := by decide) (he : starEach (e :: es) X.env = (false, eval e X.env) :: starEach es X.env := by rfl) (hpl : (backTo pos (starEach es X.env)).any (·.1) = false := by rfl) :
    L2N.PMk X (.Call (.Name x p) (e :: es) [] pos) (tMkO C sp [] ta) := by
  intro pins s σ H Q I h
  obtain ⟨nm, q, N, bs, bm, sn, sub, ab, col, dd, k0, k1, k2, k3, k5, hC, hbm⟩ := T.cls
  refine wpAny_Call_Name_kw (ld_glob I hg hm ?_ hdb)
  refine PySem.W.callWith_K (h₀ := X.base) I.ok.mod.kin T.kC (thn (ha.run pos pins s σ H _ I h) fun us s1 ⟨vs, H1, I1, r1, hz, q1⟩ => ⟨I1.kIn, ?_⟩) he hpl
  obtain ⟨hp, g, dr, tk, os⟩ := s1
  have hsz : hp.objs.size ≤ hp.objs.size + 1 := Nat.le_succ _
  have hq := q1 (hp.objs.size + 1) (I1.hok.fresh hsz)
  rw [List.append_nil] at hq
  have kk : ∀ b o, hp.get? b = some o → ((hp.push (PySem.W.kdv_tup us)).push (PySem.HandSPX.excO C hp.objs.size)).get? b = some o := fun b o z => Heap.get?_push_of_some _ (Heap.get?_push_of_some _ z)
  have I2 : Inv X pins σ (upd H1 (hp.objs.size + 1) (exo (hp.objs.size + 1) C none)) ⟨(hp.push (PySem.W.kdv_tup us)).push (PySem.HandSPX.excO C hp.objs.size), g, dr, tk, os⟩ :=
    I1.laid (t' := tk) (a := hp.objs.size + 1) (o := exo (hp.objs.size + 1) C none) (h' := (hp.push (PySem.W.kdv_tup us)).push (PySem.HandSPX.excO C hp.objs.size)) kk hsz (exo_ok (by heap_get))
  have r2 : Vals (V.ref (hp.objs.size + 1) :: vs) (Value.ref (hp.objs.size + 1) :: us) := .cons rfl r1
  have hl : (Value.ref (hp.objs.size + 1) :: us ++ []).length = ps.length := by
    have z := r2.length
    rw [F1.len _ _ _ _ hq] at z
    rw [List.append_nil]
    exact z.symm
  have hus : us.length ≤ sizeLine := by
    rw [← Paired.length r1, sizeLine_eq]
    omega
  have b2 := hb _ (Value.ref (hp.objs.size + 1) :: us) I2.kIn hl
  rw [List.append_nil] at b2
  refine wpAny_call (PySem.HandSPX.call_own PySem.F.excBase_ValueError (fun Y => PySem.HandSPX.refsVE_contains Y bm hbm) (I1.kIn _ _ hC) (PySem.W.looks_findIn I1.kIn iC) (fun self => PySem.W.bind_fn I1.kIn self tI) hus
    (codeAny_mono (F1.run _ X.stack _ _ ⟨Value.ref (hp.objs.size + 1) :: us, []⟩ (Value.ref (hp.objs.size + 1) :: us) _ _ (fun _ _ _ => False) (hr.make C us []) (I2.env0.make C us []) b2 r2 hq) fun r s' hq' => ?_))
  cases r with
  | error er => exact hx pins σ _ _ er s' I2 hq'
  | ok fl =>
    cases fl with
    | ret u =>
      obtain ⟨v, H2, os2, bare2, un2, hok2, rv, ev, d, fs, ea, ed, hd1, q2⟩ := hq'
      subst ev
      obtain ⟨h2, g2, d2, t2, os'⟩ := s'
      obtain ⟨t0, G, J, kG, ge, hoe, na⟩ := mk_end0 (d2 := d2) (t2 := t2) I1 hsz kk un2 hok2 os2 bare2 ea ed hd1
      exact ⟨rv, _, _, _, ⟨G, g2, d2, t2, os'⟩, _, .ref C, some d, rfl, J, kG, ge, hoe, ⟨rfl, rfl, fun vs z => by cases z; rfl⟩, rfl, rfl, na, rfl, bare2, raises_own T.exC T.tyC, q2⟩
    | next => exact False.elim hq'
    | brk => exact False.elim hq'
    | cont => exact False.elim hq'
/-- what such an __init__ promises: the field laid -/
def spI (C : Addr) (fld : Str) : Sp := fun vs H Q _ => ∃ (a : Addr) (i : Int), vs = [.ref a, .int i] ∧ H a = some (exo a C none) ∧ ∀ dx, H dx = none → dx ≠ a → Q .non (upd (upd H dx (exd dx [(fld, .int i)])) a (exo a C (some dx)))
def rMkI (C : Addr) (fld : Str) (vs : List V) (H1 : Hp) (Q : XK) : Prop := vs.length ≤ 1000 ∧ ∀ a, H1 a = none → spI C fld (.ref a :: (vs ++ [])) (upd H1 a (exo a C none))
  (fun v H2 => v = .non ∧ ∃ (d : Addr) (fs : List (Str × V)), H2 a = some (exo a C (some d)) ∧ H2 d = some (exd d fs) ∧ H1 d = none ∧ Q (.ref C) (some d) (upd (del H2 a) d (.xd fs))) (fun _ _ _ => False)
theorem o_mkI {C : Addr} {fld : Str} {t : TA} {σ : L2.St} {H : Hp} {Q : XK} (h : t σ H fun vs H1 => rMkI C fld vs H1 Q) : tMkO C (spI C fld) [] t σ H Q := h
theorem k_mkI {C : Addr} {fld : Str} {H1 : Hp} {Q : XK} {i : Int} (k : ∀ H' dx, H1 dx = none → Ex H1 H' → H' dx = some (.xd [(fld, .int i)]) → Q (.ref C) (some dx) H') : rMkI C fld [.int i] H1 Q := by
  refine ⟨by show 1 ≤ 1000; decide, fun a ha => ⟨a, i, rfl, upd_same, fun dx h1 h2 => ?_⟩⟩
  rw [upd_ne h2] at h1
  refine ⟨rfl, dx, _, upd_same, ?_, h1, k _ dx h1 (fun b o hb => ?_) upd_same⟩
  · rw [upd_ne h2, upd_same]
  · have hba : b ≠ a := fun z => by rw [z, ha] at hb; cases hb
    have hbd : b ≠ dx := fun z => by rw [z, h1] at hb; cases hb
    rw [upd_ne hbd, del_ne hba, upd_ne hba, upd_ne hbd, upd_ne hba]
    exact hb
/-- the facts of such a class -/
structure InF (K : PySem.W.Frag) (mg : Str → Option Value) (C R f : Addr) (fld : Str) : Prop where
  o : OexC K C
  i : PySem.W.findIn K (.ref C) "__init__" = some (some (.ref f))
  t : PySem.W.typeIn K (.ref f) = some (.type "function")
  n : PySem.W.findIn K (.ref C) fld = some none
  ga : PySem.W.specialIn K (.ref R) "__getattribute__" = some (some (.builtin "type.__getattribute__"))
  rd : PySem.W.readsIn K R (.type "type") = true
  v : PySem.W.findCls K (.ref R) (.type "type") "__init__" = some (.val (.builtin "ValueError.__init__"))
  mr : mg "RailError" = some (.ref R)
end Bt
namespace Bt
open PySem
/-- the statements of a class -/
def clsB (s : Stmt) : List Stmt := match s with
  | .ClassDef _ _ _ b _ _ _ _ _ _ _ => b
  | _ => []
end Bt

set_option linter.all false
set_option maxRecDepth 100000
set_option maxHeartbeats 1000000
/-! Plain facts about the mirror's words. -/
namespace Bt
open PySem L2
section
variable {α β S R : Type}
theorem bnd_some {a : α} {f : α → Option β} : bnd (some a) f = f a := rfl
theorem bnd_of {a : Option α} {x : α} {f : α → Option β} (h : a = some x) : bnd a f = f x := by rw [h]; rfl
theorem ltv_eq {a : α} {f : α → Option β} : ltv a f = f a := rfl
theorem ifB_t {a b : α} : ifB true a b = a := rfl
theorem ifB_f {a b : α} : ifB false a b = b := rfl
theorem ifB_dec {c : Prop} [Decidable c] {a b : α} : ifB (decide c) a b = if c then a else b := by
  by_cases h : c
  · rw [if_pos h, decide_eq_true h]; rfl
  · rw [if_neg h, decide_eq_false h]; rfl
theorem ifB_ite {c : Bool} {a b : α} : ifB c a b = if c = true then a else b := by cases c <;> rfl
theorem fin_nx {s : S} {rest : S → Option R} : fin (some (.nx s)) rest = rest s := rfl
theorem fin_rt {r : R} {rest : S → Option R} : fin (some (.rt r)) rest = some r := rfl
theorem loopM_ok {f : α → S → Option S} (I : List α → S → Prop) (hs : ∀ x r s, I (x :: r) s → ∃ s', f x s = some s' ∧ I r s') : ∀ (xs : List α) (s : S), I xs s → ∃ out, loopM f xs s = some out ∧ I [] out
  | [], s, h => ⟨s, rfl, h⟩
  | x :: r, s, h => by
    obtain ⟨s', h1, h2⟩ := hs x r s h
    obtain ⟨out, h3, h4⟩ := loopM_ok I hs r s' h2
    exact ⟨out, by show bnd (f x s) (loopM f r) = some out; rw [h1]; exact h3, h4⟩
theorem loopF_ok {f : α → S → Option (Fl S R)} (I : List α → S → Prop) (hs : ∀ x r s, I (x :: r) s → ∃ s', f x s = some (.nx s') ∧ I r s') : ∀ (xs : List α) (s : S), I xs s → ∃ out, loopF f xs s = some (.nx out) ∧ I [] out
  | [], s, h => ⟨s, rfl, h⟩
  | x :: r, s, h => by
    obtain ⟨s', h1, h2⟩ := hs x r s h
    obtain ⟨out, h3, h4⟩ := loopF_ok I hs r s' h2
    exact ⟨out, by show bnd (f x s) (contF (loopF f r)) = some (.nx out); rw [h1]; exact h3, h4⟩
/-- a search that finds nothing -/
theorem loopF_unit {f : α → Unit → Option (Fl Unit R)} {xs : List α} (h : ∀ x ∈ xs, f x () = some (.nx ())) : loopF f xs () = some (.nx ()) := by
  induction xs with
  | nil => rfl
  | cons x r ih =>
    show bnd (f x ()) (contF (loopF f r)) = some (.nx ())
    rw [h x (List.Mem.head _)]
    exact ih fun y hy => h y (List.Mem.tail _ hy)
theorem compM_ok {f : α → Option β} {g : α → β} : ∀ (xs : List α) (acc : List β), (∀ x ∈ xs, f x = some (g x)) → acc.length + xs.length ≤ 16777216 → compM f xs acc = some (acc ++ xs.map g)
  | [], acc, _, _ => by simp [compM]
  | x :: r, acc, h, hz => by
    have hl : acc.length < 16777216 := by simp only [List.length_cons] at hz; omega
    have ih := compM_ok r (acc ++ [g x]) (fun y hy => h y (List.Mem.tail _ hy)) (by simp only [List.length_append, List.length_cons, List.length_nil] at hz ⊢; omega)
    show bnd (f x) (fun y => if acc.length < 16777216 then compM f r (acc ++ [y]) else none) = _
    rw [h x (List.Mem.head _), bnd_some, if_pos hl, ih]
    simp
/-- the elements' property alone -/
theorem compM_all {f : α → Option β} {P : β → Prop} : ∀ (xs : List α) (acc : List β), (∀ x ∈ xs, ∃ y, f x = some y ∧ P y) → acc.length + xs.length ≤ 16777216 → (∀ y ∈ acc, P y) → ∃ out, compM f xs acc = some out ∧ out.length = acc.length + xs.length ∧ ∀ y ∈ out, P y
  | [], acc, _, _, ha => ⟨acc, rfl, by simp, ha⟩
  | x :: r, acc, h, hz, ha => by
    obtain ⟨y, h1, h2⟩ := h x (List.Mem.head _)
    have hl : acc.length < 16777216 := by simp only [List.length_cons] at hz; omega
    obtain ⟨out, h3, h4, h5⟩ := compM_all r (acc ++ [y]) (fun y hy => h y (List.Mem.tail _ hy)) (by simp only [List.length_append, List.length_cons, List.length_nil] at hz ⊢; omega) (fun z hz => by
      rcases List.mem_append.mp hz with q | q
      · exact ha z q
      · rw [List.mem_singleton.mp q]; exact h2)
    refine ⟨out, ?_, by rw [h4]; simp only [List.length_append, List.length_cons, List.length_nil]; omega, h5⟩
    show bnd (f x) (fun y => if acc.length < 16777216 then compM f r (acc ++ [y]) else none) = _
    rw [h1, bnd_some, if_pos hl, h3]
theorem appG_ok {xs : List α} {y : α} (h : xs.length < 16777216) : appG xs y = some (xs ++ [y]) := grd_of h
theorem catG_ok {xs ys : List α} (h : xs.length + ys.length ≤ 16777216) : catG xs ys = some (xs ++ ys) := grd_of h
theorem ixN_nat' {n : Nat} {i : Int} (h0 : 0 ≤ i) (h1 : i < n) : ixN n i = some i.toNat := by
  unfold ixN
  rw [if_pos h0, if_pos h1]
theorem atI_ok {xs : List α} {i : Int} (h0 : 0 ≤ i) (h1 : i < xs.length) : atI xs i = xs[i.toNat]? := by
  unfold atI
  rw [ixN_nat' h0 h1]
  rfl
theorem atI_mem {xs : List α} {i : Int} (h0 : 0 ≤ i) (h1 : i < xs.length) : ∃ x, atI xs i = some x ∧ x ∈ xs := by
  have hn : i.toNat < xs.length := by omega
  exact ⟨xs[i.toNat], by rw [atI_ok h0 h1]; exact List.getElem?_eq_getElem hn, List.getElem_mem hn⟩
theorem setG_ok {xs : List α} {i : Int} {y : α} (h0 : 0 ≤ i) (h1 : i < xs.length) : setG xs i y = some (xs.set i.toNat y) := by
  unfold setG
  rw [ixN_nat' h0 h1]
theorem repG_ok {xs : List α} {k : Int} (h0 : 0 ≤ k) (h1 : k ≤ 1000000) (h2 : xs.length * k.toNat ≤ 16777216) : repG xs k = some (List.replicate k.toNat xs).flatten := grd_of ⟨by omega, by omega, h2⟩
end
theorem modG_ok {i j : Int} (h : 0 < j) : modG i j = some (i % j) := grd_of h
theorem log2_small {n k : Nat} (h : n < 2 ^ k) : n.log2 ≤ k := by
  by_cases h0 : n = 0
  · subst h0; rw [show Nat.log2 0 = 0 from by decide]; exact Nat.zero_le _
  · exact Nat.le_of_lt ((Nat.log2_lt h0).mpr h)
theorem mulG_ok {i j : Int} {a b : Nat} (h1 : i.natAbs < 2 ^ a) (h2 : j.natAbs < 2 ^ b) (h : a + b < 1000000) : mulG i j = some (i * j) := by
  refine grd_of ?_
  have := log2_small h1
  have := log2_small h2
  omega
theorem fdivG_ok {i j : Int} {b : Nat} (h : 0 < j) (h2 : j.natAbs < 2 ^ b) (hb : b < 9000) : fdivG i j = some (i / j) := by
  refine grd_of ⟨h, ?_⟩
  have := log2_small h2
  omega
theorem shrG_ok {i j : Int} (h : 0 ≤ j) : shrG i j = some (i / 2 ^ j.toNat) := grd_of h
theorem rng1_ok {j : Int} (h : j ≤ 1000000) (h0 : -1000000 ≤ j) : rng1 j = some (rangeI 0 j) := grd_of ⟨by omega, by omega⟩
theorem rng2_ok {i j : Int} (h : j ≤ 1000000) (h0 : -1000000 ≤ j) (h1 : -1000000 ≤ i) (h2 : i ≤ 1000000) : rng2 i j = some (rangeI i j) := grd_of ⟨by omega, by omega, by omega, by omega⟩
theorem mem_rangeI {i j x : Int} (h : x ∈ rangeI i j) : i ≤ x ∧ x < j := by
  unfold rangeI at h
  obtain ⟨n, hn, rfl⟩ := List.mem_map.mp h
  have := List.mem_range.mp hn
  omega
theorem rangeI_length (i j : Int) : (rangeI i j).length = (j - i).toNat := by simp [rangeI]
theorem rangeI_cons {i j : Int} (h : i < j) : rangeI i j = i :: rangeI (i + 1) j := by
  unfold rangeI
  have e : (j - i).toNat = (j - (i + 1)).toNat + 1 := by omega
  rw [e, List.range_succ_eq_map]
  simp only [List.map_cons, List.map_map]
  congr 1
  · simp
  · refine List.map_congr_left fun n _ => ?_
    simp only [Function.comp]
    omega
theorem rangeI_nil {i j : Int} (h : j ≤ i) : rangeI i j = [] := by
  unfold rangeI
  rw [show (j - i).toNat = 0 from by omega]
  rfl
/-- a loop over a range: the invariant by the number ahead -/
theorem loopM_rng {S : Type} {f : Int → S → Option S} (I : Int → S → Prop) {hi : Int} (hs : ∀ i s, i < hi → I i s → ∃ s', f i s = some s' ∧ I (i + 1) s') : ∀ (n : Nat) (lo : Int) (s : S), (hi - lo).toNat = n → lo ≤ hi → I lo s → ∃ out, loopM f (rangeI lo hi) s = some out ∧ I hi out
  | 0, lo, s, e, h, h0 => by
    have : lo = hi := by omega
    subst this
    rw [rangeI_nil (Int.le_refl _)]
    exact ⟨s, rfl, h0⟩
  | n + 1, lo, s, e, h, h0 => by
    rw [rangeI_cons (by omega)]
    obtain ⟨s', h1, h2⟩ := hs lo s (by omega) h0
    obtain ⟨out, h3, h4⟩ := loopM_rng I hs n (lo + 1) s' (by omega) (by omega) h2
    exact ⟨out, by show bnd (f lo s) _ = _; rw [h1]; exact h3, h4⟩
theorem loopF_rng {S R : Type} {f : Int → S → Option (Fl S R)} (I : Int → S → Prop) {hi : Int} (hs : ∀ i s, i < hi → I i s → ∃ s', f i s = some (.nx s') ∧ I (i + 1) s') : ∀ (n : Nat) (lo : Int) (s : S), (hi - lo).toNat = n → lo ≤ hi → I lo s → ∃ out, loopF f (rangeI lo hi) s = some (.nx out) ∧ I hi out
  | 0, lo, s, e, h, h0 => by
    have : lo = hi := by omega
    subst this
    rw [rangeI_nil (Int.le_refl _)]
    exact ⟨s, rfl, h0⟩
  | n + 1, lo, s, e, h, h0 => by
    rw [rangeI_cons (by omega)]
    obtain ⟨s', h1, h2⟩ := hs lo s (by omega) h0
    obtain ⟨out, h3, h4⟩ := loopF_rng I hs n (lo + 1) s' (by omega) (by omega) h2
    exact ⟨out, by show bnd (f lo s) _ = _; rw [h1]; exact h3, h4⟩
end Bt
namespace Bt
open PySem L2
theorem bits_le {i : Int} {n : Nat} (h : i.natAbs < 2 ^ n) : Builtin.Int.intBits i ≤ n := by
  unfold Builtin.Int.intBits
  split
  · exact Nat.zero_le _
  · rename_i h0
    have h1 : i.natAbs ≠ 0 := by simpa using h0
    have := (Nat.log2_lt h1).mpr h
    omega
theorem shlG_ok {i j : Int} {n : Nat} (h : i.natAbs < 2 ^ n) (h0 : 0 ≤ j) (h1 : (n : Int) + j ≤ 100000000) : shlG i j = some (i * 2 ^ j.toNat) := by
  refine grd_of ⟨h0, ?_⟩
  have := bits_le h
  omega
end Bt
namespace Bt
open PySem L2
theorem whileM_go {S : Type} {c : S → Option Bool} {f : S → Option S} {n : Nat} {s s' : S} (h1 : c s = some true) (h2 : f s = some s') : whileM c f (n + 1) s = whileM c f n s' := by
  show bnd (c s) (fun b => ifB b (bnd (f s) (whileM c f n)) (some s)) = _
  rw [h1, bnd_some, ifB_t, h2, bnd_some]
theorem whileM_stop {S : Type} {c : S → Option Bool} {f : S → Option S} {n : Nat} {s : S} (h1 : c s = some false) : whileM c f (n + 1) s = some s := by
  show bnd (c s) (fun b => ifB b (bnd (f s) (whileM c f n)) (some s)) = _
  rw [h1, bnd_some, ifB_f]
theorem loopM_go {α S : Type} {f : α → S → Option S} {x : α} {r : List α} {s s' : S} (h : f x s = some s') : loopM f (x :: r) s = loopM f r s' := by
  show bnd (f x s) (loopM f r) = _
  rw [h, bnd_some]
theorem loopF_go {α S R : Type} {f : α → S → Option (Fl S R)} {x : α} {r : List α} {s s' : S} (h : f x s = some (.nx s')) : loopF f (x :: r) s = loopF f r s' := by
  show bnd (f x s) (contF (loopF f r)) = _
  rw [h, bnd_some]
  rfl
end Bt
namespace Bt
open PySem L2
theorem compT_ok {α β : Type} {c : α → Option Bool} {f : α → Option β} {p : α → Bool} {g : α → β} : ∀ (xs : List α) (acc : List β), (∀ x ∈ xs, c x = some (p x)) → (∀ x ∈ xs, f x = some (g x)) → acc.length + xs.length ≤ 16777216 → compT c f xs acc = some (acc ++ (xs.filter p).map g)
  | [], acc, _, _, _ => by simp [compT]
  | x :: r, acc, h, k, hz => by
    simp only [List.length_cons] at hz
    show bnd (c x) (fun b => ifB b (bnd (f x) fun y => if acc.length < 16777216 then compT c f r (acc ++ [y]) else none) (compT c f r acc)) = _
    rw [h x (List.Mem.head _), bnd_some]
    cases e : p x with
    | true =>
      rw [ifB_t, k x (List.Mem.head _), bnd_some, if_pos (by omega), compT_ok r (acc ++ [g x]) (fun y hy => h y (List.Mem.tail _ hy)) (fun y hy => k y (List.Mem.tail _ hy)) (by simp; omega)]
      simp [e]
    | false =>
      rw [ifB_f, compT_ok r acc (fun y hy => h y (List.Mem.tail _ hy)) (fun y hy => k y (List.Mem.tail _ hy)) (by omega)]
      simp [e]
end Bt
namespace Bt
theorem bndO_ok {α β : Type} {y : α} {f : α → Option β} : bndO (some (.ok y)) f = f y := rfl
theorem bndR_ok {α β : Type} {y : α} {f : α → Option (Rs β)} : bndR (some (.ok y)) f = f y := rfl
theorem bndR_er {α β : Type} {e : Er} {f : α → Option (Rs β)} : bndR (some (.er e)) f = some (.er e) := rfl
theorem tryR_ok {α β : Type} {y : α} {f : α → β} {g : Er → β} : tryR (.ok y) f g = f y := rfl
theorem tryR_er {α β : Type} {e : Er} {f : α → β} {g : Er → β} : tryR (.er e) f g = g e := rfl
end Bt

set_option Elab.async false
set_option linter.all false
set_option maxRecDepth 100000
set_option maxHeartbeats 4000000
/-! Objects: what a def is handed to change, and gives back. -/
namespace Bt
open PySem L2
section
variable {R R' H H' H0 R0 Hb F : Hp} {L L' A B C : List Cell} {Bs Bs' Cs : List (List Cell)} {a p q : Addr} {o o' : HO} {Q : VK} {v : V} {D : Hp → V → List Cell → Prop} {α : Type}
/-- some of the blocks, by their places -/
theorem flat_mem {i : Nat} {b : List Cell} (h : Bs[i]? = some b) {c : Cell} (hc : c ∈ b) : c ∈ Bs.flatten := List.mem_flatten.mpr ⟨b, List.mem_of_getElem? h, hc⟩
theorem flat_nd : ∀ {Bs : List (List Cell)}, (Bs.flatten.map (·.1)).Nodup → ∀ {i j : Nat} {b b' : List Cell}, Bs[i]? = some b → Bs[j]? = some b' → i ≠ j → ∀ c ∈ b, ∀ d ∈ b', c.1 ≠ d.1
  | [], _, i, j, b, b', h, _, _ => by simp at h
  | x :: r, nd, i, j, b, b', h, h', n => by
    rw [List.flatten_cons, List.map_append] at nd
    obtain ⟨_, n2, n3⟩ := List.nodup_append.mp nd
    intro c hc d hd e
    cases i with
    | zero =>
      cases j with
      | zero => exact n rfl
      | succ j =>
        cases Option.some.inj h
        exact n3 _ (List.mem_map_of_mem (f := (·.1)) hc) _ (List.mem_map_of_mem (f := (·.1)) (flat_mem (by simpa using h') hd)) e
    | succ i =>
      cases j with
      | zero =>
        cases Option.some.inj h'
        exact n3 _ (List.mem_map_of_mem (f := (·.1)) hd) _ (List.mem_map_of_mem (f := (·.1)) (flat_mem (by simpa using h) hc)) e.symm
      | succ j => exact flat_nd n2 (by simpa using h) (by simpa using h') (fun z => n (by rw [z])) c hc d hd e
theorem flat_nd1 : ∀ {Bs : List (List Cell)}, (Bs.flatten.map (·.1)).Nodup → ∀ {i : Nat} {b : List Cell}, Bs[i]? = some b → (b.map (·.1)).Nodup
  | [], _, i, b, h => by simp at h
  | x :: r, nd, i, b, h => by
    rw [List.flatten_cons, List.map_append] at nd
    obtain ⟨n1, n2, _⟩ := List.nodup_append.mp nd
    cases i with
    | zero => cases Option.some.inj h; exact n1
    | succ i => exact flat_nd1 n2 (by simpa using h)
theorem Own.selB (O : Own R H Bs.flatten) (is : List Nat) (hd : is.Nodup) (e : is.map (fun i => Bs[i]?) = Bs'.map some) : Own R H Bs'.flatten := by
  have hm : ∀ c ∈ Bs'.flatten, c ∈ Bs.flatten := fun c hc => by
    obtain ⟨b, hb, hc⟩ := List.mem_flatten.mp hc
    have h1 : some b ∈ is.map (fun i => Bs[i]?) := by rw [e]; exact List.mem_map_of_mem hb
    obtain ⟨i, _, h2⟩ := List.mem_map.mp h1
    exact flat_mem h2 hc
  refine ⟨O.ex, fun c h => O.at_ c (hm c h), fun c h => O.fr c (hm c h), ?_⟩
  clear hm
  induction is generalizing Bs' with
  | nil =>
    cases Bs' with
    | nil => exact List.Pairwise.nil
    | cons c r => simp at e
  | cons i is ih =>
    cases Bs' with
    | nil => simp at e
    | cons b r =>
      simp only [List.map_cons, List.cons.injEq] at e
      obtain ⟨e1, e2⟩ := e
      obtain ⟨n1, n2⟩ := List.nodup_cons.mp hd
      rw [List.flatten_cons, List.map_append]
      refine List.nodup_append.mpr ⟨flat_nd1 O.nd e1, ih n2 e2, fun x hx y hy exy => ?_⟩
      obtain ⟨c, hc, rfl⟩ := List.mem_map.mp hx
      obtain ⟨d, hd', rfl⟩ := List.mem_map.mp hy
      obtain ⟨b', hb', hd'⟩ := List.mem_flatten.mp hd'
      have h1 : some b' ∈ is.map (fun i => Bs[i]?) := by rw [e2]; exact List.mem_map_of_mem hb'
      obtain ⟨j, hj, h2⟩ := List.mem_map.mp h1
      exact flat_nd O.nd e1 h2 (fun z => n1 (by rw [z]; exact hj)) c hc d hd' exy
theorem Own.split (O : Own R H (Bs ++ Cs).flatten) : Own R H (Bs.flatten ++ Cs.flatten) := by
  rw [List.flatten_append] at O
  exact O
/-- blocks to the front, apart -/
theorem Own.cutB (O : Own R H Bs.flatten) (is : List Nat) (hd : is.Nodup) (e : is.map (fun i => Bs[i]?) = (Bs' ++ Cs).map some) : Own R H (Bs'.flatten ++ Cs.flatten) := (O.selB is hd e).split
theorem Own.asc (O : Own R H ((A ++ B) ++ C)) : Own R H (A ++ (B ++ C)) := by
  rw [List.append_assoc] at O
  exact O
/-- H without the cells -/
def hsub (H : Hp) (L : List Cell) : Hp := fun a => if a ∈ L.map (·.1) then none else H a
theorem hsub_nil : hsub H [] = H := rfl
theorem hsub_in {c : Cell} (h : c ∈ L) : hsub H L c.1 = none := by
  unfold hsub
  exact if_pos (List.mem_map_of_mem (f := (·.1)) h)
theorem hsub_ex : Ex (hsub H L) H := fun a u e => by
  unfold hsub at e
  split at e
  · cases e
  · exact e
theorem Own.subR (O : Own R H L) : Ex R (hsub H L) := fun a u e => by
  unfold hsub
  rw [if_neg (fun m => by
    obtain ⟨c, hc, e1⟩ := List.mem_map.mp m
    have := O.fr c hc
    rw [e1, e] at this
    cases this)]
  exact O.ex _ _ e
theorem Own.startX (O : Own R H L) : Own (hsub H L) H L := ⟨hsub_ex, O.at_, fun c h => hsub_in h, O.nd⟩
theorem Own.shrink (O : Own R H L) (e : Ex R' R) : Own R' H L := ⟨e.trans O.ex, O.at_, fun c h => e.back (O.fr c h), O.nd⟩
theorem Own.left (O : Own R H (A ++ B)) : Own R H A := O.sub (List.sublist_append_left A B)
theorem Own.right (O : Own R H (A ++ B)) : Own R H B := O.sub (List.sublist_append_right A B)
/-- what a def that changes things hands back: in what R0 knows or what is new; the cells L are its own to give back -/
def RetX (R0 Hb : Hp) (D : Hp → V → List Cell → Prop) (Q : VK) : Prop := ∀ v H' R' L', Ex Hb R' → Own R' H' L' → D (ovr R0 Hb R') v L' → Q v H'
abbrev DT := Hp → V → List Cell → Prop
def MonoD (D : DT) : Prop := ∀ F F' v L, Ex F F' → D F v L → D F' v L
/-- back from the call: the other cells are still there -/
theorem Own.back (O : Own R H (B ++ C)) (e : Ex (hsub H B) R') (O' : Own R' H' L') : ∃ R'', Own R'' H' (L' ++ C) ∧ Ex R R'' ∧ ∀ F, Ex F R → Ex (ovr F (hsub H B) R') R'' := by
  have nd := O.nd
  rw [List.map_append] at nd
  obtain ⟨ndB, ndC, dis⟩ := List.nodup_append.mp nd
  have hC : ∀ c ∈ C, R' c.1 = some c.2 := fun c hc => e _ _ (by
    unfold hsub
    rw [if_neg (fun m => dis _ m _ (List.mem_map_of_mem (f := (·.1)) hc) rfl)]
    exact O.at_ c (List.mem_append.mpr (.inr hc)))
  have hR : ∀ b u, R b = some u → R' b = some u := fun b u h => e _ _ (O.left.subR b u h)
  refine ⟨hsub R' C, ⟨hsub_ex.trans O'.ex, fun c hc => ?_, fun c hc => ?_, ?_⟩, fun b u h => ?_, fun F hF b u h => ?_⟩
  · rcases List.mem_append.mp hc with hc | hc
    · exact O'.at_ c hc
    · exact O'.ex _ _ (hC c hc)
  · rcases List.mem_append.mp hc with hc | hc
    · exact hsub_ex.back (O'.fr c hc)
    · exact hsub_in hc
  · rw [List.map_append]
    refine List.nodup_append.mpr ⟨O'.nd, ndC, fun x hx y hy exy => ?_⟩
    subst exy
    obtain ⟨c, hc, e1⟩ := List.mem_map.mp hx
    obtain ⟨d, hd, e2⟩ := List.mem_map.mp hy
    have h1 := O'.fr c hc
    have h2 := hC d hd
    rw [e2, ← e1, h1] at h2
    cases h2
  · unfold hsub
    rw [if_neg (fun m => by
      obtain ⟨c, hc, e1⟩ := List.mem_map.mp m
      have := O.fr c (List.mem_append.mpr (.inr hc))
      rw [e1, h] at this
      cases this)]
    exact hR b u h
  · obtain ⟨hq, h1⟩ := ovr_some h
    unfold hsub
    rw [if_neg (fun m => ?_)]
    · exact h1
    · obtain ⟨c, hc, e1⟩ := List.mem_map.mp m
      rcases hq with hq | hq
      · cases hf : F b with
        | none => exact hq hf
        | some w =>
          have := O.fr c (List.mem_append.mpr (.inr hc))
          rw [e1, hF _ _ hf] at this
          cases this
      · have : hsub H B c.1 = some c.2 := by
          unfold hsub
          rw [if_neg (fun m => dis _ m _ (List.mem_map_of_mem (f := (·.1)) hc) rfl)]
          exact O.at_ c (List.mem_append.mpr (.inr hc))
        rw [e1, hq] at this
        cases this
theorem Own.retX (O : Own R H (B ++ C)) (m : MonoD D) (k : ∀ v H' R' L', Own R' H' (L' ++ C) → Ex R R' → D R' v L' → Q v H') : RetX R (hsub H B) D Q := fun v H' R' L' e O' d => by
  obtain ⟨R'', O'', e1, e2⟩ := O.back e O'
  exact k v H' R'' L' O'' e1 (m _ _ _ _ (e2 R (Ex.refl R)) d)
theorem Own.retXO (O : Own R H (B ++ C)) (m : MonoD D) (e0 : Ex H0 R) (k : ∀ v H' R' L', Own R' H' (L' ++ C) → Ex R R' → D (ovr R0 H0 R') v L' → Q v H') : RetX (ovr R0 H0 R) (hsub H B) D Q := fun v H' R' L' e O' d => by
  obtain ⟨R'', O'', e1, e2⟩ := O.back e O'
  refine k v H' R'' L' O'' e1 (m _ _ _ _ (fun b u h => ?_) d)
  have h1 := e2 (ovr R0 H0 R) ovr_ex _ _ h
  obtain ⟨hq, _⟩ := ovr_some h
  refine ovr_mk ?_ h1
  rcases hq with hq | hq
  · cases hz : ovr R0 H0 R b with
    | none => exact absurd hz hq
    | some w => exact (ovr_some hz).1
  · refine .inr ?_
    cases hz : H0 b with
    | none => rfl
    | some w =>
      have h3 := O.left.subR _ _ (e0 _ _ hz)
      rw [hq] at h3
      cases h3
theorem Own.inC {B C : List Cell} {c : Cell} (O : Own R H (B ++ C)) (h : c ∈ C) : hsub H B c.1 = some c.2 := by
  have nd := O.nd
  rw [List.map_append] at nd
  unfold hsub
  rw [if_neg (fun m => (List.nodup_append.mp nd).2.2 _ m _ (List.mem_map_of_mem (f := (·.1)) h) rfl)]
  exact O.at_ c (List.mem_append_right _ h)
/-! what is handed back -/
abbrev Ob (α : Type) := Hp → Addr → List Cell → α → Prop
def MonoO {α : Type} (B : Ob α) : Prop := ∀ F F' a L x, Ex F F' → B F a L x → B F' a L x
def dV (w : V) : DT := fun _ v L => L = [] ∧ v = w
def dLs (xs : List V) : DT := fun _ v L => ∃ p, v = .ref p ∧ L = [(p, .lst xs)]
def dTp (xs : List V) : DT := fun _ v L => ∃ p, v = .ref p ∧ L = [(p, .tup xs)]
def dP {α : Type} (P : Rp α) (x : α) : DT := fun F v L => L = [] ∧ P F v x
def dOb {α : Type} (B : Ob α) (x : α) : DT := fun F v L => ∃ a, v = .ref a ∧ B F a L x
def dX {α : Type} (B : Ob α) (a : Addr) (x : α) (D : DT) : DT := fun F v L => ∃ L1 L2, L = L1 ++ L2 ∧ B F a L1 x ∧ D F v L2
def dI {α : Type} (B : Ob α) (a : Addr) (x : α) : DT := fun F v L => v = .non ∧ B F a L x
theorem mdI {α : Type} {B : Ob α} {a : Addr} {x : α} (m : MonoO B) : MonoD (dI B a x) := fun _ _ _ _ e h => ⟨h.1, m _ _ _ _ _ e h.2⟩
theorem mdV {w : V} : MonoD (dV w) := fun _ _ _ _ _ h => h
theorem mdLs {xs : List V} : MonoD (dLs xs) := fun _ _ _ _ _ h => h
theorem mdTp {xs : List V} : MonoD (dTp xs) := fun _ _ _ _ _ h => h
theorem mdP {α : Type} {P : Rp α} {x : α} (m : Mono P) : MonoD (dP P x) := fun _ _ _ _ e h => ⟨h.1, m _ _ _ _ e h.2⟩
theorem mdOb {α : Type} {B : Ob α} {x : α} (m : MonoO B) : MonoD (dOb B x) := fun _ _ _ _ e ⟨a, h1, h2⟩ => ⟨a, h1, m _ _ _ _ _ e h2⟩
theorem mdX {α : Type} {B : Ob α} {a : Addr} {x : α} {D : DT} (m : MonoO B) (n : MonoD D) : MonoD (dX B a x D) := fun _ _ _ _ e ⟨L1, L2, h1, h2, h3⟩ => ⟨L1, L2, h1, m _ _ _ _ _ e h2, n _ _ _ _ e h3⟩
/-! a list of such -/
inductive All3 {α β γ : Type} (P : α → β → γ → Prop) : List α → List β → List γ → Prop
  | nil : All3 P [] [] []
  | cons {a : α} {b : β} {c : γ} {as : List α} {bs : List β} {cs : List γ} : P a b c → All3 P as bs cs → All3 P (a :: as) (b :: bs) (c :: cs)
theorem All3.mp {α β γ : Type} {P P' : α → β → γ → Prop} {as : List α} {bs : List β} {cs : List γ} (f : ∀ a b c, P a b c → P' a b c) (h : All3 P as bs cs) : All3 P' as bs cs := by
  induction h with
  | nil => exact .nil
  | cons h _ ih => exact .cons (f _ _ _ h) ih
theorem All3.len {α β γ : Type} {P : α → β → γ → Prop} {as : List α} {bs : List β} {cs : List γ} (h : All3 P as bs cs) : as.length = cs.length := by
  induction h with
  | nil => rfl
  | cons _ _ ih => simp [ih]
/-- the j-th of them, apart -/
theorem All3.at {α γ : Type} {P : α → List Cell → γ → Prop} {as : List α} {bs : List (List Cell)} {cs : List γ} (h : All3 P as bs cs) : ∀ {j : Nat} {c : γ}, cs[j]? = some c → ∃ a b bs1 bs2, as[j]? = some a ∧ P a b c ∧ bs = bs1 ++ b :: bs2 ∧ ∀ (P' : α → List Cell → γ → Prop) (b' : List Cell) (c' : γ), (∀ a b c, P a b c → P' a b c) → P' a b' c' → All3 P' as (bs1 ++ b' :: bs2) (cs.set j c') := by
  induction h with
  | nil => intro j c e; simp at e
  | @cons a b c as bs cs h t ih =>
    intro j d e
    cases j with
    | zero =>
      cases Option.some.inj e
      exact ⟨a, b, [], bs, rfl, h, rfl, fun P' b' c' m k => .cons k (t.mp m)⟩
    | succ j =>
      obtain ⟨a1, b1, bs1, bs2, h1, h2, h3, h4⟩ := ih (by simpa using e)
      exact ⟨a1, b1, b :: bs1, bs2, by simpa using h1, h2, by rw [h3]; rfl, fun P' b' c' m k => .cons (m _ _ _ h) (h4 P' b' c' m k)⟩
def oLs {α : Type} (B : Ob α) : Ob (List α) := fun F a L xs => ∃ as Ls, L.Perm ((a, HO.lst (as.map V.ref)) :: Ls.flatten) ∧ All3 (B F) as Ls xs
theorem moLs {α : Type} {B : Ob α} (m : MonoO B) : MonoO (oLs B) := fun _ _ _ _ _ e ⟨as, Ls, h1, h2⟩ => ⟨as, Ls, h1, h2.mp fun _ _ _ h => m _ _ _ _ _ e h⟩
theorem Own.lsAt {α : Type} {B : Ob α} {F : Hp} {a : Addr} {A L C : List Cell} {xs : List α} {i : Int} {x : α} (m : MonoO B) (O : Own R H (A ++ (L ++ C))) (h : oLs B F a L xs) (e : atI xs i = some x) :
    ∃ (vs : List V) (b : Addr) (L1 L2 : List Cell), H a = some (.lst vs) ∧ atI vs i = some (.ref b) ∧ vs.length = xs.length ∧ B F b L1 x ∧ Own R H (A ++ (L1 ++ (L2 ++ C))) ∧ (∀ F' L1' x', Ex F F' → B F' b L1' x' → ∀ ys, setG xs i x' = some ys → oLs B F' a (L1' ++ L2) ys) ∧ ∀ F' L1', Ex F F' → B F' b L1' x → oLs B F' a (L1' ++ L2) xs := by
  obtain ⟨as, Ls, hp, h3⟩ := h
  unfold atI at e
  cases ej : ixN xs.length i with
  | none => rw [ej] at e; cases e
  | some j =>
    rw [ej] at e
    obtain ⟨b, L1, bs1, bs2, h4, h5, h6, h7⟩ := h3.at e
    subst h6
    have hp2 : L.Perm (L1 ++ ((a, HO.lst (as.map V.ref)) :: (bs1.flatten ++ bs2.flatten))) := by
      refine hp.trans ?_
      rw [List.flatten_append, List.flatten_cons]
      refine List.Perm.trans ?_ (List.perm_middle.symm)
      refine List.Perm.cons _ ?_
      rw [← List.append_assoc, ← List.append_assoc]
      exact List.Perm.append_right _ List.perm_append_comm
    have cl : ∀ F' L1' x', Ex F F' → B F' b L1' x' → oLs B F' a (L1' ++ ((a, HO.lst (as.map V.ref)) :: (bs1.flatten ++ bs2.flatten))) (xs.set j x') := fun F' L1' x' ex hb => by
      refine ⟨as, bs1 ++ L1' :: bs2, ?_, h7 _ L1' x' (fun _ _ _ h => m _ _ _ _ _ ex h) hb⟩
      rw [List.flatten_append, List.flatten_cons]
      refine List.perm_middle.trans ?_
      refine List.Perm.cons _ ?_
      rw [← List.append_assoc, ← List.append_assoc]
      exact List.Perm.append_right _ List.perm_append_comm
    refine ⟨as.map V.ref, b, L1, (a, HO.lst (as.map V.ref)) :: (bs1.flatten ++ bs2.flatten), O.mem (List.mem_append_right _ (List.mem_append_left _ (hp.mem_iff.mpr (List.Mem.head _)))), ?_, by rw [List.length_map, h3.len], h5, O.perm ?_, fun F' L1' x' ex hb ys hy => ?_, fun F' L1' ex hb => ?_⟩
    · unfold atI
      rw [List.length_map, h3.len, ej]
      show (as.map V.ref)[j]? = _
      rw [List.getElem?_map, h4]
      rfl
    · refine List.Perm.append_left _ ?_
      rw [← List.append_assoc]
      exact List.Perm.append_right _ hp2
    · unfold setG at hy
      rw [ej] at hy
      cases hy
      exact cl F' L1' x' ex hb
    · have := cl F' L1' x ex hb
      have e2 : xs.set j x = xs := by
        obtain ⟨h8, h9⟩ := List.getElem?_eq_some_iff.mp (show xs[j]? = some x from e)
        rw [← h9]
        exact List.set_getElem_self h8
      rw [e2] at this
      exact this
end
/-! tests with two sides, over any state -/
section
variable {J : Hp → Prop} {Q : VK} {σ : St} {H : Hp} {v x y : V}
theorem x_andJ {c d e : Bool} {tt uu : TT} {QB : Bool → Hp → Prop} (J : Hp → Prop) (h1 : ∀ Q1 : Bool → Hp → Prop, (∀ H', J H' → Q1 c H') → tt σ H Q1) (h2 : c = true → e = d ∧ ∀ H', J H' → ∀ Q2 : Bool → Hp → Prop, (∀ H'', J H'' → Q2 e H'') → uu σ H' Q2)
    (h3 : c = false → false = d) (k : ∀ H', J H' → QB d H') : tAnd tt uu σ H QB := by
  refine h1 _ fun H' O' => ?_
  cases c with
  | true =>
    obtain ⟨e1, g2⟩ := h2 rfl
    subst e1
    exact g2 H' O' QB k
  | false =>
    rw [← h3 rfl] at k
    exact k H' O'
theorem x_orJ {c d e : Bool} {tt uu : TT} {QB : Bool → Hp → Prop} (J : Hp → Prop) (h1 : ∀ Q1 : Bool → Hp → Prop, (∀ H', J H' → Q1 c H') → tt σ H Q1) (h2 : c = false → e = d ∧ ∀ H', J H' → ∀ Q2 : Bool → Hp → Prop, (∀ H'', J H'' → Q2 e H'') → uu σ H' Q2)
    (h3 : c = true → true = d) (k : ∀ H', J H' → QB d H') : tOr tt uu σ H QB := by
  refine h1 _ fun H' O' => ?_
  cases c with
  | false =>
    obtain ⟨e1, g2⟩ := h2 rfl
    subst e1
    exact g2 H' O' QB k
  | true =>
    rw [← h3 rfl] at k
    exact k H' O'
theorem x_andVJ {c d e : Bool} {tt uu : TE} (J : Hp → Prop) (h1 : ∀ Q1 : VK, (∀ H', J H' → Q1 (.bl c) H') → tt σ H Q1) (h2 : c = true → e = d ∧ ∀ H', J H' → ∀ Q2 : VK, (∀ H'', J H'' → Q2 (.bl e) H'') → uu σ H' Q2)
    (h3 : c = false → false = d) (k : ∀ H', J H' → Q (.bl d) H') : tAndV tt uu σ H Q := by
  refine h1 _ fun H' O' => ⟨_, rfl, ?_⟩
  cases c with
  | true =>
    obtain ⟨e1, g2⟩ := h2 rfl
    subst e1
    exact g2 H' O' Q k
  | false =>
    rw [← h3 rfl] at k
    exact k H' O'
theorem x_orVJ {c d e : Bool} {tt uu : TE} (J : Hp → Prop) (h1 : ∀ Q1 : VK, (∀ H', J H' → Q1 (.bl c) H') → tt σ H Q1) (h2 : c = false → e = d ∧ ∀ H', J H' → ∀ Q2 : VK, (∀ H'', J H'' → Q2 (.bl e) H'') → uu σ H' Q2)
    (h3 : c = true → true = d) (k : ∀ H', J H' → Q (.bl d) H') : tOrV tt uu σ H Q := by
  refine h1 _ fun H' O' => ⟨_, rfl, ?_⟩
  cases c with
  | false =>
    obtain ⟨e1, g2⟩ := h2 rfl
    subst e1
    exact g2 H' O' Q k
  | true =>
    rw [← h3 rfl] at k
    exact k H' O'
theorem x_ifJ {c : Bool} {tt : TT} {ta tb : TE} (J : Hp → Prop) (h1 : ∀ Q1 : Bool → Hp → Prop, (∀ H', J H' → Q1 c H') → tt σ H Q1) (h2 : c = true → x = v ∧ ∀ H', J H' → ∀ Q2 : VK, (∀ H'', J H'' → Q2 x H'') → ta σ H' Q2)
    (h3 : c = false → y = v ∧ ∀ H', J H' → ∀ Q2 : VK, (∀ H'', J H'' → Q2 y H'') → tb σ H' Q2) (k : ∀ H', J H' → Q v H') : tIf tt ta tb σ H Q := by
  refine h1 _ fun H' O' => ?_
  cases c with
  | true =>
    obtain ⟨e1, g2⟩ := h2 rfl
    subst e1
    exact g2 H' O' Q k
  | false =>
    obtain ⟨e1, g3⟩ := h3 rfl
    subst e1
    exact g3 H' O' Q k
end
/-! fields -/
section
variable {K : PySem.W.Frag} {σ : St} {H R : Hp} {L : List Cell} {Q : VK} {a dx C : Addr} {fs : List (Str × V)} {v : V} {f : Str} {te tv : TE}
theorem o_fld (h : te σ H fun x H1 => ∃ a C dx fs v, x = .ref a ∧ H1 a = some (.ins C dx fs) ∧ Cls K C ∧ NoAttr K C f ∧ fs.lookup f = some v ∧ Q v H1) : tFld K te f σ H Q := h
theorem o_sfld {n b k : St → Hp → Prop} {w : VK} (h : tv σ H fun y H1 => te σ H1 fun x H2 => ∃ a C dx fs, x = .ref a ∧ H2 a = some (.ins C dx fs) ∧ Cls K C ∧ NoAttr K C f ∧ fs.length < 1000 ∧ n σ (upd H2 a (.ins C dx (putF f y fs)))) : sFld K te tv f (Ends.mk n w b k) σ H := h
theorem o_meth {m : Str} {sp : Sp} {dvs : List V} {E : XK} {t : TA} (h : te σ H fun x H1 => ∃ a dx fs, x = .ref a ∧ H1 a = some (.ins C dx fs) ∧ fs.lookup m = none ∧ t σ H1 fun vs H2 => sp (x :: (vs ++ dvs)) H2 Q E) : tMeth C m sp dvs E te t σ H Q := h
theorem o_make {sp : Sp} {dvs : List V} {E : XK} {t : TA} (h : t σ H fun vs H1 => ∀ x dx, H1 x = none → H1 dx = none → dx ≠ x → sp (.ref x :: (vs ++ dvs)) (upd (upd H1 dx (.own x)) x (.ins C dx [])) (fun v H2 => v = .non ∧ Q (.ref x) H2) E) : tMake C sp dvs E t σ H Q := h
theorem Own.mk2 (O : Own R H L) {x : Addr} (h1 : H x = none) (h2 : H dx = none) (h3 : dx ≠ x) : Own R (upd (upd H dx (.own x)) x (.ins C dx fs)) ((x, .ins C dx fs) :: (dx, .own x) :: L) :=
  Own.new (O.new h2) (by rw [upd_ne (Ne.symm h3)]; exact h1)
theorem k_make {sp : Sp} {vs : List V} {E : XK} {Q2 : Addr → Hp → Prop} (O : Own R H L) (k : ∀ x dx H', Own R H' ((x, .ins C dx []) :: (dx, .own x) :: L) → sp (.ref x :: vs) H' (fun v H2 => v = .non ∧ Q2 x H2) E) : ∀ x dx, H x = none → H dx = none → dx ≠ x → sp (.ref x :: vs) (upd (upd H dx (.own x)) x (.ins C dx [])) (fun v H2 => v = .non ∧ Q2 x H2) E := fun x dx h1 h2 h3 => k x dx _ (O.mk2 h1 h2 h3)
theorem putF_nil : putF f v [] = [(f, v)] := rfl
theorem putF_hit {x : V} {r : List (Str × V)} : putF f v ((f, x) :: r) = (f, v) :: r := by simp [putF]
theorem putF_skip {g : Str} {x : V} {r r' : List (Str × V)} (h : (g == f) = false) (e : putF f v r = r') : putF f v ((g, x) :: r) = (g, x) :: r' := by
  have : g ≠ f := by simpa using h
  simp [putF, this, e]
theorem lk_hit {r : List (Str × V)} : List.lookup f ((f, v) :: r) = some v := by simp [List.lookup]
theorem lk_skip {g : Str} {x : V} {r : List (Str × V)} {o : Option V} (h : (f == g) = false) (e : List.lookup f r = o) : List.lookup f ((g, x) :: r) = o := by simp [List.lookup, h, e]
theorem lk_nil : List.lookup f ([] : List (Str × V)) = none := rfl
theorem k_sfld {v' : V} {fs' : List (Str × V)} {QH : Hp → Prop} {g : HO → List Cell} (hl : H a = some (.ins C dx fs)) (c : Cls K C) (n : NoAttr K C f) (hz : fs.length < 1000) (ev : v = v') (e : putF f v' fs = fs') (hp : ∀ o', Own R (upd H a o') (g o')) (k : ∀ H', Own R H' (g (.ins C dx fs')) → QH H') :
    ∃ a' C' dx' fs0, V.ref a = .ref a' ∧ H a' = some (.ins C' dx' fs0) ∧ Cls K C' ∧ NoAttr K C' f ∧ fs0.length < 1000 ∧ QH (upd H a' (.ins C' dx' (putF f v fs0))) := by
  subst ev
  refine ⟨a, C, dx, fs, rfl, hl, c, n, hz, ?_⟩
  rw [e]
  exact k _ (hp _)
theorem Own.cv {L' : List Cell} (O : Own R H L) (e : L = L') : Own R H L' := e ▸ O
theorem Own.putB {A B : List Cell} {o o' : HO} (O : Own R H L) (e : L = A ++ (a, o) :: B) : Own R (upd H a o') (A ++ (a, o') :: B) := by
  subst e
  exact Own.put O
theorem cls_at {K : PySem.W.Frag} {C : Addr} (h1 : PySem.W.plainGet K C Str.empty = true) (h2 : PySem.W.hasDictIn K C = true) (h3 : PySem.W.plainOver K C = true) (h4 : PySem.W.findIn K (.ref C) "__setattr__" = some (some (.builtin "object.__setattr__"))) : Cls K C := ⟨h1, h2, h3, h4⟩
end
end Bt

set_option Elab.async false
set_option linter.all false
set_option maxRecDepth 100000
set_option maxHeartbeats 4000000
namespace Bt
open PySem L2
def top (i : Nat) : Stmt := PySem.Challenge.pw_bitrail_k30_counts.main.body.getD i (.Pass ⟨0, 0, 0, 0⟩)
abbrev s__law_draw : Stmt := top 5
abbrev s_Count_init : Stmt := (clsB (top 3)).getD 0 (.Pass ⟨0, 0, 0, 0⟩)
abbrev s_Count_more : Stmt := (clsB (top 3)).getD 1 (.Pass ⟨0, 0, 0, 0⟩)
abbrev s_Count_fault : Stmt := (clsB (top 3)).getD 2 (.Pass ⟨0, 0, 0, 0⟩)
abbrev s_Count_blame : Stmt := (clsB (top 3)).getD 3 (.Pass ⟨0, 0, 0, 0⟩)
abbrev s_Count_good : Stmt := (clsB (top 3)).getD 4 (.Pass ⟨0, 0, 0, 0⟩)
abbrev s__law_deed : Stmt := top 7
abbrev s__law_behind : Stmt := top 8
abbrev s_Count_is_off : Stmt := (clsB (top 3)).getD 7 (.Pass ⟨0, 0, 0, 0⟩)
abbrev s_Count_is_quiet : Stmt := (clsB (top 3)).getD 6 (.Pass ⟨0, 0, 0, 0⟩)
abbrev s_Count_number : Stmt := (clsB (top 3)).getD 5 (.Pass ⟨0, 0, 0, 0⟩)
abbrev s__law_looked : Stmt := top 6
abbrev s_law : Stmt := top 9
structure Ad where
  f__law_draw : Addr
  fd__law_draw : FuncData
  f_Count_init : Addr
  fd_Count_init : FuncData
  f_Count_more : Addr
  fd_Count_more : FuncData
  f_Count_fault : Addr
  fd_Count_fault : FuncData
  f_Count_blame : Addr
  fd_Count_blame : FuncData
  f_Count_good : Addr
  fd_Count_good : FuncData
  f__law_deed : Addr
  fd__law_deed : FuncData
  f__law_behind : Addr
  fd__law_behind : FuncData
  f_Count_is_off : Addr
  fd_Count_is_off : FuncData
  f_Count_is_quiet : Addr
  fd_Count_is_quiet : FuncData
  f_Count_number : Addr
  fd_Count_number : FuncData
  f__law_looked : Addr
  fd__law_looked : FuncData
  f_law : Addr
  fd_law : FuncData
  c_Count : Addr
  es : Eds
structure S_Count where
  tally : Int
deriving DecidableEq
def o_Count (ad : Ad) : Ob S_Count := fun F a L s => ∃ (dx : Addr), L = ((a, .ins ad.c_Count dx [("tally", .int s.tally)]) :: (dx, .own a) :: [])
theorem mo_Count (ad : Ad) : MonoO (o_Count ad) := by
  rintro F F' a L s e ⟨x0, h⟩
  exact ⟨x0, h⟩
structure Txt (K : PySem.W.Frag) (mg : Str → Option Value) (ad : Ad) : Prop where
  F__law_draw : Fun K "_law_draw" "_law_draw" s__law_draw ad.f__law_draw ad.fd__law_draw
  g__law_draw : mg "_law_draw" = some (.ref ad.f__law_draw)
  b__law_draw : Binds K ad.fd__law_draw ["script", "k", "many"] []
  F_Count_init : Fun K "__init__" "Count.__init__" s_Count_init ad.f_Count_init ad.fd_Count_init
  b_Count_init : Binds K ad.fd_Count_init ["self"] []
  F_Count_more : Fun K "more" "Count.more" s_Count_more ad.f_Count_more ad.fd_Count_more
  b_Count_more : Binds K ad.fd_Count_more ["self", "many"] []
  F_Count_fault : Fun K "fault" "Count.fault" s_Count_fault ad.f_Count_fault ad.fd_Count_fault
  b_Count_fault : Binds K ad.fd_Count_fault ["self", "spoke"] []
  F_Count_blame : Fun K "blame" "Count.blame" s_Count_blame ad.f_Count_blame ad.fd_Count_blame
  b_Count_blame : Binds K ad.fd_Count_blame ["self"] []
  F_Count_good : Fun K "good" "Count.good" s_Count_good ad.f_Count_good ad.fd_Count_good
  b_Count_good : Binds K ad.fd_Count_good ["self"] []
  F__law_deed : Fun K "_law_deed" "_law_deed" s__law_deed ad.f__law_deed ad.fd__law_deed
  g__law_deed : mg "_law_deed" = some (.ref ad.f__law_deed)
  b__law_deed : Binds K ad.fd__law_deed ["count", "way"] []
  F__law_behind : Fun K "_law_behind" "_law_behind" s__law_behind ad.f__law_behind ad.fd__law_behind
  g__law_behind : mg "_law_behind" = some (.ref ad.f__law_behind)
  b__law_behind : Binds K ad.fd__law_behind ["due", "way"] []
  F_Count_is_off : Fun K "is_off" "Count.is_off" s_Count_is_off ad.f_Count_is_off ad.fd_Count_is_off
  b_Count_is_off : Binds K ad.fd_Count_is_off ["self"] []
  F_Count_is_quiet : Fun K "is_quiet" "Count.is_quiet" s_Count_is_quiet ad.f_Count_is_quiet ad.fd_Count_is_quiet
  b_Count_is_quiet : Binds K ad.fd_Count_is_quiet ["self"] []
  F_Count_number : Fun K "number" "Count.number" s_Count_number ad.f_Count_number ad.fd_Count_number
  b_Count_number : Binds K ad.fd_Count_number ["self"] []
  F__law_looked : Fun K "_law_looked" "_law_looked" s__law_looked ad.f__law_looked ad.fd__law_looked
  g__law_looked : mg "_law_looked" = some (.ref ad.f__law_looked)
  b__law_looked : Binds K ad.fd__law_looked ["count", "due", "turned"] []
  F_law : Fun K "law" "law" s_law ad.f_law ad.fd_law
  g_law : mg "law" = some (.ref ad.f_law)
  b_law : Binds K ad.fd_law ["script"] []
  z_bool : mg "bool" = none
  z_int : mg "int" = none
  z_isinstance : mg "isinstance" = none
  z_len : mg "len" = none
  z_max : mg "max" = none
  z_range : mg "range" = none
  g_OFF : Gv mg "OFF" (.int 18)
  g_QUIET : Gv mg "QUIET" (.int 12)
  C_Count : Cls K ad.c_Count
  N_Count_tally : NoAttr K ad.c_Count "tally"
  M_Count_blame : Meth K ad.c_Count "blame" ad.f_Count_blame
  M_Count_fault : Meth K ad.c_Count "fault" ad.f_Count_fault
  M_Count_good : Meth K ad.c_Count "good" ad.f_Count_good
  M_Count_is_off : Meth K ad.c_Count "is_off" ad.f_Count_is_off
  M_Count_is_quiet : Meth K ad.c_Count "is_quiet" ad.f_Count_is_quiet
  M_Count_more : Meth K ad.c_Count "more" ad.f_Count_more
  M_Count_number : Meth K ad.c_Count "number" ad.f_Count_number
  K_Count : Mk K ad.c_Count ad.f_Count_init
  k_Count : mg "Count" = some (.ref ad.c_Count)
section
variable {P : Program} {w : World} {K : PySem.W.Frag} {mg : Str → Option Value} {base : Heap}
def m__law_draw (script_1 : List Int) (k_3 : Int) (many_4 : Int) : Option (Int) :=
  bnd (ifB (decide ((0 : Int) < (List.length script_1 : Int))) (bnd (modG k_3 (List.length script_1 : Int)) fun t_5 =>
  bnd (atI script_1 t_5) fun e_7 => some e_7) ( some (0 : Int))) fun z_10 =>
  bnd (mulG ((31 : Int) * k_3) k_3) fun t_12 =>
  ltv ((((z_10 % (1000003 : Int)) + t_12) + (1 : Int))) fun seed_14 =>
  bnd (modG ((((seed_14 * (48271 : Int)) % (999983 : Int)) * (7919 : Int)) % (524287 : Int)) many_4) fun t_16 =>
  some t_16
def sp__law_draw (K : PySem.W.Frag) : Sp := fun vs H Q _ => ∃ (script_1 : List Int) (a_2 : Addr) (k_3 : Int) (many_4 : Int) (r : Int), vs = [.ref a_2, .int k_3, .int many_4] ∧ SqL K H a_2 (List.map V.int script_1) ∧ m__law_draw script_1 k_3 many_4 = some r ∧ RetV (.int r) H Q
abbrev N__law_draw : List Str := ["script", "k", "many", "cell", "seed"]
theorem sc__law_draw : FnScope N__law_draw ["script", "k", "many"] (defScope s__law_draw) := ⟨rfl, rfl, rfl, by decide +kernel, rfl, by decide +kernel, by decide +kernel⟩
theorem ok__law_draw {ad : Ad} (T : Txt K mg ad) : FnOk P w K mg base CX0 1 ad.f__law_draw ad.fd__law_draw ["script", "k", "many"] (sp__law_draw K) := by
  refine T.F__law_draw.ok sc__law_draw (fun vs H Q E h => ?_) (fun cdv A outer s H vs Q E hr h => ?_)
  · obtain ⟨_, _, _, _, _, rfl, _⟩ := h
    rfl
  · obtain ⟨script_1, a_2, k_3, many_4, r, rfl, hp_a_2, hm, k⟩ := h
    unfold m__law_draw at hm
    obtain ⟨H0, hH0⟩ : ∃ H0 : Hp, H0 = H := ⟨H, rfl⟩
    have O : Own H0 H [] := by rw [hH0]; exact Own.start H
    rw [← hH0] at k hp_a_2
    clear hH0
    refine ⟨_, (pss_cons (ps_set (i := 3) sc__law_draw.nd rfl (Or.inl rfl) (pe_ifExp (pt_cmpR op_gt (pe_callB (r := rLenQ K) call_lenQ (by rfl) T.z_len PySem.boot_len (pa_cons (pv 0) pa_nil)) pe_int (nomark _)) (pe_ix (r := rIxL K) ix_list (pv 0) (pe_op op_mod (pv 1) (pe_callB (r := rLenQ K) call_lenQ (by rfl) T.z_len PySem.boot_len (pa_cons (pv 0) pa_nil))) (fun _ _ => rfl)) pe_int)) (pss_cons (ps_set (i := 4) sc__law_draw.nd rfl (Or.inl rfl) (pe_op op_add (pe_op op_add (pe_op op_mod (pv 3) pe_int) (pe_op op_mulW (pe_op op_mul pe_int (pv 1)) (pv 1))) pe_int)) (pss_one (ps_ret (pe_op op_mod (pe_op op_mod (pe_op op_mul (pe_op op_mod (pe_op op_mul (pv 4) pe_int) pe_int) pe_int) pe_int) (pv 2)))))), ?_⟩
    -- 36
    refine o_seq ?_
    refine o_asg ?_
    obtain ⟨z_10, h11, hm⟩ := bndE hm
    refine x_if (c := decide ((0 : Int) < (List.length script_1 : Int))) (x := .int z_10) (y := .int z_10) (v := .int z_10) O (fun Q1 k1 => ?_) (fun h9 => ⟨rfl, fun H O Q2 k2 => ?_⟩) (fun h9 => ⟨rfl, fun H O Q2 k2 => ?_⟩) (fun H O => ?_)
    · refine ⟨_, rfl, ?_⟩
      refine x_nil ?_
      refine n_len (O.ex.l hp_a_2) ?_
      refine ⟨_, _, rfl, rfl, _, rfl, ?_⟩
      exact k1 _ O
    · replace hm := ifT h11 h9
      obtain ⟨t_5, h6, hm⟩ := bndE hm
      obtain ⟨e_7, h8, hm⟩ := bndE hm
      obtain rfl := Option.some.inj hm
      refine ⟨_, rfl, _, rfl, _, rfl, ?_⟩
      refine x_nil ?_
      refine n_len (O.ex.l hp_a_2) ?_
      refine k_mod h6 ?_
      refine k_ixL (f := V.int) (O.ex.l hp_a_2) h8 ?_
      exact k2 _ O
    · replace hm := ifF h11 h9
      obtain rfl := Option.some.inj hm
      refine o_c ?_
      exact k2 _ O
    -- 37
    refine o_seq ?_
    refine o_asg ?_
    obtain ⟨t_12, h13, hm⟩ := bndE hm
    refine ⟨_, rfl, _, _, rfl, rfl, (by show (0 : Int) < 1000003; decide), _, rfl, _, _, rfl, rfl, .inl ⟨by decide, by decide⟩, _, rfl, ?_⟩
    refine k_mul h13 ?_
    refine ⟨_, _, rfl, rfl, _, _, rfl, rfl, ?_⟩
    obtain ⟨seed_14, h15, hm⟩ := ltvE hm
    refine a_set (congrArg V.int h15) ?_
    -- 38
    refine o_ret ?_
    obtain ⟨t_16, h17, hm⟩ := bndE hm
    refine ⟨_, rfl, _, _, rfl, rfl, .inr ⟨by decide, by decide⟩, _, _, rfl, rfl, (by show (0 : Int) < 999983; decide), _, _, rfl, rfl, .inr ⟨by decide, by decide⟩, _, _, rfl, rfl, (by show (0 : Int) < 524287; decide), _, rfl, ?_⟩
    refine k_mod h17 ?_
    obtain rfl := Option.some.inj hm
    exact RetV.go k O
def m_Count_init : Option (S_Count) :=
  some (S_Count.mk (0 : Int))
def sp_Count_init (K : PySem.W.Frag) (ad : Ad) : Sp := fun vs H Q _ => ∃ (a_2 : Addr) (dx_3 : Addr) (R0 : Hp) (r : S_Count), vs = [.ref a_2] ∧ Own R0 H ((a_2, .ins ad.c_Count dx_3 []) :: (dx_3, .own a_2) :: []) ∧ m_Count_init  = some r ∧ RetX R0 (hsub H ((a_2, .ins ad.c_Count dx_3 []) :: (dx_3, .own a_2) :: [])) (dI (o_Count ad) a_2 r) Q
abbrev N_Count_init : List Str := ["self"]
theorem sc_Count_init : FnScope N_Count_init ["self"] (defScope s_Count_init) := ⟨rfl, rfl, rfl, by decide +kernel, rfl, by decide +kernel, by decide +kernel⟩
theorem ok_Count_init {ad : Ad} (T : Txt K mg ad) : FnOk P w K mg base CX0 1 ad.f_Count_init ad.fd_Count_init ["self"] (sp_Count_init K ad) := by
  refine T.F_Count_init.ok sc_Count_init (fun vs H Q E h => ?_) (fun cdv A outer s H vs Q E hr h => ?_)
  · obtain ⟨_, _, _, _, rfl, _⟩ := h
    rfl
  · obtain ⟨a_2, dx_3, R0, r, rfl, OO, hm, k⟩ := h
    unfold m_Count_init at hm
    obtain ⟨Hb, hHb⟩ : ∃ Hb : Hp, Hb = hsub H ((a_2, .ins ad.c_Count dx_3 []) :: (dx_3, .own a_2) :: []) := ⟨_, rfl⟩
    obtain ⟨H0, hH0⟩ : ∃ H0 : Hp, H0 = Hb := ⟨Hb, rfl⟩
    have O : Own H0 H ((a_2, .ins ad.c_Count dx_3 []) :: (dx_3, .own a_2) :: []) := by rw [hH0, hHb]; exact OO.startX
    have eR : Ex R0 Hb := by rw [hHb]; exact OO.subR
    rw [← hHb] at k
    have eB : Ex Hb H0 := by rw [hH0]; exact Ex.refl _
    have eS : Ex R0 (ovr R0 Hb H0) := by rw [hH0]; exact ovr_start eR
    clear hH0 hHb
    refine ⟨_, (pss_one (ps_fld (pv 0) pe_int rfl)), ?_⟩
    replace O : Own H0 H [(a_2, .ins ad.c_Count dx_3 []), (dx_3, .own a_2)] := Own.cv O (by simp only [List.flatten_cons, List.flatten_nil, List.cons_append, List.nil_append, List.append_nil, List.append_assoc])
    -- 7
    refine o_sfld ?_
    refine ⟨_, rfl, ?_⟩
    refine k_sfld (fs' := [("tally", .int (0 : Int))]) (O.mem (List.Mem.head _)) T.C_Count T.N_Count_tally (by show (0 : Nat) < 1000; decide) rfl putF_nil (fun _ => O.put0) fun H O => ?_
    obtain rfl := Option.some.inj hm
    exact k _ H H0 ((a_2, .ins ad.c_Count dx_3 [("tally", .int (0 : Int))]) :: (dx_3, .own a_2) :: []) eB (Own.cv O (by simp only [List.flatten_cons, List.flatten_nil, List.cons_append, List.nil_append, List.append_nil, List.append_assoc])) ⟨rfl, ⟨dx_3, rfl⟩⟩
def m_Count_more (self_1 : S_Count) (many_4 : Int) : Option (S_Count) :=
  ifB (decide (self_1.tally < (18 : Int))) (
    ltv ((self_1.tally + many_4)) fun tally_7 =>
    some (S_Count.mk tally_7)) (
    some self_1)
def sp_Count_more (K : PySem.W.Frag) (ad : Ad) : Sp := fun vs H Q _ => ∃ (self_1 : S_Count) (a_2 : Addr) (L_3 : List Cell) (many_4 : Int) (R0 : Hp) (r : S_Count), vs = [.ref a_2, .int many_4] ∧ Own R0 H (L_3 ++ []) ∧ (o_Count ad) R0 a_2 L_3 self_1 ∧ m_Count_more self_1 many_4 = some r ∧ RetX R0 (hsub H (L_3 ++ [])) (dX (o_Count ad) a_2 r (dV .non)) Q
abbrev N_Count_more : List Str := ["self", "many"]
theorem sc_Count_more : FnScope N_Count_more ["self", "many"] (defScope s_Count_more) := ⟨rfl, rfl, rfl, by decide +kernel, rfl, by decide +kernel, by decide +kernel⟩
theorem ok_Count_more {ad : Ad} (T : Txt K mg ad) : FnOk P w K mg base CX0 1 ad.f_Count_more ad.fd_Count_more ["self", "many"] (sp_Count_more K ad) := by
  refine T.F_Count_more.ok sc_Count_more (fun vs H Q E h => ?_) (fun cdv A outer s H vs Q E hr h => ?_)
  · obtain ⟨_, _, _, _, _, _, rfl, _⟩ := h
    rfl
  · obtain ⟨self_1, a_2, L_3, many_4, R0, r, rfl, OO, hb_a_2, hm, k⟩ := h
    unfold m_Count_more at hm
    obtain ⟨Hb, hHb⟩ : ∃ Hb : Hp, Hb = hsub H (L_3 ++ []) := ⟨_, rfl⟩
    obtain ⟨H0, hH0⟩ : ∃ H0 : Hp, H0 = Hb := ⟨Hb, rfl⟩
    have O : Own H0 H (L_3 ++ []) := by rw [hH0, hHb]; exact OO.startX
    have eR : Ex R0 Hb := by rw [hHb]; exact OO.subR
    rw [← hHb] at k
    have eB : Ex Hb H0 := by rw [hH0]; exact Ex.refl _
    have eS : Ex R0 (ovr R0 Hb H0) := by rw [hH0]; exact ovr_start eR
    replace hb_a_2 := (mo_Count ad) _ _ _ _ _ eS hb_a_2
    clear hH0 hHb
    refine ⟨_, (pss_one (ps_if (pt_cmpR op_lt (pe_fld (pv 0) rfl) (pe_gv rfl T.g_OFF) (nomark _)) (pss_one (ps_fld (pv 0) (pe_op op_add (pe_fld (pv 0) rfl) (pv 1)) rfl)) pss_nil)), ?_⟩
    obtain ⟨dx_5, rfl⟩ := hb_a_2
    replace O : Own H0 H [(a_2, .ins ad.c_Count dx_5 [("tally", .int self_1.tally)]), (dx_5, .own a_2)] := Own.cv O (by simp only [List.flatten_cons, List.flatten_nil, List.cons_append, List.nil_append, List.append_nil, List.append_assoc])
    -- 10
    refine o_ifs ?_
    refine ⟨_, rfl, a_2, ad.c_Count, dx_5, [("tally", .int self_1.tally)], (.int self_1.tally), rfl, (O.mem (List.Mem.head _)), T.C_Count, T.N_Count_tally, lk_hit, _, _, rfl, rfl, _, rfl, ?_⟩
    refine iteS (c := decide (self_1.tally < (18 : Int))) (fun h6 => ?_) (fun h6 => ?_)
    · replace hm := ifT hm h6
      -- 11
      refine o_sfld ?_
      refine ⟨_, rfl, a_2, ad.c_Count, dx_5, [("tally", .int self_1.tally)], (.int self_1.tally), rfl, (O.mem (List.Mem.head _)), T.C_Count, T.N_Count_tally, lk_hit, _, rfl, _, _, rfl, rfl, _, rfl, ?_⟩
      obtain ⟨tally_7, h8, hm⟩ := ltvE hm
      refine k_sfld (fs' := [("tally", .int tally_7)]) (O.mem (List.Mem.head _)) T.C_Count T.N_Count_tally (by show (1 : Nat) < 1000; decide) (congrArg V.int h8) putF_hit (fun _ => O.put0) fun H O => ?_
      obtain rfl := Option.some.inj hm
      exact k _ H H0 (((a_2, .ins ad.c_Count dx_5 [("tally", .int tally_7)]) :: (dx_5, .own a_2) :: []) ++ []) eB (Own.cv O (by simp only [List.flatten_cons, List.flatten_nil, List.cons_append, List.nil_append, List.append_nil, List.append_assoc])) ⟨_, _, rfl, ⟨dx_5, rfl⟩, ⟨rfl, rfl⟩⟩
    · replace hm := ifF hm h6
      refine o_next ?_
      obtain rfl := Option.some.inj hm
      exact k _ H H0 (((a_2, .ins ad.c_Count dx_5 [("tally", .int self_1.tally)]) :: (dx_5, .own a_2) :: []) ++ []) eB (Own.cv O (by simp only [List.flatten_cons, List.flatten_nil, List.cons_append, List.nil_append, List.append_nil, List.append_assoc])) ⟨_, _, rfl, ⟨dx_5, rfl⟩, ⟨rfl, rfl⟩⟩
def m_Count_fault (self_1 : S_Count) (spoke_4 : Bool) : Option (S_Count) :=
  ifB spoke_4 (
    bnd (m_Count_more self_1 (8 : Int)) fun self_7 =>
    some self_7) (
    bnd (m_Count_more self_1 (1 : Int)) fun self_13 =>
    some self_13)
def sp_Count_fault (K : PySem.W.Frag) (ad : Ad) : Sp := fun vs H Q _ => ∃ (self_1 : S_Count) (a_2 : Addr) (L_3 : List Cell) (spoke_4 : Bool) (R0 : Hp) (r : S_Count), vs = [.ref a_2, .bl spoke_4] ∧ Own R0 H (L_3 ++ []) ∧ (o_Count ad) R0 a_2 L_3 self_1 ∧ m_Count_fault self_1 spoke_4 = some r ∧ RetX R0 (hsub H (L_3 ++ [])) (dX (o_Count ad) a_2 r (dV .non)) Q
abbrev N_Count_fault : List Str := ["self", "spoke"]
theorem sc_Count_fault : FnScope N_Count_fault ["self", "spoke"] (defScope s_Count_fault) := ⟨rfl, rfl, rfl, by decide +kernel, rfl, by decide +kernel, by decide +kernel⟩
theorem ok_Count_fault {ad : Ad} (T : Txt K mg ad) : FnOk P w K mg base CX0 2 ad.f_Count_fault ad.fd_Count_fault ["self", "spoke"] (sp_Count_fault K ad) := by
  have G_Count_more := ok_Count_more (P := P) (w := w) (base := base) T
  refine T.F_Count_fault.ok sc_Count_fault (fun vs H Q E h => ?_) (fun cdv A outer s H vs Q E hr h => ?_)
  · obtain ⟨_, _, _, _, _, _, rfl, _⟩ := h
    rfl
  · obtain ⟨self_1, a_2, L_3, spoke_4, R0, r, rfl, OO, hb_a_2, hm, k⟩ := h
    unfold m_Count_fault at hm
    obtain ⟨Hb, hHb⟩ : ∃ Hb : Hp, Hb = hsub H (L_3 ++ []) := ⟨_, rfl⟩
    obtain ⟨H0, hH0⟩ : ∃ H0 : Hp, H0 = Hb := ⟨Hb, rfl⟩
    have O : Own H0 H (L_3 ++ []) := by rw [hH0, hHb]; exact OO.startX
    have eR : Ex R0 Hb := by rw [hHb]; exact OO.subR
    rw [← hHb] at k
    have eB : Ex Hb H0 := by rw [hH0]; exact Ex.refl _
    have eS : Ex R0 (ovr R0 Hb H0) := by rw [hH0]; exact ovr_start eR
    replace hb_a_2 := (mo_Count ad) _ _ _ _ _ eS hb_a_2
    clear hH0 hHb
    refine ⟨_, (pss_one (ps_if (pt_val (pv 1)) (pss_one (ps_expr (pe_meth (pv 0) T.C_Count T.M_Count_more G_Count_more (hr.mono (by decide)) T.b_Count_more .nil pass0 (pa_cons pe_int pa_nil)))) (pss_one (ps_expr (pe_meth (pv 0) T.C_Count T.M_Count_more G_Count_more (hr.mono (by decide)) T.b_Count_more .nil pass0 (pa_cons pe_int pa_nil)))))), ?_⟩
    obtain ⟨dx_5, rfl⟩ := hb_a_2
    replace O : Own H0 H [(a_2, .ins ad.c_Count dx_5 [("tally", .int self_1.tally)]), (dx_5, .own a_2)] := Own.cv O (by simp only [List.flatten_cons, List.flatten_nil, List.cons_append, List.nil_append, List.append_nil, List.append_assoc])
    -- 14
    refine o_ifs ?_
    refine ⟨_, rfl, _, rfl, ?_⟩
    refine iteS (c := spoke_4) (fun h6 => ?_) (fun h6 => ?_)
    · replace hm := ifT hm h6
      -- 15
      refine o_drop ?_
      refine ⟨_, rfl, a_2, dx_5, [("tally", .int self_1.tally)], rfl, (O.mem (List.Mem.head _)), (lk_skip (by decide) lk_nil), ?_⟩
      refine o_cons ?_
      refine o_c ?_
      refine x_nil ?_
      obtain ⟨self_7, h8, hm⟩ := bndE hm
      have Oc : Own H0 H ((((a_2, .ins ad.c_Count dx_5 [("tally", .int self_1.tally)]) :: (dx_5, .own a_2) :: []) ++ []) ++ []) := Own.cv O (by simp only [List.flatten_cons, List.flatten_nil, List.cons_append, List.nil_append, List.append_nil, List.append_assoc])
      refine ⟨self_1, a_2, ((a_2, .ins ad.c_Count dx_5 [("tally", .int self_1.tally)]) :: (dx_5, .own a_2) :: []), (8 : Int), ovr R0 Hb H0, self_7, rfl, (Own.shrink Oc.left ovr_ex), ⟨dx_5, rfl⟩, h8, ?_⟩
      refine Oc.retXO (mdX (mo_Count ad) mdV) eB fun v_ H H0 L_ O e_ d_ => ?_
      replace eB := eB.trans e_
      obtain ⟨L_9, L_11, rfl, h10, ⟨rfl, rfl⟩⟩ := d_
      obtain ⟨dx_12, rfl⟩ := h10
      replace O : Own H0 H [(a_2, .ins ad.c_Count dx_12 [("tally", .int self_7.tally)]), (dx_12, .own a_2)] := Own.cv O (by simp only [List.flatten_cons, List.flatten_nil, List.cons_append, List.nil_append, List.append_nil, List.append_assoc])
      obtain rfl := Option.some.inj hm
      exact k _ H H0 (((a_2, .ins ad.c_Count dx_12 [("tally", .int self_7.tally)]) :: (dx_12, .own a_2) :: []) ++ []) eB (Own.cv O (by simp only [List.flatten_cons, List.flatten_nil, List.cons_append, List.nil_append, List.append_nil, List.append_assoc])) ⟨_, _, rfl, ⟨dx_12, rfl⟩, ⟨rfl, rfl⟩⟩
    · replace hm := ifF hm h6
      -- 17
      refine o_drop ?_
      refine ⟨_, rfl, a_2, dx_5, [("tally", .int self_1.tally)], rfl, (O.mem (List.Mem.head _)), (lk_skip (by decide) lk_nil), ?_⟩
      refine o_cons ?_
      refine o_c ?_
      refine x_nil ?_
      obtain ⟨self_13, h14, hm⟩ := bndE hm
      have Oc : Own H0 H ((((a_2, .ins ad.c_Count dx_5 [("tally", .int self_1.tally)]) :: (dx_5, .own a_2) :: []) ++ []) ++ []) := Own.cv O (by simp only [List.flatten_cons, List.flatten_nil, List.cons_append, List.nil_append, List.append_nil, List.append_assoc])
      refine ⟨self_1, a_2, ((a_2, .ins ad.c_Count dx_5 [("tally", .int self_1.tally)]) :: (dx_5, .own a_2) :: []), (1 : Int), ovr R0 Hb H0, self_13, rfl, (Own.shrink Oc.left ovr_ex), ⟨dx_5, rfl⟩, h14, ?_⟩
      refine Oc.retXO (mdX (mo_Count ad) mdV) eB fun v_ H H0 L_ O e_ d_ => ?_
      replace eB := eB.trans e_
      obtain ⟨L_15, L_17, rfl, h16, ⟨rfl, rfl⟩⟩ := d_
      obtain ⟨dx_18, rfl⟩ := h16
      replace O : Own H0 H [(a_2, .ins ad.c_Count dx_18 [("tally", .int self_13.tally)]), (dx_18, .own a_2)] := Own.cv O (by simp only [List.flatten_cons, List.flatten_nil, List.cons_append, List.nil_append, List.append_nil, List.append_assoc])
      obtain rfl := Option.some.inj hm
      exact k _ H H0 (((a_2, .ins ad.c_Count dx_18 [("tally", .int self_13.tally)]) :: (dx_18, .own a_2) :: []) ++ []) eB (Own.cv O (by simp only [List.flatten_cons, List.flatten_nil, List.cons_append, List.nil_append, List.append_nil, List.append_assoc])) ⟨_, _, rfl, ⟨dx_18, rfl⟩, ⟨rfl, rfl⟩⟩
def m_Count_blame (self_1 : S_Count) : Option (S_Count) :=
  bnd (m_Count_more self_1 (8 : Int)) fun self_5 =>
  some self_5
def sp_Count_blame (K : PySem.W.Frag) (ad : Ad) : Sp := fun vs H Q _ => ∃ (self_1 : S_Count) (a_2 : Addr) (L_3 : List Cell) (R0 : Hp) (r : S_Count), vs = [.ref a_2] ∧ Own R0 H (L_3 ++ []) ∧ (o_Count ad) R0 a_2 L_3 self_1 ∧ m_Count_blame self_1 = some r ∧ RetX R0 (hsub H (L_3 ++ [])) (dX (o_Count ad) a_2 r (dV .non)) Q
abbrev N_Count_blame : List Str := ["self"]
theorem sc_Count_blame : FnScope N_Count_blame ["self"] (defScope s_Count_blame) := ⟨rfl, rfl, rfl, by decide +kernel, rfl, by decide +kernel, by decide +kernel⟩
theorem ok_Count_blame {ad : Ad} (T : Txt K mg ad) : FnOk P w K mg base CX0 2 ad.f_Count_blame ad.fd_Count_blame ["self"] (sp_Count_blame K ad) := by
  have G_Count_more := ok_Count_more (P := P) (w := w) (base := base) T
  refine T.F_Count_blame.ok sc_Count_blame (fun vs H Q E h => ?_) (fun cdv A outer s H vs Q E hr h => ?_)
  · obtain ⟨_, _, _, _, _, rfl, _⟩ := h
    rfl
  · obtain ⟨self_1, a_2, L_3, R0, r, rfl, OO, hb_a_2, hm, k⟩ := h
    unfold m_Count_blame at hm
    obtain ⟨Hb, hHb⟩ : ∃ Hb : Hp, Hb = hsub H (L_3 ++ []) := ⟨_, rfl⟩
    obtain ⟨H0, hH0⟩ : ∃ H0 : Hp, H0 = Hb := ⟨Hb, rfl⟩
    have O : Own H0 H (L_3 ++ []) := by rw [hH0, hHb]; exact OO.startX
    have eR : Ex R0 Hb := by rw [hHb]; exact OO.subR
    rw [← hHb] at k
    have eB : Ex Hb H0 := by rw [hH0]; exact Ex.refl _
    have eS : Ex R0 (ovr R0 Hb H0) := by rw [hH0]; exact ovr_start eR
    replace hb_a_2 := (mo_Count ad) _ _ _ _ _ eS hb_a_2
    clear hH0 hHb
    refine ⟨_, (pss_one (ps_expr (pe_meth (pv 0) T.C_Count T.M_Count_more G_Count_more (hr.mono (by decide)) T.b_Count_more .nil pass0 (pa_cons pe_int pa_nil)))), ?_⟩
    obtain ⟨dx_4, rfl⟩ := hb_a_2
    replace O : Own H0 H [(a_2, .ins ad.c_Count dx_4 [("tally", .int self_1.tally)]), (dx_4, .own a_2)] := Own.cv O (by simp only [List.flatten_cons, List.flatten_nil, List.cons_append, List.nil_append, List.append_nil, List.append_assoc])
    -- 20
    refine o_drop ?_
    refine ⟨_, rfl, a_2, dx_4, [("tally", .int self_1.tally)], rfl, (O.mem (List.Mem.head _)), (lk_skip (by decide) lk_nil), ?_⟩
    refine o_cons ?_
    refine o_c ?_
    refine x_nil ?_
    obtain ⟨self_5, h6, hm⟩ := bndE hm
    have Oc : Own H0 H ((((a_2, .ins ad.c_Count dx_4 [("tally", .int self_1.tally)]) :: (dx_4, .own a_2) :: []) ++ []) ++ []) := Own.cv O (by simp only [List.flatten_cons, List.flatten_nil, List.cons_append, List.nil_append, List.append_nil, List.append_assoc])
    refine ⟨self_1, a_2, ((a_2, .ins ad.c_Count dx_4 [("tally", .int self_1.tally)]) :: (dx_4, .own a_2) :: []), (8 : Int), ovr R0 Hb H0, self_5, rfl, (Own.shrink Oc.left ovr_ex), ⟨dx_4, rfl⟩, h6, ?_⟩
    refine Oc.retXO (mdX (mo_Count ad) mdV) eB fun v_ H H0 L_ O e_ d_ => ?_
    replace eB := eB.trans e_
    obtain ⟨L_7, L_9, rfl, h8, ⟨rfl, rfl⟩⟩ := d_
    obtain ⟨dx_10, rfl⟩ := h8
    replace O : Own H0 H [(a_2, .ins ad.c_Count dx_10 [("tally", .int self_5.tally)]), (dx_10, .own a_2)] := Own.cv O (by simp only [List.flatten_cons, List.flatten_nil, List.cons_append, List.nil_append, List.append_nil, List.append_assoc])
    obtain rfl := Option.some.inj hm
    exact k _ H H0 (((a_2, .ins ad.c_Count dx_10 [("tally", .int self_5.tally)]) :: (dx_10, .own a_2) :: []) ++ []) eB (Own.cv O (by simp only [List.flatten_cons, List.flatten_nil, List.cons_append, List.nil_append, List.append_nil, List.append_assoc])) ⟨_, _, rfl, ⟨dx_10, rfl⟩, ⟨rfl, rfl⟩⟩
def m_Count_good (self_1 : S_Count) : Option (S_Count) :=
  ifB (decide ((0 : Int) < self_1.tally) && decide (self_1.tally < (18 : Int))) (
    ltv ((self_1.tally - (1 : Int))) fun tally_7 =>
    some (S_Count.mk tally_7)) (
    some self_1)
def sp_Count_good (K : PySem.W.Frag) (ad : Ad) : Sp := fun vs H Q _ => ∃ (self_1 : S_Count) (a_2 : Addr) (L_3 : List Cell) (R0 : Hp) (r : S_Count), vs = [.ref a_2] ∧ Own R0 H (L_3 ++ []) ∧ (o_Count ad) R0 a_2 L_3 self_1 ∧ m_Count_good self_1 = some r ∧ RetX R0 (hsub H (L_3 ++ [])) (dX (o_Count ad) a_2 r (dV .non)) Q
abbrev N_Count_good : List Str := ["self"]
theorem sc_Count_good : FnScope N_Count_good ["self"] (defScope s_Count_good) := ⟨rfl, rfl, rfl, by decide +kernel, rfl, by decide +kernel, by decide +kernel⟩
theorem ok_Count_good {ad : Ad} (T : Txt K mg ad) : FnOk P w K mg base CX0 1 ad.f_Count_good ad.fd_Count_good ["self"] (sp_Count_good K ad) := by
  refine T.F_Count_good.ok sc_Count_good (fun vs H Q E h => ?_) (fun cdv A outer s H vs Q E hr h => ?_)
  · obtain ⟨_, _, _, _, _, rfl, _⟩ := h
    rfl
  · obtain ⟨self_1, a_2, L_3, R0, r, rfl, OO, hb_a_2, hm, k⟩ := h
    unfold m_Count_good at hm
    obtain ⟨Hb, hHb⟩ : ∃ Hb : Hp, Hb = hsub H (L_3 ++ []) := ⟨_, rfl⟩
    obtain ⟨H0, hH0⟩ : ∃ H0 : Hp, H0 = Hb := ⟨Hb, rfl⟩
    have O : Own H0 H (L_3 ++ []) := by rw [hH0, hHb]; exact OO.startX
    have eR : Ex R0 Hb := by rw [hHb]; exact OO.subR
    rw [← hHb] at k
    have eB : Ex Hb H0 := by rw [hH0]; exact Ex.refl _
    have eS : Ex R0 (ovr R0 Hb H0) := by rw [hH0]; exact ovr_start eR
    replace hb_a_2 := (mo_Count ad) _ _ _ _ _ eS hb_a_2
    clear hH0 hHb
    refine ⟨_, (pss_one (ps_if (pt_chain op_lt op_lt pe_int (pe_fld (pv 0) rfl) (pe_gv rfl T.g_OFF)) (pss_one (ps_fld (pv 0) (pe_op op_sub (pe_fld (pv 0) rfl) pe_int) rfl)) pss_nil)), ?_⟩
    obtain ⟨dx_4, rfl⟩ := hb_a_2
    replace O : Own H0 H [(a_2, .ins ad.c_Count dx_4 [("tally", .int self_1.tally)]), (dx_4, .own a_2)] := Own.cv O (by simp only [List.flatten_cons, List.flatten_nil, List.cons_append, List.nil_append, List.append_nil, List.append_assoc])
    -- 23
    refine o_ifs ?_
    refine x_chain (x := .int (0 : Int)) (y := .int self_1.tally) (z := .int (18 : Int)) (c := decide ((0 : Int) < self_1.tally)) (e := decide (self_1.tally < (18 : Int))) (d := (decide ((0 : Int) < self_1.tally) && decide (self_1.tally < (18 : Int)))) O (fun Q1 k1 => ?_) (fun H O Q1 k1 => ?_) (fun _ _ k1 => ⟨_, _, rfl, rfl, k1⟩) (fun h5 => ⟨by rw [h5]; rfl, fun H O Q1 k1 => ?_⟩) (fun _ _ k1 => ⟨_, _, rfl, rfl, k1⟩) (fun h5 => by rw [h5]; rfl) (fun H O => ?_)
    · refine o_c ?_
      exact k1 _ O
    · refine ⟨_, rfl, a_2, ad.c_Count, dx_4, [("tally", .int self_1.tally)], (.int self_1.tally), rfl, (O.mem (List.Mem.head _)), T.C_Count, T.N_Count_tally, lk_hit, ?_⟩
      exact k1 _ O
    · refine o_c ?_
      exact k1 _ O
    refine ⟨_, rfl, ?_⟩
    refine iteS (c := (decide ((0 : Int) < self_1.tally) && decide (self_1.tally < (18 : Int)))) (fun h6 => ?_) (fun h6 => ?_)
    · replace hm := ifT hm h6
      -- 24
      refine o_sfld ?_
      refine ⟨_, rfl, a_2, ad.c_Count, dx_4, [("tally", .int self_1.tally)], (.int self_1.tally), rfl, (O.mem (List.Mem.head _)), T.C_Count, T.N_Count_tally, lk_hit, _, _, rfl, rfl, _, rfl, ?_⟩
      obtain ⟨tally_7, h8, hm⟩ := ltvE hm
      refine k_sfld (fs' := [("tally", .int tally_7)]) (O.mem (List.Mem.head _)) T.C_Count T.N_Count_tally (by show (1 : Nat) < 1000; decide) (congrArg V.int h8) putF_hit (fun _ => O.put0) fun H O => ?_
      obtain rfl := Option.some.inj hm
      exact k _ H H0 (((a_2, .ins ad.c_Count dx_4 [("tally", .int tally_7)]) :: (dx_4, .own a_2) :: []) ++ []) eB (Own.cv O (by simp only [List.flatten_cons, List.flatten_nil, List.cons_append, List.nil_append, List.append_nil, List.append_assoc])) ⟨_, _, rfl, ⟨dx_4, rfl⟩, ⟨rfl, rfl⟩⟩
    · replace hm := ifF hm h6
      refine o_next ?_
      obtain rfl := Option.some.inj hm
      exact k _ H H0 (((a_2, .ins ad.c_Count dx_4 [("tally", .int self_1.tally)]) :: (dx_4, .own a_2) :: []) ++ []) eB (Own.cv O (by simp only [List.flatten_cons, List.flatten_nil, List.cons_append, List.nil_append, List.append_nil, List.append_assoc])) ⟨_, _, rfl, ⟨dx_4, rfl⟩, ⟨rfl, rfl⟩⟩
def m__law_deed (count_1 : S_Count) (way_4 : Int) : Option (S_Count) :=
  ifB (decide (way_4 = (0 : Int))) (
    bnd (m_Count_fault count_1 true) fun self_7 =>
    some self_7) (
    ifB (decide (way_4 = (1 : Int))) (
      bnd (m_Count_fault count_1 false) fun self_14 =>
      some self_14) (
      ifB (decide (way_4 = (2 : Int))) (
        bnd (m_Count_blame count_1) fun self_21 =>
        some self_21) (
        bnd (m_Count_good count_1) fun self_27 =>
        some self_27)))
def sp__law_deed (K : PySem.W.Frag) (ad : Ad) : Sp := fun vs H Q _ => ∃ (count_1 : S_Count) (a_2 : Addr) (L_3 : List Cell) (way_4 : Int) (R0 : Hp) (r : S_Count), vs = [.ref a_2, .int way_4] ∧ Own R0 H (L_3 ++ []) ∧ (o_Count ad) R0 a_2 L_3 count_1 ∧ m__law_deed count_1 way_4 = some r ∧ RetX R0 (hsub H (L_3 ++ [])) (dX (o_Count ad) a_2 r (dV .non)) Q
abbrev N__law_deed : List Str := ["count", "way"]
theorem sc__law_deed : FnScope N__law_deed ["count", "way"] (defScope s__law_deed) := ⟨rfl, rfl, rfl, by decide +kernel, rfl, by decide +kernel, by decide +kernel⟩
theorem ok__law_deed {ad : Ad} (T : Txt K mg ad) : FnOk P w K mg base CX0 3 ad.f__law_deed ad.fd__law_deed ["count", "way"] (sp__law_deed K ad) := by
  have G_Count_blame := ok_Count_blame (P := P) (w := w) (base := base) T
  have G_Count_fault := ok_Count_fault (P := P) (w := w) (base := base) T
  have G_Count_good := ok_Count_good (P := P) (w := w) (base := base) T
  refine T.F__law_deed.ok sc__law_deed (fun vs H Q E h => ?_) (fun cdv A outer s H vs Q E hr h => ?_)
  · obtain ⟨_, _, _, _, _, _, rfl, _⟩ := h
    rfl
  · obtain ⟨count_1, a_2, L_3, way_4, R0, r, rfl, OO, hb_a_2, hm, k⟩ := h
    unfold m__law_deed at hm
    obtain ⟨Hb, hHb⟩ : ∃ Hb : Hp, Hb = hsub H (L_3 ++ []) := ⟨_, rfl⟩
    obtain ⟨H0, hH0⟩ : ∃ H0 : Hp, H0 = Hb := ⟨Hb, rfl⟩
    have O : Own H0 H (L_3 ++ []) := by rw [hH0, hHb]; exact OO.startX
    have eR : Ex R0 Hb := by rw [hHb]; exact OO.subR
    rw [← hHb] at k
    have eB : Ex Hb H0 := by rw [hH0]; exact Ex.refl _
    have eS : Ex R0 (ovr R0 Hb H0) := by rw [hH0]; exact ovr_start eR
    replace hb_a_2 := (mo_Count ad) _ _ _ _ _ eS hb_a_2
    clear hH0 hHb
    refine ⟨_, (pss_one (ps_if (pt_cmpR op_eq (pv 1) pe_int (nomark _)) (pss_one (ps_expr (pe_meth (pv 0) T.C_Count T.M_Count_fault G_Count_fault (hr.mono (by decide)) T.b_Count_fault .nil pass0 (pa_cons pe_bl pa_nil)))) (pss_one (ps_if (pt_cmpR op_eq (pv 1) pe_int (nomark _)) (pss_one (ps_expr (pe_meth (pv 0) T.C_Count T.M_Count_fault G_Count_fault (hr.mono (by decide)) T.b_Count_fault .nil pass0 (pa_cons pe_bl pa_nil)))) (pss_one (ps_if (pt_cmpR op_eq (pv 1) pe_int (nomark _)) (pss_one (ps_expr (pe_meth0 (pv 0) T.C_Count T.M_Count_blame G_Count_blame (hr.mono (by decide)) T.b_Count_blame .nil pass0))) (pss_one (ps_expr (pe_meth0 (pv 0) T.C_Count T.M_Count_good G_Count_good (hr.mono (by decide)) T.b_Count_good .nil pass0))))))))), ?_⟩
    obtain ⟨dx_5, rfl⟩ := hb_a_2
    replace O : Own H0 H [(a_2, .ins ad.c_Count dx_5 [("tally", .int count_1.tally)]), (dx_5, .own a_2)] := Own.cv O (by simp only [List.flatten_cons, List.flatten_nil, List.cons_append, List.nil_append, List.append_nil, List.append_assoc])
    -- 54
    refine o_ifs ?_
    refine ⟨_, rfl, ?_⟩
    refine o_c ?_
    refine k_eqI ?_
    refine ⟨_, rfl, ?_⟩
    refine iteS (c := (decide (way_4 = (0 : Int)))) (fun h6 => ?_) (fun h6 => ?_)
    · replace hm := ifT hm h6
      -- 55
      refine o_drop ?_
      refine ⟨_, rfl, a_2, dx_5, [("tally", .int count_1.tally)], rfl, (O.mem (List.Mem.head _)), (lk_skip (by decide) lk_nil), ?_⟩
      refine o_cons ?_
      refine o_c ?_
      refine x_nil ?_
      obtain ⟨self_7, h8, hm⟩ := bndE hm
      have Oc : Own H0 H ((((a_2, .ins ad.c_Count dx_5 [("tally", .int count_1.tally)]) :: (dx_5, .own a_2) :: []) ++ []) ++ []) := Own.cv O (by simp only [List.flatten_cons, List.flatten_nil, List.cons_append, List.nil_append, List.append_nil, List.append_assoc])
      refine ⟨count_1, a_2, ((a_2, .ins ad.c_Count dx_5 [("tally", .int count_1.tally)]) :: (dx_5, .own a_2) :: []), true, ovr R0 Hb H0, self_7, rfl, (Own.shrink Oc.left ovr_ex), ⟨dx_5, rfl⟩, h8, ?_⟩
      refine Oc.retXO (mdX (mo_Count ad) mdV) eB fun v_ H H0 L_ O e_ d_ => ?_
      replace eB := eB.trans e_
      obtain ⟨L_9, L_11, rfl, h10, ⟨rfl, rfl⟩⟩ := d_
      obtain ⟨dx_12, rfl⟩ := h10
      replace O : Own H0 H [(a_2, .ins ad.c_Count dx_12 [("tally", .int self_7.tally)]), (dx_12, .own a_2)] := Own.cv O (by simp only [List.flatten_cons, List.flatten_nil, List.cons_append, List.nil_append, List.append_nil, List.append_assoc])
      obtain rfl := Option.some.inj hm
      exact k _ H H0 (((a_2, .ins ad.c_Count dx_12 [("tally", .int self_7.tally)]) :: (dx_12, .own a_2) :: []) ++ []) eB (Own.cv O (by simp only [List.flatten_cons, List.flatten_nil, List.cons_append, List.nil_append, List.append_nil, List.append_assoc])) ⟨_, _, rfl, ⟨dx_12, rfl⟩, ⟨rfl, rfl⟩⟩
    · replace hm := ifF hm h6
      -- 56
      refine o_ifs ?_
      refine ⟨_, rfl, ?_⟩
      refine o_c ?_
      refine k_eqI ?_
      refine ⟨_, rfl, ?_⟩
      refine iteS (c := (decide (way_4 = (1 : Int)))) (fun h13 => ?_) (fun h13 => ?_)
      · replace hm := ifT hm h13
        -- 57
        refine o_drop ?_
        refine ⟨_, rfl, a_2, dx_5, [("tally", .int count_1.tally)], rfl, (O.mem (List.Mem.head _)), (lk_skip (by decide) lk_nil), ?_⟩
        refine o_cons ?_
        refine o_c ?_
        refine x_nil ?_
        obtain ⟨self_14, h15, hm⟩ := bndE hm
        have Oc : Own H0 H ((((a_2, .ins ad.c_Count dx_5 [("tally", .int count_1.tally)]) :: (dx_5, .own a_2) :: []) ++ []) ++ []) := Own.cv O (by simp only [List.flatten_cons, List.flatten_nil, List.cons_append, List.nil_append, List.append_nil, List.append_assoc])
        refine ⟨count_1, a_2, ((a_2, .ins ad.c_Count dx_5 [("tally", .int count_1.tally)]) :: (dx_5, .own a_2) :: []), false, ovr R0 Hb H0, self_14, rfl, (Own.shrink Oc.left ovr_ex), ⟨dx_5, rfl⟩, h15, ?_⟩
        refine Oc.retXO (mdX (mo_Count ad) mdV) eB fun v_ H H0 L_ O e_ d_ => ?_
        replace eB := eB.trans e_
        obtain ⟨L_16, L_18, rfl, h17, ⟨rfl, rfl⟩⟩ := d_
        obtain ⟨dx_19, rfl⟩ := h17
        replace O : Own H0 H [(a_2, .ins ad.c_Count dx_19 [("tally", .int self_14.tally)]), (dx_19, .own a_2)] := Own.cv O (by simp only [List.flatten_cons, List.flatten_nil, List.cons_append, List.nil_append, List.append_nil, List.append_assoc])
        obtain rfl := Option.some.inj hm
        exact k _ H H0 (((a_2, .ins ad.c_Count dx_19 [("tally", .int self_14.tally)]) :: (dx_19, .own a_2) :: []) ++ []) eB (Own.cv O (by simp only [List.flatten_cons, List.flatten_nil, List.cons_append, List.nil_append, List.append_nil, List.append_assoc])) ⟨_, _, rfl, ⟨dx_19, rfl⟩, ⟨rfl, rfl⟩⟩
      · replace hm := ifF hm h13
        -- 58
        refine o_ifs ?_
        refine ⟨_, rfl, ?_⟩
        refine o_c ?_
        refine k_eqI ?_
        refine ⟨_, rfl, ?_⟩
        refine iteS (c := (decide (way_4 = (2 : Int)))) (fun h20 => ?_) (fun h20 => ?_)
        · replace hm := ifT hm h20
          -- 59
          refine o_drop ?_
          refine ⟨_, rfl, a_2, dx_5, [("tally", .int count_1.tally)], rfl, (O.mem (List.Mem.head _)), (lk_skip (by decide) lk_nil), ?_⟩
          refine x_nil ?_
          obtain ⟨self_21, h22, hm⟩ := bndE hm
          have Oc : Own H0 H ((((a_2, .ins ad.c_Count dx_5 [("tally", .int count_1.tally)]) :: (dx_5, .own a_2) :: []) ++ []) ++ []) := Own.cv O (by simp only [List.flatten_cons, List.flatten_nil, List.cons_append, List.nil_append, List.append_nil, List.append_assoc])
          refine ⟨count_1, a_2, ((a_2, .ins ad.c_Count dx_5 [("tally", .int count_1.tally)]) :: (dx_5, .own a_2) :: []), ovr R0 Hb H0, self_21, rfl, (Own.shrink Oc.left ovr_ex), ⟨dx_5, rfl⟩, h22, ?_⟩
          refine Oc.retXO (mdX (mo_Count ad) mdV) eB fun v_ H H0 L_ O e_ d_ => ?_
          replace eB := eB.trans e_
          obtain ⟨L_23, L_25, rfl, h24, ⟨rfl, rfl⟩⟩ := d_
          obtain ⟨dx_26, rfl⟩ := h24
          replace O : Own H0 H [(a_2, .ins ad.c_Count dx_26 [("tally", .int self_21.tally)]), (dx_26, .own a_2)] := Own.cv O (by simp only [List.flatten_cons, List.flatten_nil, List.cons_append, List.nil_append, List.append_nil, List.append_assoc])
          obtain rfl := Option.some.inj hm
          exact k _ H H0 (((a_2, .ins ad.c_Count dx_26 [("tally", .int self_21.tally)]) :: (dx_26, .own a_2) :: []) ++ []) eB (Own.cv O (by simp only [List.flatten_cons, List.flatten_nil, List.cons_append, List.nil_append, List.append_nil, List.append_assoc])) ⟨_, _, rfl, ⟨dx_26, rfl⟩, ⟨rfl, rfl⟩⟩
        · replace hm := ifF hm h20
          -- 61
          refine o_drop ?_
          refine ⟨_, rfl, a_2, dx_5, [("tally", .int count_1.tally)], rfl, (O.mem (List.Mem.head _)), (lk_skip (by decide) lk_nil), ?_⟩
          refine x_nil ?_
          obtain ⟨self_27, h28, hm⟩ := bndE hm
          have Oc : Own H0 H ((((a_2, .ins ad.c_Count dx_5 [("tally", .int count_1.tally)]) :: (dx_5, .own a_2) :: []) ++ []) ++ []) := Own.cv O (by simp only [List.flatten_cons, List.flatten_nil, List.cons_append, List.nil_append, List.append_nil, List.append_assoc])
          refine ⟨count_1, a_2, ((a_2, .ins ad.c_Count dx_5 [("tally", .int count_1.tally)]) :: (dx_5, .own a_2) :: []), ovr R0 Hb H0, self_27, rfl, (Own.shrink Oc.left ovr_ex), ⟨dx_5, rfl⟩, h28, ?_⟩
          refine Oc.retXO (mdX (mo_Count ad) mdV) eB fun v_ H H0 L_ O e_ d_ => ?_
          replace eB := eB.trans e_
          obtain ⟨L_29, L_31, rfl, h30, ⟨rfl, rfl⟩⟩ := d_
          obtain ⟨dx_32, rfl⟩ := h30
          replace O : Own H0 H [(a_2, .ins ad.c_Count dx_32 [("tally", .int self_27.tally)]), (dx_32, .own a_2)] := Own.cv O (by simp only [List.flatten_cons, List.flatten_nil, List.cons_append, List.nil_append, List.append_nil, List.append_assoc])
          obtain rfl := Option.some.inj hm
          exact k _ H H0 (((a_2, .ins ad.c_Count dx_32 [("tally", .int self_27.tally)]) :: (dx_32, .own a_2) :: []) ++ []) eB (Own.cv O (by simp only [List.flatten_cons, List.flatten_nil, List.cons_append, List.nil_append, List.append_nil, List.append_assoc])) ⟨_, _, rfl, ⟨dx_32, rfl⟩, ⟨rfl, rfl⟩⟩
def m__law_behind (due_1 : Int) (way_2 : Int) : Option (Int) :=
  ifB (decide ((18 : Int) ≤ due_1)) (
    some due_1) (
    bnd (atI ([(due_1 + (8 : Int)), (due_1 + (1 : Int)), (due_1 + (8 : Int)), (if (due_1 - (1 : Int)) > (0 : Int) then (due_1 - (1 : Int)) else (0 : Int))]) way_2) fun e_5 =>
    some e_5)
def sp__law_behind (K : PySem.W.Frag) : Sp := fun vs H Q _ => ∃ (due_1 : Int) (way_2 : Int) (r : Int), vs = [.int due_1, .int way_2] ∧ m__law_behind due_1 way_2 = some r ∧ RetV (.int r) H Q
abbrev N__law_behind : List Str := ["due", "way"]
theorem sc__law_behind : FnScope N__law_behind ["due", "way"] (defScope s__law_behind) := ⟨rfl, rfl, rfl, by decide +kernel, rfl, by decide +kernel, by decide +kernel⟩
theorem ok__law_behind {ad : Ad} (T : Txt K mg ad) : FnOk P w K mg base CX0 1 ad.f__law_behind ad.fd__law_behind ["due", "way"] (sp__law_behind K) := by
  refine T.F__law_behind.ok sc__law_behind (fun vs H Q E h => ?_) (fun cdv A outer s H vs Q E hr h => ?_)
  · obtain ⟨_, _, _, rfl, _⟩ := h
    rfl
  · obtain ⟨due_1, way_2, r, rfl, hm, k⟩ := h
    unfold m__law_behind at hm
    obtain ⟨H0, hH0⟩ : ∃ H0 : Hp, H0 = H := ⟨H, rfl⟩
    have O : Own H0 H [] := by rw [hH0]; exact Own.start H
    rw [← hH0] at k
    clear hH0
    refine ⟨_, (pss_cons (ps_if (pt_cmpR op_ge (pv 0) pe_int (nomark _)) (pss_one (ps_ret (pv 0))) pss_nil) (pss_one (ps_ret (pe_ix (r := rIxL K) ix_list (pe_lstQ (pe_lst (pa_cons (pe_op op_add (pv 0) pe_int) (pa_cons (pe_op op_add (pv 0) pe_int) (pa_cons (pe_op op_add (pv 0) pe_int) (pa_cons (pe_callB (call_max2 rfl) (by rfl) T.z_max (by decide +kernel) (pa_cons pe_int (pa_cons (pe_op op_sub (pv 0) pe_int) pa_nil))) pa_nil)))))) (pv 1) (fun _ _ => rfl))))), ?_⟩
    -- 63
    refine o_seq ?_
    refine o_ifs ?_
    refine ⟨_, rfl, _, _, rfl, rfl, _, rfl, ?_⟩
    refine iteS (c := decide ((18 : Int) ≤ due_1)) (fun h3 => ?_) (fun h3 => ?_)
    · replace hm := ifT hm h3
      -- 64
      refine o_ret ?_
      refine ⟨_, rfl, ?_⟩
      obtain rfl := Option.some.inj hm
      exact RetV.go k O
    · replace hm := ifF hm h3
      refine o_next ?_
      -- 65
      refine o_ret ?_
      refine ⟨_, rfl, _, _, rfl, rfl, _, rfl, _, _, rfl, rfl, _, rfl, _, _, rfl, rfl, _, rfl, _, _, rfl, rfl, _, _, rfl, ?_⟩
      refine x_nil ?_
      refine n_lst (f := V.int) (xs := [(due_1 + (8 : Int)), (due_1 + (1 : Int)), (due_1 + (8 : Int)), (if (due_1 - (1 : Int)) > (0 : Int) then (due_1 - (1 : Int)) else (0 : Int))]) O rfl (by show 4 ≤ sizeLine; decide) fun p_4 H O => ?_
      obtain ⟨e_5, h6, hm⟩ := bndE hm
      refine ⟨_, rfl, ?_⟩
      refine k_ixL (f := V.int) (SqL.of (O.mem (List.Mem.head _))) h6 ?_
      obtain rfl := Option.some.inj hm
      exact RetV.go k O
def m_Count_is_off (self_1 : S_Count) : Option (Bool) :=
  some (decide ((18 : Int) ≤ self_1.tally))
def sp_Count_is_off (K : PySem.W.Frag) (ad : Ad) : Sp := fun vs H Q _ => ∃ (self_1 : S_Count) (a_2 : Addr) (L_3 : List Cell) (R0 : Hp) (r : Bool), vs = [.ref a_2] ∧ Own R0 H (L_3 ++ []) ∧ (o_Count ad) R0 a_2 L_3 self_1 ∧ m_Count_is_off self_1 = some r ∧ RetX R0 (hsub H (L_3 ++ [])) (dX (o_Count ad) a_2 self_1 (dV (.bl r))) Q
abbrev N_Count_is_off : List Str := ["self"]
theorem sc_Count_is_off : FnScope N_Count_is_off ["self"] (defScope s_Count_is_off) := ⟨rfl, rfl, rfl, by decide +kernel, rfl, by decide +kernel, by decide +kernel⟩
theorem ok_Count_is_off {ad : Ad} (T : Txt K mg ad) : FnOk P w K mg base CX0 1 ad.f_Count_is_off ad.fd_Count_is_off ["self"] (sp_Count_is_off K ad) := by
  refine T.F_Count_is_off.ok sc_Count_is_off (fun vs H Q E h => ?_) (fun cdv A outer s H vs Q E hr h => ?_)
  · obtain ⟨_, _, _, _, _, rfl, _⟩ := h
    rfl
  · obtain ⟨self_1, a_2, L_3, R0, r, rfl, OO, hb_a_2, hm, k⟩ := h
    unfold m_Count_is_off at hm
    obtain ⟨Hb, hHb⟩ : ∃ Hb : Hp, Hb = hsub H (L_3 ++ []) := ⟨_, rfl⟩
    obtain ⟨H0, hH0⟩ : ∃ H0 : Hp, H0 = Hb := ⟨Hb, rfl⟩
    have O : Own H0 H (L_3 ++ []) := by rw [hH0, hHb]; exact OO.startX
    have eR : Ex R0 Hb := by rw [hHb]; exact OO.subR
    rw [← hHb] at k
    have eB : Ex Hb H0 := by rw [hH0]; exact Ex.refl _
    have eS : Ex R0 (ovr R0 Hb H0) := by rw [hH0]; exact ovr_start eR
    replace hb_a_2 := (mo_Count ad) _ _ _ _ _ eS hb_a_2
    clear hH0 hHb
    refine ⟨_, (pss_one (ps_ret (pe_cmpR op_ge (pe_fld (pv 0) rfl) (pe_gv rfl T.g_OFF) (nomark _)))), ?_⟩
    obtain ⟨dx_4, rfl⟩ := hb_a_2
    replace O : Own H0 H [(a_2, .ins ad.c_Count dx_4 [("tally", .int self_1.tally)]), (dx_4, .own a_2)] := Own.cv O (by simp only [List.flatten_cons, List.flatten_nil, List.cons_append, List.nil_append, List.append_nil, List.append_assoc])
    -- 33
    refine o_ret ?_
    refine ⟨_, rfl, a_2, ad.c_Count, dx_4, [("tally", .int self_1.tally)], (.int self_1.tally), rfl, (O.mem (List.Mem.head _)), T.C_Count, T.N_Count_tally, lk_hit, _, _, rfl, rfl, ?_⟩
    obtain rfl := Option.some.inj hm
    exact k _ H H0 (((a_2, .ins ad.c_Count dx_4 [("tally", .int self_1.tally)]) :: (dx_4, .own a_2) :: []) ++ []) eB (Own.cv O (by simp only [List.flatten_cons, List.flatten_nil, List.cons_append, List.nil_append, List.append_nil, List.append_assoc])) ⟨_, _, rfl, ⟨dx_4, rfl⟩, ⟨rfl, rfl⟩⟩
def m_Count_is_quiet (self_1 : S_Count) : Option (Bool) :=
  some (decide ((12 : Int) ≤ self_1.tally))
def sp_Count_is_quiet (K : PySem.W.Frag) (ad : Ad) : Sp := fun vs H Q _ => ∃ (self_1 : S_Count) (a_2 : Addr) (L_3 : List Cell) (R0 : Hp) (r : Bool), vs = [.ref a_2] ∧ Own R0 H (L_3 ++ []) ∧ (o_Count ad) R0 a_2 L_3 self_1 ∧ m_Count_is_quiet self_1 = some r ∧ RetX R0 (hsub H (L_3 ++ [])) (dX (o_Count ad) a_2 self_1 (dV (.bl r))) Q
abbrev N_Count_is_quiet : List Str := ["self"]
theorem sc_Count_is_quiet : FnScope N_Count_is_quiet ["self"] (defScope s_Count_is_quiet) := ⟨rfl, rfl, rfl, by decide +kernel, rfl, by decide +kernel, by decide +kernel⟩
theorem ok_Count_is_quiet {ad : Ad} (T : Txt K mg ad) : FnOk P w K mg base CX0 1 ad.f_Count_is_quiet ad.fd_Count_is_quiet ["self"] (sp_Count_is_quiet K ad) := by
  refine T.F_Count_is_quiet.ok sc_Count_is_quiet (fun vs H Q E h => ?_) (fun cdv A outer s H vs Q E hr h => ?_)
  · obtain ⟨_, _, _, _, _, rfl, _⟩ := h
    rfl
  · obtain ⟨self_1, a_2, L_3, R0, r, rfl, OO, hb_a_2, hm, k⟩ := h
    unfold m_Count_is_quiet at hm
    obtain ⟨Hb, hHb⟩ : ∃ Hb : Hp, Hb = hsub H (L_3 ++ []) := ⟨_, rfl⟩
    obtain ⟨H0, hH0⟩ : ∃ H0 : Hp, H0 = Hb := ⟨Hb, rfl⟩
    have O : Own H0 H (L_3 ++ []) := by rw [hH0, hHb]; exact OO.startX
    have eR : Ex R0 Hb := by rw [hHb]; exact OO.subR
    rw [← hHb] at k
    have eB : Ex Hb H0 := by rw [hH0]; exact Ex.refl _
    have eS : Ex R0 (ovr R0 Hb H0) := by rw [hH0]; exact ovr_start eR
    replace hb_a_2 := (mo_Count ad) _ _ _ _ _ eS hb_a_2
    clear hH0 hHb
    refine ⟨_, (pss_one (ps_ret (pe_cmpR op_ge (pe_fld (pv 0) rfl) (pe_gv rfl T.g_QUIET) (nomark _)))), ?_⟩
    obtain ⟨dx_4, rfl⟩ := hb_a_2
    replace O : Own H0 H [(a_2, .ins ad.c_Count dx_4 [("tally", .int self_1.tally)]), (dx_4, .own a_2)] := Own.cv O (by simp only [List.flatten_cons, List.flatten_nil, List.cons_append, List.nil_append, List.append_nil, List.append_assoc])
    -- 30
    refine o_ret ?_
    refine ⟨_, rfl, a_2, ad.c_Count, dx_4, [("tally", .int self_1.tally)], (.int self_1.tally), rfl, (O.mem (List.Mem.head _)), T.C_Count, T.N_Count_tally, lk_hit, _, _, rfl, rfl, ?_⟩
    obtain rfl := Option.some.inj hm
    exact k _ H H0 (((a_2, .ins ad.c_Count dx_4 [("tally", .int self_1.tally)]) :: (dx_4, .own a_2) :: []) ++ []) eB (Own.cv O (by simp only [List.flatten_cons, List.flatten_nil, List.cons_append, List.nil_append, List.append_nil, List.append_assoc])) ⟨_, _, rfl, ⟨dx_4, rfl⟩, ⟨rfl, rfl⟩⟩
def m_Count_number (self_1 : S_Count) : Option (Int) :=
  some self_1.tally
def sp_Count_number (K : PySem.W.Frag) (ad : Ad) : Sp := fun vs H Q _ => ∃ (self_1 : S_Count) (a_2 : Addr) (L_3 : List Cell) (R0 : Hp) (r : Int), vs = [.ref a_2] ∧ Own R0 H (L_3 ++ []) ∧ (o_Count ad) R0 a_2 L_3 self_1 ∧ m_Count_number self_1 = some r ∧ RetX R0 (hsub H (L_3 ++ [])) (dX (o_Count ad) a_2 self_1 (dV (.int r))) Q
abbrev N_Count_number : List Str := ["self"]
theorem sc_Count_number : FnScope N_Count_number ["self"] (defScope s_Count_number) := ⟨rfl, rfl, rfl, by decide +kernel, rfl, by decide +kernel, by decide +kernel⟩
theorem ok_Count_number {ad : Ad} (T : Txt K mg ad) : FnOk P w K mg base CX0 1 ad.f_Count_number ad.fd_Count_number ["self"] (sp_Count_number K ad) := by
  refine T.F_Count_number.ok sc_Count_number (fun vs H Q E h => ?_) (fun cdv A outer s H vs Q E hr h => ?_)
  · obtain ⟨_, _, _, _, _, rfl, _⟩ := h
    rfl
  · obtain ⟨self_1, a_2, L_3, R0, r, rfl, OO, hb_a_2, hm, k⟩ := h
    unfold m_Count_number at hm
    obtain ⟨Hb, hHb⟩ : ∃ Hb : Hp, Hb = hsub H (L_3 ++ []) := ⟨_, rfl⟩
    obtain ⟨H0, hH0⟩ : ∃ H0 : Hp, H0 = Hb := ⟨Hb, rfl⟩
    have O : Own H0 H (L_3 ++ []) := by rw [hH0, hHb]; exact OO.startX
    have eR : Ex R0 Hb := by rw [hHb]; exact OO.subR
    rw [← hHb] at k
    have eB : Ex Hb H0 := by rw [hH0]; exact Ex.refl _
    have eS : Ex R0 (ovr R0 Hb H0) := by rw [hH0]; exact ovr_start eR
    replace hb_a_2 := (mo_Count ad) _ _ _ _ _ eS hb_a_2
    clear hH0 hHb
    refine ⟨_, (pss_one (ps_ret (pe_fld (pv 0) rfl))), ?_⟩
    obtain ⟨dx_4, rfl⟩ := hb_a_2
    replace O : Own H0 H [(a_2, .ins ad.c_Count dx_4 [("tally", .int self_1.tally)]), (dx_4, .own a_2)] := Own.cv O (by simp only [List.flatten_cons, List.flatten_nil, List.cons_append, List.nil_append, List.append_nil, List.append_assoc])
    -- 27
    refine o_ret ?_
    refine ⟨_, rfl, a_2, ad.c_Count, dx_4, [("tally", .int self_1.tally)], (.int self_1.tally), rfl, (O.mem (List.Mem.head _)), T.C_Count, T.N_Count_tally, lk_hit, ?_⟩
    obtain rfl := Option.some.inj hm
    exact k _ H H0 (((a_2, .ins ad.c_Count dx_4 [("tally", .int self_1.tally)]) :: (dx_4, .own a_2) :: []) ++ []) eB (Own.cv O (by simp only [List.flatten_cons, List.flatten_nil, List.cons_append, List.nil_append, List.append_nil, List.append_assoc])) ⟨_, _, rfl, ⟨dx_4, rfl⟩, ⟨rfl, rfl⟩⟩
def m__law_looked (count_1 : S_Count) (due_4 : Int) (turned_5 : Bool) : Option (Bool) :=
  bnd (ifB turned_5 (
    bnd (m_Count_is_off count_1) fun is_off_9 =>
    bnd (m_Count_is_quiet count_1) fun is_qui_15 =>
    bnd (m_Count_number count_1) fun number_21 =>
    some (is_off_9, is_qui_15, number_21)) (
    bnd (m_Count_number count_1) fun number_27 =>
    bnd (m_Count_is_quiet count_1) fun is_qui_33 =>
    bnd (m_Count_is_off count_1) fun is_off_39 =>
    some (is_off_39, is_qui_33, number_27))) fun (off_48, quiet_49, number_50) =>
  ifB ((!true) || (false || (!decide (number_50 = due_4)))) (
    some false) (
    ifB ((!true) || (!true)) (
      some false) (
      some ((decide (quiet_49 = decide ((12 : Int) ≤ due_4))) && (decide (off_48 = decide ((18 : Int) ≤ due_4))))))
def sp__law_looked (K : PySem.W.Frag) (ad : Ad) : Sp := fun vs H Q _ => ∃ (count_1 : S_Count) (a_2 : Addr) (L_3 : List Cell) (due_4 : Int) (turned_5 : Bool) (R0 : Hp) (r : Bool), vs = [.ref a_2, .int due_4, .bl turned_5] ∧ Own R0 H (L_3 ++ []) ∧ (o_Count ad) R0 a_2 L_3 count_1 ∧ m__law_looked count_1 due_4 turned_5 = some r ∧ RetX R0 (hsub H (L_3 ++ [])) (dX (o_Count ad) a_2 count_1 (dV (.bl r))) Q
abbrev N__law_looked : List Str := ["count", "due", "turned", "off", "quiet", "number"]
theorem sc__law_looked : FnScope N__law_looked ["count", "due", "turned"] (defScope s__law_looked) := ⟨rfl, rfl, rfl, by decide +kernel, rfl, by decide +kernel, by decide +kernel⟩
theorem ok__law_looked {ad : Ad} (T : Txt K mg ad) : FnOk P w K mg base CX0 2 ad.f__law_looked ad.fd__law_looked ["count", "due", "turned"] (sp__law_looked K ad) := by
  have G_Count_is_off := ok_Count_is_off (P := P) (w := w) (base := base) T
  have G_Count_is_quiet := ok_Count_is_quiet (P := P) (w := w) (base := base) T
  have G_Count_number := ok_Count_number (P := P) (w := w) (base := base) T
  refine T.F__law_looked.ok sc__law_looked (fun vs H Q E h => ?_) (fun cdv A outer s H vs Q E hr h => ?_)
  · obtain ⟨_, _, _, _, _, _, _, rfl, _⟩ := h
    rfl
  · obtain ⟨count_1, a_2, L_3, due_4, turned_5, R0, r, rfl, OO, hb_a_2, hm, k⟩ := h
    unfold m__law_looked at hm
    obtain ⟨Hb, hHb⟩ : ∃ Hb : Hp, Hb = hsub H (L_3 ++ []) := ⟨_, rfl⟩
    obtain ⟨H0, hH0⟩ : ∃ H0 : Hp, H0 = Hb := ⟨Hb, rfl⟩
    have O : Own H0 H (L_3 ++ []) := by rw [hH0, hHb]; exact OO.startX
    have eR : Ex R0 Hb := by rw [hHb]; exact OO.subR
    rw [← hHb] at k
    have eB : Ex Hb H0 := by rw [hH0]; exact Ex.refl _
    have eS : Ex R0 (ovr R0 Hb H0) := by rw [hH0]; exact ovr_start eR
    replace hb_a_2 := (mo_Count ad) _ _ _ _ _ eS hb_a_2
    clear hH0 hHb
    refine ⟨_, (Evl.pss_cut (ps_if (pt_val (pv 2)) (pss_cons (ps_set (i := 3) sc__law_looked.nd rfl (Or.inl rfl) (pe_meth0 (pv 0) T.C_Count T.M_Count_is_off G_Count_is_off (hr.mono (by decide)) T.b_Count_is_off .nil pass0)) (pss_cons (ps_set (i := 4) sc__law_looked.nd rfl (Or.inl rfl) (pe_meth0 (pv 0) T.C_Count T.M_Count_is_quiet G_Count_is_quiet (hr.mono (by decide)) T.b_Count_is_quiet .nil pass0)) (pss_one (ps_set (i := 5) sc__law_looked.nd rfl (Or.inl rfl) (pe_meth0 (pv 0) T.C_Count T.M_Count_number G_Count_number (hr.mono (by decide)) T.b_Count_number .nil pass0))))) (pss_cons (ps_set (i := 5) sc__law_looked.nd rfl (Or.inl rfl) (pe_meth0 (pv 0) T.C_Count T.M_Count_number G_Count_number (hr.mono (by decide)) T.b_Count_number .nil pass0)) (pss_cons (ps_set (i := 4) sc__law_looked.nd rfl (Or.inl rfl) (pe_meth0 (pv 0) T.C_Count T.M_Count_is_quiet G_Count_is_quiet (hr.mono (by decide)) T.b_Count_is_quiet .nil pass0)) (pss_one (ps_set (i := 3) sc__law_looked.nd rfl (Or.inl rfl) (pe_meth0 (pv 0) T.C_Count T.M_Count_is_off G_Count_is_off (hr.mono (by decide)) T.b_Count_is_off .nil pass0)))))) (pss_cons (ps_if (PW.pt (pw_or (pt_not (pt_val (pe_callB (r := rIsi K) call_isi (by rfl) T.z_isinstance (by decide +kernel) (pa_cons (pv 5) (pa_cons (pe_bltn (v := V.ty "int") (u := .type "int") (by rfl) T.z_int (by decide +kernel) rfl) pa_nil))))) (pw_or (pt_val (pe_callB (r := rIsi K) call_isi (by rfl) T.z_isinstance (by decide +kernel) (pa_cons (pv 5) (pa_cons (pe_bltn (v := V.ty "bool") (u := .type "bool") (by rfl) T.z_bool (by decide +kernel) rfl) pa_nil)))) (pw_or1 (pt_cmpR op_ne (pv 5) (pv 1) (nomark _)))))) (pss_one (ps_ret pe_bl)) pss_nil) (pss_cons (ps_if (PW.pt (pw_or (pt_not (pt_val (pe_callB (r := rIsi K) call_isi (by rfl) T.z_isinstance (by decide +kernel) (pa_cons (pv 4) (pa_cons (pe_bltn (v := V.ty "bool") (u := .type "bool") (by rfl) T.z_bool (by decide +kernel) rfl) pa_nil))))) (pw_or1 (pt_not (pt_val (pe_callB (r := rIsi K) call_isi (by rfl) T.z_isinstance (by decide +kernel) (pa_cons (pv 3) (pa_cons (pe_bltn (v := V.ty "bool") (u := .type "bool") (by rfl) T.z_bool (by decide +kernel) rfl) pa_nil)))))))) (pss_one (ps_ret pe_bl)) pss_nil) (pss_one (ps_ret (pe_and (pe_cmpR op_eq (pv 4) (pe_cmpR op_ge (pv 1) pe_int (nomark _)) (nomark _)) (pe_one (pe_cmpR op_eq (pv 3) (pe_cmpR op_ge (pv 1) pe_int (nomark _)) (nomark _))))))))), ?_⟩
    obtain ⟨dx_6, rfl⟩ := hb_a_2
    replace O : Own H0 H [(a_2, .ins ad.c_Count dx_6 [("tally", .int count_1.tally)]), (dx_6, .own a_2)] := Own.cv O (by simp only [List.flatten_cons, List.flatten_nil, List.cons_append, List.nil_append, List.append_nil, List.append_assoc])
    -- 40
    obtain ⟨⟨off_48, quiet_49, number_50⟩, h8, hm⟩ := bndE hm
    refine o_cut (fun σ H => ∃ (R_ : Hp) (B_45 : List Cell) (j_47 : Option V), σ = [some (.ref a_2), some (.int due_4), j_47, some (.bl off_48), some (.bl quiet_49), some (.int number_50)] ∧ Ex H0 R_ ∧ Own R_ H (B_45 ++ []) ∧ (o_Count ad) (ovr R0 Hb R_) a_2 B_45 count_1) ?_ ?_
    · refine o_ifs ?_
      refine ⟨_, rfl, _, rfl, ?_⟩
      refine iteS (c := turned_5) (fun h7 => ?_) (fun h7 => ?_)
      · have eJ8 : Ex H0 H0 := Ex.refl _
        replace hm := ifT h8 h7
        -- 41
        refine o_seq ?_
        refine o_asg ?_
        refine ⟨_, rfl, a_2, dx_6, [("tally", .int count_1.tally)], rfl, (O.mem (List.Mem.head _)), (lk_skip (by decide) lk_nil), ?_⟩
        refine x_nil ?_
        obtain ⟨is_off_9, h10, hm⟩ := bndE hm
        have Oc : Own H0 H ((((a_2, .ins ad.c_Count dx_6 [("tally", .int count_1.tally)]) :: (dx_6, .own a_2) :: []) ++ []) ++ []) := Own.cv O (by simp only [List.flatten_cons, List.flatten_nil, List.cons_append, List.nil_append, List.append_nil, List.append_assoc])
        refine ⟨count_1, a_2, ((a_2, .ins ad.c_Count dx_6 [("tally", .int count_1.tally)]) :: (dx_6, .own a_2) :: []), ovr R0 Hb H0, is_off_9, rfl, (Own.shrink Oc.left ovr_ex), ⟨dx_6, rfl⟩, h10, ?_⟩
        refine Oc.retXO (mdX (mo_Count ad) mdV) eB fun v_ H H0 L_ O e_ d_ => ?_
        replace eB := eB.trans e_
        replace eJ8 := eJ8.trans e_
        obtain ⟨L_11, L_13, rfl, h12, ⟨rfl, rfl⟩⟩ := d_
        obtain ⟨dx_14, rfl⟩ := h12
        replace O : Own H0 H [(a_2, .ins ad.c_Count dx_14 [("tally", .int count_1.tally)]), (dx_14, .own a_2)] := Own.cv O (by simp only [List.flatten_cons, List.flatten_nil, List.cons_append, List.nil_append, List.append_nil, List.append_assoc])
        -- 42
        refine o_seq ?_
        refine o_asg ?_
        refine ⟨_, rfl, a_2, dx_14, [("tally", .int count_1.tally)], rfl, (O.mem (List.Mem.head _)), (lk_skip (by decide) lk_nil), ?_⟩
        refine x_nil ?_
        obtain ⟨is_qui_15, h16, hm⟩ := bndE hm
        have Oc : Own H0 H ((((a_2, .ins ad.c_Count dx_14 [("tally", .int count_1.tally)]) :: (dx_14, .own a_2) :: []) ++ []) ++ []) := Own.cv O (by simp only [List.flatten_cons, List.flatten_nil, List.cons_append, List.nil_append, List.append_nil, List.append_assoc])
        refine ⟨count_1, a_2, ((a_2, .ins ad.c_Count dx_14 [("tally", .int count_1.tally)]) :: (dx_14, .own a_2) :: []), ovr R0 Hb H0, is_qui_15, rfl, (Own.shrink Oc.left ovr_ex), ⟨dx_14, rfl⟩, h16, ?_⟩
        refine Oc.retXO (mdX (mo_Count ad) mdV) eB fun v_ H H0 L_ O e_ d_ => ?_
        replace eB := eB.trans e_
        replace eJ8 := eJ8.trans e_
        obtain ⟨L_17, L_19, rfl, h18, ⟨rfl, rfl⟩⟩ := d_
        obtain ⟨dx_20, rfl⟩ := h18
        replace O : Own H0 H [(a_2, .ins ad.c_Count dx_20 [("tally", .int count_1.tally)]), (dx_20, .own a_2)] := Own.cv O (by simp only [List.flatten_cons, List.flatten_nil, List.cons_append, List.nil_append, List.append_nil, List.append_assoc])
        -- 43
        refine o_asg ?_
        refine ⟨_, rfl, a_2, dx_20, [("tally", .int count_1.tally)], rfl, (O.mem (List.Mem.head _)), (lk_skip (by decide) lk_nil), ?_⟩
        refine x_nil ?_
        obtain ⟨number_21, h22, hm⟩ := bndE hm
        have Oc : Own H0 H ((((a_2, .ins ad.c_Count dx_20 [("tally", .int count_1.tally)]) :: (dx_20, .own a_2) :: []) ++ []) ++ []) := Own.cv O (by simp only [List.flatten_cons, List.flatten_nil, List.cons_append, List.nil_append, List.append_nil, List.append_assoc])
        refine ⟨count_1, a_2, ((a_2, .ins ad.c_Count dx_20 [("tally", .int count_1.tally)]) :: (dx_20, .own a_2) :: []), ovr R0 Hb H0, number_21, rfl, (Own.shrink Oc.left ovr_ex), ⟨dx_20, rfl⟩, h22, ?_⟩
        refine Oc.retXO (mdX (mo_Count ad) mdV) eB fun v_ H H0 L_ O e_ d_ => ?_
        replace eB := eB.trans e_
        replace eJ8 := eJ8.trans e_
        obtain ⟨L_23, L_25, rfl, h24, ⟨rfl, rfl⟩⟩ := d_
        obtain ⟨dx_26, rfl⟩ := h24
        replace O : Own H0 H [(a_2, .ins ad.c_Count dx_26 [("tally", .int count_1.tally)]), (dx_26, .own a_2)] := Own.cv O (by simp only [List.flatten_cons, List.flatten_nil, List.cons_append, List.nil_append, List.append_nil, List.append_assoc])
        have Oz := O
        cases Option.some.inj hm
        exact ⟨H0, ((a_2, .ins ad.c_Count dx_26 [("tally", .int count_1.tally)]) :: (dx_26, .own a_2) :: []), _, rfl, eJ8, (Own.cv Oz (by simp only [List.flatten_cons, List.flatten_nil, List.cons_append, List.nil_append, List.append_nil, List.append_assoc])), ⟨dx_26, rfl⟩⟩
      · have eJ8 : Ex H0 H0 := Ex.refl _
        replace hm := ifF h8 h7
        -- 45
        refine o_seq ?_
        refine o_asg ?_
        refine ⟨_, rfl, a_2, dx_6, [("tally", .int count_1.tally)], rfl, (O.mem (List.Mem.head _)), (lk_skip (by decide) lk_nil), ?_⟩
        refine x_nil ?_
        obtain ⟨number_27, h28, hm⟩ := bndE hm
        have Oc : Own H0 H ((((a_2, .ins ad.c_Count dx_6 [("tally", .int count_1.tally)]) :: (dx_6, .own a_2) :: []) ++ []) ++ []) := Own.cv O (by simp only [List.flatten_cons, List.flatten_nil, List.cons_append, List.nil_append, List.append_nil, List.append_assoc])
        refine ⟨count_1, a_2, ((a_2, .ins ad.c_Count dx_6 [("tally", .int count_1.tally)]) :: (dx_6, .own a_2) :: []), ovr R0 Hb H0, number_27, rfl, (Own.shrink Oc.left ovr_ex), ⟨dx_6, rfl⟩, h28, ?_⟩
        refine Oc.retXO (mdX (mo_Count ad) mdV) eB fun v_ H H0 L_ O e_ d_ => ?_
        replace eB := eB.trans e_
        replace eJ8 := eJ8.trans e_
        obtain ⟨L_29, L_31, rfl, h30, ⟨rfl, rfl⟩⟩ := d_
        obtain ⟨dx_32, rfl⟩ := h30
        replace O : Own H0 H [(a_2, .ins ad.c_Count dx_32 [("tally", .int count_1.tally)]), (dx_32, .own a_2)] := Own.cv O (by simp only [List.flatten_cons, List.flatten_nil, List.cons_append, List.nil_append, List.append_nil, List.append_assoc])
        -- 46
        refine o_seq ?_
        refine o_asg ?_
        refine ⟨_, rfl, a_2, dx_32, [("tally", .int count_1.tally)], rfl, (O.mem (List.Mem.head _)), (lk_skip (by decide) lk_nil), ?_⟩
        refine x_nil ?_
        obtain ⟨is_qui_33, h34, hm⟩ := bndE hm
        have Oc : Own H0 H ((((a_2, .ins ad.c_Count dx_32 [("tally", .int count_1.tally)]) :: (dx_32, .own a_2) :: []) ++ []) ++ []) := Own.cv O (by simp only [List.flatten_cons, List.flatten_nil, List.cons_append, List.nil_append, List.append_nil, List.append_assoc])
        refine ⟨count_1, a_2, ((a_2, .ins ad.c_Count dx_32 [("tally", .int count_1.tally)]) :: (dx_32, .own a_2) :: []), ovr R0 Hb H0, is_qui_33, rfl, (Own.shrink Oc.left ovr_ex), ⟨dx_32, rfl⟩, h34, ?_⟩
        refine Oc.retXO (mdX (mo_Count ad) mdV) eB fun v_ H H0 L_ O e_ d_ => ?_
        replace eB := eB.trans e_
        replace eJ8 := eJ8.trans e_
        obtain ⟨L_35, L_37, rfl, h36, ⟨rfl, rfl⟩⟩ := d_
        obtain ⟨dx_38, rfl⟩ := h36
        replace O : Own H0 H [(a_2, .ins ad.c_Count dx_38 [("tally", .int count_1.tally)]), (dx_38, .own a_2)] := Own.cv O (by simp only [List.flatten_cons, List.flatten_nil, List.cons_append, List.nil_append, List.append_nil, List.append_assoc])
        -- 47
        refine o_asg ?_
        refine ⟨_, rfl, a_2, dx_38, [("tally", .int count_1.tally)], rfl, (O.mem (List.Mem.head _)), (lk_skip (by decide) lk_nil), ?_⟩
        refine x_nil ?_
        obtain ⟨is_off_39, h40, hm⟩ := bndE hm
        have Oc : Own H0 H ((((a_2, .ins ad.c_Count dx_38 [("tally", .int count_1.tally)]) :: (dx_38, .own a_2) :: []) ++ []) ++ []) := Own.cv O (by simp only [List.flatten_cons, List.flatten_nil, List.cons_append, List.nil_append, List.append_nil, List.append_assoc])
        refine ⟨count_1, a_2, ((a_2, .ins ad.c_Count dx_38 [("tally", .int count_1.tally)]) :: (dx_38, .own a_2) :: []), ovr R0 Hb H0, is_off_39, rfl, (Own.shrink Oc.left ovr_ex), ⟨dx_38, rfl⟩, h40, ?_⟩
        refine Oc.retXO (mdX (mo_Count ad) mdV) eB fun v_ H H0 L_ O e_ d_ => ?_
        replace eB := eB.trans e_
        replace eJ8 := eJ8.trans e_
        obtain ⟨L_41, L_43, rfl, h42, ⟨rfl, rfl⟩⟩ := d_
        obtain ⟨dx_44, rfl⟩ := h42
        replace O : Own H0 H [(a_2, .ins ad.c_Count dx_44 [("tally", .int count_1.tally)]), (dx_44, .own a_2)] := Own.cv O (by simp only [List.flatten_cons, List.flatten_nil, List.cons_append, List.nil_append, List.append_nil, List.append_assoc])
        have Oz := O
        cases Option.some.inj hm
        exact ⟨H0, ((a_2, .ins ad.c_Count dx_44 [("tally", .int count_1.tally)]) :: (dx_44, .own a_2) :: []), _, rfl, eJ8, (Own.cv Oz (by simp only [List.flatten_cons, List.flatten_nil, List.cons_append, List.nil_append, List.append_nil, List.append_assoc])), ⟨dx_44, rfl⟩⟩
    rintro σ H ⟨H0, B_45, j_47, rfl, eJ_, O, h46⟩
    replace eB := eB.trans eJ_
    obtain ⟨dx_51, rfl⟩ := h46
    replace O : Own H0 H [(a_2, .ins ad.c_Count dx_51 [("tally", .int count_1.tally)]), (dx_51, .own a_2)] := Own.cv O (by simp only [List.flatten_cons, List.flatten_nil, List.cons_append, List.nil_append, List.append_nil, List.append_assoc])
    -- 48
    refine o_seq ?_
    refine o_ifs ?_
    refine x_or (c := (!true)) (e := (false || (!decide (number_50 = due_4)))) (d := ((!true) || (false || (!decide (number_50 = due_4))))) O (fun Q1 k1 => ?_) (fun h52 => ⟨by rw [h52]; rfl, fun H O Q2 k2 => ?_⟩) (fun h52 => by rw [h52]; rfl) (fun H O => ?_)
    · refine ⟨_, rfl, _, _, _, _, true, rfl, .ty _, .base (.int _), kit_ty (by decide +kernel), _, rfl, ?_⟩
      exact k1 _ O
    · refine x_or (c := false) (e := (!decide (number_50 = due_4))) (d := (false || (!decide (number_50 = due_4)))) O (fun Q1 k1 => ?_) (fun h53 => ⟨by rw [h53]; rfl, fun H O Q2 k2 => ?_⟩) (fun h53 => by rw [h53]; rfl) (fun H O => ?_)
      · refine ⟨_, rfl, _, _, _, _, false, rfl, .ty _, .base (.int _), kit_ty (by decide +kernel), _, rfl, ?_⟩
        exact k1 _ O
      · refine ⟨_, rfl, _, rfl, ?_⟩
        refine k_neI ?_
        refine ⟨_, rfl, ?_⟩
        exact k2 _ O
      exact k2 _ O
    refine iteS (c := ((!true) || (false || (!decide (number_50 = due_4))))) (fun h54 => ?_) (fun h54 => ?_)
    · replace hm := ifT hm h54
      -- 49
      refine o_ret ?_
      refine o_c ?_
      obtain rfl := Option.some.inj hm
      exact k _ H H0 (((a_2, .ins ad.c_Count dx_51 [("tally", .int count_1.tally)]) :: (dx_51, .own a_2) :: []) ++ []) eB (Own.cv O (by simp only [List.flatten_cons, List.flatten_nil, List.cons_append, List.nil_append, List.append_nil, List.append_assoc])) ⟨_, _, rfl, ⟨dx_51, rfl⟩, ⟨rfl, rfl⟩⟩
    · replace hm := ifF hm h54
      refine o_next ?_
      -- 50
      refine o_seq ?_
      refine o_ifs ?_
      refine x_or (c := (!true)) (e := (!true)) (d := ((!true) || (!true))) O (fun Q1 k1 => ?_) (fun h55 => ⟨by rw [h55]; rfl, fun H O Q2 k2 => ?_⟩) (fun h55 => by rw [h55]; rfl) (fun H O => ?_)
      · refine ⟨_, rfl, _, _, _, _, true, rfl, .ty _, .base (.bl _), kit_ty (by decide +kernel), _, rfl, ?_⟩
        exact k1 _ O
      · refine ⟨_, rfl, _, _, _, _, true, rfl, .ty _, .base (.bl _), kit_ty (by decide +kernel), _, rfl, ?_⟩
        exact k2 _ O
      refine iteS (c := ((!true) || (!true))) (fun h56 => ?_) (fun h56 => ?_)
      · replace hm := ifT hm h56
        -- 51
        refine o_ret ?_
        refine o_c ?_
        obtain rfl := Option.some.inj hm
        exact k _ H H0 (((a_2, .ins ad.c_Count dx_51 [("tally", .int count_1.tally)]) :: (dx_51, .own a_2) :: []) ++ []) eB (Own.cv O (by simp only [List.flatten_cons, List.flatten_nil, List.cons_append, List.nil_append, List.append_nil, List.append_assoc])) ⟨_, _, rfl, ⟨dx_51, rfl⟩, ⟨rfl, rfl⟩⟩
      · replace hm := ifF hm h56
        refine o_next ?_
        -- 52
        refine o_ret ?_
        refine x_andV (c := (decide (quiet_49 = decide ((12 : Int) ≤ due_4)))) (e := (decide (off_48 = decide ((18 : Int) ≤ due_4)))) (d := ((decide (quiet_49 = decide ((12 : Int) ≤ due_4))) && (decide (off_48 = decide ((18 : Int) ≤ due_4))))) O (fun Q1 k1 => ?_) (fun h57 => ⟨by rw [h57]; rfl, fun H O Q2 k2 => ?_⟩) (fun h57 => by rw [h57]; rfl) (fun H O => ?_)
        · refine ⟨_, rfl, _, rfl, _, _, rfl, rfl, ?_⟩
          refine k_eqB ?_
          exact k1 _ O
        · refine ⟨_, rfl, _, rfl, _, _, rfl, rfl, ?_⟩
          refine k_eqB ?_
          exact k2 _ O
        obtain rfl := Option.some.inj hm
        exact k _ H H0 (((a_2, .ins ad.c_Count dx_51 [("tally", .int count_1.tally)]) :: (dx_51, .own a_2) :: []) ++ []) eB (Own.cv O (by simp only [List.flatten_cons, List.flatten_nil, List.cons_append, List.nil_append, List.append_nil, List.append_assoc])) ⟨_, _, rfl, ⟨dx_51, rfl⟩, ⟨rfl, rfl⟩⟩
def m_law_L1 (script_1 : List Int) (k_42 : Int) (counts_29 : List S_Count) (dues_32 : List Int) (side_54 : Int) : Option (Fl (Unit) (Bool)) :=
  bnd (atI counts_29 side_54) fun o_56 =>
  bnd (atI dues_32 side_54) fun e_64 =>
  bnd (m__law_draw script_1 (((3 : Int) * k_42) + (1 : Int)) (2 : Int)) fun law_dr_66 =>
  bnd (m__law_looked o_56 e_64 (decide (law_dr_66 = side_54))) fun law_lo_68 =>
  ifB (!law_lo_68) (
    some (.rt false)) (
    some (.nx ()))
def m_law_L0 (script_1 : List Int) (e_9 : List Int) (k_42 : Int) (counts_29 : List S_Count) (dues_32 : List Int) : Option (Fl ((List S_Count) × (List Int)) (Bool)) :=
  bnd (rng1 (2 : Int)) fun rg_44 =>
  flo (loopF (fun side_54 (_ : Unit) => m_law_L1 script_1 k_42 counts_29 dues_32 side_54) rg_44 ()) fun _ =>
  bnd (m__law_draw script_1 (((3 : Int) * k_42) + (2 : Int)) (2 : Int)) fun law_dr_75 =>
  bnd (m__law_draw script_1 (((3 : Int) * k_42) + (3 : Int)) (List.length e_9 : Int)) fun law_dr_77 =>
  bnd (atI e_9 law_dr_77) fun e_79 =>
  bnd (atI counts_29 law_dr_75) fun o_81 =>
  bnd (m__law_deed o_81 e_79) fun count_89 =>
  bnd (setG counts_29 law_dr_75 count_89) fun ys_95 =>
  bnd (atI dues_32 law_dr_75) fun e_97 =>
  bnd (m__law_behind e_97 e_79) fun law_be_99 =>
  bnd (setG dues_32 law_dr_75 law_be_99) fun l_101 =>
  some (.nx (ys_95, l_101))
def m_law (script_1 : List Int) : Option (Bool) :=
  bnd (m__law_draw script_1 (0 : Int) (3 : Int)) fun law_dr_7 =>
  bnd (atI ([[(0 : Int), (1 : Int), (2 : Int), (3 : Int)], [(1 : Int), (1 : Int), (1 : Int), (3 : Int)], [(0 : Int), (1 : Int), (1 : Int), (2 : Int), (3 : Int), (3 : Int), (3 : Int), (3 : Int), (3 : Int), (3 : Int), (3 : Int), (3 : Int)]]) law_dr_7) fun e_9 =>
  bnd (m_Count_init ) fun count_14 =>
  bnd (m_Count_init ) fun count_20 =>
  bnd (rng1 (80 : Int)) fun rg_27 =>
  fin (loopF (fun k_42 s => m_law_L0 script_1 e_9 k_42 s.1 s.2) rg_27 ([count_14, count_20], [(0 : Int), (0 : Int)])) fun (counts_29, dues_32) =>
  bnd (atI counts_29 (0 : Int)) fun o_106 =>
  bnd (atI dues_32 (0 : Int)) fun e_114 =>
  bnd (m__law_looked o_106 e_114 false) fun law_lo_116 =>
  bnd (ifB law_lo_116 (bnd (atI counts_29 (1 : Int)) fun o_122 =>
  bnd (atI dues_32 (1 : Int)) fun e_130 =>
  bnd (m__law_looked o_122 e_130 true) fun law_lo_132 => some law_lo_132) (some false)) fun c_138 =>
  some c_138
def sp_law (K : PySem.W.Frag) : Sp := fun vs H Q _ => ∃ (script_1 : List Int) (a_2 : Addr) (r : Bool), vs = [.ref a_2] ∧ SqL K H a_2 (List.map V.int script_1) ∧ m_law script_1 = some r ∧ RetV (.bl r) H Q
abbrev N_law : List Str := ["script", "ways", "counts", "dues", "k", "side", "at", "way"]
theorem sc_law : FnScope N_law ["script"] (defScope s_law) := ⟨rfl, rfl, rfl, by decide +kernel, rfl, by decide +kernel, by decide +kernel⟩
theorem ok_law {ad : Ad} (T : Txt K mg ad) : FnOk P w K mg base CX0 4 ad.f_law ad.fd_law ["script"] (sp_law K) := by
  have G_Count_init := ok_Count_init (P := P) (w := w) (base := base) T
  have G__law_behind := ok__law_behind (P := P) (w := w) (base := base) T
  have G__law_deed := ok__law_deed (P := P) (w := w) (base := base) T
  have G__law_draw := ok__law_draw (P := P) (w := w) (base := base) T
  have G__law_looked := ok__law_looked (P := P) (w := w) (base := base) T
  refine T.F_law.ok sc_law (fun vs H Q E h => ?_) (fun cdv A outer s H vs Q E hr h => ?_)
  · obtain ⟨_, _, _, rfl, _⟩ := h
    rfl
  · obtain ⟨script_1, a_2, r, rfl, hp_a_2, hm, k⟩ := h
    unfold m_law at hm
    obtain ⟨H0, hH0⟩ : ∃ H0 : Hp, H0 = H := ⟨H, rfl⟩
    have O : Own H0 H [] := by rw [hH0]; exact Own.start H
    rw [← hH0] at k hp_a_2
    clear hH0
    have eB : Ex H0 H0 := Ex.refl _
    refine ⟨_, (pss_cons (ps_set (i := 1) sc_law.nd rfl (Or.inl rfl) (pe_ix (r := rIxL K) ix_list (pe_lstQ (pe_lst (pa_cons (pe_lstQ (pe_lst (pa_cons pe_int (pa_cons pe_int (pa_cons pe_int (pa_cons pe_int pa_nil)))))) (pa_cons (pe_lstQ (pe_lst (pa_cons pe_int (pa_cons pe_int (pa_cons pe_int (pa_cons pe_int pa_nil)))))) (pa_cons (pe_lstQ (pe_lst (pa_cons pe_int (pa_cons pe_int (pa_cons pe_int (pa_cons pe_int (pa_cons pe_int (pa_cons pe_int (pa_cons pe_int (pa_cons pe_int (pa_cons pe_int (pa_cons pe_int (pa_cons pe_int (pa_cons pe_int pa_nil)))))))))))))) pa_nil))))) (pe_call G__law_draw (hr.mono (by decide)) (by rfl) T.g__law_draw T.F__law_draw.kp T.b__law_draw .nil pass0 (pa_cons (pv 0) (pa_cons pe_int (pa_cons pe_int pa_nil)))) (fun _ _ => rfl))) (pss_cons (ps_set (i := 2) sc_law.nd rfl (Or.inl rfl) (pe_lstQ (pe_lst (pa_cons (pe_make0 T.K_Count G_Count_init (hr.mono (by decide)) (by rfl) T.k_Count T.b_Count_init .nil pass0) (pa_cons (pe_make0 T.K_Count G_Count_init (hr.mono (by decide)) (by rfl) T.k_Count T.b_Count_init .nil pass0) pa_nil))))) (pss_cons (ps_set (i := 3) sc_law.nd rfl (Or.inl rfl) (pe_lstQ (pe_lst (pa_cons pe_int (pa_cons pe_int pa_nil))))) (pss_cons (ps_for PassesOwn.never rfl (pi_range1 (by rfl) T.z_range (pa_cons pe_int pa_nil)) (pg_name (i := 4) sc_law.nd rfl (Or.inl rfl)) (pss_cons (ps_for PassesOwn.never rfl (pi_range1 (by rfl) T.z_range (pa_cons pe_int pa_nil)) (pg_name (i := 5) sc_law.nd rfl (Or.inl rfl)) (pss_one (ps_if (pt_not (pt_val (pe_call G__law_looked (hr.mono (by decide)) (by rfl) T.g__law_looked T.F__law_looked.kp T.b__law_looked .nil pass0 (pa_cons (pe_ix (r := rIxL K) ix_list (pv 2) (pv 5) (fun _ _ => rfl)) (pa_cons (pe_ix (r := rIxL K) ix_list (pv 3) (pv 5) (fun _ _ => rfl)) (pa_cons (pe_cmpR op_eq (pe_call G__law_draw (hr.mono (by decide)) (by rfl) T.g__law_draw T.F__law_draw.kp T.b__law_draw .nil pass0 (pa_cons (pv 0) (pa_cons (pe_op op_add (pe_op op_mul pe_int (pv 4)) pe_int) (pa_cons pe_int pa_nil)))) (pv 5) (nomark _)) pa_nil)))))) (pss_one (ps_ret pe_bl)) pss_nil))) (pss_cons (ps_set (i := 6) sc_law.nd rfl (Or.inl rfl) (pe_call G__law_draw (hr.mono (by decide)) (by rfl) T.g__law_draw T.F__law_draw.kp T.b__law_draw .nil pass0 (pa_cons (pv 0) (pa_cons (pe_op op_add (pe_op op_mul pe_int (pv 4)) pe_int) (pa_cons pe_int pa_nil))))) (pss_cons (ps_set (i := 7) sc_law.nd rfl (Or.inl rfl) (pe_ix (r := rIxL K) ix_list (pv 1) (pe_call G__law_draw (hr.mono (by decide)) (by rfl) T.g__law_draw T.F__law_draw.kp T.b__law_draw .nil pass0 (pa_cons (pv 0) (pa_cons (pe_op op_add (pe_op op_mul pe_int (pv 4)) pe_int) (pa_cons (pe_callB (r := rLenQ K) call_lenQ (by rfl) T.z_len PySem.boot_len (pa_cons (pv 1) pa_nil)) pa_nil)))) (fun _ _ => rfl))) (pss_cons (ps_expr (pe_call G__law_deed (hr.mono (by decide)) (by rfl) T.g__law_deed T.F__law_deed.kp T.b__law_deed .nil pass0 (pa_cons (pe_ix (r := rIxL K) ix_list (pv 2) (pv 6) (fun _ _ => rfl)) (pa_cons (pv 7) pa_nil)))) (pss_one (ps_asg (pe_call G__law_behind (hr.mono (by decide)) (by rfl) T.g__law_behind T.F__law_behind.kp T.b__law_behind .nil pass0 (pa_cons (pe_ix (r := rIxL K) ix_list (pv 3) (pv 6) (fun _ _ => rfl)) (pa_cons (pv 7) pa_nil))) (pg_sub (pv 3) (pv 6) set_list)))))))) (pss_one (ps_ret (pe_and (pe_call G__law_looked (hr.mono (by decide)) (by rfl) T.g__law_looked T.F__law_looked.kp T.b__law_looked .nil pass0 (pa_cons (pe_ix (r := rIxL K) ix_list (pv 2) pe_int (fun _ _ => rfl)) (pa_cons (pe_ix (r := rIxL K) ix_list (pv 3) pe_int (fun _ _ => rfl)) (pa_cons pe_bl pa_nil)))) (pe_one (pe_call G__law_looked (hr.mono (by decide)) (by rfl) T.g__law_looked T.F__law_looked.kp T.b__law_looked .nil pass0 (pa_cons (pe_ix (r := rIxL K) ix_list (pv 2) pe_int (fun _ _ => rfl)) (pa_cons (pe_ix (r := rIxL K) ix_list (pv 3) pe_int (fun _ _ => rfl)) (pa_cons pe_bl pa_nil)))))))))))), ?_⟩
    -- 67
    refine o_seq ?_
    refine o_asg ?_
    refine o_op ?_
    refine o_cons ?_
    refine o_cons ?_
    refine o_c ?_
    refine o_cons ?_
    refine o_c ?_
    refine o_cons ?_
    refine o_c ?_
    refine o_cons ?_
    refine o_c ?_
    refine x_nil ?_
    refine n_lst (f := V.int) (xs := [(0 : Int), (1 : Int), (2 : Int), (3 : Int)]) O rfl (by show 4 ≤ sizeLine; decide) fun p_3 H O => ?_
    refine o_cons ?_
    refine o_cons ?_
    refine o_c ?_
    refine o_cons ?_
    refine o_c ?_
    refine o_cons ?_
    refine o_c ?_
    refine o_cons ?_
    refine o_c ?_
    refine x_nil ?_
    refine n_lst (f := V.int) (xs := [(1 : Int), (1 : Int), (1 : Int), (3 : Int)]) O rfl (by show 4 ≤ sizeLine; decide) fun p_4 H O => ?_
    refine o_cons ?_
    refine o_cons ?_
    refine o_c ?_
    refine o_cons ?_
    refine o_c ?_
    refine o_cons ?_
    refine o_c ?_
    refine o_cons ?_
    refine o_c ?_
    refine o_cons ?_
    refine o_c ?_
    refine o_cons ?_
    refine o_c ?_
    refine o_cons ?_
    refine o_c ?_
    refine o_cons ?_
    refine o_c ?_
    refine o_cons ?_
    refine o_c ?_
    refine o_cons ?_
    refine o_c ?_
    refine o_cons ?_
    refine o_c ?_
    refine o_cons ?_
    refine o_c ?_
    refine x_nil ?_
    refine n_lst (f := V.int) (xs := [(0 : Int), (1 : Int), (1 : Int), (2 : Int), (3 : Int), (3 : Int), (3 : Int), (3 : Int), (3 : Int), (3 : Int), (3 : Int), (3 : Int)]) O rfl (by show 12 ≤ sizeLine; decide) fun p_5 H O => ?_
    refine x_nil ?_
    refine n_lstV O (by show 3 ≤ sizeLine; decide) fun p_6 H O => ?_
    replace O := O.sel (L' := [(p_3, .lst (List.map V.int ([(0 : Int), (1 : Int), (2 : Int), (3 : Int)]))), (p_6, .lst [.ref p_3, .ref p_4, .ref p_5]), (p_5, .lst (List.map V.int ([(0 : Int), (1 : Int), (1 : Int), (2 : Int), (3 : Int), (3 : Int), (3 : Int), (3 : Int), (3 : Int), (3 : Int), (3 : Int), (3 : Int)]))), (p_4, .lst (List.map V.int ([(1 : Int), (1 : Int), (1 : Int), (3 : Int)])))]) [3, 0, 1, 2] (by decide) rfl
    obtain ⟨H0, O, e_, hp_p_3⟩ := O.frz
    replace hp_a_2 := e_.l hp_a_2
    replace eB := eB.trans e_
    replace O := O.sel (L' := [(p_4, .lst (List.map V.int ([(1 : Int), (1 : Int), (1 : Int), (3 : Int)]))), (p_6, .lst [.ref p_3, .ref p_4, .ref p_5]), (p_5, .lst (List.map V.int ([(0 : Int), (1 : Int), (1 : Int), (2 : Int), (3 : Int), (3 : Int), (3 : Int), (3 : Int), (3 : Int), (3 : Int), (3 : Int), (3 : Int)])))]) [2, 0, 1] (by decide) rfl
    obtain ⟨H0, O, e_, hp_p_4⟩ := O.frz
    replace hp_a_2 := e_.l hp_a_2
    replace hp_p_3 := e_ _ _ hp_p_3
    replace eB := eB.trans e_
    replace O := O.sel (L' := [(p_5, .lst (List.map V.int ([(0 : Int), (1 : Int), (1 : Int), (2 : Int), (3 : Int), (3 : Int), (3 : Int), (3 : Int), (3 : Int), (3 : Int), (3 : Int), (3 : Int)]))), (p_6, .lst [.ref p_3, .ref p_4, .ref p_5])]) [1, 0] (by decide) rfl
    obtain ⟨H0, O, e_, hp_p_5⟩ := O.frz
    replace hp_a_2 := e_.l hp_a_2
    replace hp_p_3 := e_ _ _ hp_p_3
    replace hp_p_4 := e_ _ _ hp_p_4
    replace eB := eB.trans e_
    obtain ⟨H0, O, e_, hp_p_6⟩ := O.frz
    replace hp_a_2 := e_.l hp_a_2
    replace hp_p_3 := e_ _ _ hp_p_3
    replace hp_p_4 := e_ _ _ hp_p_4
    replace hp_p_5 := e_ _ _ hp_p_5
    replace eB := eB.trans e_
    have hn_p_6 : (rL (rL rI)) (H0) (.ref p_6) ([[(0 : Int), (1 : Int), (2 : Int), (3 : Int)], [(1 : Int), (1 : Int), (1 : Int), (3 : Int)], [(0 : Int), (1 : Int), (1 : Int), (2 : Int), (3 : Int), (3 : Int), (3 : Int), (3 : Int), (3 : Int), (3 : Int), (3 : Int), (3 : Int)]]) := ⟨_, _, rfl, hp_p_6, (.cons (gI hp_p_3) (.cons (gI hp_p_4) (.cons (gI hp_p_5) .nil)))⟩
    obtain ⟨law_dr_7, h8, hm⟩ := bndE hm
    refine ⟨_, rfl, ?_⟩
    refine o_cons ?_
    refine o_c ?_
    refine o_cons ?_
    refine o_c ?_
    refine x_nil ?_
    refine ⟨_, _, _, _, law_dr_7, rfl, (O.ex.l hp_a_2), h8, ?_⟩
    refine O.retV fun H O => ?_
    obtain ⟨e_9, h10, hm⟩ := bndE hm
    refine k_ixN hn_p_6 O.ex h10 fun v_ hv_ => ?_
    obtain ⟨p_11, rfl, hp_p_11⟩ := fI hv_
    -- 68
    refine o_seq ?_
    refine o_asg ?_
    refine o_cons ?_
    refine o_make ?_
    refine x_nil ?_
    refine k_make O fun a_12 dx_13 H O => ?_
    obtain ⟨count_14, h15, hm⟩ := bndE hm
    have Oc : Own H0 H (((a_12, .ins ad.c_Count dx_13 []) :: (dx_13, .own a_12) :: []) ++ []) := Own.cv O (by simp only [List.flatten_cons, List.flatten_nil, List.cons_append, List.nil_append, List.append_nil, List.append_assoc])
    refine ⟨a_12, dx_13, H0, count_14, rfl, Oc.left, h15, ?_⟩
    refine Oc.retX (mdI (mo_Count ad)) fun v_ H H0 L_ O e_ d_ => ?_
    replace hp_a_2 := e_.l hp_a_2
    replace hp_p_3 := e_ _ _ hp_p_3
    replace hp_p_4 := e_ _ _ hp_p_4
    replace hp_p_5 := e_ _ _ hp_p_5
    replace hp_p_6 := e_ _ _ hp_p_6
    replace hn_p_6 := (mL (mL mI)) _ _ _ _ e_ hn_p_6
    replace hp_p_11 := e_ _ _ hp_p_11
    replace eB := eB.trans e_
    obtain ⟨rfl, h16⟩ := d_
    refine ⟨rfl, ?_⟩
    obtain ⟨dx_17, rfl⟩ := h16
    replace O : Own H0 H [(a_12, .ins ad.c_Count dx_17 [("tally", .int count_14.tally)]), (dx_17, .own a_12)] := Own.cv O (by simp only [List.flatten_cons, List.flatten_nil, List.cons_append, List.nil_append, List.append_nil, List.append_assoc])
    refine o_cons ?_
    refine o_make ?_
    refine x_nil ?_
    refine k_make O fun a_18 dx_19 H O => ?_
    obtain ⟨count_20, h21, hm⟩ := bndE hm
    have Oc : Own H0 H (((a_18, .ins ad.c_Count dx_19 []) :: (dx_19, .own a_18) :: []) ++ [(a_12, .ins ad.c_Count dx_17 [("tally", .int count_14.tally)]), (dx_17, .own a_12)]) := Own.cv O (by simp only [List.flatten_cons, List.flatten_nil, List.cons_append, List.nil_append, List.append_nil, List.append_assoc])
    refine ⟨a_18, dx_19, H0, count_20, rfl, Oc.left, h21, ?_⟩
    refine Oc.retX (mdI (mo_Count ad)) fun v_ H H0 L_ O e_ d_ => ?_
    replace hp_a_2 := e_.l hp_a_2
    replace hp_p_3 := e_ _ _ hp_p_3
    replace hp_p_4 := e_ _ _ hp_p_4
    replace hp_p_5 := e_ _ _ hp_p_5
    replace hp_p_6 := e_ _ _ hp_p_6
    replace hn_p_6 := (mL (mL mI)) _ _ _ _ e_ hn_p_6
    replace hp_p_11 := e_ _ _ hp_p_11
    replace eB := eB.trans e_
    obtain ⟨rfl, h22⟩ := d_
    refine ⟨rfl, ?_⟩
    obtain ⟨dx_23, rfl⟩ := h22
    replace O : Own H0 H [(a_18, .ins ad.c_Count dx_23 [("tally", .int count_20.tally)]), (dx_23, .own a_18), (a_12, .ins ad.c_Count dx_17 [("tally", .int count_14.tally)]), (dx_17, .own a_12)] := Own.cv O (by simp only [List.flatten_cons, List.flatten_nil, List.cons_append, List.nil_append, List.append_nil, List.append_assoc])
    refine x_nil ?_
    refine n_lstV O (by show 2 ≤ sizeLine; decide) fun p_24 H O => ?_
    have h25 : (oLs (o_Count ad)) (H0) p_24 ((p_24, .lst [.ref a_12, .ref a_18]) :: (((a_12, .ins ad.c_Count dx_17 [("tally", .int count_14.tally)]) :: (dx_17, .own a_12) :: []) ++ (((a_18, .ins ad.c_Count dx_23 [("tally", .int count_20.tally)]) :: (dx_23, .own a_18) :: []) ++ []))) [count_14, count_20] := ⟨[a_12, a_18], [((a_12, .ins ad.c_Count dx_17 [("tally", .int count_14.tally)]) :: (dx_17, .own a_12) :: []), ((a_18, .ins ad.c_Count dx_23 [("tally", .int count_20.tally)]) :: (dx_23, .own a_18) :: [])], List.Perm.refl _, (.cons ⟨dx_17, rfl⟩ (.cons ⟨dx_23, rfl⟩ .nil))⟩
    replace O := (O.sel (L' := [(p_24, .lst [.ref a_12, .ref a_18]), (a_12, .ins ad.c_Count dx_17 [("tally", .int count_14.tally)]), (dx_17, .own a_12), (a_18, .ins ad.c_Count dx_23 [("tally", .int count_20.tally)]), (dx_23, .own a_18)]) [0, 3, 4, 1, 2] (by decide) rfl)
    replace O := Own.cv (L' := (((p_24, .lst [.ref a_12, .ref a_18]) :: (((a_12, .ins ad.c_Count dx_17 [("tally", .int count_14.tally)]) :: (dx_17, .own a_12) :: []) ++ (((a_18, .ins ad.c_Count dx_23 [("tally", .int count_20.tally)]) :: (dx_23, .own a_18) :: []) ++ []))) ++ [])) O (by simp only [List.flatten_cons, List.flatten_nil, List.cons_append, List.nil_append, List.append_nil, List.append_assoc])
    -- 69
    refine o_seq ?_
    refine o_asg ?_
    refine o_cons ?_
    refine o_c ?_
    refine o_cons ?_
    refine o_c ?_
    refine x_nil ?_
    refine n_lst (f := V.int) (xs := [(0 : Int), (0 : Int)]) O rfl (by show 2 ≤ sizeLine; decide) fun p_26 H O => ?_
    -- 70
    refine o_seq ?_
    refine o_for ?_
    obtain ⟨rg_27, h28, hm⟩ := bndE hm
    refine o_ir1 ?_
    refine o_cons ?_
    refine o_c ?_
    refine x_nil ?_
    obtain ⟨c1, c2, rfl⟩ := rng1E h28
    obtain ⟨out_43, h39, h40⟩ := bndE hm
    refine ⟨_, rfl, c1, c2, q_forR (fun r σ H => ∃ (R_ : Hp) (counts_29 : List S_Count) (dues_32 : List Int) (B_30 : List Cell) (j_33 : Option V) (j_34 : Option V) (j_35 : Option V) (j_36 : Option V), σ = [some (.ref a_2), some (.ref p_11), some (.ref p_24), some (.ref p_26), j_33, j_34, j_35, j_36] ∧ Ex H0 R_ ∧ Own R_ H ((p_26, .lst (List.map V.int dues_32)) :: (B_30 ++ [])) ∧ (oLs (o_Count ad)) (R_) p_24 B_30 counts_29 ∧ loopF (fun k_42 s => m_law_L0 script_1 e_9 k_42 s.1 s.2) r (counts_29, dues_32) = some out_43) ⟨H0, _, _, ((p_24, .lst [.ref a_12, .ref a_18]) :: (((a_12, .ins ad.c_Count dx_17 [("tally", .int count_14.tally)]) :: (dx_17, .own a_12) :: []) ++ (((a_18, .ins ad.c_Count dx_23 [("tally", .int count_20.tally)]) :: (dx_23, .own a_18) :: []) ++ []))), _, _, _, _, rfl, Ex.refl _, (Own.cv (Own.cv (L' := ((p_26, .lst (List.map V.int ([(0 : Int), (0 : Int)]))) :: (((p_24, .lst [.ref a_12, .ref a_18]) :: (((a_12, .ins ad.c_Count dx_17 [("tally", .int count_14.tally)]) :: (dx_17, .own a_12) :: []) ++ (((a_18, .ins ad.c_Count dx_23 [("tally", .int count_20.tally)]) :: (dx_23, .own a_18) :: []) ++ []))) ++ []))) (Own.selB (Bs := [[(p_26, .lst (List.map V.int ([(0 : Int), (0 : Int)])))], ((p_24, .lst [.ref a_12, .ref a_18]) :: (((a_12, .ins ad.c_Count dx_17 [("tally", .int count_14.tally)]) :: (dx_17, .own a_12) :: []) ++ (((a_18, .ins ad.c_Count dx_23 [("tally", .int count_20.tally)]) :: (dx_23, .own a_18) :: []) ++ [])))]) (Bs' := [[(p_26, .lst (List.map V.int ([(0 : Int), (0 : Int)])))], ((p_24, .lst [.ref a_12, .ref a_18]) :: (((a_12, .ins ad.c_Count dx_17 [("tally", .int count_14.tally)]) :: (dx_17, .own a_12) :: []) ++ (((a_18, .ins ad.c_Count dx_23 [("tally", .int count_20.tally)]) :: (dx_23, .own a_18) :: []) ++ [])))]) (Own.cv O (by simp only [List.flatten_cons, List.flatten_nil, List.cons_append, List.nil_append, List.append_nil, List.append_assoc])) [0, 1] (by decide) rfl) (by simp only [List.flatten_cons, List.flatten_nil, List.cons_append, List.nil_append, List.append_nil, List.append_assoc])) (by simp only [List.flatten_cons, List.flatten_nil, List.cons_append, List.nil_append, List.append_nil, List.append_assoc])), h25, h39⟩ ?_ ?_⟩
    · rintro k_42 r σ H ⟨H0, counts_29, dues_32, B_30, j_33, j_34, j_35, j_36, rfl, eL43, O, h31, hL⟩
      replace hp_a_2 := eL43.l hp_a_2
      replace hp_p_11 := eL43 _ _ hp_p_11
      replace eB := eB.trans eL43
      obtain ⟨s_, hm, h41⟩ := loopF_cons hL
      replace hm : m_law_L0 script_1 e_9 k_42 counts_29 dues_32 = some s_ := hm
      unfold m_law_L0 at hm
      -- 71
      refine o_seq ?_
      refine o_for ?_
      obtain ⟨rg_44, h45, hm⟩ := bndE hm
      refine o_ir1 ?_
      refine o_cons ?_
      refine o_c ?_
      refine x_nil ?_
      obtain ⟨c1, c2, rfl⟩ := rng1E h45
      obtain ⟨out_55, h51, h52⟩ := bndE hm
      refine ⟨_, rfl, c1, c2, q_forR (fun r σ H => ∃ (R_ : Hp) (B_46 : List Cell) (j_48 : Option V) (j_49 : Option V) (j_50 : Option V), σ = [some (.ref a_2), some (.ref p_11), some (.ref p_24), some (.ref p_26), some (.int k_42), j_48, j_49, j_50] ∧ Ex H0 R_ ∧ Own R_ H ((p_26, .lst (List.map V.int dues_32)) :: (B_46 ++ [])) ∧ (oLs (o_Count ad)) (R_) p_24 B_46 counts_29 ∧ loopF (fun side_54 (_ : Unit) => m_law_L1 script_1 k_42 counts_29 dues_32 side_54) r () = some out_55) ⟨H0, B_30, _, _, _, rfl, Ex.refl _, (Own.cv (Own.cv (L' := ((p_26, .lst (List.map V.int dues_32)) :: (B_30 ++ []))) (Own.selB (Bs := [[(p_26, .lst (List.map V.int dues_32))], B_30]) (Bs' := [[(p_26, .lst (List.map V.int dues_32))], B_30]) (Own.cv O (by simp only [List.flatten_cons, List.flatten_nil, List.cons_append, List.nil_append, List.append_nil, List.append_assoc])) [0, 1] (by decide) rfl) (by simp only [List.flatten_cons, List.flatten_nil, List.cons_append, List.nil_append, List.append_nil, List.append_assoc])) (by simp only [List.flatten_cons, List.flatten_nil, List.cons_append, List.nil_append, List.append_nil, List.append_assoc])), h31, h51⟩ ?_ ?_⟩
      · rintro side_54 r σ H ⟨H0, B_46, j_48, j_49, j_50, rfl, eL55, O, h47, hL⟩
        replace hp_a_2 := eL55.l hp_a_2
        replace hp_p_11 := eL55 _ _ hp_p_11
        replace eB := eB.trans eL55
        replace eL43 := eL43.trans eL55
        obtain ⟨s_, hm, h53⟩ := loopF_cons hL
        replace hm : m_law_L1 script_1 k_42 counts_29 dues_32 side_54 = some s_ := hm
        unfold m_law_L1 at hm
        -- 72
        refine o_ifs ?_
        obtain ⟨o_56, h57, hm⟩ := bndE hm
        refine ⟨_, rfl, _, rfl, ?_⟩
        replace O := (Own.cv (L' := (B_46 ++ ((p_26, .lst (List.map V.int dues_32)) :: []))) (Own.selB (Bs := [[(p_26, .lst (List.map V.int dues_32))], B_46]) (Bs' := [B_46, [(p_26, .lst (List.map V.int dues_32))]]) (Own.cv O (by simp only [List.flatten_cons, List.flatten_nil, List.cons_append, List.nil_append, List.append_nil, List.append_assoc])) [1, 0] (by decide) rfl) (by simp only [List.flatten_cons, List.flatten_nil, List.cons_append, List.nil_append, List.append_nil, List.append_assoc]))
        obtain ⟨vs_, a_58, L_59, L_60, hl_, hat_, _, h61, O, h62, h63⟩ := Own.lsAt (A := []) (mo_Count ad) O h47 h57
        refine ⟨_, vs_, _, _, rfl, rfl, SqL.of hl_, hat_, ?_⟩
        replace O := Own.cv (L' := (L_59 ++ (L_60 ++ ((p_26, .lst (List.map V.int dues_32)) :: [])))) O (by simp only [List.flatten_cons, List.flatten_nil, List.cons_append, List.nil_append, List.append_nil, List.append_assoc])
        replace O := (Own.cv (L' := ((p_26, .lst (List.map V.int dues_32)) :: (L_59 ++ (L_60 ++ [])))) (Own.selB (Bs := [L_59, L_60, [(p_26, .lst (List.map V.int dues_32))]]) (Bs' := [[(p_26, .lst (List.map V.int dues_32))], L_59, L_60]) (Own.cv O (by simp only [List.flatten_cons, List.flatten_nil, List.cons_append, List.nil_append, List.append_nil, List.append_assoc])) [2, 0, 1] (by decide) rfl) (by simp only [List.flatten_cons, List.flatten_nil, List.cons_append, List.nil_append, List.append_nil, List.append_assoc]))
        obtain ⟨e_64, h65, hm⟩ := bndE hm
        refine ⟨_, rfl, _, rfl, ?_⟩
        refine k_ixL (f := V.int) (SqL.of (O.mem (List.Mem.head _))) h65 ?_
        obtain ⟨law_dr_66, h67, hm⟩ := bndE hm
        refine ⟨_, rfl, _, rfl, _, _, rfl, rfl, .inl ⟨by decide, by decide⟩, _, _, rfl, rfl, ?_⟩
        refine o_cons ?_
        refine o_c ?_
        refine x_nil ?_
        refine ⟨_, _, _, _, law_dr_66, rfl, (O.ex.l hp_a_2), h67, ?_⟩
        refine O.retV fun H O => ?_
        refine ⟨_, rfl, ?_⟩
        refine k_eqI ?_
        obtain ⟨law_lo_68, h69, hm⟩ := bndE hm
        refine x_nil ?_
        have Oc : Own H0 H ((L_59 ++ []) ++ ((p_26, .lst (List.map V.int dues_32)) :: (L_60 ++ []))) := Own.cv (Own.cv (L' := (L_59 ++ ((p_26, .lst (List.map V.int dues_32)) :: (L_60 ++ [])))) (Own.selB (Bs := [[(p_26, .lst (List.map V.int dues_32))], L_59, L_60]) (Bs' := [L_59, [(p_26, .lst (List.map V.int dues_32))], L_60]) (Own.cv O (by simp only [List.flatten_cons, List.flatten_nil, List.cons_append, List.nil_append, List.append_nil, List.append_assoc])) [1, 0, 2] (by decide) rfl) (by simp only [List.flatten_cons, List.flatten_nil, List.cons_append, List.nil_append, List.append_nil, List.append_assoc])) (by simp only [List.flatten_cons, List.flatten_nil, List.cons_append, List.nil_append, List.append_nil, List.append_assoc])
        refine ⟨o_56, a_58, L_59, e_64, (decide (law_dr_66 = side_54)), H0, law_lo_68, rfl, Oc.left, h61, h69, ?_⟩
        refine Oc.retX (mdX (mo_Count ad) mdV) fun v_ H H0 L_ O e_ d_ => ?_
        replace hp_a_2 := e_.l hp_a_2
        replace hp_p_11 := e_ _ _ hp_p_11
        replace h61 := (mo_Count ad) _ _ _ _ _ e_ h61
        replace h62 := fun F_ L_ x_ q_ => h62 F_ L_ x_ (e_.trans q_)
        replace h63 := fun F_ L_ q_ => h63 F_ L_ (e_.trans q_)
        replace eB := eB.trans e_
        replace eL43 := eL43.trans e_
        replace eL55 := eL55.trans e_
        obtain ⟨L_70, L_72, rfl, h71, ⟨rfl, rfl⟩⟩ := d_
        replace O := Own.cv (L' := (L_70 ++ ((p_26, .lst (List.map V.int dues_32)) :: (L_60 ++ [])))) O (by simp only [List.flatten_cons, List.flatten_nil, List.cons_append, List.nil_append, List.append_nil, List.append_assoc])
        replace O := (Own.cv (L' := ((p_26, .lst (List.map V.int dues_32)) :: (L_70 ++ (L_60 ++ [])))) (Own.selB (Bs := [L_70, [(p_26, .lst (List.map V.int dues_32))], L_60]) (Bs' := [[(p_26, .lst (List.map V.int dues_32))], L_70, L_60]) (Own.cv O (by simp only [List.flatten_cons, List.flatten_nil, List.cons_append, List.nil_append, List.append_nil, List.append_assoc])) [1, 0, 2] (by decide) rfl) (by simp only [List.flatten_cons, List.flatten_nil, List.cons_append, List.nil_append, List.append_nil, List.append_assoc]))
        replace O := (Own.cv (L' := (L_70 ++ (L_60 ++ ((p_26, .lst (List.map V.int dues_32)) :: [])))) (Own.selB (Bs := [[(p_26, .lst (List.map V.int dues_32))], L_70, L_60]) (Bs' := [L_70, L_60, [(p_26, .lst (List.map V.int dues_32))]]) (Own.cv O (by simp only [List.flatten_cons, List.flatten_nil, List.cons_append, List.nil_append, List.append_nil, List.append_assoc])) [1, 2, 0] (by decide) rfl) (by simp only [List.flatten_cons, List.flatten_nil, List.cons_append, List.nil_append, List.append_nil, List.append_assoc]))
        have h73 := h63 _ _ (Ex.refl _) h71
        replace O := Own.cv (L' := ((L_70 ++ L_60) ++ ((p_26, .lst (List.map V.int dues_32)) :: []))) O (by simp only [List.flatten_cons, List.flatten_nil, List.cons_append, List.nil_append, List.append_nil, List.append_assoc])
        replace O := (Own.cv (L' := ((p_26, .lst (List.map V.int dues_32)) :: ((L_70 ++ L_60) ++ []))) (Own.selB (Bs := [(L_70 ++ L_60), [(p_26, .lst (List.map V.int dues_32))]]) (Bs' := [[(p_26, .lst (List.map V.int dues_32))], (L_70 ++ L_60)]) (Own.cv O (by simp only [List.flatten_cons, List.flatten_nil, List.cons_append, List.nil_append, List.append_nil, List.append_assoc])) [1, 0] (by decide) rfl) (by simp only [List.flatten_cons, List.flatten_nil, List.cons_append, List.nil_append, List.append_nil, List.append_assoc]))
        refine ⟨_, rfl, ?_⟩
        refine iteS (c := (!law_lo_68)) (fun h74 => ?_) (fun h74 => ?_)
        · replace hm := ifT hm h74
          -- 73
          refine o_ret ?_
          refine o_c ?_
          obtain rfl := Option.some.inj hm
          obtain rfl := contRt h53
          obtain rfl := floRt h52
          obtain rfl := contRt h41
          obtain rfl := finRt h40
          exact RetV.goR k O eB
        · replace hm := ifF hm h74
          refine o_next ?_
          have Oz := O
          obtain rfl := Option.some.inj hm
          exact ⟨H0, (L_70 ++ L_60), _, _, _, rfl, eL55, (Own.cv (Own.cv (L' := ((p_26, .lst (List.map V.int dues_32)) :: ((L_70 ++ L_60) ++ []))) (Own.selB (Bs := [[(p_26, .lst (List.map V.int dues_32))], (L_70 ++ L_60)]) (Bs' := [[(p_26, .lst (List.map V.int dues_32))], (L_70 ++ L_60)]) (Own.cv Oz (by simp only [List.flatten_cons, List.flatten_nil, List.cons_append, List.nil_append, List.append_nil, List.append_assoc])) [0, 1] (by decide) rfl) (by simp only [List.flatten_cons, List.flatten_nil, List.cons_append, List.nil_append, List.append_nil, List.append_assoc])) (by simp only [List.flatten_cons, List.flatten_nil, List.cons_append, List.nil_append, List.append_nil, List.append_assoc])), h73, h53⟩
      rintro σ H ⟨H0, B_46, j_48, j_49, j_50, rfl, eJ_, O, h47, hL⟩
      replace hp_a_2 := eJ_.l hp_a_2
      replace hp_p_11 := eJ_ _ _ hp_p_11
      replace eB := eB.trans eJ_
      replace eL43 := eL43.trans eJ_
      obtain rfl := loopF_nil hL
      replace hm := floNx h52
      -- 74
      refine o_seq ?_
      refine o_asg ?_
      obtain ⟨law_dr_75, h76, hm⟩ := bndE hm
      refine ⟨_, rfl, _, rfl, _, _, rfl, rfl, .inl ⟨by decide, by decide⟩, _, _, rfl, rfl, ?_⟩
      refine o_cons ?_
      refine o_c ?_
      refine x_nil ?_
      refine ⟨_, _, _, _, law_dr_75, rfl, (O.ex.l hp_a_2), h76, ?_⟩
      refine O.retV fun H O => ?_
      -- 75
      refine o_seq ?_
      refine o_asg ?_
      refine ⟨_, rfl, _, rfl, _, rfl, _, _, rfl, rfl, .inl ⟨by decide, by decide⟩, _, _, rfl, rfl, _, rfl, ?_⟩
      refine x_nil ?_
      refine n_len (SqL.of (O.ex _ _ hp_p_11)) ?_
      obtain ⟨law_dr_77, h78, hm⟩ := bndE hm
      refine x_nil ?_
      refine ⟨_, _, _, _, law_dr_77, rfl, (O.ex.l hp_a_2), h78, ?_⟩
      refine O.retV fun H O => ?_
      obtain ⟨e_79, h80, hm⟩ := bndE hm
      refine k_ixL (f := V.int) (SqL.of (O.ex _ _ hp_p_11)) h80 ?_
      -- 76
      refine o_seq ?_
      refine o_drop ?_
      obtain ⟨o_81, h82, hm⟩ := bndE hm
      refine ⟨_, rfl, _, rfl, ?_⟩
      replace O := (Own.cv (L' := (B_46 ++ ((p_26, .lst (List.map V.int dues_32)) :: []))) (Own.selB (Bs := [[(p_26, .lst (List.map V.int dues_32))], B_46]) (Bs' := [B_46, [(p_26, .lst (List.map V.int dues_32))]]) (Own.cv O (by simp only [List.flatten_cons, List.flatten_nil, List.cons_append, List.nil_append, List.append_nil, List.append_assoc])) [1, 0] (by decide) rfl) (by simp only [List.flatten_cons, List.flatten_nil, List.cons_append, List.nil_append, List.append_nil, List.append_assoc]))
      obtain ⟨vs_, a_83, L_84, L_85, hl_, hat_, _, h86, O, h87, h88⟩ := Own.lsAt (A := []) (mo_Count ad) O h47 h82
      refine ⟨_, vs_, _, _, rfl, rfl, SqL.of hl_, hat_, ?_⟩
      replace O := Own.cv (L' := (L_84 ++ (L_85 ++ ((p_26, .lst (List.map V.int dues_32)) :: [])))) O (by simp only [List.flatten_cons, List.flatten_nil, List.cons_append, List.nil_append, List.append_nil, List.append_assoc])
      replace O := (Own.cv (L' := ((p_26, .lst (List.map V.int dues_32)) :: (L_84 ++ (L_85 ++ [])))) (Own.selB (Bs := [L_84, L_85, [(p_26, .lst (List.map V.int dues_32))]]) (Bs' := [[(p_26, .lst (List.map V.int dues_32))], L_84, L_85]) (Own.cv O (by simp only [List.flatten_cons, List.flatten_nil, List.cons_append, List.nil_append, List.append_nil, List.append_assoc])) [2, 0, 1] (by decide) rfl) (by simp only [List.flatten_cons, List.flatten_nil, List.cons_append, List.nil_append, List.append_nil, List.append_assoc]))
      obtain ⟨count_89, h90, hm⟩ := bndE hm
      refine ⟨_, rfl, ?_⟩
      refine x_nil ?_
      have Oc : Own H0 H ((L_84 ++ []) ++ ((p_26, .lst (List.map V.int dues_32)) :: (L_85 ++ []))) := Own.cv (Own.cv (L' := (L_84 ++ ((p_26, .lst (List.map V.int dues_32)) :: (L_85 ++ [])))) (Own.selB (Bs := [[(p_26, .lst (List.map V.int dues_32))], L_84, L_85]) (Bs' := [L_84, [(p_26, .lst (List.map V.int dues_32))], L_85]) (Own.cv O (by simp only [List.flatten_cons, List.flatten_nil, List.cons_append, List.nil_append, List.append_nil, List.append_assoc])) [1, 0, 2] (by decide) rfl) (by simp only [List.flatten_cons, List.flatten_nil, List.cons_append, List.nil_append, List.append_nil, List.append_assoc])) (by simp only [List.flatten_cons, List.flatten_nil, List.cons_append, List.nil_append, List.append_nil, List.append_assoc])
      refine ⟨o_81, a_83, L_84, e_79, H0, count_89, rfl, Oc.left, h86, h90, ?_⟩
      refine Oc.retX (mdX (mo_Count ad) mdV) fun v_ H H0 L_ O e_ d_ => ?_
      replace hp_a_2 := e_.l hp_a_2
      replace hp_p_11 := e_ _ _ hp_p_11
      replace h86 := (mo_Count ad) _ _ _ _ _ e_ h86
      replace h87 := fun F_ L_ x_ q_ => h87 F_ L_ x_ (e_.trans q_)
      replace h88 := fun F_ L_ q_ => h88 F_ L_ (e_.trans q_)
      replace eB := eB.trans e_
      replace eL43 := eL43.trans e_
      obtain ⟨L_91, L_93, rfl, h92, ⟨rfl, rfl⟩⟩ := d_
      replace O := Own.cv (L' := (L_91 ++ ((p_26, .lst (List.map V.int dues_32)) :: (L_85 ++ [])))) O (by simp only [List.flatten_cons, List.flatten_nil, List.cons_append, List.nil_append, List.append_nil, List.append_assoc])
      replace O := (Own.cv (L' := ((p_26, .lst (List.map V.int dues_32)) :: (L_91 ++ (L_85 ++ [])))) (Own.selB (Bs := [L_91, [(p_26, .lst (List.map V.int dues_32))], L_85]) (Bs' := [[(p_26, .lst (List.map V.int dues_32))], L_91, L_85]) (Own.cv O (by simp only [List.flatten_cons, List.flatten_nil, List.cons_append, List.nil_append, List.append_nil, List.append_assoc])) [1, 0, 2] (by decide) rfl) (by simp only [List.flatten_cons, List.flatten_nil, List.cons_append, List.nil_append, List.append_nil, List.append_assoc]))
      replace O := (Own.cv (L' := (L_91 ++ (L_85 ++ ((p_26, .lst (List.map V.int dues_32)) :: [])))) (Own.selB (Bs := [[(p_26, .lst (List.map V.int dues_32))], L_91, L_85]) (Bs' := [L_91, L_85, [(p_26, .lst (List.map V.int dues_32))]]) (Own.cv O (by simp only [List.flatten_cons, List.flatten_nil, List.cons_append, List.nil_append, List.append_nil, List.append_assoc])) [1, 2, 0] (by decide) rfl) (by simp only [List.flatten_cons, List.flatten_nil, List.cons_append, List.nil_append, List.append_nil, List.append_assoc]))
      obtain ⟨ys_95, h96, hm⟩ := bndE hm
      have h94 := h87 _ _ _ (Ex.refl _) h92 _ h96
      replace O := Own.cv (L' := ((L_91 ++ L_85) ++ ((p_26, .lst (List.map V.int dues_32)) :: []))) O (by simp only [List.flatten_cons, List.flatten_nil, List.cons_append, List.nil_append, List.append_nil, List.append_assoc])
      replace O := (Own.cv (L' := ((p_26, .lst (List.map V.int dues_32)) :: ((L_91 ++ L_85) ++ []))) (Own.selB (Bs := [(L_91 ++ L_85), [(p_26, .lst (List.map V.int dues_32))]]) (Bs' := [[(p_26, .lst (List.map V.int dues_32))], (L_91 ++ L_85)]) (Own.cv O (by simp only [List.flatten_cons, List.flatten_nil, List.cons_append, List.nil_append, List.append_nil, List.append_assoc])) [1, 0] (by decide) rfl) (by simp only [List.flatten_cons, List.flatten_nil, List.cons_append, List.nil_append, List.append_nil, List.append_assoc]))
      -- 77
      refine o_sub ?_
      obtain ⟨e_97, h98, hm⟩ := bndE hm
      refine ⟨_, rfl, _, rfl, ?_⟩
      refine k_ixL (f := V.int) (SqL.of (O.mem (List.Mem.head _))) h98 ?_
      obtain ⟨law_be_99, h100, hm⟩ := bndE hm
      refine ⟨_, rfl, ?_⟩
      refine x_nil ?_
      refine ⟨_, _, law_be_99, rfl, h100, ?_⟩
      refine O.retV fun H O => ?_
      obtain ⟨l_101, h102, hm⟩ := bndE hm
      refine ⟨_, rfl, _, rfl, ?_⟩
      refine k_setL (f := V.int) (O.mem (List.Mem.head _)) (fun _ => O.put0) h102 fun H O => ?_
      have Oz := O
      obtain rfl := Option.some.inj hm
      exact ⟨H0, _, _, (L_91 ++ L_85), _, _, _, _, rfl, eL43, (Own.cv (Own.cv (L' := ((p_26, .lst (List.map V.int l_101)) :: ((L_91 ++ L_85) ++ []))) (Own.selB (Bs := [[(p_26, .lst (List.map V.int l_101))], (L_91 ++ L_85)]) (Bs' := [[(p_26, .lst (List.map V.int l_101))], (L_91 ++ L_85)]) (Own.cv Oz (by simp only [List.flatten_cons, List.flatten_nil, List.cons_append, List.nil_append, List.append_nil, List.append_assoc])) [0, 1] (by decide) rfl) (by simp only [List.flatten_cons, List.flatten_nil, List.cons_append, List.nil_append, List.append_nil, List.append_assoc])) (by simp only [List.flatten_cons, List.flatten_nil, List.cons_append, List.nil_append, List.append_nil, List.append_assoc])), h94, h41⟩
    rintro σ H ⟨H0, counts_29, dues_32, B_30, j_33, j_34, j_35, j_36, rfl, eJ_, O, h31, hL⟩
    replace hp_a_2 := eJ_.l hp_a_2
    replace hp_p_11 := eJ_ _ _ hp_p_11
    replace eB := eB.trans eJ_
    obtain rfl := loopF_nil hL
    replace hm := finNx h40
    -- 78
    refine o_ret ?_
    obtain ⟨o_106, h107, hm⟩ := bndE hm
    obtain ⟨e_114, h115, hm⟩ := bndE hm
    obtain ⟨law_lo_116, h117, hm⟩ := bndE hm
    obtain ⟨c_138, h139, hm⟩ := bndE hm
    refine x_andVJ (c := law_lo_116) (e := c_138) (d := c_138) (fun H => ∃ (R_ : Hp) (B_104 : List Cell), Ex H0 R_ ∧ Own R_ H ((p_26, .lst (List.map V.int dues_32)) :: (B_104 ++ [])) ∧ (oLs (o_Count ad)) (R_) p_24 B_104 counts_29) (fun Q1 k1 => ?_) (fun h103 => ⟨rfl, fun H hJ Q2 k2 => ?_⟩) (fun h103 => Option.some.inj (ifF h139 h103)) (fun H hJ => ?_)
    · have eJ105 : Ex H0 H0 := Ex.refl _
      refine ⟨_, rfl, ?_⟩
      refine o_c ?_
      replace O := (Own.cv (L' := (B_30 ++ ((p_26, .lst (List.map V.int dues_32)) :: []))) (Own.selB (Bs := [[(p_26, .lst (List.map V.int dues_32))], B_30]) (Bs' := [B_30, [(p_26, .lst (List.map V.int dues_32))]]) (Own.cv O (by simp only [List.flatten_cons, List.flatten_nil, List.cons_append, List.nil_append, List.append_nil, List.append_assoc])) [1, 0] (by decide) rfl) (by simp only [List.flatten_cons, List.flatten_nil, List.cons_append, List.nil_append, List.append_nil, List.append_assoc]))
      obtain ⟨vs_, a_108, L_109, L_110, hl_, hat_, _, h111, O, h112, h113⟩ := Own.lsAt (A := []) (mo_Count ad) O h31 h107
      refine ⟨_, vs_, _, _, rfl, rfl, SqL.of hl_, hat_, ?_⟩
      replace O := Own.cv (L' := (L_109 ++ (L_110 ++ ((p_26, .lst (List.map V.int dues_32)) :: [])))) O (by simp only [List.flatten_cons, List.flatten_nil, List.cons_append, List.nil_append, List.append_nil, List.append_assoc])
      replace O := (Own.cv (L' := ((p_26, .lst (List.map V.int dues_32)) :: (L_109 ++ (L_110 ++ [])))) (Own.selB (Bs := [L_109, L_110, [(p_26, .lst (List.map V.int dues_32))]]) (Bs' := [[(p_26, .lst (List.map V.int dues_32))], L_109, L_110]) (Own.cv O (by simp only [List.flatten_cons, List.flatten_nil, List.cons_append, List.nil_append, List.append_nil, List.append_assoc])) [2, 0, 1] (by decide) rfl) (by simp only [List.flatten_cons, List.flatten_nil, List.cons_append, List.nil_append, List.append_nil, List.append_assoc]))
      refine ⟨_, rfl, ?_⟩
      refine o_c ?_
      refine k_ixL (f := V.int) (SqL.of (O.mem (List.Mem.head _))) h115 ?_
      refine o_cons ?_
      refine o_c ?_
      refine x_nil ?_
      have Oc : Own H0 H ((L_109 ++ []) ++ ((p_26, .lst (List.map V.int dues_32)) :: (L_110 ++ []))) := Own.cv (Own.cv (L' := (L_109 ++ ((p_26, .lst (List.map V.int dues_32)) :: (L_110 ++ [])))) (Own.selB (Bs := [[(p_26, .lst (List.map V.int dues_32))], L_109, L_110]) (Bs' := [L_109, [(p_26, .lst (List.map V.int dues_32))], L_110]) (Own.cv O (by simp only [List.flatten_cons, List.flatten_nil, List.cons_append, List.nil_append, List.append_nil, List.append_assoc])) [1, 0, 2] (by decide) rfl) (by simp only [List.flatten_cons, List.flatten_nil, List.cons_append, List.nil_append, List.append_nil, List.append_assoc])) (by simp only [List.flatten_cons, List.flatten_nil, List.cons_append, List.nil_append, List.append_nil, List.append_assoc])
      refine ⟨o_106, a_108, L_109, e_114, false, H0, law_lo_116, rfl, Oc.left, h111, h117, ?_⟩
      refine Oc.retX (mdX (mo_Count ad) mdV) fun v_ H H0 L_ O e_ d_ => ?_
      replace hp_a_2 := e_.l hp_a_2
      replace hp_p_11 := e_ _ _ hp_p_11
      replace h111 := (mo_Count ad) _ _ _ _ _ e_ h111
      replace h112 := fun F_ L_ x_ q_ => h112 F_ L_ x_ (e_.trans q_)
      replace h113 := fun F_ L_ q_ => h113 F_ L_ (e_.trans q_)
      replace eB := eB.trans e_
      replace eJ105 := eJ105.trans e_
      obtain ⟨L_118, L_120, rfl, h119, ⟨rfl, rfl⟩⟩ := d_
      replace O := Own.cv (L' := (L_118 ++ ((p_26, .lst (List.map V.int dues_32)) :: (L_110 ++ [])))) O (by simp only [List.flatten_cons, List.flatten_nil, List.cons_append, List.nil_append, List.append_nil, List.append_assoc])
      replace O := (Own.cv (L' := ((p_26, .lst (List.map V.int dues_32)) :: (L_118 ++ (L_110 ++ [])))) (Own.selB (Bs := [L_118, [(p_26, .lst (List.map V.int dues_32))], L_110]) (Bs' := [[(p_26, .lst (List.map V.int dues_32))], L_118, L_110]) (Own.cv O (by simp only [List.flatten_cons, List.flatten_nil, List.cons_append, List.nil_append, List.append_nil, List.append_assoc])) [1, 0, 2] (by decide) rfl) (by simp only [List.flatten_cons, List.flatten_nil, List.cons_append, List.nil_append, List.append_nil, List.append_assoc]))
      replace O := (Own.cv (L' := (L_118 ++ (L_110 ++ ((p_26, .lst (List.map V.int dues_32)) :: [])))) (Own.selB (Bs := [[(p_26, .lst (List.map V.int dues_32))], L_118, L_110]) (Bs' := [L_118, L_110, [(p_26, .lst (List.map V.int dues_32))]]) (Own.cv O (by simp only [List.flatten_cons, List.flatten_nil, List.cons_append, List.nil_append, List.append_nil, List.append_assoc])) [1, 2, 0] (by decide) rfl) (by simp only [List.flatten_cons, List.flatten_nil, List.cons_append, List.nil_append, List.append_nil, List.append_assoc]))
      have h121 := h113 _ _ (Ex.refl _) h119
      replace O := Own.cv (L' := ((L_118 ++ L_110) ++ ((p_26, .lst (List.map V.int dues_32)) :: []))) O (by simp only [List.flatten_cons, List.flatten_nil, List.cons_append, List.nil_append, List.append_nil, List.append_assoc])
      replace O := (Own.cv (L' := ((p_26, .lst (List.map V.int dues_32)) :: ((L_118 ++ L_110) ++ []))) (Own.selB (Bs := [(L_118 ++ L_110), [(p_26, .lst (List.map V.int dues_32))]]) (Bs' := [[(p_26, .lst (List.map V.int dues_32))], (L_118 ++ L_110)]) (Own.cv O (by simp only [List.flatten_cons, List.flatten_nil, List.cons_append, List.nil_append, List.append_nil, List.append_assoc])) [1, 0] (by decide) rfl) (by simp only [List.flatten_cons, List.flatten_nil, List.cons_append, List.nil_append, List.append_nil, List.append_assoc]))
      exact k1 _ ⟨H0, (L_118 ++ L_110), eJ105, (Own.cv (Own.cv (L' := ((p_26, .lst (List.map V.int dues_32)) :: ((L_118 ++ L_110) ++ []))) (Own.selB (Bs := [[(p_26, .lst (List.map V.int dues_32))], (L_118 ++ L_110)]) (Bs' := [[(p_26, .lst (List.map V.int dues_32))], (L_118 ++ L_110)]) (Own.cv O (by simp only [List.flatten_cons, List.flatten_nil, List.cons_append, List.nil_append, List.append_nil, List.append_assoc])) [0, 1] (by decide) rfl) (by simp only [List.flatten_cons, List.flatten_nil, List.cons_append, List.nil_append, List.append_nil, List.append_assoc])) (by simp only [List.flatten_cons, List.flatten_nil, List.cons_append, List.nil_append, List.append_nil, List.append_assoc])), h121⟩
    · replace hm := ifT h139 h103
      obtain ⟨o_122, h123, hm⟩ := bndE hm
      obtain ⟨e_130, h131, hm⟩ := bndE hm
      obtain ⟨law_lo_132, h133, hm⟩ := bndE hm
      obtain rfl := Option.some.inj hm
      obtain ⟨H0, B_104, eJ105, O, h105⟩ := hJ
      replace hp_a_2 := eJ105.l hp_a_2
      replace hp_p_11 := eJ105 _ _ hp_p_11
      replace eB := eB.trans eJ105
      refine ⟨_, rfl, ?_⟩
      refine o_c ?_
      replace O := (Own.cv (L' := (B_104 ++ ((p_26, .lst (List.map V.int dues_32)) :: []))) (Own.selB (Bs := [[(p_26, .lst (List.map V.int dues_32))], B_104]) (Bs' := [B_104, [(p_26, .lst (List.map V.int dues_32))]]) (Own.cv O (by simp only [List.flatten_cons, List.flatten_nil, List.cons_append, List.nil_append, List.append_nil, List.append_assoc])) [1, 0] (by decide) rfl) (by simp only [List.flatten_cons, List.flatten_nil, List.cons_append, List.nil_append, List.append_nil, List.append_assoc]))
      obtain ⟨vs_, a_124, L_125, L_126, hl_, hat_, _, h127, O, h128, h129⟩ := Own.lsAt (A := []) (mo_Count ad) O h105 h123
      refine ⟨_, vs_, _, _, rfl, rfl, SqL.of hl_, hat_, ?_⟩
      replace O := Own.cv (L' := (L_125 ++ (L_126 ++ ((p_26, .lst (List.map V.int dues_32)) :: [])))) O (by simp only [List.flatten_cons, List.flatten_nil, List.cons_append, List.nil_append, List.append_nil, List.append_assoc])
      replace O := (Own.cv (L' := ((p_26, .lst (List.map V.int dues_32)) :: (L_125 ++ (L_126 ++ [])))) (Own.selB (Bs := [L_125, L_126, [(p_26, .lst (List.map V.int dues_32))]]) (Bs' := [[(p_26, .lst (List.map V.int dues_32))], L_125, L_126]) (Own.cv O (by simp only [List.flatten_cons, List.flatten_nil, List.cons_append, List.nil_append, List.append_nil, List.append_assoc])) [2, 0, 1] (by decide) rfl) (by simp only [List.flatten_cons, List.flatten_nil, List.cons_append, List.nil_append, List.append_nil, List.append_assoc]))
      refine ⟨_, rfl, ?_⟩
      refine o_c ?_
      refine k_ixL (f := V.int) (SqL.of (O.mem (List.Mem.head _))) h131 ?_
      refine o_cons ?_
      refine o_c ?_
      refine x_nil ?_
      have Oc : Own H0 H ((L_125 ++ []) ++ ((p_26, .lst (List.map V.int dues_32)) :: (L_126 ++ []))) := Own.cv (Own.cv (L' := (L_125 ++ ((p_26, .lst (List.map V.int dues_32)) :: (L_126 ++ [])))) (Own.selB (Bs := [[(p_26, .lst (List.map V.int dues_32))], L_125, L_126]) (Bs' := [L_125, [(p_26, .lst (List.map V.int dues_32))], L_126]) (Own.cv O (by simp only [List.flatten_cons, List.flatten_nil, List.cons_append, List.nil_append, List.append_nil, List.append_assoc])) [1, 0, 2] (by decide) rfl) (by simp only [List.flatten_cons, List.flatten_nil, List.cons_append, List.nil_append, List.append_nil, List.append_assoc])) (by simp only [List.flatten_cons, List.flatten_nil, List.cons_append, List.nil_append, List.append_nil, List.append_assoc])
      refine ⟨o_122, a_124, L_125, e_130, true, H0, law_lo_132, rfl, Oc.left, h127, h133, ?_⟩
      refine Oc.retX (mdX (mo_Count ad) mdV) fun v_ H H0 L_ O e_ d_ => ?_
      replace hp_a_2 := e_.l hp_a_2
      replace hp_p_11 := e_ _ _ hp_p_11
      replace h127 := (mo_Count ad) _ _ _ _ _ e_ h127
      replace h128 := fun F_ L_ x_ q_ => h128 F_ L_ x_ (e_.trans q_)
      replace h129 := fun F_ L_ q_ => h129 F_ L_ (e_.trans q_)
      replace eB := eB.trans e_
      replace eJ105 := eJ105.trans e_
      obtain ⟨L_134, L_136, rfl, h135, ⟨rfl, rfl⟩⟩ := d_
      replace O := Own.cv (L' := (L_134 ++ ((p_26, .lst (List.map V.int dues_32)) :: (L_126 ++ [])))) O (by simp only [List.flatten_cons, List.flatten_nil, List.cons_append, List.nil_append, List.append_nil, List.append_assoc])
      replace O := (Own.cv (L' := ((p_26, .lst (List.map V.int dues_32)) :: (L_134 ++ (L_126 ++ [])))) (Own.selB (Bs := [L_134, [(p_26, .lst (List.map V.int dues_32))], L_126]) (Bs' := [[(p_26, .lst (List.map V.int dues_32))], L_134, L_126]) (Own.cv O (by simp only [List.flatten_cons, List.flatten_nil, List.cons_append, List.nil_append, List.append_nil, List.append_assoc])) [1, 0, 2] (by decide) rfl) (by simp only [List.flatten_cons, List.flatten_nil, List.cons_append, List.nil_append, List.append_nil, List.append_assoc]))
      replace O := (Own.cv (L' := (L_134 ++ (L_126 ++ ((p_26, .lst (List.map V.int dues_32)) :: [])))) (Own.selB (Bs := [[(p_26, .lst (List.map V.int dues_32))], L_134, L_126]) (Bs' := [L_134, L_126, [(p_26, .lst (List.map V.int dues_32))]]) (Own.cv O (by simp only [List.flatten_cons, List.flatten_nil, List.cons_append, List.nil_append, List.append_nil, List.append_assoc])) [1, 2, 0] (by decide) rfl) (by simp only [List.flatten_cons, List.flatten_nil, List.cons_append, List.nil_append, List.append_nil, List.append_assoc]))
      have h137 := h129 _ _ (Ex.refl _) h135
      replace O := Own.cv (L' := ((L_134 ++ L_126) ++ ((p_26, .lst (List.map V.int dues_32)) :: []))) O (by simp only [List.flatten_cons, List.flatten_nil, List.cons_append, List.nil_append, List.append_nil, List.append_assoc])
      replace O := (Own.cv (L' := ((p_26, .lst (List.map V.int dues_32)) :: ((L_134 ++ L_126) ++ []))) (Own.selB (Bs := [(L_134 ++ L_126), [(p_26, .lst (List.map V.int dues_32))]]) (Bs' := [[(p_26, .lst (List.map V.int dues_32))], (L_134 ++ L_126)]) (Own.cv O (by simp only [List.flatten_cons, List.flatten_nil, List.cons_append, List.nil_append, List.append_nil, List.append_assoc])) [1, 0] (by decide) rfl) (by simp only [List.flatten_cons, List.flatten_nil, List.cons_append, List.nil_append, List.append_nil, List.append_assoc]))
      exact k2 _ ⟨H0, (L_134 ++ L_126), eJ105, (Own.cv (Own.cv (L' := ((p_26, .lst (List.map V.int dues_32)) :: ((L_134 ++ L_126) ++ []))) (Own.selB (Bs := [[(p_26, .lst (List.map V.int dues_32))], (L_134 ++ L_126)]) (Bs' := [[(p_26, .lst (List.map V.int dues_32))], (L_134 ++ L_126)]) (Own.cv O (by simp only [List.flatten_cons, List.flatten_nil, List.cons_append, List.nil_append, List.append_nil, List.append_assoc])) [0, 1] (by decide) rfl) (by simp only [List.flatten_cons, List.flatten_nil, List.cons_append, List.nil_append, List.append_nil, List.append_assoc])) (by simp only [List.flatten_cons, List.flatten_nil, List.cons_append, List.nil_append, List.append_nil, List.append_assoc])), h137⟩
    obtain ⟨H0, B_104, eJ105, O, h105⟩ := hJ
    replace hp_a_2 := eJ105.l hp_a_2
    replace hp_p_11 := eJ105 _ _ hp_p_11
    replace eB := eB.trans eJ105
    obtain rfl := Option.some.inj hm
    exact RetV.goR k O eB
end
theorem walk {l : PySem.W.OpenLaw} {q : Program} {loose : List Str} {XP : (Str → Option Value) → Heap → Prop} {YP : World → Heap → Prop} {d : DefRec} {K : Params → PySem.W.Frag} (M : ∀ ns : List Int, ns.length ≤ 63 → m_law ns = some true) (hn : l.most = some 63) (hdf : d.params.defaults = [])
    (hY : ∀ (w : World) (h : Heap), YP w h → (K w.params).In h)
    (F : ∀ (w : World) (mg : Str → Option Value) (fa : Addr) (h : Heap), (K w.params).In h → h.Ns mainGlobals mg → mg d.name = some (.ref fa) →
      ∃ fd : FuncData, (∀ (s : Shared) (u : Value), BindsTo s fd ⟨[u], []⟩ [("script", u)]) ∧ ∀ base : Heap, (K w.params).In base → base.Ns mainGlobals mg → FnOk l.prog w (K w.params) mg base CX0 4 fa fd ["script"] (sp_law (K w.params))) :
    PySem.W.WalkO q loose XP YP l.row.toRowW d [] (fun f vs => PySem.call f vs) :=
  L2.walk_of (n := 63) (k := 4) (x := "script") (CX := fun _ => CX0) (sp := fun w => sp_law (K w.params)) hn (by decide) hdf ⟨rfl, by decide, by decide⟩ hY F (fun _ _ a ns hl _ hS => ⟨ns, a, true, rfl, hS, M ns hl, fun _ _ => rfl⟩) fun _ _ _ _ _ z => z
theorem packc {K : PySem.W.Frag} {h : Heap} {mg : Str → Option Value} (X : K.In h) (G : h.Ns mainGlobals mg) {C_Count : Addr} {q_Count_init : Addr} {oc_Count_init kV_Count_init doc_Count_init pm_Count_init cdv_Count_init ct_Count_init : Value} {od_Count_init an_Count_init : Option Addr} {osl_Count_init : Array (Option Value)} {q_Count_more : Addr} {oc_Count_more kV_Count_more doc_Count_more pm_Count_more cdv_Count_more ct_Count_more : Value} {od_Count_more an_Count_more : Option Addr} {osl_Count_more : Array (Option Value)} {q_Count_fault : Addr} {oc_Count_fault kV_Count_fault doc_Count_fault pm_Count_fault cdv_Count_fault ct_Count_fault : Value} {od_Count_fault an_Count_fault : Option Addr} {osl_Count_fault : Array (Option Value)} {q_Count_blame : Addr} {oc_Count_blame kV_Count_blame doc_Count_blame pm_Count_blame cdv_Count_blame ct_Count_blame : Value} {od_Count_blame an_Count_blame : Option Addr} {osl_Count_blame : Array (Option Value)} {q_Count_good : Addr} {oc_Count_good kV_Count_good doc_Count_good pm_Count_good cdv_Count_good ct_Count_good : Value} {od_Count_good an_Count_good : Option Addr} {osl_Count_good : Array (Option Value)} {q_Count_is_off : Addr} {oc_Count_is_off kV_Count_is_off doc_Count_is_off pm_Count_is_off cdv_Count_is_off ct_Count_is_off : Value} {od_Count_is_off an_Count_is_off : Option Addr} {osl_Count_is_off : Array (Option Value)} {q_Count_is_quiet : Addr} {oc_Count_is_quiet kV_Count_is_quiet doc_Count_is_quiet pm_Count_is_quiet cdv_Count_is_quiet ct_Count_is_quiet : Value} {od_Count_is_quiet an_Count_is_quiet : Option Addr} {osl_Count_is_quiet : Array (Option Value)} {q_Count_number : Addr} {oc_Count_number kV_Count_number doc_Count_number pm_Count_number cdv_Count_number ct_Count_number : Value} {od_Count_number an_Count_number : Option Addr} {osl_Count_number : Array (Option Value)} (a_Count : PySem.W.nsIn K mainGlobals "Count" = some (some (.ref C_Count))) (pg_Count : PySem.W.plainGet K C_Count Str.empty = true) (hd_Count : PySem.W.hasDictIn K C_Count = true) (po_Count : PySem.W.plainOver K C_Count = true) (sa_Count : PySem.W.findIn K (.ref C_Count) "__setattr__" = some (some (.builtin "object.__setattr__"))) (n_Count_tally : PySem.W.findIn K (.ref C_Count) "tally" = some none) (at_Count_init : PySem.W.findIn K (.ref C_Count) "__init__" = some (some (.ref q_Count_init))) (if_Count_init : PySem.W.isFn K (.ref q_Count_init) = true) (il_Count_init : K.lookup q_Count_init = some ⟨oc_Count_init, od_Count_init, .func (PySem.W.fnOf "__init__" "Count.__init__" (defArgs s_Count_init) (defBody s_Count_init) (defScope s_Count_init) .none kV_Count_init doc_Count_init pm_Count_init an_Count_init cdv_Count_init ct_Count_init), osl_Count_init⟩) (ic_Count_init : PySem.W.codeIn K cdv_Count_init "Count.__init__" = true) (ik_Count_init : PySem.W.keepIn K (.ref q_Count_init) = true) (at_Count_more : PySem.W.findIn K (.ref C_Count) "more" = some (some (.ref q_Count_more))) (if_Count_more : PySem.W.isFn K (.ref q_Count_more) = true) (il_Count_more : K.lookup q_Count_more = some ⟨oc_Count_more, od_Count_more, .func (PySem.W.fnOf "more" "Count.more" (defArgs s_Count_more) (defBody s_Count_more) (defScope s_Count_more) .none kV_Count_more doc_Count_more pm_Count_more an_Count_more cdv_Count_more ct_Count_more), osl_Count_more⟩) (ic_Count_more : PySem.W.codeIn K cdv_Count_more "Count.more" = true) (ik_Count_more : PySem.W.keepIn K (.ref q_Count_more) = true) (at_Count_fault : PySem.W.findIn K (.ref C_Count) "fault" = some (some (.ref q_Count_fault))) (if_Count_fault : PySem.W.isFn K (.ref q_Count_fault) = true) (il_Count_fault : K.lookup q_Count_fault = some ⟨oc_Count_fault, od_Count_fault, .func (PySem.W.fnOf "fault" "Count.fault" (defArgs s_Count_fault) (defBody s_Count_fault) (defScope s_Count_fault) .none kV_Count_fault doc_Count_fault pm_Count_fault an_Count_fault cdv_Count_fault ct_Count_fault), osl_Count_fault⟩) (ic_Count_fault : PySem.W.codeIn K cdv_Count_fault "Count.fault" = true) (ik_Count_fault : PySem.W.keepIn K (.ref q_Count_fault) = true) (at_Count_blame : PySem.W.findIn K (.ref C_Count) "blame" = some (some (.ref q_Count_blame))) (if_Count_blame : PySem.W.isFn K (.ref q_Count_blame) = true) (il_Count_blame : K.lookup q_Count_blame = some ⟨oc_Count_blame, od_Count_blame, .func (PySem.W.fnOf "blame" "Count.blame" (defArgs s_Count_blame) (defBody s_Count_blame) (defScope s_Count_blame) .none kV_Count_blame doc_Count_blame pm_Count_blame an_Count_blame cdv_Count_blame ct_Count_blame), osl_Count_blame⟩) (ic_Count_blame : PySem.W.codeIn K cdv_Count_blame "Count.blame" = true) (ik_Count_blame : PySem.W.keepIn K (.ref q_Count_blame) = true) (at_Count_good : PySem.W.findIn K (.ref C_Count) "good" = some (some (.ref q_Count_good))) (if_Count_good : PySem.W.isFn K (.ref q_Count_good) = true) (il_Count_good : K.lookup q_Count_good = some ⟨oc_Count_good, od_Count_good, .func (PySem.W.fnOf "good" "Count.good" (defArgs s_Count_good) (defBody s_Count_good) (defScope s_Count_good) .none kV_Count_good doc_Count_good pm_Count_good an_Count_good cdv_Count_good ct_Count_good), osl_Count_good⟩) (ic_Count_good : PySem.W.codeIn K cdv_Count_good "Count.good" = true) (ik_Count_good : PySem.W.keepIn K (.ref q_Count_good) = true) (at_Count_is_off : PySem.W.findIn K (.ref C_Count) "is_off" = some (some (.ref q_Count_is_off))) (if_Count_is_off : PySem.W.isFn K (.ref q_Count_is_off) = true) (il_Count_is_off : K.lookup q_Count_is_off = some ⟨oc_Count_is_off, od_Count_is_off, .func (PySem.W.fnOf "is_off" "Count.is_off" (defArgs s_Count_is_off) (defBody s_Count_is_off) (defScope s_Count_is_off) .none kV_Count_is_off doc_Count_is_off pm_Count_is_off an_Count_is_off cdv_Count_is_off ct_Count_is_off), osl_Count_is_off⟩) (ic_Count_is_off : PySem.W.codeIn K cdv_Count_is_off "Count.is_off" = true) (ik_Count_is_off : PySem.W.keepIn K (.ref q_Count_is_off) = true) (at_Count_is_quiet : PySem.W.findIn K (.ref C_Count) "is_quiet" = some (some (.ref q_Count_is_quiet))) (if_Count_is_quiet : PySem.W.isFn K (.ref q_Count_is_quiet) = true) (il_Count_is_quiet : K.lookup q_Count_is_quiet = some ⟨oc_Count_is_quiet, od_Count_is_quiet, .func (PySem.W.fnOf "is_quiet" "Count.is_quiet" (defArgs s_Count_is_quiet) (defBody s_Count_is_quiet) (defScope s_Count_is_quiet) .none kV_Count_is_quiet doc_Count_is_quiet pm_Count_is_quiet an_Count_is_quiet cdv_Count_is_quiet ct_Count_is_quiet), osl_Count_is_quiet⟩) (ic_Count_is_quiet : PySem.W.codeIn K cdv_Count_is_quiet "Count.is_quiet" = true) (ik_Count_is_quiet : PySem.W.keepIn K (.ref q_Count_is_quiet) = true) (at_Count_number : PySem.W.findIn K (.ref C_Count) "number" = some (some (.ref q_Count_number))) (if_Count_number : PySem.W.isFn K (.ref q_Count_number) = true) (il_Count_number : K.lookup q_Count_number = some ⟨oc_Count_number, od_Count_number, .func (PySem.W.fnOf "number" "Count.number" (defArgs s_Count_number) (defBody s_Count_number) (defScope s_Count_number) .none kV_Count_number doc_Count_number pm_Count_number an_Count_number cdv_Count_number ct_Count_number), osl_Count_number⟩) (ic_Count_number : PySem.W.codeIn K cdv_Count_number "Count.number" = true) (ik_Count_number : PySem.W.keepIn K (.ref q_Count_number) = true) (mk_Count : PySem.W.makesIn K C_Count = true) (kc_Count : PySem.W.keepIn K (.ref C_Count) = true) :
  ∃ (c_Count f_Count_init f_Count_more f_Count_fault f_Count_blame f_Count_good f_Count_is_off f_Count_is_quiet f_Count_number : Addr) (fd_Count_init fd_Count_more fd_Count_fault fd_Count_blame fd_Count_good fd_Count_is_off fd_Count_is_quiet fd_Count_number : FuncData), Cls K c_Count ∧ NoAttr K c_Count "tally" ∧ L2.Fun K "__init__" "Count.__init__" s_Count_init f_Count_init fd_Count_init ∧ L2.Fun K "more" "Count.more" s_Count_more f_Count_more fd_Count_more ∧ L2.Fun K "fault" "Count.fault" s_Count_fault f_Count_fault fd_Count_fault ∧ L2.Fun K "blame" "Count.blame" s_Count_blame f_Count_blame fd_Count_blame ∧ L2.Fun K "good" "Count.good" s_Count_good f_Count_good fd_Count_good ∧ L2.Fun K "is_off" "Count.is_off" s_Count_is_off f_Count_is_off fd_Count_is_off ∧ L2.Fun K "is_quiet" "Count.is_quiet" s_Count_is_quiet f_Count_is_quiet fd_Count_is_quiet ∧ L2.Fun K "number" "Count.number" s_Count_number f_Count_number fd_Count_number ∧ Meth K c_Count "blame" f_Count_blame ∧ Meth K c_Count "fault" f_Count_fault ∧ Meth K c_Count "good" f_Count_good ∧ Meth K c_Count "is_off" f_Count_is_off ∧ Meth K c_Count "is_quiet" f_Count_is_quiet ∧ Meth K c_Count "more" f_Count_more ∧ Meth K c_Count "number" f_Count_number ∧ Mk K c_Count f_Count_init ∧ mg "Count" = some (.ref c_Count) :=
  ⟨C_Count, q_Count_init, q_Count_more, q_Count_fault, q_Count_blame, q_Count_good, q_Count_is_off, q_Count_is_quiet, q_Count_number, _, _, _, _, _, _, _, _, ⟨pg_Count, hd_Count, po_Count, sa_Count⟩, n_Count_tally, L2.fun_mk il_Count_init ic_Count_init ik_Count_init, L2.fun_mk il_Count_more ic_Count_more ik_Count_more, L2.fun_mk il_Count_fault ic_Count_fault ik_Count_fault, L2.fun_mk il_Count_blame ic_Count_blame ik_Count_blame, L2.fun_mk il_Count_good ic_Count_good ik_Count_good, L2.fun_mk il_Count_is_off ic_Count_is_off ik_Count_is_off, L2.fun_mk il_Count_is_quiet ic_Count_is_quiet ik_Count_is_quiet, L2.fun_mk il_Count_number ic_Count_number ik_Count_number, ⟨at_Count_blame, if_Count_blame, ik_Count_blame⟩, ⟨at_Count_fault, if_Count_fault, ik_Count_fault⟩, ⟨at_Count_good, if_Count_good, ik_Count_good⟩, ⟨at_Count_is_off, if_Count_is_off, ik_Count_is_off⟩, ⟨at_Count_is_quiet, if_Count_is_quiet, ik_Count_is_quiet⟩, ⟨at_Count_more, if_Count_more, ik_Count_more⟩, ⟨at_Count_number, if_Count_number, ik_Count_number⟩, ⟨mk_Count, at_Count_init, if_Count_init, kc_Count⟩, PySem.W.mg_of X G a_Count⟩
end Bt

/-! The laws' own draw: the same text in all of them. -/
namespace Bt
open PySem L2
theorem draw_ok (ns : List Int) (k many : Int) (hk : 0 ≤ k) (hk2 : k ≤ 1000000000) (hm : 0 < many) : ∃ v, m__law_draw ns k many = some v ∧ 0 ≤ v ∧ v < many := by
  have hc : ∃ c, (ifB (decide ((0 : Int) < (List.length ns : Int))) (bnd (modG k (List.length ns : Int)) fun t => bnd (atI ns t) fun e => some e) (some (0 : Int))) = some c := by
    by_cases h : (0 : Int) < (List.length ns : Int)
    · rw [decide_eq_true h, ifB_t, modG_ok h, bnd_some]
      obtain ⟨x, hx, _⟩ := atI_mem (xs := ns) (i := k % (ns.length : Int)) (Int.emod_nonneg _ (by omega)) (Int.emod_lt_of_pos _ h)
      exact ⟨x, by rw [hx]; rfl⟩
    · rw [decide_eq_false h]
      exact ⟨0, rfl⟩
  obtain ⟨c, hc⟩ := hc
  refine ⟨(((c % 1000003 + 31 * k * k + 1) * 48271 % 999983) * 7919 % 524287) % many, ?_, Int.emod_nonneg _ (by omega), Int.emod_lt_of_pos _ hm⟩
  unfold m__law_draw
  rw [bnd_of hc, mulG_ok (a := 40) (b := 40) (by omega) (by omega) (by omega), bnd_some, ltv_eq, modG_ok hm, bnd_some]
end Bt

namespace Bt
open PySem L2
theorem k30_deed (a : Int) (ha : 0 ≤ a) (w : Int) (hw : w = 0 ∨ w = 1 ∨ w = 2 ∨ w = 3) : ∃ d, 0 ≤ d ∧ m__law_deed ⟨a⟩ w = some ⟨d⟩ ∧ m__law_behind a w = some d := by
  by_cases h : a < 18
  · have h2 : ¬ (18 ≤ a) := by omega
    rcases hw with rfl | rfl | rfl | rfl
    · exact ⟨a + 8, by omega, by simp [m__law_deed, m_Count_fault, m_Count_more, bnd, ltv, ifB, h], by simp [m__law_behind, bnd, ifB, h2, atI, ixN]⟩
    · exact ⟨a + 1, by omega, by simp [m__law_deed, m_Count_fault, m_Count_more, bnd, ltv, ifB, h], by simp [m__law_behind, bnd, ifB, h2, atI, ixN]⟩
    · exact ⟨a + 8, by omega, by simp [m__law_deed, m_Count_blame, m_Count_more, bnd, ltv, ifB, h], by simp [m__law_behind, bnd, ifB, h2, atI, ixN]⟩
    · by_cases h0 : 0 < a
      · exact ⟨a - 1, by omega, by simp [m__law_deed, m_Count_good, bnd, ltv, ifB, h, h0], by
          simp [m__law_behind, bnd, ifB, h2, atI, ixN]; omega⟩
      · exact ⟨a, by omega, by simp [m__law_deed, m_Count_good, bnd, ltv, ifB, h, h0], by
          simp [m__law_behind, bnd, ifB, h2, atI, ixN]; omega⟩
  · have h2 : 18 ≤ a := by omega
    refine ⟨a, ha, ?_, by simp [m__law_behind, bnd, ifB, h2]⟩
    rcases hw with rfl | rfl | rfl | rfl <;> simp [m__law_deed, m_Count_fault, m_Count_blame, m_Count_good, m_Count_more, bnd, ltv, ifB, h]
theorem k30_looked (a : Int) (t : Bool) : m__law_looked ⟨a⟩ a t = some true := by
  cases t <;> simp [m__law_looked, m_Count_is_off, m_Count_is_quiet, m_Count_number, bnd, ifB]
theorem two_at {α : Type} (x y : α) (i : Int) (h : i = 0 ∨ i = 1) : atI [x, y] i = some (if i = 0 then x else y) := by
  rcases h with rfl | rfl <;> simp [atI, ixN]
theorem two_set {α : Type} (x y z : α) (i : Int) (h : i = 0 ∨ i = 1) : setG [x, y] i z = some (if i = 0 then [z, y] else [x, z]) := by
  rcases h with rfl | rfl <;> simp [setG, ixN]
theorem k30_turn (ns ws : List Int) (hwl : 0 < ws.length) (hws : ∀ w ∈ ws, w = 0 ∨ w = 1 ∨ w = 2 ∨ w = 3) (hwz : ws.length ≤ 12) (i a b : Int) (hi : i < 80) (hi0 : 0 ≤ i) (ha : 0 ≤ a) (hb : 0 ≤ b) :
    ∃ a' b', 0 ≤ a' ∧ 0 ≤ b' ∧ m_law_L0 ns ws i [⟨a⟩, ⟨b⟩] [a, b] = some (.nx ([⟨a'⟩, ⟨b'⟩], [a', b'])) := by
  unfold m_law_L0
  rw [rng1_ok (by omega) (by omega), bnd_some]
  have hl : loopF (fun side_54 (_ : Unit) => m_law_L1 ns i [S_Count.mk a, S_Count.mk b] [a, b] side_54) (rangeI 0 2) () = some (Fl.nx ()) := by
    refine loopF_unit fun x hx => ?_
    have hx2 := mem_rangeI hx
    have hx3 : x = 0 ∨ x = 1 := by omega
    unfold m_law_L1
    rw [two_at _ _ _ hx3, bnd_some, two_at _ _ _ hx3, bnd_some]
    obtain ⟨d, hd, _⟩ := draw_ok ns (3 * i + 1) 2 (by omega) (by omega) (by omega)
    rw [hd, bnd_some]
    have e : (if x = 0 then S_Count.mk a else ⟨b⟩) = ⟨if x = 0 then a else b⟩ := by split <;> rfl
    rw [e, k30_looked]
    rfl
  rw [hl]
  obtain ⟨d, hd, d0, d1⟩ := draw_ok ns (3 * i + 2) 2 (by omega) (by omega) (by omega)
  obtain ⟨u, hu, u0, u1⟩ := draw_ok ns (3 * i + 3) (ws.length : Int) (by omega) (by omega) (by omega)
  obtain ⟨w, hw3, hw4⟩ := atI_mem (xs := ws) u0 u1
  have hd2 : d = 0 ∨ d = 1 := by omega
  show ∃ a' b', 0 ≤ a' ∧ 0 ≤ b' ∧ bnd (m__law_draw ns (3 * i + 2) 2) _ = _
  rw [hd, bnd_some, hu, bnd_some, hw3, bnd_some, two_at _ _ _ hd2, bnd_some, two_at _ _ _ hd2]
  have e : (if d = 0 then S_Count.mk a else ⟨b⟩) = ⟨if d = 0 then a else b⟩ := by split <;> rfl
  obtain ⟨z, z0, z1, z2⟩ := k30_deed (if d = 0 then a else b) (by split <;> assumption) w (hws w hw4)
  rw [e, z1, bnd_some, two_set _ _ _ _ hd2, bnd_some, bnd_some, z2, bnd_some, two_set _ _ _ _ hd2, bnd_some]
  rcases hd2 with rfl | rfl
  · exact ⟨z, b, z0, hb, rfl⟩
  · exact ⟨a, z, ha, z0, rfl⟩
theorem law_true (ns : List Int) (hn : ns.length ≤ 63) : m_law ns = some true := by
  unfold m_law
  obtain ⟨v, hv, v0, v1⟩ := draw_ok ns 0 3 (by omega) (by omega) (by omega)
  rw [hv, bnd_some]
  obtain ⟨ws, hw, hwl, hwz, hws⟩ : ∃ ws : List Int, atI ([[(0 : Int), (1 : Int), (2 : Int), (3 : Int)], [(1 : Int), (1 : Int), (1 : Int), (3 : Int)], [(0 : Int), (1 : Int), (1 : Int), (2 : Int), (3 : Int), (3 : Int), (3 : Int), (3 : Int), (3 : Int), (3 : Int), (3 : Int), (3 : Int)]]) v = some ws ∧ 0 < ws.length ∧ ws.length ≤ 12 ∧ ∀ w ∈ ws, w = 0 ∨ w = 1 ∨ w = 2 ∨ w = 3 := by
    have : v = 0 ∨ v = 1 ∨ v = 2 := by omega
    rcases this with rfl | rfl | rfl
    all_goals exact ⟨_, rfl, by decide, by decide, by simp⟩
  rw [hw, bnd_some]
  have e0 : m_Count_init = some ⟨0⟩ := rfl
  rw [e0, bnd_some, bnd_some, rng1_ok (by omega) (by omega), bnd_some]
  obtain ⟨⟨cs, ds⟩, h1, _, a, b, ha, hb, e1, e2⟩ := loopF_rng (f := fun k_42 (s : List S_Count × List Int) => m_law_L0 ns ws k_42 s.1 s.2) (hi := 80) (fun i (s : List S_Count × List Int) => 0 ≤ i ∧ ∃ a b : Int, 0 ≤ a ∧ 0 ≤ b ∧ s.1 = [⟨a⟩, ⟨b⟩] ∧ s.2 = [a, b]) (by
    rintro i ⟨cs, ds⟩ hi ⟨hi0, a, b, ha, hb, e1, e2⟩
    cases e1
    cases e2
    obtain ⟨a', b', h1, h2, h3⟩ := k30_turn ns ws hwl hws hwz i a b hi hi0 ha hb
    exact ⟨_, h3, by omega, a', b', h1, h2, rfl, rfl⟩) 80 0 ([⟨0⟩, ⟨0⟩], [0, 0]) rfl (by omega) ⟨by omega, 0, 0, by omega, by omega, rfl, rfl⟩
  cases e1
  cases e2
  rw [h1, fin_nx]
  show bnd (some (S_Count.mk a)) _ = _
  rw [bnd_some]
  show bnd (some a) _ = _
  rw [bnd_some, k30_looked, bnd_some, ifB_t]
  show bnd (bnd (some (S_Count.mk b)) _) _ = _
  rw [bnd_some]
  show bnd (bnd (some b) _) _ = _
  rw [bnd_some, k30_looked]
  rfl
end Bt

open PySem PySem.W PyProof.Rows in
set_option maxRecDepth 100000 in
set_option maxHeartbeats 0 in
theorem PySem.Challenge.cw_bitrail_k30_counts_holds : PySem.Challenge.rw_bitrail_k30_counts.Holds := by
  w_on; o_law; k_head; (case hw => w_witness2)
  k_fill
  refine Bt.walk Bt.law_true (l := PySem.Challenge.rw_bitrail_k30_counts) rfl rfl (fun w h Y => PySem.W.kIn_of Y) ?F
  case F =>
    intro w mg fa h KX G hmg
    obtain ⟨f__law_draw, fd__law_draw, F__law_draw, g__law_draw⟩ : ∃ f fd, L2.Fun _ "_law_draw" "_law_draw" Bt.s__law_draw f fd ∧ mg "_law_draw" = some (.ref f) := by
      refine' Bt.def_mk KX G ?a ?l ?c ?k
      (case a => k_is)
      (case l => k_is)
      (case c => k_is)
      (case k => k_is)
    obtain ⟨f__law_deed, fd__law_deed, F__law_deed, g__law_deed⟩ : ∃ f fd, L2.Fun _ "_law_deed" "_law_deed" Bt.s__law_deed f fd ∧ mg "_law_deed" = some (.ref f) := by
      refine' Bt.def_mk KX G ?a ?l ?c ?k
      (case a => k_is)
      (case l => k_is)
      (case c => k_is)
      (case k => k_is)
    obtain ⟨f__law_behind, fd__law_behind, F__law_behind, g__law_behind⟩ : ∃ f fd, L2.Fun _ "_law_behind" "_law_behind" Bt.s__law_behind f fd ∧ mg "_law_behind" = some (.ref f) := by
      refine' Bt.def_mk KX G ?a ?l ?c ?k
      (case a => k_is)
      (case l => k_is)
      (case c => k_is)
      (case k => k_is)
    obtain ⟨f__law_looked, fd__law_looked, F__law_looked, g__law_looked⟩ : ∃ f fd, L2.Fun _ "_law_looked" "_law_looked" Bt.s__law_looked f fd ∧ mg "_law_looked" = some (.ref f) := by
      refine' Bt.def_mk KX G ?a ?l ?c ?k
      (case a => k_is)
      (case l => k_is)
      (case c => k_is)
      (case k => k_is)
    obtain ⟨f_law, fd_law, F_law, g_law⟩ : ∃ f fd, L2.Fun _ "law" "law" Bt.s_law f fd ∧ mg "law" = some (.ref f) := by
      refine' Bt.def_mk KX G ?a ?l ?c ?k
      (case a => k_is)
      (case l => k_is)
      (case c => k_is)
      (case k => k_is)
    have z_bool : mg "bool" = none := PySem.W.mg_none_of KX G (by k_is)
    have z_int : mg "int" = none := PySem.W.mg_none_of KX G (by k_is)
    have z_isinstance : mg "isinstance" = none := PySem.W.mg_none_of KX G (by k_is)
    have z_len : mg "len" = none := PySem.W.mg_none_of KX G (by k_is)
    have z_max : mg "max" = none := PySem.W.mg_none_of KX G (by k_is)
    have z_range : mg "range" = none := PySem.W.mg_none_of KX G (by k_is)
    have g_OFF : Bt.Gv mg "OFF" (.int 18) := by
      refine' Bt.gv_int KX G ?a
      (case a => k_is)
    have g_QUIET : Bt.Gv mg "QUIET" (.int 12) := by
      refine' Bt.gv_int KX G ?a
      (case a => k_is)
    obtain ⟨c_Count, f_Count_init, f_Count_more, f_Count_fault, f_Count_blame, f_Count_good, f_Count_is_off, f_Count_is_quiet, f_Count_number, fd_Count_init, fd_Count_more, fd_Count_fault, fd_Count_blame, fd_Count_good, fd_Count_is_off, fd_Count_is_quiet, fd_Count_number, C_Count, N_Count_tally, F_Count_init, F_Count_more, F_Count_fault, F_Count_blame, F_Count_good, F_Count_is_off, F_Count_is_quiet, F_Count_number, M_Count_blame, M_Count_fault, M_Count_good, M_Count_is_off, M_Count_is_quiet, M_Count_more, M_Count_number, K_Count, k_Count⟩ : ∃ (c_Count f_Count_init f_Count_more f_Count_fault f_Count_blame f_Count_good f_Count_is_off f_Count_is_quiet f_Count_number : Addr) (fd_Count_init fd_Count_more fd_Count_fault fd_Count_blame fd_Count_good fd_Count_is_off fd_Count_is_quiet fd_Count_number : FuncData), L2.Cls _ c_Count ∧ L2.NoAttr _ c_Count "tally" ∧ L2.Fun _ "__init__" "Count.__init__" Bt.s_Count_init f_Count_init fd_Count_init ∧ L2.Fun _ "more" "Count.more" Bt.s_Count_more f_Count_more fd_Count_more ∧ L2.Fun _ "fault" "Count.fault" Bt.s_Count_fault f_Count_fault fd_Count_fault ∧ L2.Fun _ "blame" "Count.blame" Bt.s_Count_blame f_Count_blame fd_Count_blame ∧ L2.Fun _ "good" "Count.good" Bt.s_Count_good f_Count_good fd_Count_good ∧ L2.Fun _ "is_off" "Count.is_off" Bt.s_Count_is_off f_Count_is_off fd_Count_is_off ∧ L2.Fun _ "is_quiet" "Count.is_quiet" Bt.s_Count_is_quiet f_Count_is_quiet fd_Count_is_quiet ∧ L2.Fun _ "number" "Count.number" Bt.s_Count_number f_Count_number fd_Count_number ∧ L2.Meth _ c_Count "blame" f_Count_blame ∧ L2.Meth _ c_Count "fault" f_Count_fault ∧ L2.Meth _ c_Count "good" f_Count_good ∧ L2.Meth _ c_Count "is_off" f_Count_is_off ∧ L2.Meth _ c_Count "is_quiet" f_Count_is_quiet ∧ L2.Meth _ c_Count "more" f_Count_more ∧ L2.Meth _ c_Count "number" f_Count_number ∧ L2.Mk _ c_Count f_Count_init ∧ mg "Count" = some (.ref c_Count) := by
      refine' Bt.packc KX G ?a_Count ?pg_Count ?hd_Count ?po_Count ?sa_Count ?n_Count_tally ?at_Count_init ?if_Count_init ?il_Count_init ?ic_Count_init ?ik_Count_init ?at_Count_more ?if_Count_more ?il_Count_more ?ic_Count_more ?ik_Count_more ?at_Count_fault ?if_Count_fault ?il_Count_fault ?ic_Count_fault ?ik_Count_fault ?at_Count_blame ?if_Count_blame ?il_Count_blame ?ic_Count_blame ?ik_Count_blame ?at_Count_good ?if_Count_good ?il_Count_good ?ic_Count_good ?ik_Count_good ?at_Count_is_off ?if_Count_is_off ?il_Count_is_off ?ic_Count_is_off ?ik_Count_is_off ?at_Count_is_quiet ?if_Count_is_quiet ?il_Count_is_quiet ?ic_Count_is_quiet ?ik_Count_is_quiet ?at_Count_number ?if_Count_number ?il_Count_number ?ic_Count_number ?ik_Count_number ?mk_Count ?kc_Count
      (case a_Count => k_is)
      (case pg_Count => k_is)
      (case hd_Count => k_is)
      (case po_Count => k_is)
      (case sa_Count => k_is)
      (case n_Count_tally => k_is)
      (case at_Count_init => k_is)
      (case if_Count_init => k_is)
      (case il_Count_init => k_is)
      (case ic_Count_init => k_is)
      (case ik_Count_init => k_is)
      (case at_Count_more => k_is)
      (case if_Count_more => k_is)
      (case il_Count_more => k_is)
      (case ic_Count_more => k_is)
      (case ik_Count_more => k_is)
      (case at_Count_fault => k_is)
      (case if_Count_fault => k_is)
      (case il_Count_fault => k_is)
      (case ic_Count_fault => k_is)
      (case ik_Count_fault => k_is)
      (case at_Count_blame => k_is)
      (case if_Count_blame => k_is)
      (case il_Count_blame => k_is)
      (case ic_Count_blame => k_is)
      (case ik_Count_blame => k_is)
      (case at_Count_good => k_is)
      (case if_Count_good => k_is)
      (case il_Count_good => k_is)
      (case ic_Count_good => k_is)
      (case ik_Count_good => k_is)
      (case at_Count_is_off => k_is)
      (case if_Count_is_off => k_is)
      (case il_Count_is_off => k_is)
      (case ic_Count_is_off => k_is)
      (case ik_Count_is_off => k_is)
      (case at_Count_is_quiet => k_is)
      (case if_Count_is_quiet => k_is)
      (case il_Count_is_quiet => k_is)
      (case ic_Count_is_quiet => k_is)
      (case ik_Count_is_quiet => k_is)
      (case at_Count_number => k_is)
      (case if_Count_number => k_is)
      (case il_Count_number => k_is)
      (case ic_Count_number => k_is)
      (case ik_Count_number => k_is)
      (case mk_Count => k_is)
      (case kc_Count => k_is)
    cases hmg.symm.trans g_law
    refine ⟨fd_law, ?_, fun base _ _ => Bt.ok_law (ad := ⟨f__law_draw, fd__law_draw, f_Count_init, fd_Count_init, f_Count_more, fd_Count_more, f_Count_fault, fd_Count_fault, f_Count_blame, fd_Count_blame, f_Count_good, fd_Count_good, f__law_deed, fd__law_deed, f__law_behind, fd__law_behind, f_Count_is_off, fd_Count_is_off, f_Count_is_quiet, fd_Count_is_quiet, f_Count_number, fd_Count_number, f__law_looked, fd__law_looked, fa, fd_law, c_Count, ⟨fa, fa, fa, fa, fa, fa, fa, fa, fa, fa, fa⟩⟩) ⟨F__law_draw, g__law_draw, F__law_draw.binds (ps := ["script", "k", "many"]) fun _ _ _ _ _ _ us hl => match us, hl with | [_, _, _], _ => rfl, F_Count_init, F_Count_init.binds (ps := ["self"]) fun _ _ _ _ _ _ us hl => match us, hl with | [_], _ => rfl, F_Count_more, F_Count_more.binds (ps := ["self", "many"]) fun _ _ _ _ _ _ us hl => match us, hl with | [_, _], _ => rfl, F_Count_fault, F_Count_fault.binds (ps := ["self", "spoke"]) fun _ _ _ _ _ _ us hl => match us, hl with | [_, _], _ => rfl, F_Count_blame, F_Count_blame.binds (ps := ["self"]) fun _ _ _ _ _ _ us hl => match us, hl with | [_], _ => rfl, F_Count_good, F_Count_good.binds (ps := ["self"]) fun _ _ _ _ _ _ us hl => match us, hl with | [_], _ => rfl, F__law_deed, g__law_deed, F__law_deed.binds (ps := ["count", "way"]) fun _ _ _ _ _ _ us hl => match us, hl with | [_, _], _ => rfl, F__law_behind, g__law_behind, F__law_behind.binds (ps := ["due", "way"]) fun _ _ _ _ _ _ us hl => match us, hl with | [_, _], _ => rfl, F_Count_is_off, F_Count_is_off.binds (ps := ["self"]) fun _ _ _ _ _ _ us hl => match us, hl with | [_], _ => rfl, F_Count_is_quiet, F_Count_is_quiet.binds (ps := ["self"]) fun _ _ _ _ _ _ us hl => match us, hl with | [_], _ => rfl, F_Count_number, F_Count_number.binds (ps := ["self"]) fun _ _ _ _ _ _ us hl => match us, hl with | [_], _ => rfl, F__law_looked, g__law_looked, F__law_looked.binds (ps := ["count", "due", "turned"]) fun _ _ _ _ _ _ us hl => match us, hl with | [_, _, _], _ => rfl, F_law, g_law, F_law.binds (ps := ["script"]) fun _ _ _ _ _ _ us hl => match us, hl with | [_], _ => rfl, z_bool, z_int, z_isinstance, z_len, z_max, z_range, g_OFF, g_QUIET, C_Count, N_Count_tally, M_Count_blame, M_Count_fault, M_Count_good, M_Count_is_off, M_Count_is_quiet, M_Count_more, M_Count_number, K_Count, k_Count⟩⟩
    obtain ⟨oc, od, kV, doc, pm, an, cdv, ct, osl, rfl, lk, hcd⟩ := F_law.ex
    exact fun s u => .of_eq rfl
