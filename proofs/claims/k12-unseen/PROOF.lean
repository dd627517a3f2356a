import PyProof.Rows.All
import Wide.All
import OpenK.AllK
import Wide.FinOn
import HandS.ForMost
import HandS.Exc
import HandS.TryOnly
import HandS.ExcOwn
import HandS.WordsExc
import HandS.IsInst
import HandS.Wide
import HandS.WideBits
import HandS.Flow
import HandS.Evl
import HandS.TryMany
import HandS.Style
import HandS.SortKw
import KE.DatumOrd
import HandS.ExcIs
import HandS.HotCalls
import KE.KExcIs
import PySem.Challenge.RW_bitrail_k12_unseen
set_option Elab.async false
set_option linter.all false
set_option maxRecDepth 100000
set_option maxHeartbeats 4000000
/-! The base of all proofs over bitrail: owned cells over a frame, and the readings' steps, one a construct. -/
namespace Bt
open PySem L2

/-! ### owned cells -/
abbrev Cell := Addr × HO
abbrev Ex (H H' : Hp) : Prop := ∀ a o, H a = some o → H' a = some o
theorem Ex.refl (H : Hp) : Ex H H := fun _ _ h => h
theorem Ex.trans {H H1 H2 : Hp} (a : Ex H H1) (b : Ex H1 H2) : Ex H H2 := fun x o h => b x o (a x o h)
theorem Ex.new {H : Hp} {p : Addr} {o : HO} (h : H p = none) : Ex H (upd H p o) := fun a u e => by
  rw [upd_ne (ne_of_none e h)]
  exact e
theorem Ex.back {H H' : Hp} {p : Addr} (e : Ex H H') (h : H' p = none) : H p = none := by
  cases h1 : H p with
  | none => rfl
  | some o =>
    rw [e p o h1] at h
    cases h
theorem Ex.rd {H H' : Hp} {a : Addr} {u : HO} (e : Ex H H') (h : Rd H a u) : Rd H' a u := by
  rcases h with h | ⟨o, h⟩
  · exact Or.inl (e a _ h)
  · exact Or.inr ⟨o, e a _ h⟩
theorem Ex.l {K : PySem.W.Frag} {H H' : Hp} {a : Addr} {xs : List V} (e : Ex H H') (h : SqL K H a xs) : SqL K H' a xs := by
  rcases h with h | h
  · exact Or.inl (e.rd h)
  · exact Or.inr h
theorem Ex.t {K : PySem.W.Frag} {H H' : Hp} {a : Addr} {xs : List V} (e : Ex H H') (h : SqT K H a xs) : SqT K H' a xs := by
  rcases h with h | h
  · exact Or.inl (e.rd h)
  · exact Or.inr h

/-- H holds the frame R, and beside it the cells L, at unlike places that R does not know -/
structure Own (R H : Hp) (L : List Cell) : Prop where
  ex : Ex R H
  at_ : ∀ c ∈ L, H c.1 = some c.2
  fr : ∀ c ∈ L, R c.1 = none
  nd : (L.map (·.1)).Nodup

section
variable {R H H' : Hp} {L L' A B C : List Cell} {a p q : Addr} {o o' : HO}
theorem Own.start (H : Hp) : Own H H [] := ⟨Ex.refl H, fun _ h => (nomatch h), fun _ h => (nomatch h), List.Pairwise.nil⟩
theorem Own.mem (O : Own R H L) (h : (a, o) ∈ L) : H a = some o := O.at_ _ h
theorem Own.g0 {c1 : Cell} (O : Own R H (c1 :: L)) : H c1.1 = some c1.2 := O.at_ _ (List.Mem.head _)
theorem Own.tl {c1 : Cell} (O : Own R H (c1 :: L)) : Own R H L :=
  ⟨O.ex, fun c h => O.at_ c (List.Mem.tail _ h), fun c h => O.fr c (List.Mem.tail _ h), (List.nodup_cons.mp O.nd).2⟩
theorem Own.ext (O : Own R H L) (e : Ex H H') : Own R H' L := ⟨O.ex.trans e, fun c h => e _ _ (O.at_ c h), O.fr, O.nd⟩
theorem Own.notin (O : Own R H L) (h : H p = none) : p ∉ L.map (·.1) := fun m => by
  obtain ⟨c, hc, e⟩ := List.mem_map.mp m
  have := O.at_ c hc
  rw [e, h] at this
  cases this
theorem Own.ext1 (O : Own R H L) (e : Ex H H') (h : H p = none) (h' : H' p = some o) : Own R H' ((p, o) :: L) :=
  ⟨O.ex.trans e, fun c hc => by
    rcases List.mem_cons.mp hc with rfl | hc
    · exact h'
    · exact e _ _ (O.at_ c hc), fun c hc => by
    rcases List.mem_cons.mp hc with rfl | hc
    · exact O.ex.back h
    · exact O.fr c hc, List.nodup_cons.mpr ⟨O.notin h, O.nd⟩⟩
theorem Own.new (O : Own R H L) (h : H p = none) : Own R (upd H p o) ((p, o) :: L) := O.ext1 (Ex.new h) h upd_same
/-- more cells, owned over H -/
theorem Own.app (O : Own R H L) (N : Own H H' A) : Own R H' (A ++ L) :=
  ⟨O.ex.trans N.ex, fun c hc => by
    rcases List.mem_append.mp hc with hc | hc
    · exact N.at_ c hc
    · exact N.ex _ _ (O.at_ c hc), fun c hc => by
    rcases List.mem_append.mp hc with hc | hc
    · exact O.ex.back (N.fr c hc)
    · exact O.fr c hc, by
    rw [List.map_append]
    refine List.nodup_append.mpr ⟨N.nd, O.nd, fun x hx y hy e => ?_⟩
    subst e
    obtain ⟨c, hc, e⟩ := List.mem_map.mp hx
    have := N.fr c hc
    rw [e] at this
    exact O.notin this hy⟩
theorem Own.put (O : Own R H (A ++ (p, o) :: B)) : Own R (upd H p o') (A ++ (p, o') :: B) := by
  have nd := O.nd
  rw [List.map_append, List.map_cons] at nd
  have nA : p ∉ A.map (·.1) := fun m => by
    have := (List.nodup_append.mp nd).2.2
    exact this _ m p (List.Mem.head _) rfl
  have nB : p ∉ B.map (·.1) := (List.nodup_cons.mp (List.nodup_append.mp nd).2.1).1
  have hp : R p = none := O.fr (p, o) (by simp)
  refine ⟨fun b u e => ?_, fun c hc => ?_, fun c hc => ?_, by rw [List.map_append, List.map_cons]; exact nd⟩
  · rw [upd_ne (ne_of_none e hp)]
    exact O.ex _ _ e
  · rcases List.mem_append.mp hc with hA | hc
    · rw [upd_ne (fun e : c.1 = p => nA (by rw [← e]; exact List.mem_map_of_mem hA))]
      exact O.at_ c (List.mem_append.mpr (Or.inl hA))
    · rcases List.mem_cons.mp hc with rfl | hB
      · exact upd_same
      · rw [upd_ne (fun e : c.1 = p => nB (by rw [← e]; exact List.mem_map_of_mem hB))]
        exact O.at_ c (List.mem_append.mpr (Or.inr (List.mem_cons_of_mem _ hB)))
  · rcases List.mem_append.mp hc with hA | hc
    · exact O.fr c (List.mem_append.mpr (Or.inl hA))
    · rcases List.mem_cons.mp hc with rfl | hB
      · exact hp
      · exact O.fr c (List.mem_append.mpr (Or.inr (List.mem_cons_of_mem _ hB)))
theorem Own.put0 (O : Own R H ((p, o) :: B)) : Own R (upd H p o') ((p, o') :: B) := Own.put (A := []) O
theorem Own.put1 {c1 : Cell} (O : Own R H (c1 :: (p, o) :: B)) : Own R (upd H p o') (c1 :: (p, o') :: B) := Own.put (A := [c1]) O
theorem Own.put2 {c1 c2 : Cell} (O : Own R H (c1 :: c2 :: (p, o) :: B)) : Own R (upd H p o') (c1 :: c2 :: (p, o') :: B) := Own.put (A := [c1, c2]) O
theorem Own.put3 {c1 c2 c3 : Cell} (O : Own R H (c1 :: c2 :: c3 :: (p, o) :: B)) : Own R (upd H p o') (c1 :: c2 :: c3 :: (p, o') :: B) := Own.put (A := [c1, c2, c3]) O
theorem Own.put4 {c1 c2 c3 c4 : Cell} (O : Own R H (c1 :: c2 :: c3 :: c4 :: (p, o) :: B)) : Own R (upd H p o') (c1 :: c2 :: c3 :: c4 :: (p, o') :: B) := Own.put (A := [c1, c2, c3, c4]) O
theorem Own.put5 {c1 c2 c3 c4 c5 : Cell} (O : Own R H (c1 :: c2 :: c3 :: c4 :: c5 :: (p, o) :: B)) : Own R (upd H p o') (c1 :: c2 :: c3 :: c4 :: c5 :: (p, o') :: B) := Own.put (A := [c1, c2, c3, c4, c5]) O
theorem Own.put6 {c1 c2 c3 c4 c5 c6 : Cell} (O : Own R H (c1 :: c2 :: c3 :: c4 :: c5 :: c6 :: (p, o) :: B)) : Own R (upd H p o') (c1 :: c2 :: c3 :: c4 :: c5 :: c6 :: (p, o') :: B) := Own.put (A := [c1, c2, c3, c4, c5, c6]) O
theorem Own.perm (O : Own R H L) (e : L.Perm L') : Own R H L' :=
  ⟨O.ex, fun c h => O.at_ c (e.mem_iff.mpr h), fun c h => O.fr c (e.mem_iff.mpr h), (e.map _).nodup_iff.mp O.nd⟩
/-- fewer cells -/
theorem Own.sub (O : Own R H L) (e : L'.Sublist L) : Own R H L' :=
  ⟨O.ex, fun c h => O.at_ c (e.subset h), fun c h => O.fr c (e.subset h), List.Nodup.sublist (e.map _) O.nd⟩
/-- THE FRAME: what is done to some of the cells, the others being its frame -/
theorem Own.focus (O : Own R H (A ++ B)) : ∃ R', Own R' H A ∧ Ex R R' ∧ (∀ c ∈ B, R' c.1 = some c.2) ∧ ∀ H' A', Own R' H' A' → Own R H' (A' ++ B) := by
  have nd := O.nd
  rw [List.map_append] at nd
  obtain ⟨ndA, ndB, dis⟩ := List.nodup_append.mp nd
  refine ⟨fun b => if b ∈ A.map (·.1) then none else H b, ⟨fun b u e => ?_, fun c h => O.at_ c (List.mem_append.mpr (Or.inl h)), fun c h => if_pos (List.mem_map_of_mem h), ndA⟩, fun b u e => ?_, fun c hc => ?_, fun H' A' O' => ?_⟩
  · by_cases hb : b ∈ A.map (·.1)
    · rw [if_pos hb] at e; cases e
    · rw [if_neg hb] at e; exact e
  · have hb : b ∉ A.map (·.1) := fun m => by
      obtain ⟨c, hc, e1⟩ := List.mem_map.mp m
      have := O.fr c (List.mem_append.mpr (Or.inl hc))
      rw [e1, e] at this
      cases this
    show (if b ∈ A.map (·.1) then none else H b) = some u
    rw [if_neg hb]
    exact O.ex _ _ e
  · have hb : c.1 ∉ A.map (·.1) := fun m => dis _ m _ (List.mem_map_of_mem hc) rfl
    show (if c.1 ∈ A.map (·.1) then none else H c.1) = some c.2
    rw [if_neg hb]
    exact O.at_ c (List.mem_append.mpr (Or.inr hc))
  · have hB : ∀ c ∈ B, (if c.1 ∈ A.map (·.1) then none else H c.1) = some c.2 := fun c hc => by
      have hb : c.1 ∉ A.map (·.1) := fun m => dis _ m _ (List.mem_map_of_mem hc) rfl
      rw [if_neg hb]
      exact O.at_ c (List.mem_append.mpr (Or.inr hc))
    have hR : ∀ b u, R b = some u → (if b ∈ A.map (·.1) then none else H b) = some u := fun b u e => by
      have hb : b ∉ A.map (·.1) := fun m => by
        obtain ⟨c, hc, e1⟩ := List.mem_map.mp m
        have := O.fr c (List.mem_append.mpr (Or.inl hc))
        rw [e1, e] at this
        cases this
      rw [if_neg hb]
      exact O.ex _ _ e
    refine ⟨fun b u e => O'.ex _ _ (hR b u e), fun c hc => ?_, fun c hc => ?_, ?_⟩
    · rcases List.mem_append.mp hc with hc | hc
      · exact O'.at_ c hc
      · exact O'.ex _ _ (hB c hc)
    · rcases List.mem_append.mp hc with hc | hc
      · cases e : R c.1 with
        | none => rfl
        | some u =>
          have := O'.fr c hc
          rw [hR _ _ e] at this
          cases this
      · exact O.fr c (List.mem_append.mpr (Or.inr hc))
    · rw [List.map_append]
      refine List.nodup_append.mpr ⟨O'.nd, ndB, fun x hx y hy e => ?_⟩
      subst e
      obtain ⟨c, hc, e⟩ := List.mem_map.mp hx
      obtain ⟨d, hd, e2⟩ := List.mem_map.mp hy
      have h1 := O'.fr c hc
      have h2 := hB d hd
      rw [e2, ← e, h1] at h2
      cases h2
/-- the frame may be what is there now: all else is kept -/
theorem Own.over (O : Own R H L) : Own H H [] := Own.start H
end

/-! ### what a call hands back: a value; a new list; a new tuple -/
def RetV (v : V) (H : Hp) (Q : VK) : Prop := ∀ H', Ex H H' → Q v H'
def RetL (xs : List V) (H : Hp) (Q : VK) : Prop := ∀ p H', H p = none → Ex H H' → H' p = some (.lst xs) → Q (.ref p) H'
def RetT (xs : List V) (H : Hp) (Q : VK) : Prop := ∀ p H', H p = none → Ex H H' → H' p = some (.tup xs) → Q (.ref p) H'
/-- any new cells, as D says -/
def RetN (D : V → List Cell → Prop) (H : Hp) (Q : VK) : Prop := ∀ v H' L, Own H H' L → D v L → Q v H'
section
variable {R H : Hp} {L : List Cell} {Q : VK} {v : V} {xs : List V}
theorem Own.retV (O : Own R H L) (k : ∀ H', Own R H' L → Q v H') : RetV v H Q := fun H' e => k H' (O.ext e)
theorem Own.retL (O : Own R H L) (k : ∀ p H', Own R H' ((p, .lst xs) :: L) → Q (.ref p) H') : RetL xs H Q := fun p H' h e h' => k p H' (O.ext1 e h h')
theorem Own.retT (O : Own R H L) (k : ∀ p H', Own R H' ((p, .tup xs) :: L) → Q (.ref p) H') : RetT xs H Q := fun p H' h e h' => k p H' (O.ext1 e h h')
theorem Own.retN {D : V → List Cell → Prop} (O : Own R H L) (k : ∀ v H' N, Own R H' (N ++ L) → D v N → Q v H') : RetN D H Q := fun v H' N o d => k v H' N (O.app o) d
/-- the end of a def that started at H: what it hands back is new -/
theorem RetV.go {H0 H : Hp} {L : List Cell} {v : V} {Q : VK} (k : RetV v H0 Q) (O : Own H0 H L) : Q v H := k H O.ex
theorem RetL.go {H0 H : Hp} {L : List Cell} {xs : List V} {Q : VK} {p : Addr} (k : RetL xs H0 Q) (O : Own H0 H L) (h : (p, HO.lst xs) ∈ L) : Q (.ref p) H := k p H (O.fr _ h) O.ex (O.at_ _ h)
theorem RetT.go {H0 H : Hp} {L : List Cell} {xs : List V} {Q : VK} {p : Addr} (k : RetT xs H0 Q) (O : Own H0 H L) (h : (p, HO.tup xs) ∈ L) : Q (.ref p) H := k p H (O.fr _ h) O.ex (O.at_ _ h)
theorem RetN.go {H0 H : Hp} {L N : List Cell} {D : V → List Cell → Prop} {Q : VK} {v : V} (k : RetN D H0 Q) (O : Own H0 H L) (e : N.Sublist L) (d : D v N) : Q v H := k v H N (O.sub e) d
end

end Bt

set_option Elab.async false
set_option linter.all false
set_option maxRecDepth 100000
set_option maxHeartbeats 4000000
/-! The mirror's words (partial functions: none where the program would stop), and the steps that join a reading with its mirror. -/
namespace Bt
open PySem L2

/-! ### the mirror's words -/
section
variable {α β γ S R T : Type}
def ltv (a : α) (f : α → Option β) : Option β := f a
theorem ltvE {a : α} {f : α → Option β} {r : β} (h : ltv a f = some r) : ∃ x, a = x ∧ f x = some r := ⟨a, rfl, h⟩
def bnd (a : Option α) (f : α → Option β) : Option β := match a with
  | some x => f x
  | none => none
theorem bndE {a : Option α} {f : α → Option β} {r : β} (h : bnd a f = some r) : ∃ x, a = some x ∧ f x = some r := by
  cases a with
  | none => cases h
  | some x => exact ⟨x, rfl, h⟩
def ifB (c : Bool) (a b : α) : α := match c with
  | true => a
  | false => b
theorem ifT {c : Bool} {a b r : α} (h : ifB c a b = r) (hc : c = true) : a = r := by subst hc; exact h
theorem ifF {c : Bool} {a b r : α} (h : ifB c a b = r) (hc : c = false) : b = r := by subst hc; exact h
inductive Fl (S R : Type) where
  | nx (s : S)
  | rt (r : R)
  | bk (s : S)
def finK (rest : S → Option R) : Fl S R → Option R
  | .nx s => rest s
  | .rt r => some r
  | .bk _ => none
def fin (a : Option (Fl S R)) (rest : S → Option R) : Option R := bnd a (finK rest)
def floK (rest : S → Option (Fl T R)) : Fl S R → Option (Fl T R)
  | .nx s => rest s
  | .rt r => some (.rt r)
  | .bk _ => none
def flo (a : Option (Fl S R)) (rest : S → Option (Fl T R)) : Option (Fl T R) := bnd a (floK rest)
theorem finRt {rest : S → Option R} {v r : R} (h : finK rest (.rt v) = some r) : v = r := Option.some.inj h
theorem floRt {rest : S → Option (Fl T R)} {v : R} {fl : Fl T R} (h : floK rest (.rt v) = some fl) : Fl.rt v = fl := Option.some.inj h
def loopM (f : α → S → Option S) : List α → S → Option S
  | [], s => some s
  | x :: r, s => bnd (f x s) (loopM f r)
theorem loopM_nil {f : α → S → Option S} {s out : S} (h : loopM f [] s = some out) : out = s := (Option.some.inj h).symm
theorem loopM_cons {f : α → S → Option S} {x : α} {r : List α} {s out : S} (h : loopM f (x :: r) s = some out) : ∃ s', f x s = some s' ∧ loopM f r s' = some out := bndE h
def contF (go : S → Option (Fl S R)) : Fl S R → Option (Fl S R)
  | .nx s => go s
  | .rt r => some (.rt r)
  | .bk s => some (.nx s)
def loopF (f : α → S → Option (Fl S R)) : List α → S → Option (Fl S R)
  | [], s => some (.nx s)
  | x :: r, s => bnd (f x s) (contF (loopF f r))
theorem loopF_nil {f : α → S → Option (Fl S R)} {s : S} {out : Fl S R} (h : loopF f [] s = some out) : Fl.nx s = out := Option.some.inj h
theorem loopF_cons {f : α → S → Option (Fl S R)} {x : α} {r : List α} {s : S} {out : Fl S R} (h : loopF f (x :: r) s = some out) : ∃ fl, f x s = some fl ∧ contF (loopF f r) fl = some out := bndE h
theorem contRt {go : S → Option (Fl S R)} {v : R} {out : Fl S R} (h : contF go (.rt v) = some out) : Fl.rt v = out := Option.some.inj h
theorem contBk {go : S → Option (Fl S R)} {s : S} {out : Fl S R} (h : contF go (.bk s) = some out) : Fl.nx s = out := Option.some.inj h
def whileM (c : S → Option Bool) (f : S → Option S) : Nat → S → Option S
  | 0, _ => none
  | n + 1, s => bnd (c s) fun b => ifB b (bnd (f s) (whileM c f n)) (some s)
theorem whileM_zero {c : S → Option Bool} {f : S → Option S} {s out : S} (h : whileM c f 0 s = some out) : False := nomatch h
theorem whileM_succ {c : S → Option Bool} {f : S → Option S} {n : Nat} {s out : S} (h : whileM c f (n + 1) s = some out) : ∃ b, c s = some b ∧ ifB b (bnd (f s) (whileM c f n)) (some s) = some out := bndE h
def whileF (c : S → Option Bool) (f : S → Option (Fl S R)) : Nat → S → Option (Fl S R)
  | 0, _ => none
  | n + 1, s => bnd (c s) fun b => ifB b (bnd (f s) (contF (whileF c f n))) (some (.nx s))
theorem whileF_succ {c : S → Option Bool} {f : S → Option (Fl S R)} {n : Nat} {s : S} {out : Fl S R} (h : whileF c f (n + 1) s = some out) : ∃ b, c s = some b ∧ ifB b (bnd (f s) (contF (whileF c f n))) (some (.nx s)) = some out := bndE h
/-- a comprehension: what is kept, in order -/
def compM (f : α → Option β) : List α → List β → Option (List β)
  | [], acc => some acc
  | x :: r, acc => bnd (f x) fun y => if acc.length < 16777216 then compM f r (acc ++ [y]) else none
theorem compM_cons {f : α → Option β} {x : α} {r : List α} {acc out : List β} (h : compM f (x :: r) acc = some out) : ∃ y, f x = some y ∧ acc.length < 16777216 ∧ compM f r (acc ++ [y]) = some out := by
  obtain ⟨y, h1, h2⟩ := bndE (show bnd (f x) (fun y => if acc.length < 16777216 then compM f r (acc ++ [y]) else none) = some out from h)
  by_cases c : acc.length < 16777216
  · rw [if_pos c] at h2
    exact ⟨y, h1, c, h2⟩
  · rw [if_neg c] at h2
    cases h2
theorem compM_nil {f : α → Option β} {acc out : List β} (h : compM f [] acc = some out) : out = acc := (Option.some.inj h).symm
/-- .. with a test -/
def compT (c : α → Option Bool) (f : α → Option β) : List α → List β → Option (List β)
  | [], acc => some acc
  | x :: r, acc => bnd (c x) fun b => ifB b (bnd (f x) fun y => if acc.length < 16777216 then compT c f r (acc ++ [y]) else none) (compT c f r acc)
theorem compT_nil {c : α → Option Bool} {f : α → Option β} {acc out : List β} (h : compT c f [] acc = some out) : out = acc := (Option.some.inj h).symm
theorem compT_cons {c : α → Option Bool} {f : α → Option β} {x : α} {r : List α} {acc out : List β} (h : compT c f (x :: r) acc = some out) :
    ∃ b, c x = some b ∧ ifB b (bnd (f x) fun y => if acc.length < 16777216 then compT c f r (acc ++ [y]) else none) (compT c f r acc) = some out := bndE h
theorem compT_yes {c : α → Option Bool} {f : α → Option β} {x : α} {r : List α} {acc out : List β} (h : (bnd (f x) fun y => if acc.length < 16777216 then compT c f r (acc ++ [y]) else none) = some out) :
    ∃ y, f x = some y ∧ acc.length < 16777216 ∧ compT c f r (acc ++ [y]) = some out := by
  obtain ⟨y, h1, h2⟩ := bndE h
  by_cases c : acc.length < 16777216
  · rw [if_pos c] at h2
    exact ⟨y, h1, c, h2⟩
  · rw [if_neg c] at h2
    cases h2
end
section
variable {α : Type}
def grd (c : Prop) [Decidable c] (a : α) : Option α := if c then some a else none
theorem grdE {c : Prop} [Decidable c] {a r : α} (h : grd c a = some r) : c ∧ a = r := by
  unfold grd at h
  by_cases hc : c
  · rw [if_pos hc] at h
    exact ⟨hc, Option.some.inj h⟩
  · rw [if_neg hc] at h
    cases h
theorem grd_of {c : Prop} [Decidable c] {a : α} (h : c) : grd c a = some a := if_pos h
def appG (xs : List α) (y : α) : Option (List α) := grd (xs.length < 16777216) (xs ++ [y])
def catG (xs ys : List α) : Option (List α) := grd (xs.length + ys.length ≤ 16777216) (xs ++ ys)
def repL (xs : List α) : Nat → List α
  | 0 => []
  | n + 1 => xs ++ repL xs n
def repG (xs : List α) (k : Int) : Option (List α) := grd (-(2 ^ 63) ≤ k ∧ k < 2 ^ 63 ∧ xs.length * k.toNat ≤ 16777216) (List.flatten (List.replicate k.toNat xs))
def setG (xs : List α) (i : Int) (y : α) : Option (List α) := match ixN xs.length i with
  | some j => some (xs.set j y)
  | none => none
def cutL (xs : List α) (lo hi : Option Int) : List α := (xs.drop (HT.sIx xs.length 0 lo)).take (HT.sIx xs.length xs.length hi - HT.sIx xs.length 0 lo)
def rangeI (lo hi : Int) : List Int := (List.range (hi - lo).toNat).map fun (i : Nat) => lo + (i : Int)
def rng1 (hi : Int) : Option (List Int) := grd (-(2 ^ 62) ≤ hi ∧ hi < 2 ^ 62) (rangeI 0 hi)
def rng2 (lo hi : Int) : Option (List Int) := grd (-(2 ^ 62) ≤ lo ∧ lo < 2 ^ 62 ∧ -(2 ^ 62) ≤ hi ∧ hi < 2 ^ 62) (rangeI lo hi)
end
def modG (i j : Int) : Option Int := grd (0 < j) (i % j)
def fdivG (i j : Int) : Option Int := grd (0 < j ∧ j.natAbs.log2 < 9000) (i / j)
def mulG (i j : Int) : Option Int := grd (i.natAbs.log2 + j.natAbs.log2 < 1000000) (i * j)
def shlG (i j : Int) : Option Int := grd (0 ≤ j ∧ (Builtin.Int.intBits i : Int) + j ≤ 2 ^ 27) (i * 2 ^ j.toNat)
def shrG (i j : Int) : Option Int := grd (0 ≤ j) (i / 2 ^ j.toNat)
def powG (i j : Int) : Option Int := grd (0 ≤ j ∧ j ≤ 1000000 ∧ i.natAbs < 2 ^ 64) (i ^ j.toNat)

/-! ### the steps -/
section
variable {K : PySem.W.Frag} {σ : St} {H R : Hp} {L : List Cell} {Q : VK} {i j t : Int} {x y z v : V} {a b p q : Addr} {α : Type} {f : α → V} {xs ys zs : List α} {xs' ys' : List Int}
theorem k_mul (h : mulG i j = some t) (k : Q (.int t) H) : rI CMulW (fun i j => .int (i * j)) (.int i) (.int j) H Q := by
  obtain ⟨c, rfl⟩ := grdE h
  exact ⟨_, _, rfl, rfl, c, k⟩
theorem k_mod (h : modG i j = some t) (k : Q (.int t) H) : rI (fun _ j => 0 < j) (fun i j => .int (i % j)) (.int i) (.int j) H Q := by
  obtain ⟨c, rfl⟩ := grdE h
  exact ⟨_, _, rfl, rfl, c, k⟩
theorem k_fdiv (h : fdivG i j = some t) (k : Q (.int t) H) : rI CDivW (fun i j => .int (i / j)) (.int i) (.int j) H Q := by
  obtain ⟨c, rfl⟩ := grdE h
  exact ⟨_, _, rfl, rfl, c, k⟩
theorem k_shl (h : shlG i j = some t) (k : Q (.int t) H) : rI CShl (fun i j => .int (i * 2 ^ j.toNat)) (.int i) (.int j) H Q := by
  obtain ⟨c, rfl⟩ := grdE h
  exact ⟨_, _, rfl, rfl, c, k⟩
theorem k_shr (h : shrG i j = some t) (k : Q (.int t) H) : rI (fun _ j => 0 ≤ j) (fun i j => .int (i / 2 ^ j.toNat)) (.int i) (.int j) H Q := by
  obtain ⟨c, rfl⟩ := grdE h
  exact ⟨_, _, rfl, rfl, c, k⟩
theorem k_pow (h : powG i j = some t) (k : Q (.int t) H) : rI CPow (fun i j => .int (i ^ j.toNat)) (.int i) (.int j) H Q := by
  obtain ⟨c, rfl⟩ := grdE h
  exact ⟨_, _, rfl, rfl, c, k⟩
theorem dec_int (i j : Int) : decide (V.int i = V.int j) = decide (i = j) := by
  by_cases h : i = j
  · subst h; simp
  · have : ¬ V.int i = V.int j := fun e => h (V.int.inj e)
    simp [h, this]
theorem dec_bl (i j : Bool) : decide (V.bl i = V.bl j) = decide (i = j) := by
  by_cases h : i = j
  · subst h; simp
  · have : ¬ V.bl i = V.bl j := fun e => h (V.bl.inj e)
    simp [h, this]
theorem dec_str (i j : Str) : decide (V.str i = V.str j) = decide (i = j) := by
  by_cases h : i = j
  · subst h; simp
  · have : ¬ V.str i = V.str j := fun e => h (V.str.inj e)
    simp [h, this]
theorem k_eqI (k : Q (.bl (decide (i = j))) H) : rEq (.int i) (.int j) H Q := ⟨rfl, by rw [dec_int]; exact k⟩
theorem k_neI (k : Q (.bl (!decide (i = j))) H) : rNe (.int i) (.int j) H Q := ⟨rfl, by rw [dec_int]; exact k⟩
theorem k_eqB {c d : Bool} (k : Q (.bl (decide (c = d))) H) : rEq (.bl c) (.bl d) H Q := ⟨rfl, by rw [dec_bl]; exact k⟩
theorem k_neB {c d : Bool} (k : Q (.bl (!decide (c = d))) H) : rNe (.bl c) (.bl d) H Q := ⟨rfl, by rw [dec_bl]; exact k⟩
theorem k_eqS {c d : Str} (k : Q (.bl (decide (c = d))) H) : rEq (.str c) (.str d) H Q := ⟨rfl, by rw [dec_str]; exact k⟩
theorem k_neS {c d : Str} (k : Q (.bl (!decide (c = d))) H) : rNe (.str c) (.str d) H Q := ⟨rfl, by rw [dec_str]; exact k⟩
/-! deep == of flat lists -/
theorem dpI : ∀ (ns : List Int), DpAll K H (ns.map V.int) (ns.map PyData.int)
  | [] => .nil
  | n :: r => .cons (.int n) (dpI r)
theorem dpB : ∀ (ns : List Bool), DpAll K H (ns.map V.bl) (ns.map PyData.bool)
  | [] => .nil
  | n :: r => .cons (.bl n) (dpB r)
theorem dpS : ∀ (ns : List Str), DpAll K H (ns.map V.str) (ns.map PyData.str)
  | [] => .nil
  | n :: r => .cons (.str n) (dpS r)

theorem sh_I (ns : List Int) : SeqAt.shaped (.list (ns.map PyData.int)) = true := by
  have h1 : ∀ ns : List Int, PyData.canLayAll0 (ns.map PyData.int) = true := fun ns => by
    induction ns with
    | nil => rfl
    | cons n r ih => simpa [PyData.canLayAll0, PyData.canLay0] using ih
  have h2 : ∀ ns : List Int, PyData.depthAll (ns.map PyData.int) = 0 := fun ns => by
    induction ns with
    | nil => rfl
    | cons n r ih => simpa [PyData.depthAll, PyData.depth] using ih
  simp [SeqAt.shaped, PyData.canLay0, h1, PyData.depth, h2]
theorem sh_B (ns : List Bool) : SeqAt.shaped (.list (ns.map PyData.bool)) = true := by
  have h1 : ∀ ns : List Bool, PyData.canLayAll0 (ns.map PyData.bool) = true := fun ns => by
    induction ns with
    | nil => rfl
    | cons n r ih => simpa [PyData.canLayAll0, PyData.canLay0] using ih
  have h2 : ∀ ns : List Bool, PyData.depthAll (ns.map PyData.bool) = 0 := fun ns => by
    induction ns with
    | nil => rfl
    | cons n r ih => simpa [PyData.depthAll, PyData.depth] using ih
  simp [SeqAt.shaped, PyData.canLay0, h1, PyData.depth, h2]
theorem ev_I : ∀ (ns ms : List Int), PyData.eqv (.list (ns.map PyData.int)) (.list (ms.map PyData.int)) = decide (ns = ms) := by
  have h : ∀ (ns ms : List Int), PyData.eqvAll (ns.map PyData.int) (ms.map PyData.int) = decide (ns = ms) := fun ns => by
    induction ns with
    | nil => intro ms; cases ms <;> simp [PyData.eqvAll]
    | cons n r ih =>
      intro ms
      cases ms with
      | nil => simp [PyData.eqvAll]
      | cons m s =>
        simp only [List.map_cons, PyData.eqvAll, PyData.eqv, ih, List.cons.injEq, Bool.decide_and]
        rw [Bool.beq_eq_decide_eq]
  exact fun ns ms => by simpa only [PyData.eqv] using h ns ms
theorem k_eqLI (ha : SqL K H a (xs'.map V.int)) (hb : SqL K H b (ys'.map V.int)) (k : Q (.bl (decide (xs' = ys'))) H) : rEqD K (.ref a) (.ref b) H Q :=
  ⟨_, _, .lst ha (dpI _), .lst hb (dpI _), sh_I _, sh_I _, by rw [ev_I]; exact k⟩
theorem k_neLI (ha : SqL K H a (xs'.map V.int)) (hb : SqL K H b (ys'.map V.int)) (k : Q (.bl (!decide (xs' = ys'))) H) : rNeD K (.ref a) (.ref b) H Q :=
  ⟨_, _, .lst ha (dpI _), .lst hb (dpI _), sh_I _, sh_I _, by rw [ev_I]; exact k⟩
/-! lists -/
theorem k_len (h : SqL K H a (xs.map f)) (k : Q (.int (xs.length : Int)) H) : ∃ p ys, [V.ref a] = [V.ref p] ∧ (SqL K H p ys ∨ SqT K H p ys) ∧ Q (.int ys.length) H :=
  ⟨a, _, rfl, .inl h, by rw [List.length_map]; exact k⟩
theorem k_list (O : Own R H L) {ys : List V} (h : SqL K H a ys) (k : ∀ p H', Own R H' ((p, .lst ys) :: L) → Q (.ref p) H') : ∃ p ys, [V.ref a] = [V.ref p] ∧ (SqL K H p ys ∨ SqT K H p ys) ∧ ∀ l, H l = none → Q (.ref l) (upd H l (.lst ys)) :=
  ⟨a, _, rfl, .inl h, fun l hl => k l _ (O.new hl)⟩
theorem k_sum (h : SqL K H a (xs'.map V.int)) (k : Q (.int xs'.sum) H) : rSum K [.ref a] H Q := ⟨a, _, rfl, h, k⟩
theorem k_new {zs : List V} (O : Own R H L) (k : ∀ p H', Own R H' ((p, .lst zs) :: L) → Q (.ref p) H') : ∀ p, H p = none → Q (.ref p) (upd H p (.lst zs)) := fun p hp => k p _ (O.new hp)
theorem k_newT {zs : List V} (O : Own R H L) (k : ∀ p H', Own R H' ((p, .tup zs) :: L) → Q (.ref p) H') : ∀ p, H p = none → Q (.ref p) (upd H p (.tup zs)) := fun p hp => k p _ (O.new hp)
theorem at_map {xs : List α} {i : Int} {x : α} (h : atI xs i = some x) (f : α → V) : atI (xs.map f) i = some (f x) := by
  unfold atI at h ⊢
  rw [List.length_map]
  cases e : ixN xs.length i with
  | none => rw [e] at h; cases h
  | some j =>
    rw [e] at h
    show (xs.map f)[j]? = some (f x)
    rw [List.getElem?_map, (show xs[j]? = some x from h)]
    rfl
theorem k_ixL {x : α} (hs : SqL K H a (xs.map f)) (h : atI xs i = some x) (k : Q (f x) H) : rIxL K (.ref a) (.int i) H Q := ⟨a, _, i, _, rfl, rfl, hs, at_map h f, k⟩
theorem map_snoc (xs : List α) (x : α) (f : α → V) : xs.map f ++ [f x] = (xs ++ [x]).map f := by rw [List.map_append]; rfl
theorem k_app {x : α} {g : HO → List Cell} (hl : H a = some (.lst (xs.map f))) (hp : ∀ o', Own R (upd H a o') (g o')) (h : appG xs x = some ys) (k : ∀ H', Own R H' (g (.lst (ys.map f))) → Q .non H') : rAppend (.ref a) [f x] H Q := by
  obtain ⟨c, rfl⟩ := grdE h
  refine ⟨a, _, _, rfl, rfl, hl, by rw [List.length_map]; exact c, ?_⟩
  rw [map_snoc]
  exact k _ (hp _)
theorem map_cut (xs : List α) (lo hi : Option Int) (f : α → V) : cutV (xs.map f) lo hi = (cutL xs lo hi).map f := by
  unfold cutV cutL
  rw [List.length_map, ← List.map_drop, ← List.map_take]
theorem k_cut {lo hi : Option Int} (O : Own R H L) (hs : SqL K H a (xs.map f)) (k : ∀ p H', Own R H' ((p, .lst ((cutL xs lo hi).map f)) :: L) → Q (.ref p) H') : rSlL K (.ref a) lo hi H Q :=
  ⟨a, _, rfl, hs, fun p hp => by rw [map_cut]; exact k p _ (O.new hp)⟩
theorem k_cat {ys zs : List α} (O : Own R H L) (h1 : H a = some (.lst (xs.map f))) (h2 : H b = some (.lst (ys.map f))) (h : catG xs ys = some zs) (k : ∀ p H', Own R H' ((p, .lst (zs.map f)) :: L) → Q (.ref p) H') : rCat (.ref a) (.ref b) H Q := by
  obtain ⟨c, rfl⟩ := grdE h
  exact ⟨a, b, _, _, rfl, rfl, h1, h2, by rw [List.length_map, List.length_map]; exact c, fun p hp => by rw [← List.map_append]; exact k p _ (O.new hp)⟩
theorem k_setL {x : α} {g : HO → List Cell} {QH : Hp → Prop} (hl : H a = some (.lst (xs.map f))) (hp : ∀ o', Own R (upd H a o') (g o')) (h : setG xs i x = some ys) (k : ∀ H', Own R H' (g (.lst (ys.map f))) → QH H') : rSetL (.ref a) (.int i) (f x) H QH := by
  unfold setG at h
  cases e : ixN xs.length i with
  | none => rw [e] at h; cases h
  | some j =>
    rw [e] at h
    cases h
    refine ⟨a, _, i, j, rfl, rfl, hl, by rw [List.length_map]; exact e, ?_⟩
    have e2 : (xs.map f).set j (f x) = (xs.set j x).map f := by rw [List.map_set]
    rw [e2]
    exact k _ (hp _)
/-! tests with two sides: what the one is asked for, the other is not seen -/
theorem x_and {c d e : Bool} {tt uu : TT} {QB : Bool → Hp → Prop} (O : Own R H L) (h1 : ∀ Q1 : Bool → Hp → Prop, (∀ H', Own R H' L → Q1 c H') → tt σ H Q1) (h2 : c = true → e = d ∧ ∀ H', Own R H' L → ∀ Q2 : Bool → Hp → Prop, (∀ H'', Own R H'' L → Q2 e H'') → uu σ H' Q2)
    (h3 : c = false → false = d) (k : ∀ H', Own R H' L → QB d H') : tAnd tt uu σ H QB := by
  refine h1 _ fun H' O' => ?_
  cases c with
  | true =>
    obtain ⟨e1, g2⟩ := h2 rfl
    subst e1
    exact g2 H' O' QB k
  | false =>
    rw [← h3 rfl] at k
    exact k H' O'
theorem x_or {c d e : Bool} {tt uu : TT} {QB : Bool → Hp → Prop} (O : Own R H L) (h1 : ∀ Q1 : Bool → Hp → Prop, (∀ H', Own R H' L → Q1 c H') → tt σ H Q1) (h2 : c = false → e = d ∧ ∀ H', Own R H' L → ∀ Q2 : Bool → Hp → Prop, (∀ H'', Own R H'' L → Q2 e H'') → uu σ H' Q2)
    (h3 : c = true → true = d) (k : ∀ H', Own R H' L → QB d H') : tOr tt uu σ H QB := by
  refine h1 _ fun H' O' => ?_
  cases c with
  | false =>
    obtain ⟨e1, g2⟩ := h2 rfl
    subst e1
    exact g2 H' O' QB k
  | true =>
    rw [← h3 rfl] at k
    exact k H' O'
theorem x_andV {c d e : Bool} {tt uu : TE} (O : Own R H L) (h1 : ∀ Q1 : VK, (∀ H', Own R H' L → Q1 (.bl c) H') → tt σ H Q1) (h2 : c = true → e = d ∧ ∀ H', Own R H' L → ∀ Q2 : VK, (∀ H'', Own R H'' L → Q2 (.bl e) H'') → uu σ H' Q2)
    (h3 : c = false → false = d) (k : ∀ H', Own R H' L → Q (.bl d) H') : tAndV tt uu σ H Q := by
  refine h1 _ fun H' O' => ⟨_, rfl, ?_⟩
  cases c with
  | true =>
    obtain ⟨e1, g2⟩ := h2 rfl
    subst e1
    exact g2 H' O' Q k
  | false =>
    rw [← h3 rfl] at k
    exact k H' O'
theorem x_orV {c d e : Bool} {tt uu : TE} (O : Own R H L) (h1 : ∀ Q1 : VK, (∀ H', Own R H' L → Q1 (.bl c) H') → tt σ H Q1) (h2 : c = false → e = d ∧ ∀ H', Own R H' L → ∀ Q2 : VK, (∀ H'', Own R H'' L → Q2 (.bl e) H'') → uu σ H' Q2)
    (h3 : c = true → true = d) (k : ∀ H', Own R H' L → Q (.bl d) H') : tOrV tt uu σ H Q := by
  refine h1 _ fun H' O' => ⟨_, rfl, ?_⟩
  cases c with
  | false =>
    obtain ⟨e1, g2⟩ := h2 rfl
    subst e1
    exact g2 H' O' Q k
  | true =>
    rw [← h3 rfl] at k
    exact k H' O'
/-- a < b < c -/
theorem x_chain {r r' : R2} {c d e : Bool} {ta tb tc : TE} (O : Own R H L) (h1 : ∀ Q1 : VK, (∀ H', Own R H' L → Q1 x H') → ta σ H Q1) (h2 : ∀ H', Own R H' L → ∀ Q1 : VK, (∀ H', Own R H' L → Q1 y H') → tb σ H' Q1) (h3 : ∀ H' (Q1 : VK), Q1 (.bl c) H' → r x y H' Q1)
    (h4 : c = true → e = d ∧ ∀ H', Own R H' L → ∀ Q1 : VK, (∀ H', Own R H' L → Q1 z H') → tc σ H' Q1) (h5 : ∀ H' (Q1 : VK), Q1 (.bl e) H' → r' y z H' Q1) (h6 : c = false → false = d) (k : ∀ H', Own R H' L → Q (.bl d) H') : tChain r r' ta tb tc σ H Q := by
  refine h1 _ fun H1 O1 => h2 H1 O1 _ fun H2 O2 => h3 H2 _ ⟨c, rfl, ?_⟩
  cases c with
  | true =>
    obtain ⟨e1, g4⟩ := h4 rfl
    subst e1
    exact g4 H2 O2 _ fun H3 O3 => h5 H3 _ (k H3 O3)
  | false =>
    rw [← h6 rfl] at k
    exact k H2 O2
/-- a if c else b, a value -/
theorem x_if {c : Bool} {tt : TT} {ta tb : TE} (O : Own R H L) (h1 : ∀ Q1 : Bool → Hp → Prop, (∀ H', Own R H' L → Q1 c H') → tt σ H Q1) (h2 : c = true → x = v ∧ ∀ H', Own R H' L → ∀ Q2 : VK, (∀ H'', Own R H'' L → Q2 x H'') → ta σ H' Q2)
    (h3 : c = false → y = v ∧ ∀ H', Own R H' L → ∀ Q2 : VK, (∀ H'', Own R H'' L → Q2 y H'') → tb σ H' Q2) (k : ∀ H', Own R H' L → Q v H') : tIf tt ta tb σ H Q := by
  refine h1 _ fun H' O' => ?_
  cases c with
  | true =>
    obtain ⟨e1, g2⟩ := h2 rfl
    subst e1
    exact g2 H' O' Q k
  | false =>
    obtain ⟨e1, g3⟩ := h3 rfl
    subst e1
    exact g3 H' O' Q k
theorem iteS {c : Bool} {A B : Prop} (h1 : c = true → A) (h2 : c = false → B) : if c = true then A else B := by
  cases c with
  | true => rw [if_pos rfl]; exact h1 rfl
  | false => rw [if_neg Bool.false_ne_true]; exact h2 rfl
/-! loops -/
theorem k_forL {g : TG} {tb : TS} {D : Ends} (J : List α → St → Hp → Prop) (h0 : J xs σ H) (hl : ∀ r σ H, J r σ H → SqL K H a (xs.map f))
    (hs : ∀ x r σ H, J (x :: r) σ H → g (f x) σ H fun σ2 H2 => tb { D with nx := J r, ct := J r, bk := D.nx } σ2 H2) (hd : ∀ σ H, J [] σ H → D.nx σ H) :
    ∃ W : Nat → Nat → St → Hp → Prop, (∃ m, W 0 m σ H) ∧ ∀ i m σ H, W i m σ H →
      ((Itl K a).stop i H ∧ D.nx σ H) ∨ ((Itl K a).go i H ∧ ∃ N : St → Hp → Prop, (∀ σ' H', N σ' H' → ∃ m', m' < m ∧ W (i + 1) m' σ' H') ∧ ∀ x H', (Itl K a).yld i H x H' → g x σ H' fun σ2 H2 => tb { D with nx := N, ct := N, bk := D.nx } σ2 H2) := by
  refine for_list (xs := xs.map f) (fun i σ H => J (xs.drop i) σ H) h0 (fun i σ H _ => hl _ σ H) (fun i x σ H hi hJ => ?_) fun σ H hJ => ?_
  · rw [List.getElem?_map] at hi
    cases e : xs[i]? with
    | none => rw [e] at hi; cases hi
    | some y =>
      rw [e] at hi
      cases hi
      have e2 : xs.drop i = y :: xs.drop (i + 1) := by
        obtain ⟨h1, h2⟩ := List.getElem?_eq_some_iff.mp e
        rw [← h2]
        exact List.drop_eq_getElem_cons h1
      rw [e2] at hJ
      exact hs y _ σ H hJ
  · rw [List.length_map, List.drop_length] at hJ
    exact hd σ H hJ
theorem k_forR {lo : Int} {n : Nat} {g : TG} {tb : TS} {D : Ends} (J : List Int → St → Hp → Prop) (h0 : J ((List.range n).map fun (i : Nat) => lo + (i : Int)) σ H)
    (hs : ∀ x r σ H, J (x :: r) σ H → g (.int x) σ H fun σ2 H2 => tb { D with nx := J r, ct := J r, bk := D.nx } σ2 H2) (hd : ∀ σ H, J [] σ H → D.nx σ H) :
    ∃ W : Nat → Nat → St → Hp → Prop, (∃ m, W 0 m σ H) ∧ ∀ i m σ H, W i m σ H →
      ((Itr lo n).stop i H ∧ D.nx σ H) ∨ ((Itr lo n).go i H ∧ ∃ N : St → Hp → Prop, (∀ σ' H', N σ' H' → ∃ m', m' < m ∧ W (i + 1) m' σ' H') ∧ ∀ x H', (Itr lo n).yld i H x H' → g x σ H' fun σ2 H2 => tb { D with nx := N, ct := N, bk := D.nx } σ2 H2) := by
  refine for_range (fun i σ H => J (((List.range n).map fun (i : Nat) => lo + (i : Int)).drop i) σ H) h0 (fun i σ H hi hJ => ?_) fun σ H hJ => ?_
  · have e2 : ((List.range n).map fun (i : Nat) => lo + (i : Int)).drop i = (lo + (i : Int)) :: ((List.range n).map fun (i : Nat) => lo + (i : Int)).drop (i + 1) := by
      have h1 : i < ((List.range n).map fun (i : Nat) => lo + (i : Int)).length := by simpa using hi
      rw [List.drop_eq_getElem_cons h1]
      simp
    rw [e2] at hJ
    exact hs _ _ σ H hJ
  · have e : ((List.range n).map fun (i : Nat) => lo + (i : Int)).drop n = [] := List.drop_eq_nil_of_le (by simp)
    rw [e] at hJ
    exact hd σ H hJ
theorem k_rng1 {RJ : It → Hp → Prop} (h : rng1 j = some xs') (k : xs' = ((List.range j.toNat).map fun (i : Nat) => (0 : Int) + (i : Int)) → RJ (Itr 0 j.toNat) H) : ∃ j' : Int, [V.int j] = [V.int j'] ∧ -(2 ^ 62) ≤ j' ∧ j' < 2 ^ 62 ∧ RJ (Itr 0 j'.toNat) H := by
  obtain ⟨⟨c1, c2⟩, rfl⟩ := grdE h
  exact ⟨j, rfl, c1, c2, k (by unfold rangeI; rw [Int.sub_zero])⟩
theorem k_rng2 {RJ : It → Hp → Prop} (h : rng2 i j = some xs') (k : xs' = ((List.range (j - i).toNat).map fun (n : Nat) => i + (n : Int)) → RJ (Itr i (j - i).toNat) H) :
    ∃ i' j' : Int, [V.int i, V.int j] = [V.int i', V.int j'] ∧ (-(2 ^ 62) ≤ i' ∧ i' < 2 ^ 62 ∧ -(2 ^ 62) ≤ j' ∧ j' < 2 ^ 62) ∧ RJ (Itr i' (j' - i').toNat) H := by
  obtain ⟨c, rfl⟩ := grdE h
  exact ⟨i, j, rfl, c, k rfl⟩
/-- while: J, by the turns that the mirror still has -/
theorem k_while {tc : TT} {tb : TS} {D : Ends} (J : Nat → St → Hp → Prop) (n : Nat) (h0 : J n σ H)
    (hs : ∀ n σ H, J n σ H → tc σ H fun b H1 => if b = true then ∃ N : St → Hp → Prop, (∀ σ' H', N σ' H' → ∃ m', m' < n ∧ J m' σ' H') ∧ tb { D with nx := N, ct := N, bk := D.nx } σ H1 else D.nx σ H1) : tWhile tc tb D σ H :=
  ⟨J, ⟨n, h0⟩, hs⟩
/-! comprehensions -/
theorem k_lcL {g : TG} {te : TE} {vs : List Nat} {D : Addr} {Qd : Hp → Prop} (J : List α → Hp → Prop) (h0 : J xs (upd H D (.lst []))) (hl : ∀ r H, J r H → SqL K H a (xs.map f))
    (hs : ∀ x r H, J (x :: r) H → g (f x) (wipe σ vs) H fun σ2 H2 => wipe σ2 vs = wipe σ vs ∧ te σ2 H2 fun y H4 => ∃ acc, H4 D = some (.lst acc) ∧ acc.length < sizeLine ∧ J r (upd H4 D (.lst (acc ++ [y])))) (hd : ∀ H, J [] H → Qd H) :
    ∃ W : Nat → Nat → Hp → Prop, (∃ m, W 0 m (upd H D (.lst []))) ∧ ∀ i m H, W i m H →
      ((Itl K a).stop i H ∧ Qd H) ∨ ((Itl K a).go i H ∧ ∃ Nx : Hp → Prop, (∀ H', Nx H' → ∃ m', m' < m ∧ W (i + 1) m' H') ∧ ∀ x H', (Itl K a).yld i H x H' → g x (wipe σ vs) H' fun σ2 H2 => wipe σ2 vs = wipe σ vs ∧ tYes σ2 H2 fun b H3 =>
        if b = true then te σ2 H3 fun y H4 => ∃ acc, H4 D = some (.lst acc) ∧ acc.length < sizeLine ∧ Nx (upd H4 D (.lst (acc ++ [y]))) else Nx H3) := by
  refine lc_list (xs := xs.map f) (fun i H => J (xs.drop i) H) h0 (fun i H _ => hl _ H) (fun i x H hi hJ => ?_) fun H hJ => ?_
  · rw [List.getElem?_map] at hi
    cases e : xs[i]? with
    | none => rw [e] at hi; cases hi
    | some y =>
      rw [e] at hi
      cases hi
      have e2 : xs.drop i = y :: xs.drop (i + 1) := by
        obtain ⟨h1, h2⟩ := List.getElem?_eq_some_iff.mp e
        rw [← h2]
        exact List.drop_eq_getElem_cons h1
      rw [e2] at hJ
      exact hs y _ H hJ
  · rw [List.length_map, List.drop_length] at hJ
    exact hd H hJ
theorem k_lcR {lo : Int} {n : Nat} {g : TG} {te : TE} {vs : List Nat} {D : Addr} {Qd : Hp → Prop} (J : List Int → Hp → Prop) (h0 : J ((List.range n).map fun (i : Nat) => lo + (i : Int)) (upd H D (.lst [])))
    (hs : ∀ x r H, J (x :: r) H → g (.int x) (wipe σ vs) H fun σ2 H2 => wipe σ2 vs = wipe σ vs ∧ te σ2 H2 fun y H4 => ∃ acc, H4 D = some (.lst acc) ∧ acc.length < sizeLine ∧ J r (upd H4 D (.lst (acc ++ [y])))) (hd : ∀ H, J [] H → Qd H) :
    ∃ W : Nat → Nat → Hp → Prop, (∃ m, W 0 m (upd H D (.lst []))) ∧ ∀ i m H, W i m H →
      ((Itr lo n).stop i H ∧ Qd H) ∨ ((Itr lo n).go i H ∧ ∃ Nx : Hp → Prop, (∀ H', Nx H' → ∃ m', m' < m ∧ W (i + 1) m' H') ∧ ∀ x H', (Itr lo n).yld i H x H' → g x (wipe σ vs) H' fun σ2 H2 => wipe σ2 vs = wipe σ vs ∧ tYes σ2 H2 fun b H3 =>
        if b = true then te σ2 H3 fun y H4 => ∃ acc, H4 D = some (.lst acc) ∧ acc.length < sizeLine ∧ Nx (upd H4 D (.lst (acc ++ [y]))) else Nx H3) := by
  refine lc_range (fun i H => J (((List.range n).map fun (i : Nat) => lo + (i : Int)).drop i) H) h0 (fun i H hi hJ => ?_) fun H hJ => ?_
  · have e2 : ((List.range n).map fun (i : Nat) => lo + (i : Int)).drop i = (lo + (i : Int)) :: ((List.range n).map fun (i : Nat) => lo + (i : Int)).drop (i + 1) := by
      have h1 : i < ((List.range n).map fun (i : Nat) => lo + (i : Int)).length := by simpa using hi
      rw [List.drop_eq_getElem_cons h1]
      simp
    rw [e2] at hJ
    exact hs _ _ H hJ
  · have e : ((List.range n).map fun (i : Nat) => lo + (i : Int)).drop n = [] := List.drop_eq_nil_of_le (by simp)
    rw [e] at hJ
    exact hd H hJ
end
end Bt

set_option Elab.async false
set_option linter.all false
set_option maxRecDepth 100000
set_option maxHeartbeats 4000000
/-! More steps. -/
namespace Bt
open PySem L2
/-- a name of the module that holds a value -/
def Gv (mg : Str → Option Value) (x : Str) (v : V) : Prop := ∃ u, mg x = some u ∧ RelV v u
theorem pe_gv {X : Cx} {x : Str} {v : V} {pos : Pos} (hg : Gl X x) (h : Gv X.mg x v) (hd : (x == ("__debug__" : Str)) = false := by decide) : PE X (.Name x pos) (tC v) := by
  obtain ⟨u, h1, h2⟩ := h
  exact pe_glob hg h1 h2 hd
section
variable {α S T R' : Type}
theorem finNx {rest : S → Option R'} {s : S} {r : R'} (h : finK rest (.nx s) = some r) : rest s = some r := h
theorem floNx {rest : S → Option (Fl T R')} {s : S} {fl : Fl T R'} (h : floK rest (.nx s) = some fl) : rest s = some fl := h
end
section
variable {K : PySem.W.Frag} {σ : St} {H R : Hp} {L L' : List Cell} {Q : VK} {a b p : Addr} {α : Type} {f : α → V} {xs ys zs : List α}
/-- some of the cells, by their places -/
theorem Own.sel (O : Own R H L) (is : List Nat) (hd : is.Nodup) (e : is.map (fun i => L[i]?) = L'.map some) : Own R H L' := by
  have hm : ∀ c ∈ L', c ∈ L := fun c hc => by
    have h1 : some c ∈ is.map (fun i => L[i]?) := by rw [e]; exact List.mem_map_of_mem hc
    obtain ⟨i, _, h2⟩ := List.mem_map.mp h1
    exact List.mem_of_getElem? h2
  refine ⟨O.ex, fun c h => O.at_ c (hm c h), fun c h => O.fr c (hm c h), ?_⟩
  clear hm
  induction is generalizing L' with
  | nil =>
    cases L' with
    | nil => exact List.Pairwise.nil
    | cons c r => simp at e
  | cons i is ih =>
    cases L' with
    | nil => simp at e
    | cons c r =>
      simp only [List.map_cons, List.cons.injEq] at e
      obtain ⟨e1, e2⟩ := e
      obtain ⟨n1, n2⟩ := List.nodup_cons.mp hd
      refine List.nodup_cons.mpr ⟨fun m => ?_, ih n2 e2⟩
      obtain ⟨d, hdm, ed⟩ := List.mem_map.mp m
      have h1 : some d ∈ is.map (fun i => L[i]?) := by rw [e2]; exact List.mem_map_of_mem hdm
      obtain ⟨j, hj, h2⟩ := List.mem_map.mp h1
      have g1 : (L.map (·.1))[i]? = some c.1 := by rw [List.getElem?_map, e1]; rfl
      have g2 : (L.map (·.1))[j]? = some c.1 := by
        rw [List.getElem?_map, h2]
        exact congrArg some ed
      have : i = j := nd_ix O.nd g1 g2
      subst this
      exact n1 hj
theorem a_set {v v' : V} {nx : St → Hp → Prop} {i : Nat} (e : v = v') (k : nx (σ.set i (some v')) H) : nx (σ.set i (some v)) H := by rw [e]; exact k
theorem k_newM {zs : List V} (O : Own R H L) (e : xs.map f = zs) (k : ∀ p H', Own R H' ((p, .lst (xs.map f)) :: L) → Q (.ref p) H') : ∀ p, H p = none → Q (.ref p) (upd H p (.lst zs)) := by
  subst e
  exact fun p hp => k p _ (O.new hp)
theorem k_rep {k : Int} (O : Own R H L) (h1 : H a = some (.lst (xs.map f))) (h : repG xs k = some zs) (q : ∀ p H', Own R H' ((p, .lst (zs.map f)) :: L) → Q (.ref p) H') : rRep (.ref a) (.int k) H Q := by
  obtain ⟨⟨c1, c2, c3⟩, rfl⟩ := grdE h
  refine ⟨a, k, _, rfl, rfl, h1, c1, c2, by rw [List.length_map]; exact c3, fun p hp => ?_⟩
  have e : ∀ n : Nat, (List.replicate n (xs.map f)).flatten = (List.replicate n xs).flatten.map f := fun n => by
    induction n with
    | zero => rfl
    | succ n ih => rw [List.replicate_succ, List.flatten_cons, ih, List.replicate_succ, List.flatten_cons, List.map_append]
  first
    | (rw [e]; exact q p _ (O.new hp))
    | (show Q (.ref p) _; simpa only [e] using q p _ (O.new hp))
end
end Bt
namespace Bt
open PySem L2
/-! readings under a name of their own, so that what follows stands as an argument -/
@[irreducible] def rNewL (xs : List V) (H : Hp) (Q : VK) : Prop := xs.length ≤ sizeLine ∧ ∀ p, H p = none → Q (.ref p) (upd H p (.lst xs))
@[irreducible] def rNewT (xs : List V) (H : Hp) (Q : VK) : Prop := xs.length ≤ sizeLine ∧ ∀ p, H p = none → Q (.ref p) (upd H p (.tup xs))
@[irreducible] def rLenQ (K : PySem.W.Frag) (xs : List V) (H : Hp) (Q : VK) : Prop := ∃ p ys, xs = [V.ref p] ∧ (SqL K H p ys ∨ SqT K H p ys) ∧ Q (.int ys.length) H
@[irreducible] def rListQ (K : PySem.W.Frag) (xs : List V) (H : Hp) (Q : VK) : Prop := ∃ p ys, xs = [V.ref p] ∧ (SqL K H p ys ∨ SqT K H p ys) ∧ ∀ l, H l = none → Q (.ref l) (upd H l (.lst ys))
section
variable {X : Cx}
theorem pe_lstQ {es : List Expr} {t : TA} {pos : Pos} (h : PE X (.List es pos) (tLst t)) : PE X (.List es pos) (fun σ H Q => t σ H fun xs H1 => rNewL xs H1 Q) := by
  unfold rNewL
  exact h
theorem pe_tupQ {es : List Expr} {k : Nat} {t : TA} {pos : Pos} (h : PE X (.Tuple es k pos) (tTup t)) : PE X (.Tuple es k pos) (fun σ H Q => t σ H fun xs H1 => rNewT xs H1 Q) := by
  unfold rNewT
  exact h
theorem call_lenQ : CallR X (.builtin "len") (rLenQ X.K) := by
  have e : rLenQ X.K = fun xs H Q => ∃ p ys, xs = [V.ref p] ∧ (SqL X.K H p ys ∨ SqT X.K H p ys) ∧ Q (.int ys.length) H := by
    funext xs H Q
    unfold rLenQ
    rfl
  rw [e]
  exact call_len_seq
theorem call_listQ : CallR X (.type "list") (rListQ X.K) := by
  have e : rListQ X.K = fun xs H Q => ∃ p ys, xs = [V.ref p] ∧ (SqL X.K H p ys ∨ SqT X.K H p ys) ∧ ∀ l, H l = none → Q (.ref l) (upd H l (.lst ys)) := by
    funext xs H Q
    unfold rListQ
    rfl
  rw [e]
  exact call_list_of
end
section
variable {K : PySem.W.Frag} {σ : St} {H R : Hp} {L L' : List Cell} {Q : VK} {a b p : Addr} {α : Type} {f : α → V} {xs ys zs : List α}
theorem x_nil {QA : List V → Hp → Prop} (h : QA [] H) : tNil σ H QA := h
theorem x_np {QO : Option Int → Hp → Prop} (h : QO none H) : tNoPart σ H QO := h
theorem n_lst {zs : List V} (O : Own R H L) (e : xs.map f = zs) (hz : zs.length ≤ sizeLine) (k : ∀ p H', Own R H' ((p, .lst (xs.map f)) :: L) → Q (.ref p) H') : rNewL zs H Q := by
  subst e
  unfold rNewL
  exact ⟨hz, fun p hp => k p _ (O.new hp)⟩
theorem n_lenT {K : PySem.W.Frag} {H : Hp} {Q : VK} {a : Addr} {ys : List V} {n : Nat} (hs : SqT K H a ys) (hn : ys.length = n) (q : Q (.int (n : Int)) H) : rLenQ K [.ref a] H Q := by
  unfold rLenQ
  exact ⟨a, ys, rfl, .inr hs, by rw [hn]; exact q⟩
theorem n_len (h : SqL K H a (xs.map f)) (k : Q (.int (xs.length : Int)) H) : rLenQ K [.ref a] H Q := by
  unfold rLenQ
  exact ⟨a, _, rfl, .inl h, by rw [List.length_map]; exact k⟩
theorem n_list {ys : List V} (O : Own R H L) (h : SqL K H a ys) (k : ∀ p H', Own R H' ((p, .lst ys) :: L) → Q (.ref p) H') : rListQ K [.ref a] H Q := by
  unfold rListQ
  exact ⟨a, _, rfl, .inl h, fun l hl => k l _ (O.new hl)⟩
theorem rng1E {j : Int} {xs : List Int} (h : rng1 j = some xs) : -(2 ^ 62) ≤ j ∧ j < 2 ^ 62 ∧ ((List.range j.toNat).map fun (i : Nat) => (0 : Int) + (i : Int)) = xs := by
  obtain ⟨⟨c1, c2⟩, rfl⟩ := grdE h
  exact ⟨c1, c2, by unfold rangeI; rw [Int.sub_zero]⟩
theorem rng2E {i j : Int} {xs : List Int} (h : rng2 i j = some xs) : (-(2 ^ 62) ≤ i ∧ i < 2 ^ 62 ∧ -(2 ^ 62) ≤ j ∧ j < 2 ^ 62) ∧ ((List.range (j - i).toNat).map fun (n : Nat) => i + (n : Int)) = xs := by
  obtain ⟨c, rfl⟩ := grdE h
  exact ⟨c, rfl⟩
end
end Bt
namespace Bt
open PySem L2
/-! a reading opened by one step, by its head -/
section
variable {K : PySem.W.Frag} {σ : St} {H : Hp} {Q : VK} {D : Ends} {t u ts : TS} {te ta tb tl : TE} {tr : TA} {c : TT} {v : V} {i : Nat} {r : R2} {QB : Bool → Hp → Prop} {QA : List V → Hp → Prop} {QO : Option Int → Hp → Prop} {R : It → Hp → Prop}
theorem o_seq {n b k : St → Hp → Prop} {w : VK} (h : t (Ends.mk (u (Ends.mk n w b k)) w b k) σ H) : tSeq t u (Ends.mk n w b k) σ H := h
theorem o_asg {n b k : St → Hp → Prop} {w : VK} (h : te σ H fun x H1 => n (σ.set i (some x)) H1) : tAsg te (gName i) (Ends.mk n w b k) σ H := h
theorem o_drop {n b k : St → Hp → Prop} {w : VK} (h : te σ H fun _ H1 => n σ H1) : tDrop te (Ends.mk n w b k) σ H := h
theorem o_ret {n b k : St → Hp → Prop} {w : VK} (h : te σ H w) : tRet te (Ends.mk n w b k) σ H := h
theorem o_ifs {n b k : St → Hp → Prop} {w : VK} (h : c σ H fun z H1 => if z = true then t (Ends.mk n w b k) σ H1 else u (Ends.mk n w b k) σ H1) : tIfS c t u (Ends.mk n w b k) σ H := h
theorem o_next {n b k : St → Hp → Prop} {w : VK} (h : n σ H) : tNext (Ends.mk n w b k) σ H := h
theorem o_brk {n b k : St → Hp → Prop} {w : VK} (h : b σ H) : tBreak (Ends.mk n w b k) σ H := h
theorem o_cont {n b k : St → Hp → Prop} {w : VK} (h : k σ H) : tCont (Ends.mk n w b k) σ H := h
theorem o_retN {n b k : St → Hp → Prop} {w : VK} (h : w .non H) : tRetN (Ends.mk n w b k) σ H := h
theorem o_cut {n b k : St → Hp → Prop} {w : VK} (Mid : St → Hp → Prop) (h1 : t (Ends.mk Mid w b k) σ H) (h2 : ∀ σ' H', Mid σ' H' → u (Ends.mk n w b k) σ' H') : Evl.tCut t u (Ends.mk n w b k) σ H := ⟨Mid, h1, h2⟩
theorem o_op (h : ta σ H fun x H1 => tb σ H1 fun y H2 => r x y H2 Q) : tOp r ta tb σ H Q := h
theorem o_un {r : V → Hp → VK → Prop} (h : ta σ H fun x H1 => r x H1 Q) : tUn r ta σ H Q := h
theorem o_c (h : Q v H) : tC v σ H Q := h
theorem o_test (h : te σ H fun x H' => ∃ k, x = .bl k ∧ QB k H') : tTest te σ H QB := h
theorem o_B (h : te σ H fun x H' => ∃ k, x = .bl k ∧ QB k H') : tB te σ H QB := h
theorem o_not (h : c σ H fun b H1 => QB (!b) H1) : tNot c σ H QB := h
theorem o_notV (h : te σ H fun x H1 => ∃ c, x = .bl c ∧ Q (.bl (!c)) H1) : tNotV te σ H Q := h
theorem o_cons (h : ta σ H fun x H1 => tr σ H1 fun xs H2 => QA (x :: xs) H2) : tCons ta tr σ H QA := h
theorem o_cb {r : List V → Hp → VK → Prop} (h : tr σ H fun vs H1 => r vs H1 Q) : tCB r tr σ H Q := h
theorem o_call {sp : Sp} {dvs : List V} {E : XK} (h : tr σ H fun vs H1 => sp (vs ++ dvs) H1 Q E) : tCall sp dvs E tr σ H Q := h
theorem o_bm {T : String} {r : V → List V → Hp → VK → Prop} (h : te σ H fun x H1 => tyV K T x H1 ∧ tr σ H1 fun xs H2 => r x xs H2 Q) : tBM K T r te tr σ H Q := h
theorem o_bm0 {T : String} {r : V → List V → Hp → VK → Prop} (h : te σ H fun x H1 => tyV K T x H1 ∧ r x [] H1 Q) : tBM0 K T r te σ H Q := h
theorem o_sl {r : V → Option Int → Option Int → Hp → VK → Prop} {t1 t2 : TO} (h : te σ H fun x H1 => t1 σ H1 fun l H2 => t2 σ H2 fun u H3 => r x l u H3 Q) : tSl r te t1 t2 σ H Q := h
theorem o_part (h : te σ H fun x H1 => ∃ i, x = .int i ∧ QO (some i) H1) : tPart te σ H QO := h
theorem o_for {wi : TI} {g : TG} {n b k : St → Hp → Prop} {w : VK} (h : wi σ H fun J H1 => ∃ W : Nat → Nat → St → Hp → Prop, (∃ m, W 0 m σ H1) ∧ ∀ i m σ H, W i m σ H →
    (J.stop i H ∧ n σ H) ∨ (J.go i H ∧ ∃ N : St → Hp → Prop, (∀ σ' H', N σ' H' → ∃ m', m' < m ∧ W (i + 1) m' σ' H') ∧ ∀ x H', J.yld i H x H' → g x σ H' fun σ2 H2 => ts (Ends.mk N w n N) σ2 H2)) : tFor wi g ts (Ends.mk n w b k) σ H := h
theorem o_il (h : tl σ H fun x H1 => ∃ a, x = .ref a ∧ (∃ xs, SqL K H1 a xs) ∧ R (Itl K a) H1) : iList K tl σ H R := h
theorem o_ir1 (h : tr σ H fun vs H1 => ∃ j : Int, vs = [.int j] ∧ -(2 ^ 62) ≤ j ∧ j < 2 ^ 62 ∧ R (Itr 0 j.toNat) H1) : iRng1 tr σ H R := h
theorem o_ir2 (h : tr σ H fun vs H1 => ∃ i j : Int, vs = [.int i, .int j] ∧ (-(2 ^ 62) ≤ i ∧ i < 2 ^ 62 ∧ -(2 ^ 62) ≤ j ∧ j < 2 ^ 62) ∧ R (Itr i (j - i).toNat) H1) : iRng2 tr σ H R := h
theorem o_sub {to ti : TE} {tset : TSet} {n b k : St → Hp → Prop} {w : VK} (h : te σ H fun x H1 => to σ H1 fun o H2 => ti σ H2 fun i H3 => tset o i x H3 fun H4 => n σ H4) : tAsg te (gSub to ti tset) (Ends.mk n w b k) σ H := h
/-! the loops once more, their ends apart -/
variable {α : Type} {f : α → V} {xs : List α} {a : Addr} {g : TG} {n b k : St → Hp → Prop} {w : VK}
theorem q_forL {j : Nat} (J : List α → St → Hp → Prop) (h0 : J xs σ H) (hl : ∀ r σ H, J r σ H → SqL K H a (xs.map f))
    (hs : ∀ x r σ H, J (x :: r) σ H → ts (Ends.mk (J r) w n (J r)) (σ.set j (some (f x))) H) (hd : ∀ σ H, J [] σ H → n σ H) :
    ∃ W : Nat → Nat → St → Hp → Prop, (∃ m, W 0 m σ H) ∧ ∀ i m σ H, W i m σ H →
      ((Itl K a).stop i H ∧ n σ H) ∨ ((Itl K a).go i H ∧ ∃ N : St → Hp → Prop, (∀ σ' H', N σ' H' → ∃ m', m' < m ∧ W (i + 1) m' σ' H') ∧ ∀ x H', (Itl K a).yld i H x H' → gName j x σ H' fun σ2 H2 => ts (Ends.mk N w n N) σ2 H2) :=
  k_forL (D := Ends.mk n w (fun _ _ => False) fun _ _ => False) (g := gName j) (tb := ts) J h0 hl hs hd
theorem q_forR {j : Nat} {lo : Int} {m : Nat} (J : List Int → St → Hp → Prop) (h0 : J ((List.range m).map fun (i : Nat) => lo + (i : Int)) σ H)
    (hs : ∀ x r σ H, J (x :: r) σ H → ts (Ends.mk (J r) w n (J r)) (σ.set j (some (.int x))) H) (hd : ∀ σ H, J [] σ H → n σ H) :
    ∃ W : Nat → Nat → St → Hp → Prop, (∃ m, W 0 m σ H) ∧ ∀ i m' σ H, W i m' σ H →
      ((Itr lo m).stop i H ∧ n σ H) ∨ ((Itr lo m).go i H ∧ ∃ N : St → Hp → Prop, (∀ σ' H', N σ' H' → ∃ m'', m'' < m' ∧ W (i + 1) m'' σ' H') ∧ ∀ x H', (Itr lo m).yld i H x H' → gName j x σ H' fun σ2 H2 => ts (Ends.mk N w n N) σ2 H2) :=
  k_forR (D := Ends.mk n w (fun _ _ => False) fun _ _ => False) (g := gName j) (tb := ts) J h0 hs hd
end
end Bt
namespace Bt
open PySem L2
/-! what the head tells of a def -/
theorem def_mk {K : PySem.W.Frag} {h : Heap} {mg : Str → Option Value} {name qual : Str} {st : Stmt} {f : Addr} {od an : Option Addr} {sl : Array (Option Value)} {oc kV dc pm cd ct : Value} (X : K.In h) (G : h.Ns mainGlobals mg)
    (a : PySem.W.nsIn K mainGlobals name = some (some (.ref f))) (l : K.lookup f = some ⟨oc, od, .func (PySem.W.fnOf name qual (defArgs st) (defBody st) (defScope st) .none kV dc pm an cd ct), sl⟩) (c : PySem.W.codeIn K cd qual = true) (k : PySem.W.keepIn K (.ref f) = true) :
    ∃ f fd, Fun K name qual st f fd ∧ mg name = some (.ref f) := ⟨f, _, fun_mk l c k, PySem.W.mg_of X G a⟩
theorem gv_int {K : PySem.W.Frag} {h : Heap} {mg : Str → Option Value} {x : Str} {i : Int} {t : Tok} (X : K.In h) (G : h.Ns mainGlobals mg) (a : PySem.W.nsIn K mainGlobals x = some (some (.int i t))) : Gv mg x (.int i) := ⟨_, PySem.W.mg_of X G a, _, rfl⟩
end Bt
namespace Bt
open PySem L2
section
variable {K : PySem.W.Frag} {σ : St} {H R : Hp} {L : List Cell} {Q : VK} {a p : Addr} {i : Int} {x v : V} {S R' : Type}
def FUEL : Nat := 100000
theorem whileM_end {c : Bool} {s out : S} {f : Option S} (h : ifB c f (some s) = some out) (hc : c = false) : out = s := (Option.some.inj (ifF h hc)).symm
theorem whileF_end {c : Bool} {s : S} {out : Fl S R'} {f : Option (Fl S R')} (h : ifB c f (some (.nx s)) = some out) (hc : c = false) : Fl.nx s = out := Option.some.inj (ifF h hc)
/-- while: J, by the turns that the mirror still has -/
theorem q_while {tc : TT} {ts : TS} {n b k : St → Hp → Prop} {w : VK} (J : Nat → St → Hp → Prop) (m : Nat) (h0 : J m σ H) (hz : ∀ σ H, J 0 σ H → False)
    (hs : ∀ m σ H, J (m + 1) σ H → tc σ H fun z H1 => if z = true then ts (Ends.mk (J m) w n (J m)) σ H1 else n σ H1) (mono : ∀ σ H (Q Q' : Bool → Hp → Prop), (∀ z H1, Q z H1 → Q' z H1) → tc σ H Q → tc σ H Q') : tWhile tc ts (Ends.mk n w b k) σ H := by
  refine ⟨J, ⟨m, h0⟩, fun m σ H hJ => ?_⟩
  cases m with
  | zero => exact (hz σ H hJ).elim
  | succ m =>
    refine mono σ H _ _ (fun z H1 q => ?_) (hs m σ H hJ)
    cases z with
    | true =>
      rw [if_pos rfl] at q ⊢
      exact ⟨J m, fun σ' H' hJ' => ⟨m, Nat.lt_succ_self m, hJ'⟩, q⟩
    | false =>
      rw [if_neg Bool.false_ne_true] at q ⊢
      exact q
theorem o_while {tc : TT} {ts : TS} {n b k : St → Hp → Prop} {w : VK} (J : Nat → St → Hp → Prop) (m : Nat) (h0 : J m σ H) (hz : ∀ σ H, J 0 σ H → False)
    (hs : ∀ m σ H, J (m + 1) σ H → tc σ H fun z H1 => if z = true then ∃ N : St → Hp → Prop, (∀ σ' H', N σ' H' → ∃ m', m' < m + 1 ∧ J m' σ' H') ∧ ts (Ends.mk N w n N) σ H1 else n σ H1) : tWhile tc ts (Ends.mk n w b k) σ H := by
  refine ⟨J, ⟨m, h0⟩, fun m σ H hJ => ?_⟩
  cases m with
  | zero => exact (hz σ H hJ).elim
  | succ m => exact hs m σ H hJ
theorem o_turn {J : Nat → St → Hp → Prop} {m : Nat} {ts : TS} {n : St → Hp → Prop} {w : VK} (h : ts (Ends.mk (J m) w n (J m)) σ H) :
    ∃ N : St → Hp → Prop, (∀ σ' H', N σ' H' → ∃ m', m' < m + 1 ∧ J m' σ' H') ∧ ts (Ends.mk N w n N) σ H := ⟨J m, fun _ _ hJ => ⟨m, Nat.lt_succ_self m, hJ⟩, h⟩
theorem n_tup {zs : List V} (O : Own R H L) (hz : zs.length ≤ sizeLine) (k : ∀ p H', Own R H' ((p, .tup zs) :: L) → Q (.ref p) H') : rNewT zs H Q := by
  unfold rNewT
  exact ⟨hz, fun p hp => k p _ (O.new hp)⟩
theorem k_ixT {xs : List V} (hs : SqT K H a xs) (h : atI xs i = some v) (k : Q v H) : rIxT K (.ref a) (.int i) H Q := ⟨a, xs, i, v, rfl, rfl, hs, h, k⟩
end
end Bt
namespace Bt
open PySem L2
section
variable {K : PySem.W.Frag} {σ : St} {H R : Hp} {L : List Cell} {Q : VK} {a p : Addr} {i : Int} {x v : V} {α : Type} {f : α → V} {xs : List α}
theorem inV_int (i : Int) : ∀ xs : List Int, inV (.int i) (xs.map V.int) = decide (i ∈ xs)
  | [] => rfl
  | y :: r => by
    have ih := inV_int i r
    have e : inV (.int i) ((y :: r).map V.int) = (eqV (.int y) (.int i) || inV (.int i) (r.map V.int)) := rfl
    rw [e, ih]
    have e2 : eqV (.int y) (.int i) = decide (i = y) := by
      by_cases h : i = y
      · subst h; simp [eqV]
      · have : ¬ y = i := fun q => h q.symm
        simp [eqV, h, this]
    rw [e2]
    simp
theorem flat_int : ∀ xs : List Int, (xs.map V.int).all flatV = true
  | [] => rfl
  | y :: r => by
    have ih := flat_int r
    show (flatV (.int y) && (r.map V.int).all flatV) = true
    rw [ih]
    rfl
theorem k_inL {ns : List Int} (hs : SqL K H a (ns.map V.int)) (k : Q (.bl (decide (i ∈ ns))) H) : rIn K false (.int i) (.ref a) H Q :=
  ⟨a, _, rfl, .inl hs, rfl, flat_int _, by rw [inV_int]; exact k⟩
theorem k_niL {ns : List Int} (hs : SqL K H a (ns.map V.int)) (k : Q (.bl (!decide (i ∈ ns))) H) : rIn K true (.int i) (.ref a) H Q :=
  ⟨a, _, rfl, .inl hs, rfl, flat_int _, by rw [inV_int]; exact k⟩
theorem k_inT {ns : List Int} (hs : SqT K H a (ns.map V.int)) (k : Q (.bl (decide (i ∈ ns))) H) : rIn K false (.int i) (.ref a) H Q :=
  ⟨a, _, rfl, .inr hs, rfl, flat_int _, by rw [inV_int]; exact k⟩
theorem k_niT {ns : List Int} (hs : SqT K H a (ns.map V.int)) (k : Q (.bl (!decide (i ∈ ns))) H) : rIn K true (.int i) (.ref a) H Q :=
  ⟨a, _, rfl, .inr hs, rfl, flat_int _, by rw [inV_int]; exact k⟩
/-! comprehensions with a test -/
theorem k_lcLt {g : TG} {tt : TT} {te : TE} {vs : List Nat} {D : Addr} {Qd : Hp → Prop} (J : List α → Hp → Prop) (h0 : J xs (upd H D (.lst []))) (hl : ∀ r H, J r H → SqL K H a (xs.map f))
    (hs : ∀ x r H, J (x :: r) H → g (f x) (wipe σ vs) H fun σ2 H2 => wipe σ2 vs = wipe σ vs ∧ tt σ2 H2 fun b H3 => if b = true then te σ2 H3 fun y H4 => ∃ acc, H4 D = some (.lst acc) ∧ acc.length < sizeLine ∧ J r (upd H4 D (.lst (acc ++ [y]))) else J r H3) (hd : ∀ H, J [] H → Qd H) :
    ∃ W : Nat → Nat → Hp → Prop, (∃ m, W 0 m (upd H D (.lst []))) ∧ ∀ i m H, W i m H →
      ((Itl K a).stop i H ∧ Qd H) ∨ ((Itl K a).go i H ∧ ∃ Nx : Hp → Prop, (∀ H', Nx H' → ∃ m', m' < m ∧ W (i + 1) m' H') ∧ ∀ x H', (Itl K a).yld i H x H' → g x (wipe σ vs) H' fun σ2 H2 => wipe σ2 vs = wipe σ vs ∧ tt σ2 H2 fun b H3 =>
        if b = true then te σ2 H3 fun y H4 => ∃ acc, H4 D = some (.lst acc) ∧ acc.length < sizeLine ∧ Nx (upd H4 D (.lst (acc ++ [y]))) else Nx H3) := by
  refine lc_list (xs := xs.map f) (fun i H => J (xs.drop i) H) h0 (fun i H _ => hl _ H) (fun i x H hi hJ => ?_) fun H hJ => ?_
  · rw [List.getElem?_map] at hi
    cases e : xs[i]? with
    | none => rw [e] at hi; cases hi
    | some y =>
      rw [e] at hi
      cases hi
      have e2 : xs.drop i = y :: xs.drop (i + 1) := by
        obtain ⟨h1, h2⟩ := List.getElem?_eq_some_iff.mp e
        rw [← h2]
        exact List.drop_eq_getElem_cons h1
      rw [e2] at hJ
      exact hs y _ H hJ
  · rw [List.length_map, List.drop_length] at hJ
    exact hd H hJ
theorem k_lcRt {lo : Int} {n : Nat} {g : TG} {tt : TT} {te : TE} {vs : List Nat} {D : Addr} {Qd : Hp → Prop} (J : List Int → Hp → Prop) (h0 : J ((List.range n).map fun (i : Nat) => lo + (i : Int)) (upd H D (.lst [])))
    (hs : ∀ x r H, J (x :: r) H → g (.int x) (wipe σ vs) H fun σ2 H2 => wipe σ2 vs = wipe σ vs ∧ tt σ2 H2 fun b H3 => if b = true then te σ2 H3 fun y H4 => ∃ acc, H4 D = some (.lst acc) ∧ acc.length < sizeLine ∧ J r (upd H4 D (.lst (acc ++ [y]))) else J r H3) (hd : ∀ H, J [] H → Qd H) :
    ∃ W : Nat → Nat → Hp → Prop, (∃ m, W 0 m (upd H D (.lst []))) ∧ ∀ i m H, W i m H →
      ((Itr lo n).stop i H ∧ Qd H) ∨ ((Itr lo n).go i H ∧ ∃ Nx : Hp → Prop, (∀ H', Nx H' → ∃ m', m' < m ∧ W (i + 1) m' H') ∧ ∀ x H', (Itr lo n).yld i H x H' → g x (wipe σ vs) H' fun σ2 H2 => wipe σ2 vs = wipe σ vs ∧ tt σ2 H2 fun b H3 =>
        if b = true then te σ2 H3 fun y H4 => ∃ acc, H4 D = some (.lst acc) ∧ acc.length < sizeLine ∧ Nx (upd H4 D (.lst (acc ++ [y]))) else Nx H3) := by
  refine lc_range (fun i H => J (((List.range n).map fun (i : Nat) => lo + (i : Int)).drop i) H) h0 (fun i H hi hJ => ?_) fun H hJ => ?_
  · have e2 : ((List.range n).map fun (i : Nat) => lo + (i : Int)).drop i = (lo + (i : Int)) :: ((List.range n).map fun (i : Nat) => lo + (i : Int)).drop (i + 1) := by
      have h1 : i < ((List.range n).map fun (i : Nat) => lo + (i : Int)).length := by simpa using hi
      rw [List.drop_eq_getElem_cons h1]
      simp
    rw [e2] at hJ
    exact hs _ _ H hJ
  · have e : ((List.range n).map fun (i : Nat) => lo + (i : Int)).drop n = [] := List.drop_eq_nil_of_le (by simp)
    rw [e] at hJ
    exact hd H hJ
/-! for i, x in enumerate(xs) -/
def enumI {α : Type} : Nat → List α → List (Int × α)
  | _, [] => []
  | n, x :: r => ((n : Int), x) :: enumI (n + 1) r
theorem enumI_drop {α : Type} : ∀ (xs : List α) (n i : Nat) (x : α), xs[i]? = some x → (enumI n xs).drop i = (((n + i : Nat) : Int), x) :: (enumI n xs).drop (i + 1)
  | [], _, _, _, h => by simp at h
  | y :: r, n, 0, x, h => by
    cases (Option.some.inj h)
    rfl
  | y :: r, n, i + 1, x, h => by
    have ih := enumI_drop r (n + 1) i x (by simpa using h)
    show (enumI (n + 1) r).drop i = _ :: (enumI (n + 1) r).drop (i + 1)
    rw [ih]
    have : n + 1 + i = n + (i + 1) := by omega
    rw [this]
theorem enumI_len {α : Type} : ∀ (xs : List α) (n : Nat), (enumI n xs).length = xs.length
  | [], _ => rfl
  | x :: r, n => by show (enumI (n + 1) r).length + 1 = r.length + 1; rw [enumI_len r]
theorem q_forE {i1 i2 : Nat} {ts : TS} {n b k : St → Hp → Prop} {w : VK} {KK : PySem.W.Frag} (J : List (Int × α) → St → Hp → Prop) (h0 : J (enumI 0 xs) σ H) (hl : ∀ r σ H, J r σ H → SqL K H a (xs.map f)) (hx : ∀ r σ H H', J r σ H → Ex H H' → J r σ H')
    (hs : ∀ j x r σ H, J ((j, x) :: r) σ H → ts (Ends.mk (J r) w n (J r)) ((σ.set i1 (some (.int j))).set i2 (some (f x))) H) (hd : ∀ σ H, J [] σ H → n σ H) :
    ∃ W : Nat → Nat → St → Hp → Prop, (∃ m, W 0 m σ H) ∧ ∀ i m σ H, W i m σ H →
      ((Ite K a).stop i H ∧ n σ H) ∨ ((Ite K a).go i H ∧ ∃ N : St → Hp → Prop, (∀ σ' H', N σ' H' → ∃ m', m' < m ∧ W (i + 1) m' σ' H') ∧ ∀ x H', (Ite K a).yld i H x H' → gTup KK 2 (gCons (gName i1) (gCons (gName i2) gNil)) x σ H' fun σ2 H2 => ts (Ends.mk N w n N) σ2 H2) := by
  refine ⟨fun i m σ H => m = xs.length - i ∧ i ≤ xs.length ∧ J ((enumI 0 xs).drop i) σ H, ⟨xs.length, by simp, Nat.zero_le _, h0⟩, ?_⟩
  rintro i m σ H ⟨rfl, hi, hJ⟩
  have hS := hl _ σ H hJ
  by_cases hlt : i < xs.length
  · have e : xs[i]? = some xs[i] := List.getElem?_eq_getElem hlt
    have e1 : (xs.map f)[i]? = some (f xs[i]) := by rw [List.getElem?_map, e]; rfl
    have e2 := enumI_drop xs 0 i xs[i] e
    rw [e2] at hJ
    refine .inr ⟨⟨_, _, hS, e1⟩, J ((enumI 0 xs).drop (i + 1)), fun σ' H' hJ' => ⟨_, by omega, rfl, hlt, hJ'⟩, fun y H' hy => ?_⟩
    obtain ⟨T, x, rfl, hT, rfl, hq⟩ := hy
    have hxx := hq _ hS
    rw [e1] at hxx
    cases hxx
    refine ⟨T, _, rfl, SqT.of upd_same, rfl, _, _, rfl, _, _, rfl, rfl, ?_⟩
    have hJ2 := hx _ _ _ (upd H T (.tup [.int ((i : Nat) : Int), f xs[i]])) hJ (Ex.new hT)
    have e3 : ((0 + i : Nat) : Int) = (i : Int) := by omega
    rw [e3] at hJ2
    exact hs _ _ _ _ _ hJ2
  · have e : (enumI 0 xs).drop i = [] := List.drop_eq_nil_of_le (by rw [enumI_len]; omega)
    rw [e] at hJ
    exact .inl ⟨⟨_, hS, by rw [List.length_map]; omega⟩, hd σ H hJ⟩
end
end Bt
namespace Bt
open PySem L2
/-! what is refused -/
inductive Er where
  | NoBits | NoName | NoKey | NoFrame | NoPost | NoThing | NoStrip | NoRail
  | NoWire (i : Int) | NoRow (i : Int)
  deriving DecidableEq
structure Eds where
  NoBits : Addr
  NoName : Addr
  NoKey : Addr
  NoFrame : Addr
  NoPost : Addr
  NoThing : Addr
  NoStrip : Addr
  NoRail : Addr
  NoWire : Addr
  NoRow : Addr
  RailError : Addr
def Eds.of (d : Eds) : Er → Addr
  | .NoBits => d.NoBits
  | .NoName => d.NoName
  | .NoKey => d.NoKey
  | .NoFrame => d.NoFrame
  | .NoPost => d.NoPost
  | .NoThing => d.NoThing
  | .NoStrip => d.NoStrip
  | .NoRail => d.NoRail
  | .NoWire _ => d.NoWire
  | .NoRow _ => d.NoRow
inductive Rs (R : Type) where
  | ok (r : R)
  | er (e : Er)
def RetE (d : Eds) (e : Er) (H : Hp) (E : XK) : Prop := match e with
  | .NoWire i => ∀ H' a, H a = none → Ex H H' → H' a = some (.xd [(("at" : Str), .int i)]) → E (.ref d.NoWire) (some a) H'
  | .NoRow i => ∀ H' a, H a = none → Ex H H' → H' a = some (.xd [(("word" : Str), .int i)]) → E (.ref d.NoRow) (some a) H'
  | e => ∀ H', Ex H H' → E (.ref (d.of e)) none H'
def RetR {R : Type} (P : R → Prop) (d : Eds) (r : Rs R) (H : Hp) (E : XK) : Prop := match r with
  | .ok r => P r
  | .er e => RetE d e H E
section
variable {α β S R' : Type} {d : Eds} {H H0 : Hp} {E : XK} {L : List Cell}
theorem RetE.go {e : Er} (k : RetE d e H0 E) (O : Own H0 H L) : RetE d e H E := by
  cases e <;> first
    | exact fun H' h => k H' (O.ex.trans h)
    | exact fun H' a ha h => k H' a (O.ex.back ha) (O.ex.trans h)
theorem RetR.ok {P : α → Prop} {y : α} (h : P y) : RetR P d (.ok y) H E := h
theorem RetR.split {P : α → Prop} {x : Rs α} (h2 : ∀ e, x = .er e → RetE d e H E) (h1 : ∀ y, x = .ok y → P y) : RetR P d x H E := by
  cases x with
  | ok y => exact h1 y rfl
  | er e => exact h2 e rfl
def contR (f : α → Option (Rs β)) : Rs α → Option (Rs β)
  | .ok x => f x
  | .er e => some (.er e)
def bndR (a : Option (Rs α)) (f : α → Option (Rs β)) : Option (Rs β) := bnd a (contR f)
def contRF (f : α → Option (Fl S (Rs β))) : Rs α → Option (Fl S (Rs β))
  | .ok x => f x
  | .er e => some (.rt (.er e))
def bndRF (a : Option (Rs α)) (f : α → Option (Fl S (Rs β))) : Option (Fl S (Rs β)) := bnd a (contRF f)
def contO (f : α → Option β) : Rs α → Option β
  | .ok x => f x
  | .er _ => none
def bndO (a : Option (Rs α)) (f : α → Option β) : Option β := bnd a (contO f)
theorem bndRE {a : Option (Rs α)} {f : α → Option (Rs β)} {r : Rs β} (h : bndR a f = some r) : ∃ x, a = some x ∧ contR f x = some r := bndE h
theorem bndRFE {a : Option (Rs α)} {f : α → Option (Fl S (Rs β))} {r : Fl S (Rs β)} (h : bndRF a f = some r) : ∃ x, a = some x ∧ contRF f x = some r := bndE h
theorem okR {f : α → Option (Rs β)} {y : α} {r : Rs β} (h : contR f (.ok y) = some r) : f y = some r := h
theorem okRF {f : α → Option (Fl S (Rs β))} {y : α} {r : Fl S (Rs β)} (h : contRF f (.ok y) = some r) : f y = some r := h
theorem erR {f : α → Option (Rs β)} {e : Er} {r : Rs β} (h : contR f (.er e) = some r) : Rs.er e = r := Option.some.inj h
theorem erRF {f : α → Option (Fl S (Rs β))} {e : Er} {r : Fl S (Rs β)} (h : contRF f (.er e) = some r) : Fl.rt (Rs.er e) = r := Option.some.inj h
theorem bndOE {a : Option (Rs α)} {f : α → Option β} {r : β} (h : bndO a f = some r) : ∃ y, a = some (.ok y) ∧ f y = some r := by
  obtain ⟨x, h1, h2⟩ := bndE h
  cases x with
  | ok y => exact ⟨y, h1, h2⟩
  | er e => cases h2
end
/-- a class of refusals, as the top has made it -/
structure ErrC (K : PySem.W.Frag) (mg : Str → Option Value) (x : Str) (C : Addr) : Prop where
  g : mg x = some (.ref C)
  ex : PySem.W.excIn K C [.type "ValueError", .type "Exception", .type "BaseException", .type "object"] "ValueError.__new__" = true
  kp : PySem.W.keepIn K (.ref C) = true
  b : PySem.W.subIn K (.ref C) (.type "BaseException") = some true
  t : PySem.W.typeIn K (.ref C) = some (.type "type")
theorem ps_err {X : Cx} {W : WX} {x m : Str} {j : Nat} {p p2 pos pos' : Pos} {C : Addr} (e : ErrC X.K X.mg x C) (tk : Takes X W) (hc : X.calm = true) (hg : Gl X x) (hdb : (x == ("__debug__" : Str)) = false := by decide) :
    PS X (.Raise (some (.Call (.Name x p) [.Constant (.str m) j p2] [] pos)) none pos') (fun _ σ H => W (.ref C) none σ H) :=
  ps_raise hc tk (pmk_own PySem.F.excBase_ValueError e.ex e.g e.kp (raises_own e.b e.t) hg hdb)
end Bt
namespace Bt
open PySem L2
theorem err_mk {K : PySem.W.Frag} {h : Heap} {mg : Str → Option Value} {x : Str} {C : Addr} (X : K.In h) (G : h.Ns mainGlobals mg) (a : PySem.W.nsIn K mainGlobals x = some (some (.ref C)))
    (e : PySem.W.excIn K C [.type "ValueError", .type "Exception", .type "BaseException", .type "object"] "ValueError.__new__" = true) (k : PySem.W.keepIn K (.ref C) = true) (b : PySem.W.subIn K (.ref C) (.type "BaseException") = some true) (t : PySem.W.typeIn K (.ref C) = some (.type "type")) :
    ∃ C, ErrC K mg x C := ⟨C, PySem.W.mg_of X G a, e, k, b, t⟩
end Bt
namespace Bt
open PySem L2
inductive Ek where
  | NoBits | NoName | NoKey | NoFrame | NoPost | NoThing | NoStrip | NoRail | NoWire | NoRow
  deriving DecidableEq
def Er.k : Er → Ek
  | .NoBits => .NoBits
  | .NoName => .NoName
  | .NoKey => .NoKey
  | .NoFrame => .NoFrame
  | .NoPost => .NoPost
  | .NoThing => .NoThing
  | .NoStrip => .NoStrip
  | .NoRail => .NoRail
  | .NoWire _ => .NoWire
  | .NoRow _ => .NoRow
def tryR {α β : Type} (x : Rs α) (f : α → β) (g : Er → β) : β := match x with
  | .ok y => f y
  | .er e => g e
theorem tryOk {α β : Type} {y : α} {f : α → β} {g : Er → β} {r : β} (h : tryR (.ok y) f g = r) : f y = r := h
theorem tryEr {α β : Type} {e : Er} {f : α → β} {g : Er → β} {r : β} (h : tryR (.er e) f g = r) : g e = r := h
theorem exm_mk {K : PySem.W.Frag} {C S : Addr} {r : Bool} (h1 : PySem.W.subIn K (.ref S) (.type "BaseException") = some true) (h2 : (PySem.W.clsIn K S).isSome = true) (h3 : PySem.W.typeIn K (.ref S) = some (.type "type")) (h4 : PySem.W.subIn K (.ref C) (.ref S) = some r) :
    PySem.W.exmOne K (.ref C) (.ref S) = some r := by
  have e1 : (PySem.W.subIn K (.ref S) (.type "BaseException") == some true) = true := by rw [h1] <;> rfl
  have e2 : ((PySem.W.clsIn K S).isSome && PySem.W.typeIn K (.ref S) == some (.type "type")) = true := by
    rw [h2, h3] <;> rfl
  unfold PySem.W.exmOne
  rw [if_pos e1]
  unfold PySem.W.kitCls
  dsimp only
  rw [if_pos e2]
  exact h4
end Bt
namespace Bt
open PySem L2
theorem o_callS {sp : Sp} {E : L2.St → XK} {tr : TA} {σ : L2.St} {H : Hp} {Q : VK} (h : tr σ H fun vs H1 => sp vs H1 Q (E σ)) : tCallS sp E tr σ H Q := h
end Bt
namespace Bt
open PySem L2
section
variable {α : Type} {R H : Hp} {Q : VK} {a : Addr} {xs ys : List α} {y : α} {f : α → V}
def popL (xs : List α) : Option (α × List α) := match xs[xs.length - 1]? with
  | some y => some (y, xs.dropLast)
  | none => none
theorem popE (h : popL xs = some (y, ys)) : xs[xs.length - 1]? = some y ∧ xs.dropLast = ys := by
  unfold popL at h
  split at h
  · rename_i e
    cases h
    exact ⟨e, rfl⟩
  · cases h
theorem popL_ok {xs : List α} {y : α} : popL (xs ++ [y]) = some (y, xs) := by
  unfold popL
  rw [List.length_append, List.length_singleton, Nat.add_sub_cancel, List.getElem?_append_right (Nat.le_refl _), Nat.sub_self]
  simp
theorem k_clr {g : HO → List Cell} (hl : H a = some (.lst (xs.map f))) (hp : ∀ o', Own R (upd H a o') (g o')) (k : ∀ H', Own R H' (g (.lst (([] : List α).map f))) → Q .non H') : rClear (.ref a) [] H Q :=
  ⟨a, _, rfl, rfl, hl, k _ (hp _)⟩
theorem k_pop {g : HO → List Cell} (hl : H a = some (.lst (xs.map f))) (hp : ∀ o', Own R (upd H a o') (g o')) (h : popL xs = some (y, ys)) (k : ∀ H', Own R H' (g (.lst (ys.map f))) → Q (f y) H') : rPop (.ref a) [] H Q := by
  obtain ⟨e, rfl⟩ := popE h
  refine ⟨a, _, f y, rfl, rfl, hl, ?_, ?_⟩
  · rw [List.length_map, List.getElem?_map, e]; rfl
  · rw [← List.map_dropLast]
    exact k _ (hp _)
theorem k_ext {b : Addr} {zs : List α} {g : HO → List Cell} (hl : H a = some (.lst (xs.map f))) (hb : H b = some (.lst (zs.map f))) (hp : ∀ o', Own R (upd H a o') (g o')) (h : catG xs zs = some ys) (k : ∀ H', Own R H' (g (.lst (ys.map f))) → Q .non H') : rExtend (.ref a) [.ref b] H Q := by
  obtain ⟨c, rfl⟩ := grdE h
  refine ⟨a, b, _, _, rfl, rfl, hl, hb, ?_, ?_⟩
  · rw [List.length_map, List.length_map]; exact c
  · rw [← List.map_append]
    exact k _ (hp _)
end
end Bt

set_option Elab.async false
set_option linter.all false
set_option maxRecDepth 100000
set_option maxHeartbeats 4000000
/-! Built-ins that the kit's rules do not name. -/
namespace Bt
open PySem L2 PyProof.Rows
section
variable {X : Cx}
def maxL (d : Int) : List Int → Int
  | [] => d
  | n :: ns => ns.foldl (fun a y => if a < y then y else a) n
def rMaxD (K : PySem.W.Frag) : List V → List V → Hp → VK → Prop := fun xs zs H Q => ∃ a ns d, xs = [.ref a] ∧ zs = [.int d] ∧ SqL K H a (ns.map V.int) ∧ Q (.int (maxL d ns)) H
theorem maxOf_int (x : Int) (xs : List Int) : PySem.W.maxOf x xs = xs.foldl (fun a y => if a < y then y else a) x := by
  unfold PySem.W.maxOf
  congr 1
  funext a y
  show (if decide (a < y) = true then y else a) = _
  by_cases h : a < y
  · rw [if_pos (decide_eq_true h), if_pos h]
  · rw [if_neg (by simpa using h), if_neg h]
theorem cr_maxD (hc : X.calm = true) (hu : X.A.units + 64 < cLine) : CallRK X (.builtin "max") [Str.ofString "default"] (rMaxD X.K) := by
  intro pins s σ H xs zs us ws Q I r1 r2 h
  obtain ⟨a, ns, d, rfl, rfl, hs, q⟩ := h
  obtain ⟨its, rv, hl, _⟩ := I.list hs
  rw [Vals.ref1 r1]
  obtain ⟨w, rfl, t, rfl⟩ := r2.one
  refine PySem.W.max_list_datum_default (α := Int) (I.ok.hd hc) hl.isList (PySem.W.HoldAll.of_ints rv.ints) (by show X.A.units + 1 + 0 < cLine; omega) (fun e h' tk k => ?_) fun y ys i v h' tk e _ hv k => ?_
  · subst e
    exact ⟨.int d, H, I.kept k, ⟨_, rfl⟩, q⟩
  · subst e
    obtain ⟨bs, hv⟩ := hv
    rw [maxOf_int] at hv
    cases hv
    exact ⟨.int _, H, I.kept k, ⟨_, rfl⟩, q⟩
variable {K : PySem.W.Frag} {H : Hp} {Q : VK} {a : Addr} {ns : List Int} {d : Int} {t tk : TA} {r : List V → List V → Hp → VK → Prop} {σ : L2.St}
theorem o_kw (h : t σ H fun vs H1 => tk σ H1 fun zs H2 => r vs zs H2 Q) : tCKw r t tk σ H Q := h
theorem k_maxD (hs : SqL K H a (ns.map V.int)) (q : Q (.int (maxL d ns)) H) : rMaxD K [.ref a] [.int d] H Q := ⟨a, ns, d, rfl, rfl, hs, q⟩
end
end Bt

set_option Elab.async false
set_option linter.all false
set_option maxRecDepth 100000
set_option maxHeartbeats 4000000
/-! Data in data: what stands in a heap that only grows. -/
namespace Bt
open PySem L2
inductive All2 {α β : Type} (P : α → β → Prop) : List α → List β → Prop
  | nil : All2 P [] []
  | cons {a : α} {b : β} {as : List α} {bs : List β} : P a b → All2 P as bs → All2 P (a :: as) (b :: bs)
section
variable {α β : Type} {P Q : α → β → Prop} {as cs : List α} {bs ds : List β} {a : α} {b : β}
theorem All2.mp (f : ∀ a b, P a b → Q a b) (h : All2 P as bs) : All2 Q as bs := by
  induction h with
  | nil => exact .nil
  | cons h _ ih => exact .cons (f _ _ h) ih
theorem All2.app (h : All2 P as bs) (k : All2 P cs ds) : All2 P (as ++ cs) (bs ++ ds) := by
  induction h with
  | nil => exact k
  | cons h _ ih => exact .cons h ih
theorem All2.snoc (h : All2 P as bs) (k : P a b) : All2 P (as ++ [a]) (bs ++ [b]) := h.app (.cons k .nil)
theorem All2.len (h : All2 P as bs) : as.length = bs.length := by
  induction h with
  | nil => rfl
  | cons _ _ ih => simp [ih]
theorem All2.get (h : All2 P as bs) : ∀ {i : Nat} {b : β}, bs[i]? = some b → ∃ a, as[i]? = some a ∧ P a b := by
  induction h with
  | nil => intro i b e; simp at e
  | cons h _ ih =>
    intro i b e
    cases i with
    | zero => cases Option.some.inj e; exact ⟨_, rfl, h⟩
    | succ i => exact ih (by simpa using e)
theorem All2.drop (h : All2 P as bs) : ∀ n, All2 P (as.drop n) (bs.drop n) := by
  induction h with
  | nil => intro n; simp; exact .nil
  | cons h t ih =>
    intro n
    cases n with
    | zero => exact .cons h t
    | succ n => exact ih n
theorem All2.take (h : All2 P as bs) : ∀ n, All2 P (as.take n) (bs.take n) := by
  induction h with
  | nil => intro n; simp; exact .nil
  | cons h t ih =>
    intro n
    cases n with
    | zero => exact .nil
    | succ n => exact .cons h (ih n)
theorem All2.set (h : All2 P as bs) (k : P a b) : ∀ n, All2 P (as.set n a) (bs.set n b) := by
  induction h with
  | nil => intro n; exact .nil
  | cons h t ih =>
    intro n
    cases n with
    | zero => exact .cons k t
    | succ n => exact .cons h (ih n)
end
/-- what a value stands for, in a heap -/
abbrev Rp (α : Type) := Hp → V → α → Prop
def Mono {α : Type} (P : Rp α) : Prop := ∀ F F' v x, Ex F F' → P F v x → P F' v x
def rI : Rp Int := fun _ v a => v = .int a
def rB : Rp Bool := fun _ v a => v = .bl a
def rS : Rp Str := fun _ v a => v = .str a
def rL {α : Type} (P : Rp α) : Rp (List α) := fun F v xs => ∃ p vs, v = .ref p ∧ F p = some (.lst vs) ∧ All2 (P F) vs xs
def rT2 {α β : Type} (P : Rp α) (Q : Rp β) : Rp (α × β) := fun F v x => ∃ p a b, v = .ref p ∧ F p = some (.tup [a, b]) ∧ P F a x.1 ∧ Q F b x.2
def rT3 {α β γ : Type} (P : Rp α) (Q : Rp β) (R : Rp γ) : Rp (α × β × γ) := fun F v x => ∃ p a b c, v = .ref p ∧ F p = some (.tup [a, b, c]) ∧ P F a x.1 ∧ Q F b x.2.1 ∧ R F c x.2.2
def rT4 {α β γ δ : Type} (P : Rp α) (Q : Rp β) (R : Rp γ) (S : Rp δ) : Rp (α × β × γ × δ) := fun F v x => ∃ p a b c d, v = .ref p ∧ F p = some (.tup [a, b, c, d]) ∧ P F a x.1 ∧ Q F b x.2.1 ∧ R F c x.2.2.1 ∧ S F d x.2.2.2
def rO {α : Type} (P : Rp α) : Rp (Option α) := fun F v x => match x with
  | none => v = .non
  | some y => P F v y
theorem mI : Mono rI := fun _ _ _ _ _ h => h
theorem mB : Mono rB := fun _ _ _ _ _ h => h
theorem mS : Mono rS := fun _ _ _ _ _ h => h
theorem mL {α : Type} {P : Rp α} (m : Mono P) : Mono (rL P) := fun F F' v x e ⟨p, vs, h1, h2, h3⟩ => ⟨p, vs, h1, e _ _ h2, h3.mp fun a b h => m F F' a b e h⟩
theorem mA {α : Type} {P : Rp α} (m : Mono P) {F F' : Hp} {vs : List V} {xs : List α} (e : Ex F F') (h : All2 (P F) vs xs) : All2 (P F') vs xs := h.mp fun a b h => m F F' a b e h
theorem mT2 {α β : Type} {P : Rp α} {Q : Rp β} (m : Mono P) (n : Mono Q) : Mono (rT2 P Q) := fun F F' v x e ⟨p, a, b, h1, h2, h3, h4⟩ => ⟨p, a, b, h1, e _ _ h2, m _ _ _ _ e h3, n _ _ _ _ e h4⟩
theorem mT3 {α β γ : Type} {P : Rp α} {Q : Rp β} {R : Rp γ} (m : Mono P) (n : Mono Q) (o : Mono R) : Mono (rT3 P Q R) := fun F F' v x e ⟨p, a, b, c, h1, h2, h3, h4, h5⟩ => ⟨p, a, b, c, h1, e _ _ h2, m _ _ _ _ e h3, n _ _ _ _ e h4, o _ _ _ _ e h5⟩
theorem mT4 {α β γ δ : Type} {P : Rp α} {Q : Rp β} {R : Rp γ} {S : Rp δ} (m : Mono P) (n : Mono Q) (o : Mono R) (q : Mono S) : Mono (rT4 P Q R S) := fun F F' v x e ⟨p, a, b, c, d, h1, h2, h3, h4, h5, h6⟩ => ⟨p, a, b, c, d, h1, e _ _ h2, m _ _ _ _ e h3, n _ _ _ _ e h4, o _ _ _ _ e h5, q _ _ _ _ e h6⟩
theorem mO {α : Type} {P : Rp α} (m : Mono P) : Mono (rO P) := fun F F' v x e h => by
  cases x with
  | none => exact h
  | some y => exact m _ _ _ _ e h
/-! flat lists in a heap -/
theorem aI {F : Hp} : ∀ {vs : List V} {xs : List Int}, All2 (rI F) vs xs → vs = xs.map V.int
  | _, _, .nil => rfl
  | _, _, .cons h t => by rw [show _ = _ from h, aI t]; rfl
theorem aB {F : Hp} : ∀ {vs : List V} {xs : List Bool}, All2 (rB F) vs xs → vs = xs.map V.bl
  | _, _, .nil => rfl
  | _, _, .cons h t => by rw [show _ = _ from h, aB t]; rfl
theorem aS {F : Hp} : ∀ {vs : List V} {xs : List Str}, All2 (rS F) vs xs → vs = xs.map V.str
  | _, _, .nil => rfl
  | _, _, .cons h t => by rw [show _ = _ from h, aS t]; rfl
theorem iA {F : Hp} : ∀ (xs : List Int), All2 (rI F) (xs.map V.int) xs
  | [] => .nil
  | x :: r => .cons rfl (iA r)
theorem bA {F : Hp} : ∀ (xs : List Bool), All2 (rB F) (xs.map V.bl) xs
  | [] => .nil
  | x :: r => .cons rfl (bA r)
theorem sA {F : Hp} : ∀ (xs : List Str), All2 (rS F) (xs.map V.str) xs
  | [] => .nil
  | x :: r => .cons rfl (sA r)
theorem fI {F : Hp} {v : V} {xs : List Int} (h : rL rI F v xs) : ∃ p, v = .ref p ∧ F p = some (.lst (xs.map V.int)) := by
  obtain ⟨p, vs, h1, h2, h3⟩ := h
  rw [aI h3] at h2
  exact ⟨p, h1, h2⟩
theorem fB {F : Hp} {v : V} {xs : List Bool} (h : rL rB F v xs) : ∃ p, v = .ref p ∧ F p = some (.lst (xs.map V.bl)) := by
  obtain ⟨p, vs, h1, h2, h3⟩ := h
  rw [aB h3] at h2
  exact ⟨p, h1, h2⟩
theorem fS {F : Hp} {v : V} {xs : List Str} (h : rL rS F v xs) : ∃ p, v = .ref p ∧ F p = some (.lst (xs.map V.str)) := by
  obtain ⟨p, vs, h1, h2, h3⟩ := h
  rw [aS h3] at h2
  exact ⟨p, h1, h2⟩
theorem gI {F : Hp} {p : Addr} {xs : List Int} (h : F p = some (.lst (xs.map V.int))) : rL rI F (.ref p) xs := ⟨p, _, rfl, h, iA xs⟩
theorem gB {F : Hp} {p : Addr} {xs : List Bool} (h : F p = some (.lst (xs.map V.bl))) : rL rB F (.ref p) xs := ⟨p, _, rfl, h, bA xs⟩
theorem gS {F : Hp} {p : Addr} {xs : List Str} (h : F p = some (.lst (xs.map V.str))) : rL rS F (.ref p) xs := ⟨p, _, rfl, h, sA xs⟩
/-! the frame grows -/
/-- of X what R knows, or what H does not -/
def ovr (R H X : Hp) : Hp := fun a => if R a ≠ none ∨ H a = none then X a else none
theorem ovr_some {R H X : Hp} {a : Addr} {u : HO} (h : ovr R H X a = some u) : (R a ≠ none ∨ H a = none) ∧ X a = some u := by
  unfold ovr at h
  split at h
  · exact ⟨by assumption, h⟩
  · cases h
theorem ovr_mk {R H X : Hp} {a : Addr} {u : HO} (h : R a ≠ none ∨ H a = none) (k : X a = some u) : ovr R H X a = some u := by
  unfold ovr
  rw [if_pos h]
  exact k
theorem ovr_ex {R H X : Hp} : Ex (ovr R H X) X := fun a o h => by
  unfold ovr at h
  split at h
  · exact h
  · cases h
theorem ovr_mono {R H X Y : Hp} (e : Ex X Y) : Ex (ovr R H X) (ovr R H Y) := fun a o h => by
  unfold ovr at h ⊢
  split at h
  · rename_i c
    rw [if_pos c]
    exact e _ _ h
  · cases h
theorem ovr_start {R H : Hp} (e : Ex R H) : Ex R (ovr R H H) := fun a o h => by
  unfold ovr
  rw [if_pos (.inl (by rw [h]; simp))]
  exact e _ _ h
section
variable {R H H' F H0 R0 : Hp} {L : List Cell} {p : Addr} {o : HO}
theorem Own.freeze (O : Own R H ((p, o) :: L)) : Own (upd R p o) H L :=
  ⟨fun a u h => by
    by_cases e : a = p
    · subst e
      rw [upd_same] at h
      cases h
      exact O.at_ _ (List.Mem.head _)
    · rw [upd_ne e] at h
      exact O.ex _ _ h, fun c h => O.at_ c (List.Mem.tail _ h), fun c h => by
    have hne : c.1 ≠ p := fun e => (List.nodup_cons.mp O.nd).1 (by rw [← e]; exact List.mem_map_of_mem (f := (·.1)) h)
    rw [upd_ne hne]
    exact O.fr c (List.Mem.tail _ h), (List.nodup_cons.mp O.nd).2⟩
/-- R grows by a cell; what was known of it stays, the new cell is known -/
theorem Own.frz (O : Own R H ((p, o) :: L)) : ∃ R', Own R' H L ∧ Ex R R' ∧ R' p = some o := ⟨_, O.freeze, Ex.new (O.fr _ (List.Mem.head _)), upd_same⟩
theorem Own.frzO (O : Own R H ((p, o) :: L)) (e0 : Ex H0 R) : ∃ R', Own R' H L ∧ Ex R R' ∧ ovr R0 H0 R' p = some o := ⟨_, O.freeze, Ex.new (O.fr _ (List.Mem.head _)), by
  unfold ovr
  rw [if_pos (.inr (e0.back (O.fr _ (List.Mem.head _))))]
  exact upd_same⟩
/-- R grows by all that is new -/
theorem Own.grow (O : Own R H L) (e : Ex H H') : ∃ R', Own R' H' L ∧ Ex R R' ∧ ∀ F, Ex F R → Ex (ovr F H H') R' := by
  refine ⟨fun a => if H a = none then H' a else R a, ⟨fun a u h => ?_, fun c h => e _ _ (O.at_ c h), fun c h => ?_, O.nd⟩, fun a u h => ?_, fun F hF a u h => ?_⟩
  · by_cases c : H a = none
    · rw [if_pos c] at h; exact h
    · rw [if_neg c] at h; exact e _ _ (O.ex _ _ h)
  · rw [if_neg (by rw [O.at_ c h]; simp)]
    exact O.fr c h
  · show (if H a = none then H' a else R a) = some u
    rw [if_neg (by rw [O.ex _ _ h]; simp)]
    exact h
  · unfold ovr at h
    split at h
    · rename_i q
      rcases q with q | q
      · cases hf : F a with
        | none => exact absurd hf q
        | some w =>
          have h1 := O.ex _ _ (hF _ _ hf)
          have h2 := e _ _ h1
          rw [h] at h2
          cases h2
          show (if H a = none then H' a else R a) = some u
          rw [if_neg (by rw [h1]; simp)]
          exact hF _ _ hf
      · show (if H a = none then H' a else R a) = some u
        rw [if_pos q]
        exact h
    · cases h
theorem Own.growO (O : Own R H L) (e : Ex H H') (e0 : Ex H0 R) : ∃ R', Own R' H' L ∧ Ex R R' ∧ Ex (ovr (ovr R0 H0 R) H H') (ovr R0 H0 R') := by
  obtain ⟨R', O', e1, e2⟩ := O.grow e
  refine ⟨R', O', e1, fun a u h => ?_⟩
  have h1 := e2 (ovr R0 H0 R) ovr_ex _ _ h
  obtain ⟨q, _⟩ := ovr_some h
  refine ovr_mk ?_ h1
  rcases q with q | q
  · cases hq : ovr R0 H0 R a with
    | none => exact absurd hq q
    | some w => exact (ovr_some hq).1
  · exact .inr (Ex.back (e0.trans O.ex) q)
end
/-- a new thing is handed back, in what R knows or what is new -/
def RetG {α : Type} (P : Rp α) (R : Hp) (r : α) (H : Hp) (Q : VK) : Prop := ∀ v H', Ex H H' → P (ovr R H H') v r → Q v H'
section
variable {α : Type} {P : Rp α} {R H F H0 R0 : Hp} {L : List Cell} {r : α} {Q : VK} {v : V}
theorem Own.retG (O : Own R H L) (m : Mono P) (k : ∀ v H' R', Own R' H' L → Ex R R' → P R' v r → Q v H') : RetG P R r H Q := fun v H' e h => by
  obtain ⟨R', O', e1, e2⟩ := O.grow e
  exact k v H' R' O' e1 (m _ _ _ _ (e2 R (Ex.refl R)) h)
theorem Own.retGO (O : Own R H L) (m : Mono P) (e0 : Ex H0 R) (k : ∀ v H' R', Own R' H' L → Ex R R' → P (ovr R0 H0 R') v r → Q v H') : RetG P (ovr R0 H0 R) r H Q := fun v H' e h => by
  obtain ⟨R', O', e1, e2⟩ := O.growO (R0 := R0) e e0
  exact k v H' R' O' e1 (m _ _ _ _ e2 h)
theorem RetG.go (k : RetG P R0 r H0 Q) (m : Mono P) (O : Own R H L) (e0 : Ex H0 R) (h : P (ovr R0 H0 R) v r) : Q v H := k v H (e0.trans O.ex) (m _ _ _ _ (ovr_mono O.ex) h)
theorem RetV.goR {v : V} (k : RetV v H0 Q) (O : Own R H L) (e0 : Ex H0 R) : Q v H := k H (e0.trans O.ex)
theorem RetL.goR {xs : List V} {p : Addr} (k : RetL xs H0 Q) (O : Own R H L) (e0 : Ex H0 R) (h : (p, HO.lst xs) ∈ L) : Q (.ref p) H := k p H (e0.back (O.fr _ h)) (e0.trans O.ex) (O.at_ _ h)
theorem RetT.goR {xs : List V} {p : Addr} (k : RetT xs H0 Q) (O : Own R H L) (e0 : Ex H0 R) (h : (p, HO.tup xs) ∈ L) : Q (.ref p) H := k p H (e0.back (O.fr _ h)) (e0.trans O.ex) (O.at_ _ h)
end
/-! == of such data -/
structure De {α : Type} [DecidableEq α] (P : Rp α) where
  d : α → PyData
  dp : ∀ (K : PySem.W.Frag) F v a, P F v a → Dp K F v (d a)
  ok : ∀ a, PyData.canLay0 (d a) = true
  n : Nat
  dep : ∀ a, PyData.depth (d a) ≤ n
  eq : ∀ a b, PyData.eqv (d a) (d b) = decide (a = b)
def deI : De rI where
  d := PyData.int
  dp := fun K F v a h => by rw [show v = V.int a from h]; exact .int a
  ok := fun _ => rfl
  n := 0
  dep := fun _ => Nat.le_refl _
  eq := fun a b => by simp only [PyData.eqv]; rw [Bool.beq_eq_decide_eq]
def deB : De rB where
  d := PyData.bool
  dp := fun K F v a h => by rw [show v = V.bl a from h]; exact .bl a
  ok := fun _ => rfl
  n := 0
  dep := fun _ => Nat.le_refl _
  eq := fun a b => by simp only [PyData.eqv]; rw [Bool.beq_eq_decide_eq]
section
variable {α β γ : Type} [DecidableEq α] [DecidableEq β] [DecidableEq γ]
theorem de_all {P : Rp α} (e : De P) {K : PySem.W.Frag} {F : Hp} : ∀ {vs : List V} {xs : List α}, All2 (P F) vs xs → DpAll K F vs (xs.map e.d)
  | _, _, .nil => .nil
  | _, _, .cons h t => .cons (e.dp K F _ _ h) (de_all e t)
theorem ok_all {P : Rp α} (e : De P) : ∀ xs : List α, PyData.canLayAll0 (xs.map e.d) = true
  | [] => rfl
  | x :: r => by simp only [List.map_cons, PyData.canLayAll0, e.ok x, ok_all e r, Bool.and_self]
theorem dep_all {P : Rp α} (e : De P) : ∀ xs : List α, PyData.depthAll (xs.map e.d) ≤ e.n
  | [] => by simp [PyData.depthAll]
  | x :: r => by
    have h1 := e.dep x
    have h2 := dep_all e r
    simp only [List.map_cons, PyData.depthAll]
    omega
theorem eq_all {P : Rp α} (e : De P) : ∀ xs ys : List α, PyData.eqvAll (xs.map e.d) (ys.map e.d) = decide (xs = ys)
  | [], [] => by simp [PyData.eqvAll]
  | [], y :: s => by simp [PyData.eqvAll]
  | x :: r, [] => by simp [PyData.eqvAll]
  | x :: r, y :: s => by simp only [List.map_cons, PyData.eqvAll, e.eq x y, eq_all e r s, List.cons.injEq, Bool.decide_and]
def deL {P : Rp α} (e : De P) : De (rL P) where
  d := fun xs => .list (xs.map e.d)
  dp := fun K F v xs ⟨p, vs, h1, h2, h3⟩ => by
    subst h1
    exact .lst (SqL.of h2) (de_all e h3)
  ok := fun xs => by simp only [PyData.canLay0]; exact ok_all e xs
  n := e.n + 1
  dep := fun xs => by
    have := dep_all e xs
    simp only [PyData.depth]
    omega
  eq := fun xs ys => by simp only [PyData.eqv]; exact eq_all e xs ys
def deT2 {P : Rp α} {Q : Rp β} (e : De P) (f : De Q) : De (rT2 P Q) where
  d := fun x => .tuple [e.d x.1, f.d x.2]
  dp := fun K F v x ⟨p, a, b, h1, h2, h3, h4⟩ => by
    subst h1
    exact .tup (SqT.of h2) (.cons (e.dp K F _ _ h3) (.cons (f.dp K F _ _ h4) .nil))
  ok := fun x => by simp only [PyData.canLay0, PyData.canLayAll0, e.ok, f.ok, Bool.and_self]
  n := max e.n f.n + 1
  dep := fun x => by
    have h1 := e.dep x.1
    have h2 := f.dep x.2
    simp only [PyData.depth, PyData.depthAll]
    omega
  eq := fun x y => by
    obtain ⟨x1, x2⟩ := x
    obtain ⟨y1, y2⟩ := y
    simp only [PyData.eqv, PyData.eqvAll, e.eq, f.eq, Prod.mk.injEq, Bool.decide_and, Bool.and_true]
def deT3 {P : Rp α} {Q : Rp β} {R : Rp γ} (e : De P) (f : De Q) (g : De R) : De (rT3 P Q R) where
  d := fun x => .tuple [e.d x.1, f.d x.2.1, g.d x.2.2]
  dp := fun K F v x ⟨p, a, b, c, h1, h2, h3, h4, h5⟩ => by
    subst h1
    exact .tup (SqT.of h2) (.cons (e.dp K F _ _ h3) (.cons (f.dp K F _ _ h4) (.cons (g.dp K F _ _ h5) .nil)))
  ok := fun x => by simp only [PyData.canLay0, PyData.canLayAll0, e.ok, f.ok, g.ok, Bool.and_self]
  n := max e.n (max f.n g.n) + 1
  dep := fun x => by
    have h1 := e.dep x.1
    have h2 := f.dep x.2.1
    have h3 := g.dep x.2.2
    simp only [PyData.depth, PyData.depthAll]
    omega
  eq := fun x y => by
    obtain ⟨x1, x2, x3⟩ := x
    obtain ⟨y1, y2, y3⟩ := y
    simp only [PyData.eqv, PyData.eqvAll, e.eq, f.eq, g.eq, Prod.mk.injEq, Bool.decide_and, Bool.and_true, Bool.and_assoc]
end
section
variable {α : Type} [DecidableEq α] {P : Rp α} {K : PySem.W.Frag} {F F' H : Hp} {v w : V} {x y : α} {Q : VK}
theorem sh_de (e : De P) (h : e.n ≤ 64) (x : α) : SeqAt.shaped (e.d x) = true := by
  have h1 := e.dep x
  simp only [SeqAt.shaped, e.ok, Bool.true_and]
  exact decide_eq_true (by omega)
theorem k_eqN (e : De P) (m : Mono P) (h : e.n ≤ 64) (h1 : P F v x) (e1 : Ex F H) (h2 : P F' w y) (e2 : Ex F' H) (k : Q (.bl (decide (x = y))) H) : rEqD K v w H Q :=
  ⟨_, _, e.dp K H _ _ (m _ _ _ _ e1 h1), e.dp K H _ _ (m _ _ _ _ e2 h2), sh_de e h x, sh_de e h y, by rw [e.eq]; exact k⟩
theorem k_neN (e : De P) (m : Mono P) (h : e.n ≤ 64) (h1 : P F v x) (e1 : Ex F H) (h2 : P F' w y) (e2 : Ex F' H) (k : Q (.bl (!decide (x = y))) H) : rNeD K v w H Q :=
  ⟨_, _, e.dp K H _ _ (m _ _ _ _ e1 h1), e.dp K H _ _ (m _ _ _ _ e2 h2), sh_de e h x, sh_de e h y, by rw [e.eq]; exact k⟩
end
end Bt

set_option Elab.async false
set_option linter.all false
set_option maxRecDepth 100000
set_option maxHeartbeats 4000000
/-! What is refused, caught by a name, asked of its class. -/
namespace Bt
open PySem L2 PyProof.Rows
theorem passN {X : Cx} : Passes (L2N.CX X.prog X.w) X E0 := fun _ _ _ _ _ _ _ h => by
  obtain ⟨_, _, _, _, _, _, _, _, _, _, _, _, z⟩ := h
  exact z.elim
theorem takesN0 {X : Cx} : L2N.Takes X (fun _ _ _ _ => False) := fun _ _ x => by
  obtain ⟨_, _, _, _, _, _, _, _, _, _, _, _, _, _, _, _, z⟩ := x
  exact z.elim
theorem okN {P : Program} {w : World} {K : PySem.W.Frag} {mg : Str → Option Value} {base : Heap} {x qual : Str} {st : Stmt} {f : Addr} {fd : FuncData} {N ps : List Str} {k : Nat} {sp : Sp} (F : Fun K x qual st f fd) (S : FnScope N ps (defScope st)) (len : ∀ vs H Q E, sp vs H Q E → vs.length = ps.length)
    (hbody : ∀ (cdv : Value) (A : Around) (outer : List Env) (s : Shared) (H : Hp) (vs : List V) (Q : VK) (E : XK), Room k (A.deeper (envOfC qual (defScope st) s.heap.objs.size f cdv)) → sp vs H Q E →
      ∃ t, PSs (cxOf (L2N.CX P w) P w K mg base N qual (defScope st) f cdv A outer s H E) (defBody st) t ∧ t { nx := fun _ H' => Q .non H', rt := Q } (start N vs) H) : FnOk P w K mg base (L2N.CX P w) (k + 1) f fd ps sp := by
  obtain ⟨oc, od, kV, doc, pm, an, cdv, ct, osl, rfl, lk, hcd⟩ := F.ex
  exact fn_of lk hcd S len fun A outer s H vs Q E hr hsp => hbody cdv A outer s H vs Q E hr hsp
theorem ps_errN {X : Cx} {W : WX} {x m : Str} {j : Nat} {p p2 pos pos' : Pos} {C : Addr} (e : ErrC X.K X.mg x C) (tk : L2N.Takes X W) (hc : X.calm = true) (hg : Gl X x) (hdb : (x == ("__debug__" : Str)) = false := by decide) :
    PS X (.Raise (some (.Call (.Name x p) [.Constant (.str m) j p2] [] pos)) none pos') (fun _ σ H => W (.ref C) none σ H) :=
  L2N.ps_raise hc tk (L2N.pmk_own PySem.F.excBase_ValueError e.ex e.g e.kp (raises_own e.b e.t) hg hdb)
/-! classes by their letters -/
def Eds.at (d : Eds) : Ek → Addr
  | .NoBits => d.NoBits
  | .NoName => d.NoName
  | .NoKey => d.NoKey
  | .NoFrame => d.NoFrame
  | .NoPost => d.NoPost
  | .NoThing => d.NoThing
  | .NoStrip => d.NoStrip
  | .NoRail => d.NoRail
  | .NoWire => d.NoWire
  | .NoRow => d.NoRow
/-- what the walk knows of the classes ks -/
structure EcF (K : PySem.W.Frag) (d : Eds) (ks : List Ek) : Prop where
  ec : ∀ k ∈ ks, ExcC K (d.at k)
  kt : ∀ k ∈ ks, ∀ c ∈ ks, PySem.W.kitOne K (.ref (d.at k)) (.ref (d.at c)) = some (decide (k = c))
  kv : ∀ k ∈ ks, PySem.W.kitOne K (.ref (d.at k)) (.type "ValueError") = some true
  kr : ∀ k ∈ ks, PySem.W.kitOne K (.ref (d.at k)) (.ref d.RailError) = some true
  xr : ∀ k ∈ ks, PySem.W.exmOne K (.ref (d.at k)) (.ref d.RailError) = some true
  xx : ∀ k ∈ ks, ∀ c ∈ ks, PySem.W.exmOne K (.ref (d.at k)) (.ref (d.at c)) = some (decide (k = c))
/-- what an exception's own dict holds -/
def XFl (e : Er) (d : Option Addr) (H : Hp) : Prop := match e with
  | .NoWire i => ∃ x, d = some x ∧ H x = some (.xd [(("at" : Str), .int i)])
  | .NoRow i => ∃ x, d = some x ∧ H x = some (.xd [(("word" : Str), .int i)])
  | _ => d = none
theorem XFl.ext {e : Er} {d : Option Addr} {H H' : Hp} (h : XFl e d H) (x : Ex H H') : XFl e d H' := by
  cases e <;> first
    | exact h
    | (obtain ⟨a, h1, h2⟩ := h; exact ⟨a, h1, x _ _ h2⟩)
theorem RetE.by {d : Eds} {e : Er} {H : Hp} {E : XK} (h : ∀ H' dd, Ex H H' → XFl e dd H' → E (.ref (d.at e.k)) dd H') : RetE d e H E := by
  cases e <;> first
    | exact fun H' x => h H' none x rfl
    | exact fun H' a _ x q => h H' (some a) x ⟨a, rfl, q⟩
/-! isinstance of the exception in hand -/
section
variable {X : Cx} {p : Addr × Obj} {D : Addr} {ex : Er}
theorem inst_pin {pins : List (Addr × Obj)} {σ : L2.St} {H : Hp} {s : Shared} (I : Inv X pins σ H s) (hp : p ∈ X.pn) (hz : p.2.cls = .ref D) (hd : XFl ex p.2.dict H) (hf : ∃ vs, p.2.data = .fields vs) : ∃ od, PySem.W.InstAt s.heap p.1 p.2 D od := by
  obtain ⟨hget, _⟩ := I.pin p (List.mem_append.mpr (.inl hp))
  obtain ⟨a, oc, od, oda, osl⟩ := p
  obtain ⟨vs, hv⟩ := hf
  dsimp only at hz hd hv hget
  subst hz hv
  have hk : od = none ∨ ∃ x fs, od = some x ∧ H x = some (.xd fs) := by
    cases ex <;> first
      | exact .inl hd
      | (obtain ⟨x, h1, h2⟩ := hd; exact .inr ⟨x, _, h1, h2⟩)
  rcases hk with rfl | ⟨x, fs, rfl, hx⟩
  · exact ⟨none, hget, rfl, rfl, trivial⟩
  · obtain ⟨_, ⟨o, _, _, e, _⟩, _⟩ := (show ∃ mA, s.heap.Ns1 x mA ∧ ∀ f, RelO (fs.lookup f) (mA f) from I.hok x _ hx)
    exact ⟨some _, hget, rfl, rfl, e⟩
theorem exc_cls {K : PySem.W.Frag} {D : Addr} (C : ExcC K D) : (PySem.W.clsIn K D).isSome = true := by
  obtain ⟨cd, hc, _⟩ := PySem.W.any_some C.hd
  rw [hc]; rfl
/-- isinstance(e, c), e the exception in hand -/
def rIsX (K : PySem.W.Frag) (D a : Addr) (ex : Er) (d : Option Addr) : List V → Hp → VK → Prop := fun xs H Q => ∃ (c : V) (cv : Value) (b : Bool), xs = [.ref a, c] ∧ ClsV c cv ∧ XFl ex d H ∧ PySem.W.kitOne K (.ref D) cv = some b ∧ Q (.bl b) H
theorem call_isP (hp : p ∈ X.pn) (C : ExcC X.K D) (hz : p.2.cls = .ref D) {d : Option Addr} (hdd : p.2.dict = d) (hf : ∃ vs, p.2.data = .fields vs) : CallR X (.builtin "isinstance") (rIsX X.K D p.1 ex d) := by
  subst hdd
  intro pins s σ H xs us Q I r h
  obtain ⟨c, cv, b, rfl, hcv, hd, e, q⟩ := h
  obtain ⟨u1, u2, rfl, r1, r2⟩ := vals2 r
  cases (show u1 = Value.ref p.1 from r1)
  have ec := hcv.eq r2
  subst ec
  obtain ⟨od, J⟩ := inst_pin I hp hz hd hf
  exact PySem.W.kia_one (PySem.W.kitx_exc (exc_cls C) C.hg C.hk C.hs C.ha C.hn C.ht C.hm) I.kIn J e (fun z => nomatch z) fun tk => ⟨.bl b, H, I.kept (t' := tk) fun _ _ z => z, rfl, q⟩
/-- .. and of a row of classes -/
def rIsXt (K : PySem.W.Frag) (D a : Addr) (ex : Er) (d : Option Addr) : List V → Hp → VK → Prop := fun xs H Q => ∃ (tp : Addr) (cs : List V) (us : List Value) (b : Bool), xs = [.ref a, .ref tp] ∧ H tp = some (.tup cs) ∧ Paired ClsV cs us ∧ XFl ex d H ∧ PySem.W.kitAny K (.ref D) us = some b ∧ Q (.bl b) H
theorem call_isPt (hp : p ∈ X.pn) (C : ExcC X.K D) (hz : p.2.cls = .ref D) {d : Option Addr} (hdd : p.2.dict = d) (hf : ∃ vs, p.2.data = .fields vs) : CallR X (.builtin "isinstance") (rIsXt X.K D p.1 ex d) := by
  subst hdd
  intro pins s σ H xs us Q I r h
  obtain ⟨tp, cs, ws, b, rfl, hT, k, hd, e, q⟩ := h
  obtain ⟨u1, u2, rfl, r1, r2⟩ := vals2 r
  cases (show u1 = Value.ref p.1 from r1)
  cases (show u2 = Value.ref tp from r2)
  obtain ⟨_, its, rv, o, h1, h2, n, h3⟩ := (show ObjOk X.prog X.w H s.heap tp (.tup cs) from I.hok tp _ hT)
  have e3 := ClsV.all k rv
  subst e3
  obtain ⟨oc, od, dt, sl⟩ := o
  simp only at h2 h3
  subst h2 h3
  obtain ⟨od, J⟩ := inst_pin I hp hz hd hf
  exact PySem.W.kia_tup (PySem.W.kitx_exc (exc_cls C) C.hg C.hk C.hs C.ha C.hn C.ht C.hm) I.kIn J h1 e (fun z => nomatch z) fun tk => ⟨.bl b, H, I.kept (t' := tk) fun _ _ z => z, rfl, q⟩
end
/-- the classes of a row, asked -/
def inKs (k : Ek) : List Ek → Bool
  | [] => false
  | c :: r => decide (k = c) || inKs k r
theorem kit_any {K : PySem.W.Frag} {d : Eds} {ks : List Ek} (T : EcF K d ks) {k : Ek} (hk : k ∈ ks) : ∀ (cs : List Ek), (∀ c ∈ cs, c ∈ ks) → PySem.W.kitAny K (.ref (d.at k)) (cs.map fun c => .ref (d.at c)) = some (inKs k cs)
  | [], _ => rfl
  | c :: r, h => by
    refine kitAny_cons (T.kt k hk c (h c (List.Mem.head _))) (fun e => ?_) fun e => ?_
    · rw [kit_any T hk r fun z hz => h z (List.Mem.tail _ hz)]
      show some (inKs k r) = some (decide (k = c) || inKs k r)
      rw [e, Bool.false_or]
    · show (decide (k = c) || inKs k r) = true
      rw [e, Bool.true_or]
/-! a def of the exception in hand, called in the suite -/
structure FnE (P : Program) (w : World) (K : PySem.W.Frag) (mg : Str → Option Value) (base : Heap) (k : Nat) (f : Addr) (fd : FuncData) (x : Str) (D : Addr) (ex : Er) (R : Bool) : Prop where
  run : ∀ (A : Around) (outer : List Env) (s : Shared) (H : Hp) (args : Args) (p : Addr × Obj) (Q : VK), L2H.RoomH k A → L2H.Hot1 A p → L2H.PinOk outer H s p → p.2.cls = .ref D → XFl ex p.2.dict H → Env0 P w K mg base A outer s H → BindsTo s fd args ([x].zip [.ref p.1]) → RetV (.bl R) H Q →
    codeAny (model P w) A (.call (.ref f) args) (CR CX0 outer P w H s Q E0) s
theorem fnE_of {P : Program} {w : World} {K : PySem.W.Frag} {mg : Str → Option Value} {base : Heap} {x qual : Str} {st : Stmt} {f : Addr} {fd : FuncData} {N : List Str} {y : Str} {k : Nat} {D : Addr} {ex : Er} {R : Bool} (F : Fun K x qual st f fd) (S : FnScope N [y] (defScope st))
    (hbody : ∀ (cdv : Value) (A : Around) (outer : List Env) (s : Shared) (H : Hp) (p : Addr × Obj) (Q : VK), A.units + 64 < cLine → p.2.cls = .ref D → XFl ex p.2.dict H → (∃ vs, p.2.data = .fields vs) → RetV (.bl R) H Q →
      ∃ t, PSs (L2H.cxH CX0 P w K mg base N qual (defScope st) f cdv A outer s H E0 p) (defBody st) t ∧ t { nx := fun _ H' => Q .non H', rt := Q } (start N [.ref p.1]) H) : FnE P w K mg base (k + 1) f fd y D ex R := by
  obtain ⟨oc, od, kV, doc, pm, an, cdv, ct, osl, rfl, lk, hcd⟩ := F.ex
  refine ⟨fun A outer s H args p Q hr hot hpin hz hd e0 hb hq => ?_⟩
  have KX : K.In s.heap := e0.mod.kin.keeps fun b o e => (e0.bs b o e).1
  have lim : s.heap.NoLimit := e0.mod.nolimit.keeps fun b o e => (e0.bs b o e).1
  have hkind : ∀ z ∈ [y].zip [Value.ref p.1], (defScope st).names.lookup z.1 = some .local ∨ ((defScope st).names.lookup z.1 = some .cell ∧ ((cellsFrom (s.heap.objs.size + 1) (defScope st).names []).lookup z.1).isSome = true) := fun ⟨n, v⟩ hy =>
    (S.par n (List.of_mem_zip hy).1).imp id fun q => ⟨q, PySem.W.cellsFrom_some _ _ _ (.inl q)⟩
  refine codeAny_call_function hr.depth (KX _ _ lk) rfl S.co S.gen rfl (PySem.W.codeRec_of KX hcd) (hb _ _ _ _ (wpAny_newFunctionEnv_cells S.kind hkind fun env he s1 hx => ?_))
  subst he
  refine ⟨lim.keeps hx.toInCall.keep, codeAny_func ?_⟩
  obtain ⟨h1, vs, h2, _⟩ := hot
  obtain ⟨t, ht, h3⟩ := hbody cdv A outer s H p Q (by have := hr.un; omega) hz hd ⟨vs, h2⟩ hq
  have rv : Vals [V.ref p.1] [Value.ref p.1] := .cons rfl .nil
  have I := L2H.inv_startH (CX := CX0) (qual := qual) (f := f) (cd := cdv) (E := E0) S hpin e0 rfl rv hx
  refine wpAny_mono (ht.run [] s1 _ H _ I h3) (fun fl s' hs => ?_) fun e s' hs => hs
  cases fl with
  | ret u =>
    obtain ⟨v, σ', H', J, r, q⟩ := hs
    exact ⟨v, H', J.os, J.bare, J.base, J.hok, r, q⟩
  | next =>
    obtain ⟨σ', H', J, q⟩ := hs
    exact ⟨V.non, H', J.os, J.bare, J.base, J.hok, rfl, q⟩
  | brk =>
    obtain ⟨_, _, _, q⟩ := hs
    exact q.elim
  | cont =>
    obtain ⟨_, _, _, q⟩ := hs
    exact q.elim
def tCallE (a : Addr) (ex : Er) (d : Option Addr) (R : Bool) (t : TA) : TE := fun σ H Q => t σ H fun vs H1 => vs = [.ref a] ∧ XFl ex d H1 ∧ RetV (.bl R) H1 Q
theorem pe_callE {X : Cx} {k : Nat} {f : Addr} {fd : FuncData} {x y : Str} {q pos : Pos} {e : Expr} {t : TA} {D : Addr} {ex : Er} {R : Bool} {p : Addr × Obj} (F : FnE X.prog X.w X.K X.mg X.base k f fd y D ex R) (hp : p ∈ X.pn) (hot : L2H.Hot1 X.A p) (hz : p.2.cls = .ref D) {d : Option Addr} (hdd : p.2.dict = d)
    (hr : L2H.RoomH k X.A) (hg : Gl X x) (hm : X.mg x = some (.ref f)) (hk : PySem.W.keepIn X.K (.ref f) = true) (hb : Binds X.K fd [y] []) (ha : PA X [e] t) (hdb : (x == ("__debug__" : Str)) = false := by decide)
    (he : starEach [e] X.env = (false, eval e X.env) :: starEach [] X.env := by rfl) (hpl : (backTo pos (starEach [] X.env)).any (·.1) = false := by rfl) : PE X (.Call (.Name x q) [e] [] pos) (tCallE p.1 ex d R t) := by
  subst hdd
  refine ⟨fun pins s σ H Q I h => ?_⟩
  refine wpAny_Call_Name_kw (ld_glob I hg hm ?_ hdb)
  refine PySem.W.callWith_K (h₀ := X.base) I.ok.mod.kin hk (thn (ha.run pos pins s σ H _ I h) fun us s1 ⟨vs, H1, I1, r, e1, hd, hq⟩ => ⟨I1.kIn, ?_⟩) he hpl
  subst e1
  obtain ⟨u, rfl, r1⟩ := r.one
  cases (show u = Value.ref p.1 from r1)
  have b := hb s1 [.ref p.1] I1.kIn (by rw [List.append_nil]; rfl)
  rw [List.append_nil] at b
  obtain ⟨p1, p2, p3, p4, p5⟩ := I1.pin p (List.mem_append_left _ hp)
  have hpin : L2H.PinOk X.stack H1 s1 p := ⟨p1, p2, fun hm => (List.mem_cons.mp (I1.stkSub p.1 hm)).elim p3 p4, p5⟩
  refine wpAny_call (codeAny_mono (F.run X.A X.stack s1 H1 ⟨[.ref p.1], []⟩ p Q hr hot hpin hz hd I1.env0 b hq) fun r s' hq => ?_)
  cases r with
  | error e => exact (show False from hq).elim
  | ok fl =>
    cases fl with
    | ret u => exact I1.after hq
    | next => exact False.elim hq
    | brk => exact False.elim hq
    | cont => exact False.elim hq
/-! all of it, class by class -/
structure EcP (K : PySem.W.Frag) (C : Addr) : Prop where
  hg : PySem.W.findIn K (.ref C) "__getattribute__" = some (some (.builtin "BaseException.__getattribute__"))
  hk : PySem.W.findIn K (.ref C) "__getattr__" = some none
  hs : PySem.W.subIn K (.ref C) (.type "BaseException") = some true
  hd : PySem.W.hasDictIn K C = true
  ha : PySem.W.findIn K (.ref C) "__class__" = some (some (.builtin "object.__class__"))
  hm : PySem.W.mroIn K C (.type "object") = some true
  ct : PySem.W.typeIn K (.ref C) = some (.type "type")
  sv : PySem.W.subIn K (.ref C) (.type "ValueError") = some true
theorem all_nil {α : Type} {P : α → Prop} : ∀ x ∈ ([] : List α), P x := fun _ h => (nomatch h)
theorem all_cons {α : Type} {P : α → Prop} {a : α} {l : List α} (h : P a) (t : ∀ x ∈ l, P x) : ∀ x ∈ a :: l, P x := fun x hx => by
  rcases List.mem_cons.mp hx with rfl | hx
  · exact h
  · exact t x hx
theorem ecf_mk {K : PySem.W.Frag} {d : Eds} {ks : List Ek} (h : ∀ k ∈ ks, EcP K (d.at k)) (hp : ∀ k ∈ ks, ∀ c ∈ ks, PySem.W.subIn K (.ref (d.at k)) (.ref (d.at c)) = some (decide (k = c)))
    (hr : ∀ k ∈ ks, PySem.W.subIn K (.ref (d.at k)) (.ref d.RailError) = some true) (rr : EcP K d.RailError)
    (hn : PySem.W.specialIn K (.builtin "object.__class__") "__get__" = some (some (.builtin "getset_descriptor.__get__"))) (ht : PySem.W.takesIn K (.builtin "object.__class__") = some true) (hv : PySem.W.kitMeta "ValueError" = true) : EcF K d ks := by
  have ec : ∀ k ∈ ks, ExcC K (d.at k) := fun k hk => by
    obtain ⟨h1, h2, h3, h4, h5, h6, h7, h8⟩ := h k hk
    exact ⟨h1, h2, h3, h4, h5, hn, ht, h6⟩
  have cl : ∀ {C : Addr}, EcP K C → (PySem.W.clsIn K C).isSome = true := fun q => by
    obtain ⟨cd, hc, _⟩ := PySem.W.any_some q.hd
    rw [hc]; rfl
  have ko : ∀ {a b : Addr} {r : Bool}, EcP K b → PySem.W.subIn K (.ref a) (.ref b) = some r → (a = b → r = true) → PySem.W.kitOne K (.ref a) (.ref b) = some r := fun {a b r} q e1 e2 => by
    unfold PySem.W.kitOne
    by_cases e : a = b
    · subst e
      rw [if_pos (by simp), e2 rfl]
    · rw [if_neg (by simp [e])]
      unfold PySem.W.kitCls
      dsimp only
      rw [if_pos (by rw [cl q, q.ct]; rfl)]
      exact e1
  refine ⟨ec, fun k hk c hc => ko (h c hc) (hp k hk c hc) (fun e => ?_), fun k hk => ?_, fun k hk => ko rr (hr k hk) fun _ => rfl, fun k hk => exm_mk rr.hs (cl rr) rr.ct (hr k hk), fun k hk c hc => exm_mk (h c hc).hs (cl (h c hc)) (h c hc).ct (hp k hk c hc)⟩
  · have e1 := hp k hk c hc
    have e2 := hp c hc c hc
    rw [e] at e1
    rw [e2] at e1
    rw [decide_eq_true (rfl : c = c)] at e1
    exact (Option.some.inj e1).symm
  · unfold PySem.W.kitOne
    rw [if_neg (by simp)]
    unfold PySem.W.kitCls
    dsimp only
    rw [if_pos hv]
    exact (h k hk).sv
theorem gv_ref {K : PySem.W.Frag} {h : Heap} {mg : Str → Option Value} {x : Str} {C : Addr} (X : K.In h) (G : h.Ns mainGlobals mg) (a : PySem.W.nsIn K mainGlobals x = some (some (.ref C))) : Gv mg x (.ref C) := ⟨_, PySem.W.mg_of X G a, rfl⟩
theorem err_at {K : PySem.W.Frag} {h : Heap} {mg : Str → Option Value} {x : Str} {C : Addr} (X : K.In h) (G : h.Ns mainGlobals mg) (a : PySem.W.nsIn K mainGlobals x = some (some (.ref C)))
    (e : PySem.W.excIn K C [.type "ValueError", .type "Exception", .type "BaseException", .type "object"] "ValueError.__new__" = true) (k : PySem.W.keepIn K (.ref C) = true) (b : PySem.W.subIn K (.ref C) (.type "BaseException") = some true) (t : PySem.W.typeIn K (.ref C) = some (.type "type")) : ErrC K mg x C :=
  ⟨PySem.W.mg_of X G a, e, k, b, t⟩
def Er.plain : Er → Bool
  | .NoWire _ => false
  | .NoRow _ => false
  | _ => true
theorem XFl.of {e : Er} {H : Hp} (h : e.plain = true) : XFl e none H := by
  cases e <;> first
    | rfl
    | cases h
theorem RetE.byP {d : Eds} {e : Er} {H : Hp} {E : XK} (hp : e.plain = true) (h : ∀ H', Ex H H' → E (.ref (d.at e.k)) none H') : RetE d e H E := by
  cases e <;> first
    | exact fun H' x => h H' x
    | cases hp
theorem Ek.all (k : Ek) : k ∈ [Ek.NoBits, .NoName, .NoKey, .NoFrame, .NoPost, .NoThing, .NoStrip, .NoRail, .NoWire, .NoRow] := by
  cases k <;> decide
/-! the suite, its exception known -/
theorem pss_exc {X : Cx} {ss : List Stmt} {es : Eds} {ks : List Ek} {cls : Value} {t : Er → TS} (h : ∀ e, e.k ∈ ks → cls = .ref (es.at e.k) → PSs X ss (t e)) :
    PSs X ss (fun D σ H => ∃ e : Er, e.k ∈ ks ∧ cls = .ref (es.at e.k) ∧ t e D σ H) :=
  ⟨fun pins s σ H D I ⟨e, h1, h2, q⟩ => (h e h1 h2).run pins s σ H D I q⟩
theorem hot_suite {X : Cx} {a : Addr} {oe : Obj} {pn : List (Addr × Obj)} {cls : Value} {d : Option Addr} (hz : L2N.Zn cls d oe) (hf : ∃ vs, oe.data = .fields vs) : L2H.Hot1 (X.suite a ((a, oe) :: pn)).A (a, oe) := by
  obtain ⟨vs, hv⟩ := hf
  exact ⟨rfl, vs, hv, hz.2.2 vs hv⟩
theorem roomE {X : Cx} {k : Nat} {v : Option Value} (hr : Room k X.A) : L2H.RoomH k (X.A.mark v) := ⟨hr.dp, hr.un⟩
def Er.num : Er → Int
  | .NoWire i => i
  | .NoRow i => i
  | _ => 0
end Bt
namespace Bt
open PySem L2 PyProof.Rows
def okE (ks : List Ek) (e : Er) : Bool := e.plain && decide (e.k ∈ ks)
theorem okE_iff {ks : List Ek} {e : Er} (h : okE ks e = true) : e.plain = true ∧ e.k ∈ ks := by
  unfold okE at h
  rw [Bool.and_eq_true, decide_eq_true_eq] at h
  exact h
theorem ifN {α : Type} {c : Bool} {a : Option α} {r : α} (h : ifB c a none = some r) : c = true ∧ a = some r := by
  cases c with
  | true => exact ⟨rfl, h⟩
  | false => cases h
theorem o_cE {a : Addr} {ex : Er} {d : Option Addr} {R : Bool} {t : TA} {σ : L2.St} {H : Hp} {Q : VK} (h : t σ H fun vs H1 => vs = [.ref a] ∧ XFl ex d H1 ∧ RetV (.bl R) H1 Q) : tCallE a ex d R t σ H Q := h
end Bt
namespace Bt
open PySem L2 PyProof.Rows
theorem pe_gr {X : Cx} {x : Str} {C : Addr} {pos : Pos} (hg : Gl X x) (h : X.mg x = some (.ref C)) (hd : (x == ("__debug__" : Str)) = false := by decide) : PE X (.Name x pos) (tC (.ref C)) := pe_gv hg ⟨_, h, rfl⟩ hd
end Bt
namespace Bt
open PySem L2 PyProof.Rows
theorem pe_callEs {X : Cx} {a : Addr} {oe : Obj} {pn : List (Addr × Obj)} {cls : Value} {k : Nat} {f : Addr} {fd : FuncData} {x y : Str} {q pos : Pos} {e : Expr} {t : TA} {D : Addr} {ex : Er} {R : Bool} {d : Option Addr} (F : FnE X.prog X.w X.K X.mg X.base k f fd y D ex R) (hz : L2N.Zn cls d oe) (hf : ∃ vs, oe.data = .fields vs) (hc : cls = .ref D)
    (hr : Room k X.A) (hg : Gl X x) (hm : X.mg x = some (.ref f)) (hk : PySem.W.keepIn X.K (.ref f) = true) (hb : Binds X.K fd [y] []) (ha : PA (X.suite a ((a, oe) :: pn)) [e] t) (hdb : (x == ("__debug__" : Str)) = false := by decide)
    (he : starEach [e] X.env = (false, eval e X.env) :: starEach [] X.env := by rfl) (hpl : (backTo pos (starEach [] X.env)).any (·.1) = false := by rfl) : PE (X.suite a ((a, oe) :: pn)) (.Call (.Name x q) [e] [] pos) (tCallE a ex d R t) :=
  pe_callE (X := X.suite a ((a, oe) :: pn)) (p := (a, oe)) F (List.Mem.head _) (hot_suite hz hf) (hz.1.trans hc) hz.2.1 (roomE hr) hg hm hk hb ha hdb he hpl
end Bt
namespace Bt
open PySem L2
theorem o_dn {n b k : L2.St → Hp → Prop} {w : VK} {σ : L2.St} {H : Hp} (h : n σ H) : (Ends.mk n w b k).nx σ H := h
end Bt
namespace Bt
open PySem L2
theorem RetE.up {d : Eds} {e : Er} {H H' : Hp} {E : XK} (k : RetE d e H E) (x : Ex H H') : RetE d e H' E := by
  cases e <;> first
    | exact fun H2 h => k H2 (x.trans h)
    | exact fun H2 a ha h => k H2 a (x.back ha) (x.trans h)
end Bt

set_option linter.all false
set_option maxRecDepth 100000
set_option maxHeartbeats 1000000
/-! Plain facts about the mirror's words. -/
namespace Bt
open PySem L2
section
variable {α β S R : Type}
theorem bnd_some {a : α} {f : α → Option β} : bnd (some a) f = f a := rfl
theorem bnd_of {a : Option α} {x : α} {f : α → Option β} (h : a = some x) : bnd a f = f x := by rw [h]; rfl
theorem ltv_eq {a : α} {f : α → Option β} : ltv a f = f a := rfl
theorem ifB_t {a b : α} : ifB true a b = a := rfl
theorem ifB_f {a b : α} : ifB false a b = b := rfl
theorem ifB_dec {c : Prop} [Decidable c] {a b : α} : ifB (decide c) a b = if c then a else b := by
  by_cases h : c
  · rw [if_pos h, decide_eq_true h]; rfl
  · rw [if_neg h, decide_eq_false h]; rfl
theorem ifB_ite {c : Bool} {a b : α} : ifB c a b = if c = true then a else b := by cases c <;> rfl
theorem fin_nx {s : S} {rest : S → Option R} : fin (some (.nx s)) rest = rest s := rfl
theorem fin_rt {r : R} {rest : S → Option R} : fin (some (.rt r)) rest = some r := rfl
theorem loopM_ok {f : α → S → Option S} (I : List α → S → Prop) (hs : ∀ x r s, I (x :: r) s → ∃ s', f x s = some s' ∧ I r s') : ∀ (xs : List α) (s : S), I xs s → ∃ out, loopM f xs s = some out ∧ I [] out
  | [], s, h => ⟨s, rfl, h⟩
  | x :: r, s, h => by
    obtain ⟨s', h1, h2⟩ := hs x r s h
    obtain ⟨out, h3, h4⟩ := loopM_ok I hs r s' h2
    exact ⟨out, by show bnd (f x s) (loopM f r) = some out; rw [h1]; exact h3, h4⟩
theorem loopF_ok {f : α → S → Option (Fl S R)} (I : List α → S → Prop) (hs : ∀ x r s, I (x :: r) s → ∃ s', f x s = some (.nx s') ∧ I r s') : ∀ (xs : List α) (s : S), I xs s → ∃ out, loopF f xs s = some (.nx out) ∧ I [] out
  | [], s, h => ⟨s, rfl, h⟩
  | x :: r, s, h => by
    obtain ⟨s', h1, h2⟩ := hs x r s h
    obtain ⟨out, h3, h4⟩ := loopF_ok I hs r s' h2
    exact ⟨out, by show bnd (f x s) (contF (loopF f r)) = some (.nx out); rw [h1]; exact h3, h4⟩
/-- a search that finds nothing -/
theorem loopF_unit {f : α → Unit → Option (Fl Unit R)} {xs : List α} (h : ∀ x ∈ xs, f x () = some (.nx ())) : loopF f xs () = some (.nx ()) := by
  induction xs with
  | nil => rfl
  | cons x r ih =>
    show bnd (f x ()) (contF (loopF f r)) = some (.nx ())
    rw [h x (List.Mem.head _)]
    exact ih fun y hy => h y (List.Mem.tail _ hy)
theorem compM_ok {f : α → Option β} {g : α → β} : ∀ (xs : List α) (acc : List β), (∀ x ∈ xs, f x = some (g x)) → acc.length + xs.length ≤ 16777216 → compM f xs acc = some (acc ++ xs.map g)
  | [], acc, _, _ => by simp [compM]
  | x :: r, acc, h, hz => by
    have hl : acc.length < 16777216 := by simp only [List.length_cons] at hz; omega
    have ih := compM_ok r (acc ++ [g x]) (fun y hy => h y (List.Mem.tail _ hy)) (by simp only [List.length_append, List.length_cons, List.length_nil] at hz ⊢; omega)
    show bnd (f x) (fun y => if acc.length < 16777216 then compM f r (acc ++ [y]) else none) = _
    rw [h x (List.Mem.head _), bnd_some, if_pos hl, ih]
    simp
/-- the elements' property alone -/
theorem compM_all {f : α → Option β} {P : β → Prop} : ∀ (xs : List α) (acc : List β), (∀ x ∈ xs, ∃ y, f x = some y ∧ P y) → acc.length + xs.length ≤ 16777216 → (∀ y ∈ acc, P y) → ∃ out, compM f xs acc = some out ∧ out.length = acc.length + xs.length ∧ ∀ y ∈ out, P y
  | [], acc, _, _, ha => ⟨acc, rfl, by simp, ha⟩
  | x :: r, acc, h, hz, ha => by
    obtain ⟨y, h1, h2⟩ := h x (List.Mem.head _)
    have hl : acc.length < 16777216 := by simp only [List.length_cons] at hz; omega
    obtain ⟨out, h3, h4, h5⟩ := compM_all r (acc ++ [y]) (fun y hy => h y (List.Mem.tail _ hy)) (by simp only [List.length_append, List.length_cons, List.length_nil] at hz ⊢; omega) (fun z hz => by
      rcases List.mem_append.mp hz with q | q
      · exact ha z q
      · rw [List.mem_singleton.mp q]; exact h2)
    refine ⟨out, ?_, by rw [h4]; simp only [List.length_append, List.length_cons, List.length_nil]; omega, h5⟩
    show bnd (f x) (fun y => if acc.length < 16777216 then compM f r (acc ++ [y]) else none) = _
    rw [h1, bnd_some, if_pos hl, h3]
theorem appG_ok {xs : List α} {y : α} (h : xs.length < 16777216) : appG xs y = some (xs ++ [y]) := grd_of h
theorem catG_ok {xs ys : List α} (h : xs.length + ys.length ≤ 16777216) : catG xs ys = some (xs ++ ys) := grd_of h
theorem ixN_nat' {n : Nat} {i : Int} (h0 : 0 ≤ i) (h1 : i < n) : ixN n i = some i.toNat := by
  unfold ixN
  rw [if_pos h0, if_pos h1]
theorem atI_ok {xs : List α} {i : Int} (h0 : 0 ≤ i) (h1 : i < xs.length) : atI xs i = xs[i.toNat]? := by
  unfold atI
  rw [ixN_nat' h0 h1]
  rfl
theorem atI_mem {xs : List α} {i : Int} (h0 : 0 ≤ i) (h1 : i < xs.length) : ∃ x, atI xs i = some x ∧ x ∈ xs := by
  have hn : i.toNat < xs.length := by omega
  exact ⟨xs[i.toNat], by rw [atI_ok h0 h1]; exact List.getElem?_eq_getElem hn, List.getElem_mem hn⟩
theorem setG_ok {xs : List α} {i : Int} {y : α} (h0 : 0 ≤ i) (h1 : i < xs.length) : setG xs i y = some (xs.set i.toNat y) := by
  unfold setG
  rw [ixN_nat' h0 h1]
theorem repG_ok {xs : List α} {k : Int} (h0 : 0 ≤ k) (h1 : k ≤ 1000000) (h2 : xs.length * k.toNat ≤ 16777216) : repG xs k = some (List.replicate k.toNat xs).flatten := grd_of ⟨by omega, by omega, h2⟩
end
theorem modG_ok {i j : Int} (h : 0 < j) : modG i j = some (i % j) := grd_of h
theorem log2_small {n k : Nat} (h : n < 2 ^ k) : n.log2 ≤ k := by
  by_cases h0 : n = 0
  · subst h0; rw [show Nat.log2 0 = 0 from by decide]; exact Nat.zero_le _
  · exact Nat.le_of_lt ((Nat.log2_lt h0).mpr h)
theorem mulG_ok {i j : Int} {a b : Nat} (h1 : i.natAbs < 2 ^ a) (h2 : j.natAbs < 2 ^ b) (h : a + b < 1000000) : mulG i j = some (i * j) := by
  refine grd_of ?_
  have := log2_small h1
  have := log2_small h2
  omega
theorem fdivG_ok {i j : Int} {b : Nat} (h : 0 < j) (h2 : j.natAbs < 2 ^ b) (hb : b < 9000) : fdivG i j = some (i / j) := by
  refine grd_of ⟨h, ?_⟩
  have := log2_small h2
  omega
theorem shrG_ok {i j : Int} (h : 0 ≤ j) : shrG i j = some (i / 2 ^ j.toNat) := grd_of h
theorem rng1_ok {j : Int} (h : j ≤ 1000000) (h0 : -1000000 ≤ j) : rng1 j = some (rangeI 0 j) := grd_of ⟨by omega, by omega⟩
theorem rng2_ok {i j : Int} (h : j ≤ 1000000) (h0 : -1000000 ≤ j) (h1 : -1000000 ≤ i) (h2 : i ≤ 1000000) : rng2 i j = some (rangeI i j) := grd_of ⟨by omega, by omega, by omega, by omega⟩
theorem mem_rangeI {i j x : Int} (h : x ∈ rangeI i j) : i ≤ x ∧ x < j := by
  unfold rangeI at h
  obtain ⟨n, hn, rfl⟩ := List.mem_map.mp h
  have := List.mem_range.mp hn
  omega
theorem rangeI_length (i j : Int) : (rangeI i j).length = (j - i).toNat := by simp [rangeI]
theorem rangeI_cons {i j : Int} (h : i < j) : rangeI i j = i :: rangeI (i + 1) j := by
  unfold rangeI
  have e : (j - i).toNat = (j - (i + 1)).toNat + 1 := by omega
  rw [e, List.range_succ_eq_map]
  simp only [List.map_cons, List.map_map]
  congr 1
  · simp
  · refine List.map_congr_left fun n _ => ?_
    simp only [Function.comp]
    omega
theorem rangeI_nil {i j : Int} (h : j ≤ i) : rangeI i j = [] := by
  unfold rangeI
  rw [show (j - i).toNat = 0 from by omega]
  rfl
/-- a loop over a range: the invariant by the number ahead -/
theorem loopM_rng {S : Type} {f : Int → S → Option S} (I : Int → S → Prop) {hi : Int} (hs : ∀ i s, i < hi → I i s → ∃ s', f i s = some s' ∧ I (i + 1) s') : ∀ (n : Nat) (lo : Int) (s : S), (hi - lo).toNat = n → lo ≤ hi → I lo s → ∃ out, loopM f (rangeI lo hi) s = some out ∧ I hi out
  | 0, lo, s, e, h, h0 => by
    have : lo = hi := by omega
    subst this
    rw [rangeI_nil (Int.le_refl _)]
    exact ⟨s, rfl, h0⟩
  | n + 1, lo, s, e, h, h0 => by
    rw [rangeI_cons (by omega)]
    obtain ⟨s', h1, h2⟩ := hs lo s (by omega) h0
    obtain ⟨out, h3, h4⟩ := loopM_rng I hs n (lo + 1) s' (by omega) (by omega) h2
    exact ⟨out, by show bnd (f lo s) _ = _; rw [h1]; exact h3, h4⟩
theorem loopF_rng {S R : Type} {f : Int → S → Option (Fl S R)} (I : Int → S → Prop) {hi : Int} (hs : ∀ i s, i < hi → I i s → ∃ s', f i s = some (.nx s') ∧ I (i + 1) s') : ∀ (n : Nat) (lo : Int) (s : S), (hi - lo).toNat = n → lo ≤ hi → I lo s → ∃ out, loopF f (rangeI lo hi) s = some (.nx out) ∧ I hi out
  | 0, lo, s, e, h, h0 => by
    have : lo = hi := by omega
    subst this
    rw [rangeI_nil (Int.le_refl _)]
    exact ⟨s, rfl, h0⟩
  | n + 1, lo, s, e, h, h0 => by
    rw [rangeI_cons (by omega)]
    obtain ⟨s', h1, h2⟩ := hs lo s (by omega) h0
    obtain ⟨out, h3, h4⟩ := loopF_rng I hs n (lo + 1) s' (by omega) (by omega) h2
    exact ⟨out, by show bnd (f lo s) _ = _; rw [h1]; exact h3, h4⟩
end Bt
namespace Bt
open PySem L2
theorem bits_le {i : Int} {n : Nat} (h : i.natAbs < 2 ^ n) : Builtin.Int.intBits i ≤ n := by
  unfold Builtin.Int.intBits
  split
  · exact Nat.zero_le _
  · rename_i h0
    have h1 : i.natAbs ≠ 0 := by simpa using h0
    have := (Nat.log2_lt h1).mpr h
    omega
theorem shlG_ok {i j : Int} {n : Nat} (h : i.natAbs < 2 ^ n) (h0 : 0 ≤ j) (h1 : (n : Int) + j ≤ 100000000) : shlG i j = some (i * 2 ^ j.toNat) := by
  refine grd_of ⟨h0, ?_⟩
  have := bits_le h
  omega
end Bt
namespace Bt
open PySem L2
theorem whileM_go {S : Type} {c : S → Option Bool} {f : S → Option S} {n : Nat} {s s' : S} (h1 : c s = some true) (h2 : f s = some s') : whileM c f (n + 1) s = whileM c f n s' := by
  show bnd (c s) (fun b => ifB b (bnd (f s) (whileM c f n)) (some s)) = _
  rw [h1, bnd_some, ifB_t, h2, bnd_some]
theorem whileM_stop {S : Type} {c : S → Option Bool} {f : S → Option S} {n : Nat} {s : S} (h1 : c s = some false) : whileM c f (n + 1) s = some s := by
  show bnd (c s) (fun b => ifB b (bnd (f s) (whileM c f n)) (some s)) = _
  rw [h1, bnd_some, ifB_f]
theorem loopM_go {α S : Type} {f : α → S → Option S} {x : α} {r : List α} {s s' : S} (h : f x s = some s') : loopM f (x :: r) s = loopM f r s' := by
  show bnd (f x s) (loopM f r) = _
  rw [h, bnd_some]
theorem loopF_go {α S R : Type} {f : α → S → Option (Fl S R)} {x : α} {r : List α} {s s' : S} (h : f x s = some (.nx s')) : loopF f (x :: r) s = loopF f r s' := by
  show bnd (f x s) (contF (loopF f r)) = _
  rw [h, bnd_some]
  rfl
end Bt
namespace Bt
open PySem L2
theorem compT_ok {α β : Type} {c : α → Option Bool} {f : α → Option β} {p : α → Bool} {g : α → β} : ∀ (xs : List α) (acc : List β), (∀ x ∈ xs, c x = some (p x)) → (∀ x ∈ xs, f x = some (g x)) → acc.length + xs.length ≤ 16777216 → compT c f xs acc = some (acc ++ (xs.filter p).map g)
  | [], acc, _, _, _ => by simp [compT]
  | x :: r, acc, h, k, hz => by
    simp only [List.length_cons] at hz
    show bnd (c x) (fun b => ifB b (bnd (f x) fun y => if acc.length < 16777216 then compT c f r (acc ++ [y]) else none) (compT c f r acc)) = _
    rw [h x (List.Mem.head _), bnd_some]
    cases e : p x with
    | true =>
      rw [ifB_t, k x (List.Mem.head _), bnd_some, if_pos (by omega), compT_ok r (acc ++ [g x]) (fun y hy => h y (List.Mem.tail _ hy)) (fun y hy => k y (List.Mem.tail _ hy)) (by simp; omega)]
      simp [e]
    | false =>
      rw [ifB_f, compT_ok r acc (fun y hy => h y (List.Mem.tail _ hy)) (fun y hy => k y (List.Mem.tail _ hy)) (by omega)]
      simp [e]
end Bt
namespace Bt
theorem bndO_ok {α β : Type} {y : α} {f : α → Option β} : bndO (some (.ok y)) f = f y := rfl
theorem bndR_ok {α β : Type} {y : α} {f : α → Option (Rs β)} : bndR (some (.ok y)) f = f y := rfl
theorem bndR_er {α β : Type} {e : Er} {f : α → Option (Rs β)} : bndR (some (.er e)) f = some (.er e) := rfl
theorem tryR_ok {α β : Type} {y : α} {f : α → β} {g : Er → β} : tryR (.ok y) f g = f y := rfl
theorem tryR_er {α β : Type} {e : Er} {f : α → β} {g : Er → β} : tryR (.er e) f g = g e := rfl
end Bt

set_option Elab.async false
set_option linter.all false
set_option maxRecDepth 100000
set_option maxHeartbeats 4000000
namespace Bt
open PySem L2
def top (i : Nat) : Stmt := PySem.Challenge.pw_bitrail_k12_unseen.main.body.getD i (.Pass ⟨0, 0, 0, 0⟩)
abbrev s_number_of : Stmt := top 4
abbrev s_divided : Stmt := top 6
abbrev s_rest_of : Stmt := top 10
abbrev s_rests_of : Stmt := top 11
abbrev s_is_unseen : Stmt := top 12
abbrev s__law_draw : Stmt := top 14
abbrev s__law_turned : Stmt := top 15
abbrev s__law_shifted : Stmt := top 16
abbrev s__law_places : Stmt := top 17
abbrev s__law_rest : Stmt := top 18
abbrev s_law : Stmt := top 19
structure Ad where
  f_number_of : Addr
  fd_number_of : FuncData
  f_divided : Addr
  fd_divided : FuncData
  f_rest_of : Addr
  fd_rest_of : FuncData
  f_rests_of : Addr
  fd_rests_of : FuncData
  f_is_unseen : Addr
  fd_is_unseen : FuncData
  f__law_draw : Addr
  fd__law_draw : FuncData
  f__law_turned : Addr
  fd__law_turned : FuncData
  f__law_shifted : Addr
  fd__law_shifted : FuncData
  f__law_places : Addr
  fd__law_places : FuncData
  f__law_rest : Addr
  fd__law_rest : FuncData
  f_law : Addr
  fd_law : FuncData
  es : Eds
structure Txt (K : PySem.W.Frag) (mg : Str → Option Value) (ad : Ad) : Prop where
  F_number_of : Fun K "number_of" "number_of" s_number_of ad.f_number_of ad.fd_number_of
  g_number_of : mg "number_of" = some (.ref ad.f_number_of)
  b_number_of : Binds K ad.fd_number_of ["bits"] []
  F_divided : Fun K "divided" "divided" s_divided ad.f_divided ad.fd_divided
  g_divided : mg "divided" = some (.ref ad.f_divided)
  b_divided : Binds K ad.fd_divided ["number", "key"] []
  F_rest_of : Fun K "rest_of" "rest_of" s_rest_of ad.f_rest_of ad.fd_rest_of
  g_rest_of : mg "rest_of" = some (.ref ad.f_rest_of)
  b_rest_of : Binds K ad.fd_rest_of ["bits"] []
  F_rests_of : Fun K "rests_of" "rests_of" s_rests_of ad.f_rests_of ad.fd_rests_of
  g_rests_of : mg "rests_of" = some (.ref ad.f_rests_of)
  b_rests_of : Binds K ad.fd_rests_of ["many"] []
  F_is_unseen : Fun K "is_unseen" "is_unseen" s_is_unseen ad.f_is_unseen ad.fd_is_unseen
  g_is_unseen : mg "is_unseen" = some (.ref ad.f_is_unseen)
  b_is_unseen : Binds K ad.fd_is_unseen ["places"] []
  F__law_draw : Fun K "_law_draw" "_law_draw" s__law_draw ad.f__law_draw ad.fd__law_draw
  g__law_draw : mg "_law_draw" = some (.ref ad.f__law_draw)
  b__law_draw : Binds K ad.fd__law_draw ["script", "k", "many"] []
  F__law_turned : Fun K "_law_turned" "_law_turned" s__law_turned ad.f__law_turned ad.fd__law_turned
  g__law_turned : mg "_law_turned" = some (.ref ad.f__law_turned)
  b__law_turned : Binds K ad.fd__law_turned ["places", "place"] []
  F__law_shifted : Fun K "_law_shifted" "_law_shifted" s__law_shifted ad.f__law_shifted ad.fd__law_shifted
  g__law_shifted : mg "_law_shifted" = some (.ref ad.f__law_shifted)
  b__law_shifted : Binds K ad.fd__law_shifted ["places", "shift"] []
  F__law_places : Fun K "_law_places" "_law_places" s__law_places ad.f__law_places ad.fd__law_places
  g__law_places : mg "_law_places" = some (.ref ad.f__law_places)
  b__law_places : Binds K ad.fd__law_places ["script"] []
  F__law_rest : Fun K "_law_rest" "_law_rest" s__law_rest ad.f__law_rest ad.fd__law_rest
  g__law_rest : mg "_law_rest" = some (.ref ad.f__law_rest)
  b__law_rest : Binds K ad.fd__law_rest ["places"] []
  F_law : Fun K "law" "law" s_law ad.f_law ad.fd_law
  g_law : mg "law" = some (.ref ad.f_law)
  b_law : Binds K ad.fd_law ["script"] []
  z_bool : mg "bool" = none
  z_isinstance : mg "isinstance" = none
  z_len : mg "len" = none
  z_list : mg "list" = none
  z_max : mg "max" = none
  z_range : mg "range" = none
  g_KEY : Gv mg "KEY" (.int 64647)
  g_WIDE : Gv mg "WIDE" (.int 15)
  e_NoKey : ErrC K mg "NoKey" ad.es.NoKey
section
variable {P : Program} {w : World} {K : PySem.W.Frag} {mg : Str → Option Value} {base : Heap}
def m_number_of_L0  (bit_9 : Int) (number_3 : Int) : Option (Int) :=
  bnd (shlG number_3 (1 : Int)) fun t_11 =>
  some (Builtin.bitOr t_11 bit_9)
def m_number_of (bits_1 : List Int) : Option Int :=
  bnd (loopM (fun bit_9 s => m_number_of_L0 bit_9 s) bits_1 (0 : Int)) fun number_5 =>
  some number_5
def sp_number_of (K : PySem.W.Frag) : Sp := fun vs H Q _ => ∃ (bits_1 : List Int) (a_2 : Addr) (r : Int), vs = [.ref a_2] ∧ H a_2 = some (.lst (List.map V.int bits_1)) ∧ m_number_of bits_1 = some r ∧ RetV (.int r) H Q
abbrev N_number_of : List Str := ["bits", "number", "bit"]
theorem sc_number_of : FnScope N_number_of ["bits"] (defScope s_number_of) := ⟨rfl, rfl, rfl, by decide +kernel, rfl, by decide +kernel, by decide +kernel⟩
theorem ok_number_of {ad : Ad} (T : Txt K mg ad) : FnOk P w K mg base CX0 1 ad.f_number_of ad.fd_number_of ["bits"] (sp_number_of K) := by
  refine T.F_number_of.ok sc_number_of (fun vs H Q E h => ?_) (fun cdv A outer s H vs Q E hr h => ?_)
  · obtain ⟨_, _, _, rfl, _⟩ := h
    rfl
  · obtain ⟨bits_1, a_2, r, rfl, hp_a_2, hm, k⟩ := h
    unfold m_number_of at hm
    obtain ⟨H0, hH0⟩ : ∃ H0 : Hp, H0 = H := ⟨H, rfl⟩
    have O : Own H0 H [] := by rw [hH0]; exact Own.start H
    rw [← hH0] at k hp_a_2
    clear hH0
    refine ⟨_, (pss_cons (ps_set (i := 1) sc_number_of.nd rfl (Or.inl rfl) pe_int) (pss_cons (ps_for PassesOwn.never rfl (pi_list (pv 0)) (pg_name (i := 2) sc_number_of.nd rfl (Or.inl rfl)) (pss_one (ps_set (i := 1) sc_number_of.nd rfl (Or.inl rfl) (pe_op op_or (pe_op op_shlW (pv 1) pe_int) (pv 2))))) (pss_one (ps_ret (pv 1))))), ?_⟩
    -- 8
    refine o_seq ?_
    refine o_asg ?_
    refine o_c ?_
    -- 9
    refine o_seq ?_
    refine o_for ?_
    refine ⟨_, rfl, ?_⟩
    obtain ⟨number_5, h6, hm⟩ := bndE hm
    refine ⟨_, rfl, ⟨_, (SqL.of (O.ex _ _ hp_a_2))⟩, q_forL (f := V.int) (xs := bits_1) (fun r σ H => ∃ (number_3 : Int) (j_4 : Option V), σ = [some (.ref a_2), some (.int number_3), j_4] ∧ Own H0 H [] ∧ loopM (fun bit_9 s => m_number_of_L0 bit_9 s) r number_3 = some number_5) ⟨_, _, rfl, O, h6⟩ (by rintro r σ H ⟨number_3, j_4, rfl, O, hL⟩; exact (SqL.of (O.ex _ _ hp_a_2))) ?_ ?_⟩
    · rintro bit_9 r σ H ⟨number_3, j_4, rfl, O, hL⟩
      obtain ⟨s_, hm, h8⟩ := loopM_cons hL
      replace hm : m_number_of_L0 bit_9 number_3 = some s_ := hm
      unfold m_number_of_L0 at hm
      -- 10
      refine o_asg ?_
      obtain ⟨t_11, h12, hm⟩ := bndE hm
      refine ⟨_, rfl, ?_⟩
      refine o_c ?_
      refine k_shl h12 ?_
      refine ⟨_, rfl, _, _, rfl, rfl, ?_⟩
      have Oz := O
      obtain rfl := Option.some.inj hm
      exact ⟨_, _, rfl, Oz, h8⟩
    rintro σ H ⟨number_3, j_4, rfl, O, hL⟩
    cases loopM_nil hL
    -- 11
    refine o_ret ?_
    refine ⟨_, rfl, ?_⟩
    obtain rfl := Option.some.inj hm
    exact RetV.go k O
def m_divided_W0c (key_2 : Int) (size_4 : Int) (number_6 : Int) (whole_7 : Int) : Option Bool :=
  some (decide (size_4 ≤ (Builtin.Int.intBits number_6 : Int)))
def m_divided_W0 (key_2 : Int) (size_4 : Int) (number_6 : Int) (whole_7 : Int) : Option (Int × Int) :=
  ltv (((Builtin.Int.intBits number_6 : Int) - size_4)) fun at_12 =>
  bnd (shlG (1 : Int) at_12) fun t_14 =>
  ltv ((Builtin.bitXor whole_7 t_14)) fun whole_16 =>
  bnd (shlG key_2 at_12) fun t_18 =>
  some ((Builtin.bitXor number_6 t_18), whole_16)
def m_divided (number_1 : Int) (key_2 : Int) : Option (Rs (Int × Int)) :=
  ifB (decide (key_2 = (0 : Int))) (
    some (.er .NoKey)) (
    ltv ((Builtin.Int.intBits key_2 : Int)) fun size_4 =>
    bnd (whileM (fun s => m_divided_W0c key_2 size_4 s.1 s.2) (fun s => m_divided_W0 key_2 size_4 s.1 s.2) FUEL (number_1, (0 : Int))) fun (number_9, whole_10) =>
    some (.ok (whole_10, number_9)))
def sp_divided (K : PySem.W.Frag) (d : Eds) : Sp := fun vs H Q E => ∃ (number_1 : Int) (key_2 : Int) (r : Rs (Int × Int)), vs = [.int number_1, .int key_2] ∧ m_divided number_1 key_2 = some r ∧ RetR (fun r => RetT [V.int r.1, V.int r.2] H Q) d r H E
abbrev N_divided : List Str := ["number", "key", "whole", "size", "at"]
theorem sc_divided : FnScope N_divided ["number", "key"] (defScope s_divided) := ⟨rfl, rfl, rfl, by decide +kernel, rfl, by decide +kernel, by decide +kernel⟩
theorem ok_divided {ad : Ad} (T : Txt K mg ad) : FnOk P w K mg base (L2N.CX P w) 1 ad.f_divided ad.fd_divided ["number", "key"] (sp_divided K ad.es) := by
  refine okN T.F_divided sc_divided (fun vs H Q E h => ?_) (fun cdv A outer s H vs Q E hr h => ?_)
  · obtain ⟨_, _, _, rfl, _⟩ := h
    rfl
  · obtain ⟨number_1, key_2, r, rfl, hm, k⟩ := h
    unfold m_divided at hm
    obtain ⟨H0, hH0⟩ : ∃ H0 : Hp, H0 = H := ⟨H, rfl⟩
    have O : Own H0 H [] := by rw [hH0]; exact Own.start H
    rw [← hH0] at k
    clear hH0
    refine ⟨_, (pss_cons (ps_if (pt_cmpR op_eq (pv 1) pe_int (nomark _)) (pss_one (ps_errN T.e_NoKey (L2N.takes_of rfl rfl rfl rfl) rfl rfl)) pss_nil) (pss_cons (ps_set (i := 2) sc_divided.nd rfl (Or.inl rfl) pe_int) (pss_cons (ps_set (i := 3) sc_divided.nd rfl (Or.inl rfl) (pe_bits (pv 1))) (pss_cons (ps_while (passes_of rfl) (pt_cmpR op_ge (pe_bits (pv 0)) (pv 3) (nomark _)) (pss_cons (ps_set (i := 4) sc_divided.nd rfl (Or.inl rfl) (pe_op op_sub (pe_bits (pv 0)) (pv 3))) (pss_cons (ps_set (i := 2) sc_divided.nd rfl (Or.inl rfl) (pe_op op_xor (pv 2) (pe_op op_shlW pe_int (pv 4)))) (pss_one (ps_set (i := 0) sc_divided.nd rfl (Or.inl rfl) (pe_op op_xor (pv 0) (pe_op op_shlW (pv 1) (pv 4)))))))) (pss_one (ps_ret (pe_tupQ (pe_tup (pa_cons (pv 2) (pa_cons (pv 0) pa_nil)))))))))), ?_⟩
    -- 14
    refine o_seq ?_
    refine o_ifs ?_
    refine ⟨_, rfl, ?_⟩
    refine o_c ?_
    refine k_eqI ?_
    refine ⟨_, rfl, ?_⟩
    refine iteS (c := (decide (key_2 = (0 : Int)))) (fun h3 => ?_) (fun h3 => ?_)
    · replace hm := ifT hm h3
      -- 15
      obtain rfl := Option.some.inj hm
      exact k _ O.ex
    · replace hm := ifF hm h3
      refine o_next ?_
      -- 16
      refine o_seq ?_
      refine o_asg ?_
      refine o_c ?_
      -- 17
      refine o_seq ?_
      refine o_asg ?_
      refine ⟨_, rfl, _, rfl, ?_⟩
      obtain ⟨size_4, h5, hm⟩ := ltvE hm
      refine a_set (congrArg V.int h5) ?_
      -- 18
      refine o_seq ?_
      obtain ⟨⟨number_9, whole_10⟩, h11, hm⟩ := bndE hm
      refine o_while (fun m σ H => ∃ (number_6 : Int) (whole_7 : Int) (j_8 : Option V), σ = [some (.int number_6), some (.int key_2), some (.int whole_7), some (.int size_4), j_8] ∧ Own H0 H [] ∧ whileM (fun s => m_divided_W0c key_2 size_4 s.1 s.2) (fun s => m_divided_W0 key_2 size_4 s.1 s.2) m (number_6, whole_7) = some (number_9, whole_10)) FUEL ⟨_, _, _, rfl, O, h11⟩ ?_ ?_
      · rintro σ H ⟨number_6, whole_7, j_8, rfl, O, hL⟩
        exact whileM_zero hL
      rintro m σ H ⟨number_6, whole_7, j_8, rfl, O, hL⟩
      have h21 := hm
      obtain ⟨b_, hm, hL⟩ := whileM_succ hL
      replace hm : m_divided_W0c key_2 size_4 number_6 whole_7 = some b_ := hm
      unfold m_divided_W0c at hm
      refine ⟨_, rfl, _, rfl, _, rfl, _, _, rfl, rfl, _, rfl, ?_⟩
      obtain rfl := Option.some.inj hm
      refine iteS (c := decide (size_4 ≤ (Builtin.Int.intBits number_6 : Int))) (fun h20 => ?_) (fun h20 => ?_)
      · obtain ⟨s_, hm, hL⟩ := bndE (ifT hL h20)
        replace hm : m_divided_W0 key_2 size_4 number_6 whole_7 = some s_ := hm
        unfold m_divided_W0 at hm
        refine o_turn ?_
        -- 19
        refine o_seq ?_
        refine o_asg ?_
        refine ⟨_, rfl, _, rfl, _, rfl, _, _, rfl, rfl, ?_⟩
        obtain ⟨at_12, h13, hm⟩ := ltvE hm
        refine a_set (congrArg V.int h13) ?_
        -- 20
        refine o_seq ?_
        refine o_asg ?_
        obtain ⟨t_14, h15, hm⟩ := bndE hm
        refine ⟨_, rfl, _, rfl, ?_⟩
        refine k_shl h15 ?_
        refine ⟨_, _, rfl, rfl, ?_⟩
        obtain ⟨whole_16, h17, hm⟩ := ltvE hm
        refine a_set (congrArg V.int h17) ?_
        -- 21
        refine o_asg ?_
        obtain ⟨t_18, h19, hm⟩ := bndE hm
        refine ⟨_, rfl, _, rfl, _, rfl, ?_⟩
        refine k_shl h19 ?_
        refine ⟨_, _, rfl, rfl, ?_⟩
        have Oz := O
        obtain rfl := Option.some.inj hm
        exact ⟨_, _, _, rfl, Oz, hL⟩
      cases whileM_end hL h20
      replace hm := h21
      -- 22
      refine o_ret ?_
      refine ⟨_, rfl, _, rfl, ?_⟩
      refine x_nil ?_
      refine n_tup O (by show 2 ≤ sizeLine; decide) fun p_22 H O => ?_
      obtain rfl := Option.some.inj hm
      exact RetT.go k O (List.Mem.head _)
def m_rest_of (bits_1 : List Int) : Option Int :=
  bnd (m_number_of bits_1) fun number_3 =>
  bndO (m_divided number_3 (64647 : Int)) fun divide_5 =>
  some divide_5.2
def sp_rest_of (K : PySem.W.Frag) : Sp := fun vs H Q _ => ∃ (bits_1 : List Int) (a_2 : Addr) (r : Int), vs = [.ref a_2] ∧ H a_2 = some (.lst (List.map V.int bits_1)) ∧ m_rest_of bits_1 = some r ∧ RetV (.int r) H Q
abbrev N_rest_of : List Str := ["bits"]
theorem sc_rest_of : FnScope N_rest_of ["bits"] (defScope s_rest_of) := ⟨rfl, rfl, rfl, by decide +kernel, rfl, by decide +kernel, by decide +kernel⟩
theorem ok_rest_of {ad : Ad} (T : Txt K mg ad) : FnOk P w K mg base CX0 2 ad.f_rest_of ad.fd_rest_of ["bits"] (sp_rest_of K) := by
  have G_divided := ok_divided (P := P) (w := w) (base := base) T
  have G_number_of := ok_number_of (P := P) (w := w) (base := base) T
  refine T.F_rest_of.ok sc_rest_of (fun vs H Q E h => ?_) (fun cdv A outer s H vs Q E hr h => ?_)
  · obtain ⟨_, _, _, rfl, _⟩ := h
    rfl
  · obtain ⟨bits_1, a_2, r, rfl, hp_a_2, hm, k⟩ := h
    unfold m_rest_of at hm
    obtain ⟨H0, hH0⟩ : ∃ H0 : Hp, H0 = H := ⟨H, rfl⟩
    have O : Own H0 H [] := by rw [hH0]; exact Own.start H
    rw [← hH0] at k hp_a_2
    clear hH0
    refine ⟨_, (pss_one (ps_ret (pe_ix (r := rIxT K) ix_tup (pe_call G_divided (hr.mono (by decide)) (by rfl) T.g_divided T.F_divided.kp T.b_divided .nil passN (pa_cons (pe_call G_number_of (hr.mono (by decide)) (by rfl) T.g_number_of T.F_number_of.kp T.b_number_of .nil pass0 (pa_cons (pv 0) pa_nil)) (pa_cons (pe_gv rfl T.g_KEY) pa_nil))) pe_int (fun _ _ => rfl)))), ?_⟩
    -- 27
    refine o_ret ?_
    obtain ⟨number_3, h4, hm⟩ := bndE hm
    refine ⟨_, rfl, ?_⟩
    refine x_nil ?_
    refine ⟨_, _, number_3, rfl, (O.ex _ _ hp_a_2), h4, ?_⟩
    refine O.retV fun H O => ?_
    obtain ⟨divide_5, h6, hm⟩ := bndOE hm
    refine o_cons ?_
    refine o_c ?_
    refine x_nil ?_
    refine ⟨_, _, .ok divide_5, rfl, h6, ?_⟩
    refine RetR.ok ?_
    refine O.retT fun p_7 H O => ?_
    refine o_c ?_
    refine k_ixT (SqT.of (O.mem (List.Mem.head _))) rfl ?_
    obtain rfl := Option.some.inj hm
    exact RetV.go k O
def m_rests_of_W0c (many_1 : Int) (rests_3 : List Int) (rest_4 : Int) : Option Bool :=
  some (decide ((List.length rests_3 : Int) < many_1))
def m_rests_of_W0 (many_1 : Int) (rests_3 : List Int) (rest_4 : Int) : Option ((List Int) × Int) :=
  bnd (appG rests_3 rest_4) fun l_8 =>
  bnd (shlG rest_4 (1 : Int)) fun t_10 =>
  bnd (shrG t_10 (15 : Int)) fun t_12 =>
  ifB (decide (t_12 = (1 : Int))) (
    some (l_8, (Builtin.bitXor t_10 (64647 : Int)))) (
    some (l_8, t_10))
def m_rests_of (many_1 : Int) : Option (List Int) :=
  bnd (whileM (fun s => m_rests_of_W0c many_1 s.1 s.2) (fun s => m_rests_of_W0 many_1 s.1 s.2) FUEL (([] : List Int), (1 : Int))) fun (rests_5, rest_6) =>
  some rests_5
def sp_rests_of (K : PySem.W.Frag) : Sp := fun vs H Q _ => ∃ (many_1 : Int) (r : List Int), vs = [.int many_1] ∧ m_rests_of many_1 = some r ∧ RetL (List.map V.int r) H Q
abbrev N_rests_of : List Str := ["many", "rests", "rest"]
theorem sc_rests_of : FnScope N_rests_of ["many"] (defScope s_rests_of) := ⟨rfl, rfl, rfl, by decide +kernel, rfl, by decide +kernel, by decide +kernel⟩
theorem ok_rests_of {ad : Ad} (T : Txt K mg ad) : FnOk P w K mg base CX0 1 ad.f_rests_of ad.fd_rests_of ["many"] (sp_rests_of K) := by
  refine T.F_rests_of.ok sc_rests_of (fun vs H Q E h => ?_) (fun cdv A outer s H vs Q E hr h => ?_)
  · obtain ⟨_, _, rfl, _⟩ := h
    rfl
  · obtain ⟨many_1, r, rfl, hm, k⟩ := h
    unfold m_rests_of at hm
    obtain ⟨H0, hH0⟩ : ∃ H0 : Hp, H0 = H := ⟨H, rfl⟩
    have O : Own H0 H [] := by rw [hH0]; exact Own.start H
    rw [← hH0] at k
    clear hH0
    refine ⟨_, (pss_cons (ps_set (i := 1) sc_rests_of.nd rfl (Or.inl rfl) (pe_lstQ (pe_lst pa_nil))) (pss_cons (ps_set (i := 2) sc_rests_of.nd rfl (Or.inl rfl) pe_int) (pss_cons (ps_while PassesOwn.never (pt_cmpR op_lt (pe_callB (r := rLenQ K) call_lenQ (by rfl) T.z_len PySem.boot_len (pa_cons (pv 1) pa_nil)) (pv 0) (nomark _)) (pss_cons (ps_expr (pe_bm PySem.F.plainAttrs_list PySem.F.slot_list_append PySem.F.type_list_append mt_append (pv 1) (pa_cons (pv 2) pa_nil))) (pss_cons (ps_set (i := 2) sc_rests_of.nd rfl (Or.inl rfl) (pe_op op_shlW (pv 2) pe_int)) (pss_one (ps_if (pt_cmpR op_eq (pe_op op_shr (pv 2) (pe_gv rfl T.g_WIDE)) pe_int (nomark _)) (pss_one (ps_set (i := 2) sc_rests_of.nd rfl (Or.inl rfl) (pe_op op_xor (pv 2) (pe_gv rfl T.g_KEY)))) pss_nil))))) (pss_one (ps_ret (pv 1)))))), ?_⟩
    -- 29
    refine o_seq ?_
    refine o_asg ?_
    refine x_nil ?_
    refine n_lst (f := V.int) (xs := ([] : List Int)) O rfl (Nat.zero_le _) fun p_2 H O => ?_
    -- 30
    refine o_seq ?_
    refine o_asg ?_
    refine o_c ?_
    -- 31
    refine o_seq ?_
    obtain ⟨⟨rests_5, rest_6⟩, h7, hm⟩ := bndE hm
    refine o_while (fun m σ H => ∃ (rests_3 : List Int) (rest_4 : Int), σ = [some (.int many_1), some (.ref p_2), some (.int rest_4)] ∧ Own H0 H [(p_2, .lst (List.map V.int rests_3))] ∧ whileM (fun s => m_rests_of_W0c many_1 s.1 s.2) (fun s => m_rests_of_W0 many_1 s.1 s.2) m (rests_3, rest_4) = some (rests_5, rest_6)) FUEL ⟨_, _, rfl, O, h7⟩ ?_ ?_
    · rintro σ H ⟨rests_3, rest_4, rfl, O, hL⟩
      exact whileM_zero hL
    rintro m σ H ⟨rests_3, rest_4, rfl, O, hL⟩
    have h16 := hm
    obtain ⟨b_, hm, hL⟩ := whileM_succ hL
    replace hm : m_rests_of_W0c many_1 rests_3 rest_4 = some b_ := hm
    unfold m_rests_of_W0c at hm
    refine ⟨_, rfl, ?_⟩
    refine x_nil ?_
    refine n_len (SqL.of (O.mem (List.Mem.head _))) ?_
    refine ⟨_, rfl, _, _, rfl, rfl, _, rfl, ?_⟩
    obtain rfl := Option.some.inj hm
    refine iteS (c := decide ((List.length rests_3 : Int) < many_1)) (fun h15 => ?_) (fun h15 => ?_)
    · obtain ⟨s_, hm, hL⟩ := bndE (ifT hL h15)
      replace hm : m_rests_of_W0 many_1 rests_3 rest_4 = some s_ := hm
      unfold m_rests_of_W0 at hm
      refine o_turn ?_
      -- 32
      refine o_seq ?_
      refine o_drop ?_
      obtain ⟨l_8, h9, hm⟩ := bndE hm
      refine ⟨_, rfl, .inl ⟨rfl, _, (SqL.of (O.mem (List.Mem.head _)))⟩, _, rfl, ?_⟩
      refine x_nil ?_
      refine k_app (f := V.int) (O.mem (List.Mem.head _)) (fun _ => O.put0) h9 fun H O => ?_
      -- 33
      refine o_seq ?_
      refine o_asg ?_
      obtain ⟨t_10, h11, hm⟩ := bndE hm
      refine ⟨_, rfl, ?_⟩
      refine o_c ?_
      refine k_shl h11 ?_
      -- 34
      refine o_ifs ?_
      obtain ⟨t_12, h13, hm⟩ := bndE hm
      refine ⟨_, rfl, ?_⟩
      refine o_c ?_
      refine k_shr h13 ?_
      refine o_c ?_
      refine k_eqI ?_
      refine ⟨_, rfl, ?_⟩
      refine iteS (c := (decide (t_12 = (1 : Int)))) (fun h14 => ?_) (fun h14 => ?_)
      · replace hm := ifT hm h14
        -- 35
        refine o_asg ?_
        refine ⟨_, rfl, _, _, rfl, rfl, ?_⟩
        have Oz := O
        obtain rfl := Option.some.inj hm
        exact ⟨_, _, rfl, Oz, hL⟩
      · replace hm := ifF hm h14
        refine o_next ?_
        have Oz := O
        obtain rfl := Option.some.inj hm
        exact ⟨_, _, rfl, Oz, hL⟩
    cases whileM_end hL h15
    replace hm := h16
    -- 36
    refine o_ret ?_
    refine ⟨_, rfl, ?_⟩
    obtain rfl := Option.some.inj hm
    exact RetL.go k O (List.Mem.head _)
def m_is_unseen_L0 (rests_3 : List Int) (at_12 : Int) (total_6 : Int) : Option (Int) :=
  bnd (atI rests_3 at_12) fun e_14 =>
  some (Builtin.bitXor total_6 e_14)
def m_is_unseen (places_1 : List Int) : Option Bool :=
  bnd (m_rests_of ((maxL (-(1 : Int)) places_1) + (1 : Int))) fun rests_3 =>
  bnd (loopM (fun at_12 s => m_is_unseen_L0 rests_3 at_12 s) places_1 (0 : Int)) fun total_8 =>
  some (decide (total_8 = (0 : Int)))
def sp_is_unseen (K : PySem.W.Frag) : Sp := fun vs H Q _ => ∃ (places_1 : List Int) (a_2 : Addr) (r : Bool), vs = [.ref a_2] ∧ H a_2 = some (.lst (List.map V.int places_1)) ∧ m_is_unseen places_1 = some r ∧ RetV (.bl r) H Q
abbrev N_is_unseen : List Str := ["places", "rests", "total", "at"]
theorem sc_is_unseen : FnScope N_is_unseen ["places"] (defScope s_is_unseen) := ⟨rfl, rfl, rfl, by decide +kernel, rfl, by decide +kernel, by decide +kernel⟩
theorem ok_is_unseen {ad : Ad} (T : Txt K mg ad) : FnOk P w K mg base CX0 2 ad.f_is_unseen ad.fd_is_unseen ["places"] (sp_is_unseen K) := by
  have G_rests_of := ok_rests_of (P := P) (w := w) (base := base) T
  refine T.F_is_unseen.ok sc_is_unseen (fun vs H Q E h => ?_) (fun cdv A outer s H vs Q E hr h => ?_)
  · obtain ⟨_, _, _, rfl, _⟩ := h
    rfl
  · obtain ⟨places_1, a_2, r, rfl, hp_a_2, hm, k⟩ := h
    unfold m_is_unseen at hm
    obtain ⟨H0, hH0⟩ : ∃ H0 : Hp, H0 = H := ⟨H, rfl⟩
    have O : Own H0 H [] := by rw [hH0]; exact Own.start H
    rw [← hH0] at k hp_a_2
    clear hH0
    refine ⟨_, (pss_cons (ps_set (i := 1) sc_is_unseen.nd rfl (Or.inl rfl) (pe_call G_rests_of (hr.mono (by decide)) (by rfl) T.g_rests_of T.F_rests_of.kp T.b_rests_of .nil pass0 (pa_cons (pe_op op_add (pe_callBK (r := rMaxD K) (cr_maxD rfl hr.units) (by rfl) T.z_max (by decide +kernel) (pa_cons (pv 0) pa_nil) (pk_cons (pe_un un_neg pe_int) pk_nil)) pe_int) pa_nil))) (pss_cons (ps_set (i := 2) sc_is_unseen.nd rfl (Or.inl rfl) pe_int) (pss_cons (ps_for PassesOwn.never rfl (pi_list (pv 0)) (pg_name (i := 3) sc_is_unseen.nd rfl (Or.inl rfl)) (pss_one (ps_set (i := 2) sc_is_unseen.nd rfl (Or.inl rfl) (pe_op op_xor (pv 2) (pe_ix (r := rIxL K) ix_list (pv 1) (pv 3) (fun _ _ => rfl)))))) (pss_one (ps_ret (pe_cmpR op_eq (pv 2) pe_int (nomark _))))))), ?_⟩
    -- 38
    refine o_seq ?_
    refine o_asg ?_
    refine ⟨_, rfl, _, rfl, ?_⟩
    refine x_nil ?_
    refine k_maxD (SqL.of (O.ex _ _ hp_a_2)) ?_
    obtain ⟨rests_3, h4, hm⟩ := bndE hm
    refine ⟨_, _, rfl, rfl, ?_⟩
    refine x_nil ?_
    refine ⟨_, rests_3, rfl, h4, ?_⟩
    refine O.retL fun p_5 H O => ?_
    -- 39
    refine o_seq ?_
    refine o_asg ?_
    refine o_c ?_
    -- 40
    refine o_seq ?_
    refine o_for ?_
    refine ⟨_, rfl, ?_⟩
    obtain ⟨total_8, h9, hm⟩ := bndE hm
    refine ⟨_, rfl, ⟨_, (SqL.of (O.ex _ _ hp_a_2))⟩, q_forL (f := V.int) (xs := places_1) (fun r σ H => ∃ (total_6 : Int) (j_7 : Option V), σ = [some (.ref a_2), some (.ref p_5), some (.int total_6), j_7] ∧ Own H0 H [(p_5, .lst (List.map V.int rests_3))] ∧ loopM (fun at_12 s => m_is_unseen_L0 rests_3 at_12 s) r total_6 = some total_8) ⟨_, _, rfl, O, h9⟩ (by rintro r σ H ⟨total_6, j_7, rfl, O, hL⟩; exact (SqL.of (O.ex _ _ hp_a_2))) ?_ ?_⟩
    · rintro at_12 r σ H ⟨total_6, j_7, rfl, O, hL⟩
      obtain ⟨s_, hm, h11⟩ := loopM_cons hL
      replace hm : m_is_unseen_L0 rests_3 at_12 total_6 = some s_ := hm
      unfold m_is_unseen_L0 at hm
      -- 41
      refine o_asg ?_
      obtain ⟨e_14, h15, hm⟩ := bndE hm
      refine ⟨_, rfl, _, rfl, _, rfl, ?_⟩
      refine k_ixL (f := V.int) (SqL.of (O.mem (List.Mem.head _))) h15 ?_
      refine ⟨_, _, rfl, rfl, ?_⟩
      have Oz := O
      obtain rfl := Option.some.inj hm
      exact ⟨_, _, rfl, Oz, h11⟩
    rintro σ H ⟨total_6, j_7, rfl, O, hL⟩
    cases loopM_nil hL
    -- 42
    refine o_ret ?_
    refine ⟨_, rfl, ?_⟩
    refine o_c ?_
    refine k_eqI ?_
    obtain rfl := Option.some.inj hm
    exact RetV.go k O
def m__law_draw (script_1 : List Int) (k_3 : Int) (many_4 : Int) : Option Int :=
  bnd (ifB (decide ((0 : Int) < (List.length script_1 : Int))) (bnd (modG k_3 (List.length script_1 : Int)) fun t_5 =>
  bnd (atI script_1 t_5) fun e_7 => some e_7) ( some (0 : Int))) fun z_10 =>
  bnd (mulG ((31 : Int) * k_3) k_3) fun t_12 =>
  ltv ((((z_10 % (1000003 : Int)) + t_12) + (1 : Int))) fun seed_14 =>
  bnd (modG ((((seed_14 * (48271 : Int)) % (999983 : Int)) * (7919 : Int)) % (524287 : Int)) many_4) fun t_16 =>
  some t_16
def sp__law_draw (K : PySem.W.Frag) : Sp := fun vs H Q _ => ∃ (script_1 : List Int) (a_2 : Addr) (k_3 : Int) (many_4 : Int) (r : Int), vs = [.ref a_2, .int k_3, .int many_4] ∧ SqL K H a_2 (List.map V.int script_1) ∧ m__law_draw script_1 k_3 many_4 = some r ∧ RetV (.int r) H Q
abbrev N__law_draw : List Str := ["script", "k", "many", "cell", "seed"]
theorem sc__law_draw : FnScope N__law_draw ["script", "k", "many"] (defScope s__law_draw) := ⟨rfl, rfl, rfl, by decide +kernel, rfl, by decide +kernel, by decide +kernel⟩
theorem ok__law_draw {ad : Ad} (T : Txt K mg ad) : FnOk P w K mg base CX0 1 ad.f__law_draw ad.fd__law_draw ["script", "k", "many"] (sp__law_draw K) := by
  refine T.F__law_draw.ok sc__law_draw (fun vs H Q E h => ?_) (fun cdv A outer s H vs Q E hr h => ?_)
  · obtain ⟨_, _, _, _, _, rfl, _⟩ := h
    rfl
  · obtain ⟨script_1, a_2, k_3, many_4, r, rfl, hp_a_2, hm, k⟩ := h
    unfold m__law_draw at hm
    obtain ⟨H0, hH0⟩ : ∃ H0 : Hp, H0 = H := ⟨H, rfl⟩
    have O : Own H0 H [] := by rw [hH0]; exact Own.start H
    rw [← hH0] at k hp_a_2
    clear hH0
    refine ⟨_, (pss_cons (ps_set (i := 3) sc__law_draw.nd rfl (Or.inl rfl) (pe_ifExp (pt_cmpR op_gt (pe_callB (r := rLenQ K) call_lenQ (by rfl) T.z_len PySem.boot_len (pa_cons (pv 0) pa_nil)) pe_int (nomark _)) (pe_ix (r := rIxL K) ix_list (pv 0) (pe_op op_mod (pv 1) (pe_callB (r := rLenQ K) call_lenQ (by rfl) T.z_len PySem.boot_len (pa_cons (pv 0) pa_nil))) (fun _ _ => rfl)) pe_int)) (pss_cons (ps_set (i := 4) sc__law_draw.nd rfl (Or.inl rfl) (pe_op op_add (pe_op op_add (pe_op op_mod (pv 3) pe_int) (pe_op op_mulW (pe_op op_mul pe_int (pv 1)) (pv 1))) pe_int)) (pss_one (ps_ret (pe_op op_mod (pe_op op_mod (pe_op op_mul (pe_op op_mod (pe_op op_mul (pv 4) pe_int) pe_int) pe_int) pe_int) (pv 2)))))), ?_⟩
    -- 45
    refine o_seq ?_
    refine o_asg ?_
    obtain ⟨z_10, h11, hm⟩ := bndE hm
    refine x_if (c := decide ((0 : Int) < (List.length script_1 : Int))) (x := .int z_10) (y := .int z_10) (v := .int z_10) O (fun Q1 k1 => ?_) (fun h9 => ⟨rfl, fun H O Q2 k2 => ?_⟩) (fun h9 => ⟨rfl, fun H O Q2 k2 => ?_⟩) (fun H O => ?_)
    · refine ⟨_, rfl, ?_⟩
      refine x_nil ?_
      refine n_len (O.ex.l hp_a_2) ?_
      refine ⟨_, _, rfl, rfl, _, rfl, ?_⟩
      exact k1 _ O
    · replace hm := ifT h11 h9
      obtain ⟨t_5, h6, hm⟩ := bndE hm
      obtain ⟨e_7, h8, hm⟩ := bndE hm
      obtain rfl := Option.some.inj hm
      refine ⟨_, rfl, _, rfl, _, rfl, ?_⟩
      refine x_nil ?_
      refine n_len (O.ex.l hp_a_2) ?_
      refine k_mod h6 ?_
      refine k_ixL (f := V.int) (O.ex.l hp_a_2) h8 ?_
      exact k2 _ O
    · replace hm := ifF h11 h9
      obtain rfl := Option.some.inj hm
      refine o_c ?_
      exact k2 _ O
    -- 46
    refine o_seq ?_
    refine o_asg ?_
    obtain ⟨t_12, h13, hm⟩ := bndE hm
    refine ⟨_, rfl, _, _, rfl, rfl, (by show (0 : Int) < 1000003; decide), _, rfl, _, _, rfl, rfl, .inl ⟨by decide, by decide⟩, _, rfl, ?_⟩
    refine k_mul h13 ?_
    refine ⟨_, _, rfl, rfl, _, _, rfl, rfl, ?_⟩
    obtain ⟨seed_14, h15, hm⟩ := ltvE hm
    refine a_set (congrArg V.int h15) ?_
    -- 47
    refine o_ret ?_
    obtain ⟨t_16, h17, hm⟩ := bndE hm
    refine ⟨_, rfl, _, _, rfl, rfl, .inr ⟨by decide, by decide⟩, _, _, rfl, rfl, (by show (0 : Int) < 999983; decide), _, _, rfl, rfl, .inr ⟨by decide, by decide⟩, _, _, rfl, rfl, (by show (0 : Int) < 524287; decide), _, rfl, ?_⟩
    refine k_mod h17 ?_
    obtain rfl := Option.some.inj hm
    exact RetV.go k O
def m__law_turned_C0  (other_5 : Int) : Option Int :=
  
  some other_5
def m__law_turned_C0t (place_3 : Int) (other_5 : Int) : Option Bool :=
  some (!decide (other_5 = place_3))
def m__law_turned (places_1 : List Int) (place_3 : Int) : Option (List Int) :=
  ifB (decide (place_3 ∈ places_1)) (
    bnd (compT (m__law_turned_C0t place_3) (m__law_turned_C0) places_1 []) fun l_7 =>
    some l_7) (
    bnd (catG places_1 ([place_3])) fun t_12 =>
    some t_12)
def sp__law_turned (K : PySem.W.Frag) : Sp := fun vs H Q _ => ∃ (places_1 : List Int) (a_2 : Addr) (place_3 : Int) (r : List Int), vs = [.ref a_2, .int place_3] ∧ H a_2 = some (.lst (List.map V.int places_1)) ∧ m__law_turned places_1 place_3 = some r ∧ RetL (List.map V.int r) H Q
abbrev N__law_turned : List Str := ["places", "place", "other"]
theorem sc__law_turned : FnScope N__law_turned ["places", "place"] (defScope s__law_turned) := ⟨rfl, rfl, rfl, by decide +kernel, rfl, by decide +kernel, by decide +kernel⟩
theorem ok__law_turned {ad : Ad} (T : Txt K mg ad) : FnOk P w K mg base CX0 1 ad.f__law_turned ad.fd__law_turned ["places", "place"] (sp__law_turned K) := by
  refine T.F__law_turned.ok sc__law_turned (fun vs H Q E h => ?_) (fun cdv A outer s H vs Q E hr h => ?_)
  · obtain ⟨_, _, _, _, rfl, _⟩ := h
    rfl
  · obtain ⟨places_1, a_2, place_3, r, rfl, hp_a_2, hm, k⟩ := h
    unfold m__law_turned at hm
    obtain ⟨H0, hH0⟩ : ∃ H0 : Hp, H0 = H := ⟨H, rfl⟩
    have O : Own H0 H [] := by rw [hH0]; exact Own.start H
    rw [← hH0] at k hp_a_2
    clear hH0
    refine ⟨_, (pss_cons (ps_if (pt_cmpR (r := rIn K false) op_in_seq (pv 1) (pv 0) (by rfl)) (pss_one (ps_ret (pe_lc (own := [("other", 2)]) (g := gName 2) rfl sc__law_turned.nd (pi_list (pv 0)) (blkOk_by (own := [("other", 2)]) (N := N__law_turned) (sc := defScope s__law_turned) (by decide +kernel)) (fun _ _ _ _ _ => pg_name (i := 2) sc__law_turned.nd rfl (Or.inl rfl)) (fun _ _ _ _ _ => pts_one (pt_cmpR op_ne (pv 2) (pv 1) (nomark _))) (fun _ _ _ _ _ => (pv 2))))) pss_nil) (pss_one (ps_ret (pe_op op_cat (pv 0) (pe_lstQ (pe_lst (pa_cons (pv 1) pa_nil))))))), ?_⟩
    -- 49
    refine o_seq ?_
    refine o_ifs ?_
    refine ⟨_, rfl, _, rfl, ?_⟩
    refine k_inL (SqL.of (O.ex _ _ hp_a_2)) ?_
    refine ⟨_, rfl, ?_⟩
    refine iteS (c := (decide (place_3 ∈ places_1))) (fun h4 => ?_) (fun h4 => ?_)
    · replace hm := ifT hm h4
      -- 50
      refine o_ret ?_
      refine ⟨_, rfl, ?_⟩
      obtain ⟨l_7, h8, hm⟩ := bndE hm
      refine ⟨_, rfl, ⟨_, (SqL.of (O.ex _ _ hp_a_2))⟩, fun p_9 hD => k_lcLt (f := V.int) (xs := places_1) (fun r H => ∃ acc : List Int, Own H0 H ((p_9, .lst (List.map V.int acc)) :: []) ∧ compT (m__law_turned_C0t place_3) (m__law_turned_C0) r acc = some l_7) ⟨[], O.new hD, h8⟩ (by rintro r H ⟨acc, O, hC⟩; exact (SqL.of (O.ex _ _ hp_a_2))) ?_ ?_⟩
      · rintro other_5 r H ⟨acc, O, hC⟩
        obtain ⟨b_, hm, hC⟩ := compT_cons hC
        refine ⟨rfl, ?_⟩
        unfold m__law_turned_C0t at hm
        refine ⟨_, rfl, _, rfl, ?_⟩
        refine k_neI ?_
        refine ⟨_, rfl, ?_⟩
        obtain rfl := Option.some.inj hm
        refine iteS (c := (!decide (other_5 = place_3))) (fun h10 => ?_) (fun h10 => ?_)
        · obtain ⟨y, hm, hz, hC⟩ := compT_yes (ifT hC h10)
          unfold m__law_turned_C0 at hm
          refine ⟨_, rfl, ?_⟩
          obtain rfl := Option.some.inj hm
          refine ⟨_, O.mem (List.Mem.head _), (by rw [List.length_map]; exact hz), _, ?_, hC⟩
          rw [map_snoc]
          exact O.put0
        · exact ⟨acc, O, ifF hC h10⟩
      rintro H ⟨acc, O, hC⟩
      obtain rfl := compT_nil hC
      obtain rfl := Option.some.inj hm
      exact RetL.go k O (List.Mem.head _)
    · replace hm := ifF hm h4
      refine o_next ?_
      -- 51
      refine o_ret ?_
      refine ⟨_, rfl, _, rfl, ?_⟩
      refine x_nil ?_
      refine n_lst (f := V.int) (xs := [place_3]) O rfl (by show 1 ≤ sizeLine; decide) fun p_11 H O => ?_
      obtain ⟨t_12, h13, hm⟩ := bndE hm
      refine k_cat (f := V.int) O (O.ex _ _ hp_a_2) (O.mem (List.Mem.head _)) h13 fun p_14 H O => ?_
      obtain rfl := Option.some.inj hm
      exact RetL.go k O (List.Mem.head _)
def m__law_shifted_L0 (shift_3 : Int) (power_12 : Int) (places_5 : List Int) : Option ((List Int)) :=
  bnd (m__law_turned places_5 (power_12 + shift_3)) fun law_tu_14 =>
  some law_tu_14
def m__law_shifted (places_1 : List Int) (shift_3 : Int) : Option (List Int) :=
  bnd (loopM (fun power_12 s => m__law_shifted_L0 shift_3 power_12 s) ([(0 : Int), (1 : Int), (2 : Int), (7 : Int), (10 : Int), (11 : Int), (12 : Int), (13 : Int), (14 : Int), (15 : Int)]) places_1) fun places_8 =>
  some places_8
def sp__law_shifted (K : PySem.W.Frag) : Sp := fun vs H Q _ => ∃ (places_1 : List Int) (a_2 : Addr) (shift_3 : Int) (R0 : Hp) (r : List Int), vs = [.ref a_2, .int shift_3] ∧ Ex R0 H ∧ R0 a_2 = some (.lst (List.map V.int places_1)) ∧ m__law_shifted places_1 shift_3 = some r ∧ RetG (rL rI) R0 r H Q
abbrev N__law_shifted : List Str := ["places", "shift", "power"]
theorem sc__law_shifted : FnScope N__law_shifted ["places", "shift"] (defScope s__law_shifted) := ⟨rfl, rfl, rfl, by decide +kernel, rfl, by decide +kernel, by decide +kernel⟩
theorem ok__law_shifted {ad : Ad} (T : Txt K mg ad) : FnOk P w K mg base CX0 2 ad.f__law_shifted ad.fd__law_shifted ["places", "shift"] (sp__law_shifted K) := by
  have G__law_turned := ok__law_turned (P := P) (w := w) (base := base) T
  refine T.F__law_shifted.ok sc__law_shifted (fun vs H Q E h => ?_) (fun cdv A outer s H vs Q E hr h => ?_)
  · obtain ⟨_, _, _, _, _, rfl, _⟩ := h
    rfl
  · obtain ⟨places_1, a_2, shift_3, R0, r, rfl, hR0, hp_a_2, hm, k⟩ := h
    unfold m__law_shifted at hm
    obtain ⟨Hb, hHb⟩ : ∃ Hb : Hp, Hb = H := ⟨H, rfl⟩
    obtain ⟨H0, hH0⟩ : ∃ H0 : Hp, H0 = Hb := ⟨Hb, rfl⟩
    have O : Own H0 H [] := by rw [hH0, hHb]; exact Own.start H
    rw [← hHb] at k hR0
    have eB : Ex Hb H0 := by rw [hH0]; exact Ex.refl _
    have eS : Ex R0 (ovr R0 Hb H0) := by rw [hH0]; exact ovr_start hR0
    replace hp_a_2 := eS _ _ hp_a_2
    clear hH0
    refine ⟨_, (pss_cons (ps_for PassesOwn.never rfl (pi_list (pe_lstQ (pe_lst (pa_cons pe_int (pa_cons pe_int (pa_cons pe_int (pa_cons pe_int (pa_cons pe_int (pa_cons pe_int (pa_cons pe_int (pa_cons pe_int (pa_cons pe_int (pa_cons pe_int pa_nil))))))))))))) (pg_name (i := 2) sc__law_shifted.nd rfl (Or.inl rfl)) (pss_one (ps_set (i := 0) sc__law_shifted.nd rfl (Or.inl rfl) (pe_call G__law_turned (hr.mono (by decide)) (by rfl) T.g__law_turned T.F__law_turned.kp T.b__law_turned .nil pass0 (pa_cons (pv 0) (pa_cons (pe_op op_add (pv 2) (pv 1)) pa_nil)))))) (pss_one (ps_ret (pv 0)))), ?_⟩
    -- 53
    refine o_seq ?_
    refine o_for ?_
    refine o_il ?_
    refine o_cons ?_
    refine o_c ?_
    refine o_cons ?_
    refine o_c ?_
    refine o_cons ?_
    refine o_c ?_
    refine o_cons ?_
    refine o_c ?_
    refine o_cons ?_
    refine o_c ?_
    refine o_cons ?_
    refine o_c ?_
    refine o_cons ?_
    refine o_c ?_
    refine o_cons ?_
    refine o_c ?_
    refine o_cons ?_
    refine o_c ?_
    refine o_cons ?_
    refine o_c ?_
    refine x_nil ?_
    refine n_lst (f := V.int) (xs := [(0 : Int), (1 : Int), (2 : Int), (7 : Int), (10 : Int), (11 : Int), (12 : Int), (13 : Int), (14 : Int), (15 : Int)]) O rfl (by show 10 ≤ sizeLine; decide) fun p_4 H O => ?_
    obtain ⟨places_8, h9, hm⟩ := bndE hm
    refine ⟨_, rfl, ⟨_, (SqL.of (O.mem (List.Mem.head _)))⟩, q_forL (f := V.int) (xs := [(0 : Int), (1 : Int), (2 : Int), (7 : Int), (10 : Int), (11 : Int), (12 : Int), (13 : Int), (14 : Int), (15 : Int)]) (fun r σ H => ∃ (R_ : Hp) (p_6 : Addr) (places_5 : List Int) (j_7 : Option V), σ = [some (.ref p_6), some (.int shift_3), j_7] ∧ Ex H0 R_ ∧ Own R_ H [(p_4, .lst (List.map V.int ([(0 : Int), (1 : Int), (2 : Int), (7 : Int), (10 : Int), (11 : Int), (12 : Int), (13 : Int), (14 : Int), (15 : Int)])))] ∧ ovr R0 Hb R_ p_6 = some (.lst (List.map V.int places_5)) ∧ loopM (fun power_12 s => m__law_shifted_L0 shift_3 power_12 s) r places_5 = some places_8) ⟨H0, a_2, _, _, rfl, Ex.refl _, O, hp_a_2, h9⟩ (by rintro r σ H ⟨H0, p_6, places_5, j_7, rfl, eJ_, O, hp_p_6, hL⟩; exact (SqL.of (O.mem (List.Mem.head _)))) ?_ ?_⟩
    · rintro power_12 r σ H ⟨H0, p_6, places_5, j_7, rfl, eL13, O, hp_p_6, hL⟩
      replace eB := eB.trans eL13
      obtain ⟨s_, hm, h11⟩ := loopM_cons hL
      replace hm : m__law_shifted_L0 shift_3 power_12 places_5 = some s_ := hm
      unfold m__law_shifted_L0 at hm
      -- 54
      refine o_asg ?_
      obtain ⟨law_tu_14, h15, hm⟩ := bndE hm
      refine ⟨_, rfl, _, rfl, _, rfl, _, _, rfl, rfl, ?_⟩
      refine x_nil ?_
      refine ⟨_, _, _, law_tu_14, rfl, (O.ex _ _ (ovr_ex _ _ hp_p_6)), h15, ?_⟩
      refine O.retL fun p_16 H O => ?_
      obtain ⟨H0, O, e_, hp_p_16⟩ := O.frzO (R0 := R0) eB
      replace hp_p_6 := (ovr_mono e_) _ _ hp_p_6
      replace eB := eB.trans e_
      replace eL13 := eL13.trans e_
      have Oz := O
      obtain rfl := Option.some.inj hm
      exact ⟨H0, p_16, _, _, rfl, eL13, Oz, hp_p_16, h11⟩
    rintro σ H ⟨H0, p_6, places_5, j_7, rfl, eJ_, O, hp_p_6, hL⟩
    replace eB := eB.trans eJ_
    cases loopM_nil hL
    replace O := O.sel (L' := []) [] (by decide) rfl
    -- 55
    refine o_ret ?_
    refine ⟨_, rfl, ?_⟩
    obtain rfl := Option.some.inj hm
    exact RetG.go k (mL mI) O eB (gI hp_p_6)
def m__law_places_L0 (script_1 : List Int) (k_17 : Int) (places_10 : List Int) : Option ((List Int)) :=
  bnd (m__law_draw script_1 ((60 : Int) + k_17) (300 : Int)) fun law_dr_19 =>
  ifB (!decide (law_dr_19 ∈ places_10)) (
    bnd (appG places_10 law_dr_19) fun l_22 =>
    some l_22) (
    some places_10)
def m__law_places (script_1 : List Int) : Option (List Int) :=
  bnd (m__law_draw script_1 (0 : Int) (3 : Int)) fun law_dr_4 =>
  ifB (decide (law_dr_4 = (0 : Int))) (
    bnd (rng1 (List.length (cutL script_1 none (some (20 : Int))) : Int)) fun rg_8 =>
    bnd (loopM (fun k_17 s => m__law_places_L0 script_1 k_17 s) rg_8 ([] : List Int)) fun places_13 =>
    some places_13) (
    bnd (m__law_draw script_1 (1 : Int) (285 : Int)) fun law_dr_25 =>
    bnd (m__law_shifted ([] : List Int) law_dr_25) fun law_sh_27 =>
    bnd (m__law_draw script_1 (2 : Int) (2 : Int)) fun law_dr_30 =>
    bnd (ifB (decide (law_dr_30 = (0 : Int))) (
      bnd (m__law_draw script_1 (3 : Int) (285 : Int)) fun law_dr_34 =>
      bnd (m__law_shifted law_sh_27 law_dr_34) fun law_sh_36 =>
      some law_sh_36) (
      some law_sh_27)) fun places_39 =>
    bnd (m__law_draw script_1 (4 : Int) (2 : Int)) fun law_dr_41 =>
    bnd (ifB (decide (law_dr_41 = (0 : Int))) (
      bnd (m__law_draw script_1 (5 : Int) (300 : Int)) fun law_dr_45 =>
      bnd (m__law_turned places_39 law_dr_45) fun law_tu_47 =>
      some law_tu_47) (
      some places_39)) fun places_51 =>
    some places_51)
def sp__law_places (K : PySem.W.Frag) : Sp := fun vs H Q _ => ∃ (script_1 : List Int) (a_2 : Addr) (R0 : Hp) (r : List Int), vs = [.ref a_2] ∧ Ex R0 H ∧ SqL K R0 a_2 (List.map V.int script_1) ∧ m__law_places script_1 = some r ∧ RetG (rL rI) R0 r H Q
abbrev N__law_places : List Str := ["script", "places", "k", "place"]
theorem sc__law_places : FnScope N__law_places ["script"] (defScope s__law_places) := ⟨rfl, rfl, rfl, by decide +kernel, rfl, by decide +kernel, by decide +kernel⟩
theorem ok__law_places {ad : Ad} (T : Txt K mg ad) : FnOk P w K mg base CX0 3 ad.f__law_places ad.fd__law_places ["script"] (sp__law_places K) := by
  have G__law_draw := ok__law_draw (P := P) (w := w) (base := base) T
  have G__law_shifted := ok__law_shifted (P := P) (w := w) (base := base) T
  have G__law_turned := ok__law_turned (P := P) (w := w) (base := base) T
  refine T.F__law_places.ok sc__law_places (fun vs H Q E h => ?_) (fun cdv A outer s H vs Q E hr h => ?_)
  · obtain ⟨_, _, _, _, rfl, _⟩ := h
    rfl
  · obtain ⟨script_1, a_2, R0, r, rfl, hR0, hp_a_2, hm, k⟩ := h
    unfold m__law_places at hm
    obtain ⟨Hb, hHb⟩ : ∃ Hb : Hp, Hb = H := ⟨H, rfl⟩
    obtain ⟨H0, hH0⟩ : ∃ H0 : Hp, H0 = Hb := ⟨Hb, rfl⟩
    have O : Own H0 H [] := by rw [hH0, hHb]; exact Own.start H
    rw [← hHb] at k hR0
    have eB : Ex Hb H0 := by rw [hH0]; exact Ex.refl _
    have eS : Ex R0 (ovr R0 Hb H0) := by rw [hH0]; exact ovr_start hR0
    replace hp_a_2 := eS.l hp_a_2
    clear hH0
    refine ⟨_, (pss_cons (ps_set (i := 1) sc__law_places.nd rfl (Or.inl rfl) (pe_lstQ (pe_lst pa_nil))) (pss_cons (ps_if (pt_cmpR op_eq (pe_call G__law_draw (hr.mono (by decide)) (by rfl) T.g__law_draw T.F__law_draw.kp T.b__law_draw .nil pass0 (pa_cons (pv 0) (pa_cons pe_int (pa_cons pe_int pa_nil)))) pe_int (nomark _)) (pss_cons (ps_for PassesOwn.never rfl (pi_range1 (by rfl) T.z_range (pa_cons (pe_callB (r := rLenQ K) call_lenQ (by rfl) T.z_len PySem.boot_len (pa_cons (pe_slice (r := rSlL K) sl_list (pv 0) po_none (po_some pe_int)) pa_nil)) pa_nil)) (pg_name (i := 2) sc__law_places.nd rfl (Or.inl rfl)) (pss_cons (ps_set (i := 3) sc__law_places.nd rfl (Or.inl rfl) (pe_call G__law_draw (hr.mono (by decide)) (by rfl) T.g__law_draw T.F__law_draw.kp T.b__law_draw .nil pass0 (pa_cons (pv 0) (pa_cons (pe_op op_add pe_int (pv 2)) (pa_cons pe_int pa_nil))))) (pss_one (ps_if (pt_cmpR (r := rIn K true) op_notIn_seq (pv 3) (pv 1) (by rfl)) (pss_one (ps_expr (pe_bm PySem.F.plainAttrs_list PySem.F.slot_list_append PySem.F.type_list_append mt_append (pv 1) (pa_cons (pv 3) pa_nil)))) pss_nil)))) (pss_one (ps_ret (pv 1)))) pss_nil) (pss_cons (ps_set (i := 1) sc__law_places.nd rfl (Or.inl rfl) (pe_call G__law_shifted (hr.mono (by decide)) (by rfl) T.g__law_shifted T.F__law_shifted.kp T.b__law_shifted .nil pass0 (pa_cons (pe_lstQ (pe_lst pa_nil)) (pa_cons (pe_call G__law_draw (hr.mono (by decide)) (by rfl) T.g__law_draw T.F__law_draw.kp T.b__law_draw .nil pass0 (pa_cons (pv 0) (pa_cons pe_int (pa_cons pe_int pa_nil)))) pa_nil)))) (Evl.pss_cut (ps_if (pt_cmpR op_eq (pe_call G__law_draw (hr.mono (by decide)) (by rfl) T.g__law_draw T.F__law_draw.kp T.b__law_draw .nil pass0 (pa_cons (pv 0) (pa_cons pe_int (pa_cons pe_int pa_nil)))) pe_int (nomark _)) (pss_one (ps_set (i := 1) sc__law_places.nd rfl (Or.inl rfl) (pe_call G__law_shifted (hr.mono (by decide)) (by rfl) T.g__law_shifted T.F__law_shifted.kp T.b__law_shifted .nil pass0 (pa_cons (pv 1) (pa_cons (pe_call G__law_draw (hr.mono (by decide)) (by rfl) T.g__law_draw T.F__law_draw.kp T.b__law_draw .nil pass0 (pa_cons (pv 0) (pa_cons pe_int (pa_cons pe_int pa_nil)))) pa_nil))))) pss_nil) (Evl.pss_cut (ps_if (pt_cmpR op_eq (pe_call G__law_draw (hr.mono (by decide)) (by rfl) T.g__law_draw T.F__law_draw.kp T.b__law_draw .nil pass0 (pa_cons (pv 0) (pa_cons pe_int (pa_cons pe_int pa_nil)))) pe_int (nomark _)) (pss_one (ps_set (i := 1) sc__law_places.nd rfl (Or.inl rfl) (pe_call G__law_turned (hr.mono (by decide)) (by rfl) T.g__law_turned T.F__law_turned.kp T.b__law_turned .nil pass0 (pa_cons (pv 1) (pa_cons (pe_call G__law_draw (hr.mono (by decide)) (by rfl) T.g__law_draw T.F__law_draw.kp T.b__law_draw .nil pass0 (pa_cons (pv 0) (pa_cons pe_int (pa_cons pe_int pa_nil)))) pa_nil))))) pss_nil) (pss_one (ps_ret (pv 1)))))))), ?_⟩
    -- 57
    refine o_seq ?_
    refine o_asg ?_
    refine x_nil ?_
    refine n_lst (f := V.int) (xs := ([] : List Int)) O rfl (Nat.zero_le _) fun p_3 H O => ?_
    -- 58
    refine o_seq ?_
    refine o_ifs ?_
    obtain ⟨law_dr_4, h5, hm⟩ := bndE hm
    refine ⟨_, rfl, ?_⟩
    refine o_cons ?_
    refine o_c ?_
    refine o_cons ?_
    refine o_c ?_
    refine x_nil ?_
    refine ⟨_, _, _, _, law_dr_4, rfl, (O.ex.l (ovr_ex.l hp_a_2)), h5, ?_⟩
    refine O.retV fun H O => ?_
    refine o_c ?_
    refine k_eqI ?_
    refine ⟨_, rfl, ?_⟩
    refine iteS (c := (decide (law_dr_4 = (0 : Int)))) (fun h6 => ?_) (fun h6 => ?_)
    · replace hm := ifT hm h6
      -- 59
      refine o_seq ?_
      refine o_for ?_
      refine ⟨_, rfl, _, rfl, ?_⟩
      refine k_cut (f := V.int) O (O.ex.l (ovr_ex.l hp_a_2)) fun p_7 H O => ?_
      refine x_nil ?_
      refine n_len (SqL.of (O.mem (List.Mem.head _))) ?_
      obtain ⟨rg_8, h9, hm⟩ := bndE hm
      refine x_nil ?_
      obtain ⟨c1, c2, rfl⟩ := rng1E h9
      obtain ⟨places_13, h14, hm⟩ := bndE hm
      refine ⟨_, rfl, c1, c2, q_forR (fun r σ H => ∃ (R_ : Hp) (places_10 : List Int) (j_11 : Option V) (j_12 : Option V), σ = [some (.ref a_2), some (.ref p_3), j_11, j_12] ∧ Ex H0 R_ ∧ Own R_ H [(p_3, .lst (List.map V.int places_10)), (p_7, .lst (List.map V.int (cutL script_1 none (some (20 : Int)))))] ∧ loopM (fun k_17 s => m__law_places_L0 script_1 k_17 s) r places_10 = some places_13) ⟨H0, _, _, _, rfl, Ex.refl _, O.sel [1, 0] (by decide) rfl, h14⟩ ?_ ?_⟩
      · rintro k_17 r σ H ⟨H0, places_10, j_11, j_12, rfl, eL18, O, hL⟩
        replace hp_a_2 := (ovr_mono eL18).l hp_a_2
        replace eB := eB.trans eL18
        obtain ⟨s_, hm, h16⟩ := loopM_cons hL
        replace hm : m__law_places_L0 script_1 k_17 places_10 = some s_ := hm
        unfold m__law_places_L0 at hm
        -- 60
        refine o_seq ?_
        refine o_asg ?_
        obtain ⟨law_dr_19, h20, hm⟩ := bndE hm
        refine ⟨_, rfl, _, rfl, _, _, rfl, rfl, ?_⟩
        refine o_cons ?_
        refine o_c ?_
        refine x_nil ?_
        refine ⟨_, _, _, _, law_dr_19, rfl, (O.ex.l (ovr_ex.l hp_a_2)), h20, ?_⟩
        refine O.retV fun H O => ?_
        -- 61
        refine o_ifs ?_
        refine ⟨_, rfl, _, rfl, ?_⟩
        refine k_niL (SqL.of (O.mem (List.Mem.head _))) ?_
        refine ⟨_, rfl, ?_⟩
        refine iteS (c := (!decide (law_dr_19 ∈ places_10))) (fun h21 => ?_) (fun h21 => ?_)
        · replace hm := ifT hm h21
          -- 62
          refine o_drop ?_
          obtain ⟨l_22, h23, hm⟩ := bndE hm
          refine ⟨_, rfl, .inl ⟨rfl, _, (SqL.of (O.mem (List.Mem.head _)))⟩, _, rfl, ?_⟩
          refine x_nil ?_
          refine k_app (f := V.int) (O.mem (List.Mem.head _)) (fun _ => O.put0) h23 fun H O => ?_
          have Oz := O
          obtain rfl := Option.some.inj hm
          exact ⟨H0, _, _, _, rfl, eL18, Oz, h16⟩
        · replace hm := ifF hm h21
          refine o_next ?_
          have Oz := O
          obtain rfl := Option.some.inj hm
          exact ⟨H0, _, _, _, rfl, eL18, Oz, h16⟩
      rintro σ H ⟨H0, places_10, j_11, j_12, rfl, eJ_, O, hL⟩
      replace hp_a_2 := (ovr_mono eJ_).l hp_a_2
      replace eB := eB.trans eJ_
      cases loopM_nil hL
      replace O := O.sel (L' := [(p_3, .lst (List.map V.int places_13))]) [0] (by decide) rfl
      -- 63
      refine o_ret ?_
      refine ⟨_, rfl, ?_⟩
      obtain rfl := Option.some.inj hm
      obtain ⟨H0, O, e_, hp_p_3⟩ := O.frzO (R0 := R0) eB
      replace hp_a_2 := (ovr_mono e_).l hp_a_2
      replace eB := eB.trans e_
      exact RetG.go k (mL mI) O eB (gI hp_p_3)
    · replace hm := ifF hm h6
      refine o_next ?_
      -- 64
      refine o_seq ?_
      refine o_asg ?_
      refine o_call ?_
      refine o_cons ?_
      refine x_nil ?_
      refine n_lst (f := V.int) (xs := ([] : List Int)) O rfl (Nat.zero_le _) fun p_24 H O => ?_
      obtain ⟨law_dr_25, h26, hm⟩ := bndE hm
      refine ⟨_, rfl, ?_⟩
      refine o_cons ?_
      refine o_c ?_
      refine o_cons ?_
      refine o_c ?_
      refine x_nil ?_
      refine ⟨_, _, _, _, law_dr_25, rfl, (O.ex.l (ovr_ex.l hp_a_2)), h26, ?_⟩
      refine O.retV fun H O => ?_
      obtain ⟨law_sh_27, h28, hm⟩ := bndE hm
      refine x_nil ?_
      obtain ⟨H0, O, e_, hp_p_24⟩ := O.frzO (R0 := R0) eB
      replace hp_a_2 := (ovr_mono e_).l hp_a_2
      replace eB := eB.trans e_
      refine ⟨_, _, _, ovr R0 Hb H0, law_sh_27, rfl, (ovr_ex.trans O.ex), hp_p_24, h28, ?_⟩
      refine O.retGO (mL mI) eB fun v_ H H0 O e_ hv_ => ?_
      replace hp_a_2 := (ovr_mono e_).l hp_a_2
      replace hp_p_24 := (ovr_mono e_) _ _ hp_p_24
      replace eB := eB.trans e_
      obtain ⟨p_29, rfl, hp_p_29⟩ := fI hv_
      -- 65
      obtain ⟨law_dr_30, h31, hm⟩ := bndE hm
      obtain ⟨places_39, h33, hm⟩ := bndE hm
      refine o_cut (fun σ H => ∃ (R_ : Hp) (p_40 : Addr), σ = [some (.ref a_2), some (.ref p_40), none, none] ∧ Ex H0 R_ ∧ Own R_ H [] ∧ ovr R0 Hb R_ p_40 = some (.lst (List.map V.int places_39))) ?_ ?_
      · refine o_ifs ?_
        refine ⟨_, rfl, ?_⟩
        refine o_cons ?_
        refine o_c ?_
        refine o_cons ?_
        refine o_c ?_
        refine x_nil ?_
        refine ⟨_, _, _, _, law_dr_30, rfl, (O.ex.l (ovr_ex.l hp_a_2)), h31, ?_⟩
        refine O.retV fun H O => ?_
        refine o_c ?_
        refine k_eqI ?_
        refine ⟨_, rfl, ?_⟩
        refine iteS (c := (decide (law_dr_30 = (0 : Int)))) (fun h32 => ?_) (fun h32 => ?_)
        · have eJ33 : Ex H0 H0 := Ex.refl _
          replace hm := ifT h33 h32
          -- 66
          refine o_asg ?_
          obtain ⟨law_dr_34, h35, hm⟩ := bndE hm
          refine ⟨_, rfl, _, rfl, ?_⟩
          refine o_cons ?_
          refine o_c ?_
          refine o_cons ?_
          refine o_c ?_
          refine x_nil ?_
          refine ⟨_, _, _, _, law_dr_34, rfl, (O.ex.l (ovr_ex.l hp_a_2)), h35, ?_⟩
          refine O.retV fun H O => ?_
          obtain ⟨law_sh_36, h37, hm⟩ := bndE hm
          refine x_nil ?_
          refine ⟨_, _, _, ovr R0 Hb H0, law_sh_36, rfl, (ovr_ex.trans O.ex), hp_p_29, h37, ?_⟩
          refine O.retGO (mL mI) eB fun v_ H H0 O e_ hv_ => ?_
          replace hp_a_2 := (ovr_mono e_).l hp_a_2
          replace hp_p_24 := (ovr_mono e_) _ _ hp_p_24
          replace hp_p_29 := (ovr_mono e_) _ _ hp_p_29
          replace eB := eB.trans e_
          replace eJ33 := eJ33.trans e_
          obtain ⟨p_38, rfl, hp_p_38⟩ := fI hv_
          have Oz := O
          cases Option.some.inj hm
          exact ⟨H0, p_38, rfl, eJ33, Oz.sel [] (by decide) rfl, hp_p_38⟩
        · have eJ33 : Ex H0 H0 := Ex.refl _
          replace hm := ifF h33 h32
          refine o_next ?_
          have Oz := O
          cases Option.some.inj hm
          exact ⟨H0, p_29, rfl, eJ33, Oz.sel [] (by decide) rfl, hp_p_29⟩
      rintro σ H ⟨H0, p_40, rfl, eJ_, O, hp_p_40⟩
      replace hp_a_2 := (ovr_mono eJ_).l hp_a_2
      replace eB := eB.trans eJ_
      -- 67
      obtain ⟨law_dr_41, h42, hm⟩ := bndE hm
      obtain ⟨places_51, h44, hm⟩ := bndE hm
      refine o_cut (fun σ H => ∃ (R_ : Hp) (p_52 : Addr) (j_50 : Option V), σ = [j_50, some (.ref p_52), none, none] ∧ Ex H0 R_ ∧ Own R_ H [] ∧ ovr R0 Hb R_ p_52 = some (.lst (List.map V.int places_51))) ?_ ?_
      · refine o_ifs ?_
        refine ⟨_, rfl, ?_⟩
        refine o_cons ?_
        refine o_c ?_
        refine o_cons ?_
        refine o_c ?_
        refine x_nil ?_
        refine ⟨_, _, _, _, law_dr_41, rfl, (O.ex.l (ovr_ex.l hp_a_2)), h42, ?_⟩
        refine O.retV fun H O => ?_
        refine o_c ?_
        refine k_eqI ?_
        refine ⟨_, rfl, ?_⟩
        refine iteS (c := (decide (law_dr_41 = (0 : Int)))) (fun h43 => ?_) (fun h43 => ?_)
        · have eJ44 : Ex H0 H0 := Ex.refl _
          replace hm := ifT h44 h43
          -- 68
          refine o_asg ?_
          obtain ⟨law_dr_45, h46, hm⟩ := bndE hm
          refine ⟨_, rfl, _, rfl, ?_⟩
          refine o_cons ?_
          refine o_c ?_
          refine o_cons ?_
          refine o_c ?_
          refine x_nil ?_
          refine ⟨_, _, _, _, law_dr_45, rfl, (O.ex.l (ovr_ex.l hp_a_2)), h46, ?_⟩
          refine O.retV fun H O => ?_
          obtain ⟨law_tu_47, h48, hm⟩ := bndE hm
          refine x_nil ?_
          refine ⟨_, _, _, law_tu_47, rfl, (O.ex _ _ (ovr_ex _ _ hp_p_40)), h48, ?_⟩
          refine O.retL fun p_49 H O => ?_
          obtain ⟨H0, O, e_, hp_p_49⟩ := O.frzO (R0 := R0) eB
          replace hp_a_2 := (ovr_mono e_).l hp_a_2
          replace hp_p_40 := (ovr_mono e_) _ _ hp_p_40
          replace eB := eB.trans e_
          replace eJ44 := eJ44.trans e_
          have Oz := O
          cases Option.some.inj hm
          exact ⟨H0, p_49, _, rfl, eJ44, Oz, hp_p_49⟩
        · have eJ44 : Ex H0 H0 := Ex.refl _
          replace hm := ifF h44 h43
          refine o_next ?_
          have Oz := O
          cases Option.some.inj hm
          exact ⟨H0, p_40, _, rfl, eJ44, Oz, hp_p_40⟩
      rintro σ H ⟨H0, p_52, j_50, rfl, eJ_, O, hp_p_52⟩
      replace eB := eB.trans eJ_
      -- 69
      refine o_ret ?_
      refine ⟨_, rfl, ?_⟩
      obtain rfl := Option.some.inj hm
      exact RetG.go k (mL mI) O eB (gI hp_p_52)
def m__law_rest_L0 (places_1 : List Int) (k_13 : Int) (total_5 : Int) (rest_6 : Int) : Option (Int × Int) :=
  bnd (ifB (decide (k_13 ∈ places_1)) (
    some (Builtin.bitXor total_5 rest_6)) (
    some total_5)) fun total_17 =>
  ltv ((rest_6 * (2 : Int))) fun rest_19 =>
  ifB (decide ((32768 : Int) ≤ rest_19)) (
    some (total_17, (Builtin.bitXor rest_19 (64647 : Int)))) (
    some (total_17, rest_19))
def m__law_rest (places_1 : List Int) : Option Int :=
  bnd (rng1 (300 : Int)) fun rg_3 =>
  bnd (loopM (fun k_13 s => m__law_rest_L0 places_1 k_13 s.1 s.2) rg_3 ((0 : Int), (1 : Int))) fun (total_8, rest_9) =>
  some total_8
def sp__law_rest (K : PySem.W.Frag) : Sp := fun vs H Q _ => ∃ (places_1 : List Int) (a_2 : Addr) (r : Int), vs = [.ref a_2] ∧ H a_2 = some (.lst (List.map V.int places_1)) ∧ m__law_rest places_1 = some r ∧ RetV (.int r) H Q
abbrev N__law_rest : List Str := ["places", "total", "rest", "k"]
theorem sc__law_rest : FnScope N__law_rest ["places"] (defScope s__law_rest) := ⟨rfl, rfl, rfl, by decide +kernel, rfl, by decide +kernel, by decide +kernel⟩
theorem ok__law_rest {ad : Ad} (T : Txt K mg ad) : FnOk P w K mg base CX0 1 ad.f__law_rest ad.fd__law_rest ["places"] (sp__law_rest K) := by
  refine T.F__law_rest.ok sc__law_rest (fun vs H Q E h => ?_) (fun cdv A outer s H vs Q E hr h => ?_)
  · obtain ⟨_, _, _, rfl, _⟩ := h
    rfl
  · obtain ⟨places_1, a_2, r, rfl, hp_a_2, hm, k⟩ := h
    unfold m__law_rest at hm
    obtain ⟨H0, hH0⟩ : ∃ H0 : Hp, H0 = H := ⟨H, rfl⟩
    have O : Own H0 H [] := by rw [hH0]; exact Own.start H
    rw [← hH0] at k hp_a_2
    clear hH0
    refine ⟨_, (pss_cons (ps_set (i := 1) sc__law_rest.nd rfl (Or.inl rfl) pe_int) (pss_cons (ps_set (i := 2) sc__law_rest.nd rfl (Or.inl rfl) pe_int) (pss_cons (ps_for PassesOwn.never rfl (pi_range1 (by rfl) T.z_range (pa_cons pe_int pa_nil)) (pg_name (i := 3) sc__law_rest.nd rfl (Or.inl rfl)) (Evl.pss_cut (ps_if (pt_cmpR (r := rIn K false) op_in_seq (pv 3) (pv 0) (by rfl)) (pss_one (ps_set (i := 1) sc__law_rest.nd rfl (Or.inl rfl) (pe_op op_xor (pv 1) (pv 2)))) pss_nil) (pss_cons (ps_set (i := 2) sc__law_rest.nd rfl (Or.inl rfl) (pe_op op_mul (pv 2) pe_int)) (pss_one (ps_if (pt_cmpR op_ge (pv 2) pe_int (nomark _)) (pss_one (ps_set (i := 2) sc__law_rest.nd rfl (Or.inl rfl) (pe_op op_xor (pv 2) pe_int))) pss_nil))))) (pss_one (ps_ret (pv 1)))))), ?_⟩
    -- 71
    refine o_seq ?_
    refine o_asg ?_
    refine o_c ?_
    -- 72
    refine o_seq ?_
    refine o_asg ?_
    refine o_c ?_
    -- 73
    refine o_seq ?_
    refine o_for ?_
    obtain ⟨rg_3, h4, hm⟩ := bndE hm
    refine o_ir1 ?_
    refine o_cons ?_
    refine o_c ?_
    refine x_nil ?_
    obtain ⟨c1, c2, rfl⟩ := rng1E h4
    obtain ⟨⟨total_8, rest_9⟩, h10, hm⟩ := bndE hm
    refine ⟨_, rfl, c1, c2, q_forR (fun r σ H => ∃ (total_5 : Int) (rest_6 : Int) (j_7 : Option V), σ = [some (.ref a_2), some (.int total_5), some (.int rest_6), j_7] ∧ Own H0 H [] ∧ loopM (fun k_13 s => m__law_rest_L0 places_1 k_13 s.1 s.2) r (total_5, rest_6) = some (total_8, rest_9)) ⟨_, _, _, rfl, O, h10⟩ ?_ ?_⟩
    · rintro k_13 r σ H ⟨total_5, rest_6, j_7, rfl, O, hL⟩
      obtain ⟨s_, hm, h12⟩ := loopM_cons hL
      replace hm : m__law_rest_L0 places_1 k_13 total_5 rest_6 = some s_ := hm
      unfold m__law_rest_L0 at hm
      -- 74
      obtain ⟨total_17, h16, hm⟩ := bndE hm
      refine o_cut (fun σ H => ∃ (j_18 : Option V), σ = [some (.ref a_2), some (.int total_17), some (.int rest_6), j_18] ∧ Own H0 H []) ?_ ?_
      · refine o_ifs ?_
        refine ⟨_, rfl, _, rfl, ?_⟩
        refine k_inL (SqL.of (O.ex _ _ hp_a_2)) ?_
        refine ⟨_, rfl, ?_⟩
        refine iteS (c := (decide (k_13 ∈ places_1))) (fun h15 => ?_) (fun h15 => ?_)
        · replace hm := ifT h16 h15
          -- 75
          refine o_asg ?_
          refine ⟨_, rfl, _, rfl, _, _, rfl, rfl, ?_⟩
          have Oz := O
          cases Option.some.inj hm
          exact ⟨_, rfl, Oz⟩
        · replace hm := ifF h16 h15
          refine o_next ?_
          have Oz := O
          cases Option.some.inj hm
          exact ⟨_, rfl, Oz⟩
      rintro σ H ⟨j_18, rfl, O⟩
      -- 76
      refine o_seq ?_
      refine o_asg ?_
      refine ⟨_, rfl, _, _, rfl, rfl, .inr ⟨by decide, by decide⟩, ?_⟩
      obtain ⟨rest_19, h20, hm⟩ := ltvE hm
      refine a_set (congrArg V.int h20) ?_
      -- 77
      refine o_ifs ?_
      refine ⟨_, rfl, _, _, rfl, rfl, _, rfl, ?_⟩
      refine iteS (c := decide ((32768 : Int) ≤ rest_19)) (fun h21 => ?_) (fun h21 => ?_)
      · replace hm := ifT hm h21
        -- 78
        refine o_asg ?_
        refine ⟨_, rfl, _, _, rfl, rfl, ?_⟩
        have Oz := O
        obtain rfl := Option.some.inj hm
        exact ⟨_, _, _, rfl, Oz, h12⟩
      · replace hm := ifF hm h21
        refine o_next ?_
        have Oz := O
        obtain rfl := Option.some.inj hm
        exact ⟨_, _, _, rfl, Oz, h12⟩
    rintro σ H ⟨total_5, rest_6, j_7, rfl, O, hL⟩
    cases loopM_nil hL
    -- 79
    refine o_ret ?_
    refine ⟨_, rfl, ?_⟩
    obtain rfl := Option.some.inj hm
    exact RetV.go k O
def m_law_L0  (place_16 : Int) (size_10 : Int) : Option (Int) :=
  some (if (place_16 + (1 : Int)) > size_10 then (place_16 + (1 : Int)) else size_10)
def m_law_C1 (script_1 : List Int) (k_20 : Int) : Option Int :=
  bnd (m__law_draw script_1 ((7 : Int) + k_20) (2 : Int)) fun law_dr_25 =>
  some law_dr_25
def m_law_L2 (size_12 : Int) (place_35 : Int) (turned_30 : List Int) : Option ((List Int)) :=
  bnd (atI turned_30 ((size_12 - (1 : Int)) - place_35)) fun e_37 =>
  bnd (setG turned_30 ((size_12 - (1 : Int)) - place_35) ((1 : Int) - e_37)) fun l_39 =>
  some l_39
def m_law (script_1 : List Int) : Option Bool :=
  bnd (m__law_places script_1) fun law_pl_3 =>
  bnd (m__law_draw script_1 (6 : Int) (300 : Int)) fun law_dr_6 =>
  ltv (((1 : Int) + law_dr_6)) fun size_8 =>
  bnd (loopM (fun place_16 s => m_law_L0 place_16 s) law_pl_3 size_8) fun size_12 =>
  bnd (rng1 size_12) fun rg_18 =>
  bnd (compM (m_law_C1 script_1) rg_18 []) fun l_22 =>
  bnd (loopM (fun place_35 s => m_law_L2 size_12 place_35 s) law_pl_3 l_22) fun turned_31 =>
  bnd (m__law_rest law_pl_3) fun law_re_41 =>
  ltv ((decide (law_re_41 = (0 : Int)))) fun due_43 =>
  bnd (m_is_unseen law_pl_3) fun is_uns_46 =>
  ifB ((!true) || ((!decide (is_uns_46 = due_43)) || (!decide (law_pl_3 = law_pl_3)))) (
    some false) (
    bnd (m_rest_of turned_31) fun rest_o_51 =>
    bnd (m_rest_of l_22) fun rest_o_53 =>
    some (decide ((decide (rest_o_51 = rest_o_53)) = due_43)))
def sp_law (K : PySem.W.Frag) : Sp := fun vs H Q _ => ∃ (script_1 : List Int) (a_2 : Addr) (r : Bool), vs = [.ref a_2] ∧ SqL K H a_2 (List.map V.int script_1) ∧ m_law script_1 = some r ∧ RetV (.bl r) H Q
abbrev N_law : List Str := ["script", "places", "size", "place", "bits", "turned", "due", "handed", "found", "k"]
theorem sc_law : FnScope N_law ["script"] (defScope s_law) := ⟨rfl, rfl, rfl, by decide +kernel, rfl, by decide +kernel, by decide +kernel⟩
theorem ok_law {ad : Ad} (T : Txt K mg ad) : FnOk P w K mg base CX0 4 ad.f_law ad.fd_law ["script"] (sp_law K) := by
  have G__law_draw := ok__law_draw (P := P) (w := w) (base := base) T
  have G__law_places := ok__law_places (P := P) (w := w) (base := base) T
  have G__law_rest := ok__law_rest (P := P) (w := w) (base := base) T
  have G_is_unseen := ok_is_unseen (P := P) (w := w) (base := base) T
  have G_rest_of := ok_rest_of (P := P) (w := w) (base := base) T
  refine T.F_law.ok sc_law (fun vs H Q E h => ?_) (fun cdv A outer s H vs Q E hr h => ?_)
  · obtain ⟨_, _, _, rfl, _⟩ := h
    rfl
  · obtain ⟨script_1, a_2, r, rfl, hp_a_2, hm, k⟩ := h
    unfold m_law at hm
    obtain ⟨H0, hH0⟩ : ∃ H0 : Hp, H0 = H := ⟨H, rfl⟩
    have O : Own H0 H [] := by rw [hH0]; exact Own.start H
    rw [← hH0] at k hp_a_2
    clear hH0
    have eB : Ex H0 H0 := Ex.refl _
    refine ⟨_, (pss_cons (ps_set (i := 1) sc_law.nd rfl (Or.inl rfl) (pe_call G__law_places (hr.mono (by decide)) (by rfl) T.g__law_places T.F__law_places.kp T.b__law_places .nil pass0 (pa_cons (pv 0) pa_nil))) (pss_cons (ps_set (i := 2) sc_law.nd rfl (Or.inl rfl) (pe_op op_add pe_int (pe_call G__law_draw (hr.mono (by decide)) (by rfl) T.g__law_draw T.F__law_draw.kp T.b__law_draw .nil pass0 (pa_cons (pv 0) (pa_cons pe_int (pa_cons pe_int pa_nil)))))) (pss_cons (ps_for PassesOwn.never rfl (pi_list (pv 1)) (pg_name (i := 3) sc_law.nd rfl (Or.inl rfl)) (pss_one (ps_set (i := 2) sc_law.nd rfl (Or.inl rfl) (pe_callB (call_max2 rfl) (by rfl) T.z_max (by decide +kernel) (pa_cons (pv 2) (pa_cons (pe_op op_add (pv 3) pe_int) pa_nil)))))) (pss_cons (ps_setLc (i := 4) (own := [("k", 9)]) (g := gName 9) (tt := tYes) rfl sc_law.nd rfl rfl (sw_true rfl rfl rfl (by decide +kernel)) (pi_range1 (by rfl) T.z_range (pa_cons (pv 2) pa_nil)) (blkOk_by (own := [("k", 9)]) (N := N_law) (sc := defScope s_law) (by decide +kernel)) (fun _ _ _ _ _ => pg_name (i := 9) sc_law.nd rfl (Or.inl rfl)) (fun _ _ _ _ _ => pts_nil) (fun _ _ _ _ _ => (pe_call G__law_draw (hr.mono (by decide)) (by rfl) T.g__law_draw T.F__law_draw.kp T.b__law_draw .nil pass0 (pa_cons (pv 0) (pa_cons (pe_op op_add pe_int (pv 9)) (pa_cons pe_int pa_nil)))))) (pss_cons (ps_set (i := 5) sc_law.nd rfl (Or.inl rfl) (pe_callTy (r := rListQ K) call_listQ (by rfl) T.z_list (by decide +kernel) (pa_cons (pv 4) pa_nil))) (pss_cons (ps_for PassesOwn.never rfl (pi_list (pv 1)) (pg_name (i := 3) sc_law.nd rfl (Or.inl rfl)) (pss_one (ps_asg (pe_op op_sub pe_int (pe_ix (r := rIxL K) ix_list (pv 5) (pe_op op_sub (pe_op op_sub (pv 2) pe_int) (pv 3)) (fun _ _ => rfl))) (pg_sub (pv 5) (pe_op op_sub (pe_op op_sub (pv 2) pe_int) (pv 3)) set_list)))) (pss_cons (ps_set (i := 6) sc_law.nd rfl (Or.inl rfl) (pe_cmpR op_eq (pe_call G__law_rest (hr.mono (by decide)) (by rfl) T.g__law_rest T.F__law_rest.kp T.b__law_rest .nil pass0 (pa_cons (pv 1) pa_nil)) pe_int (nomark _))) (pss_cons (ps_set (i := 7) sc_law.nd rfl (Or.inl rfl) (pe_callTy (r := rListQ K) call_listQ (by rfl) T.z_list (by decide +kernel) (pa_cons (pv 1) pa_nil))) (pss_cons (ps_set (i := 8) sc_law.nd rfl (Or.inl rfl) (pe_call G_is_unseen (hr.mono (by decide)) (by rfl) T.g_is_unseen T.F_is_unseen.kp T.b_is_unseen .nil pass0 (pa_cons (pv 7) pa_nil))) (pss_cons (ps_if (PW.pt (pw_or (pt_not (pt_val (pe_callB (r := rIsi K) call_isi (by rfl) T.z_isinstance (by decide +kernel) (pa_cons (pv 8) (pa_cons (pe_bltn (v := V.ty "bool") (u := .type "bool") (by rfl) T.z_bool (by decide +kernel) rfl) pa_nil))))) (pw_or (pt_cmpR op_ne (pv 8) (pv 6) (nomark _)) (pw_or1 (pt_cmpR (r := rNeD K) (op_neD hr.units) (pv 7) (pv 1) (nomark _)))))) (pss_one (ps_ret pe_bl)) pss_nil) (pss_one (ps_ret (pe_cmpR op_eq (pe_cmpR op_eq (pe_call G_rest_of (hr.mono (by decide)) (by rfl) T.g_rest_of T.F_rest_of.kp T.b_rest_of .nil pass0 (pa_cons (pv 5) pa_nil)) (pe_call G_rest_of (hr.mono (by decide)) (by rfl) T.g_rest_of T.F_rest_of.kp T.b_rest_of .nil pass0 (pa_cons (pv 4) pa_nil)) (nomark _)) (pv 6) (nomark _)))))))))))))), ?_⟩
    -- 81
    refine o_seq ?_
    refine o_asg ?_
    obtain ⟨law_pl_3, h4, hm⟩ := bndE hm
    refine ⟨_, rfl, ?_⟩
    refine x_nil ?_
    refine ⟨_, _, H0, law_pl_3, rfl, O.ex, hp_a_2, h4, ?_⟩
    refine O.retG (mL mI) fun v_ H H0 O e_ hv_ => ?_
    replace hp_a_2 := e_.l hp_a_2
    replace eB := eB.trans e_
    obtain ⟨p_5, rfl, hp_p_5⟩ := fI hv_
    -- 82
    refine o_seq ?_
    refine o_asg ?_
    obtain ⟨law_dr_6, h7, hm⟩ := bndE hm
    refine ⟨_, rfl, ?_⟩
    refine o_cons ?_
    refine o_c ?_
    refine o_cons ?_
    refine o_c ?_
    refine x_nil ?_
    refine ⟨_, _, _, _, law_dr_6, rfl, (O.ex.l hp_a_2), h7, ?_⟩
    refine O.retV fun H O => ?_
    refine ⟨_, _, rfl, rfl, ?_⟩
    obtain ⟨size_8, h9, hm⟩ := ltvE hm
    refine a_set (congrArg V.int h9) ?_
    -- 83
    refine o_seq ?_
    refine o_for ?_
    refine ⟨_, rfl, ?_⟩
    obtain ⟨size_12, h13, hm⟩ := bndE hm
    refine ⟨_, rfl, ⟨_, (SqL.of (O.ex _ _ hp_p_5))⟩, q_forL (f := V.int) (xs := law_pl_3) (fun r σ H => ∃ (R_ : Hp) (size_10 : Int) (j_11 : Option V), σ = [some (.ref a_2), some (.ref p_5), some (.int size_10), j_11, none, none, none, none, none, none] ∧ Ex H0 R_ ∧ Own R_ H [] ∧ loopM (fun place_16 s => m_law_L0 place_16 s) r size_10 = some size_12) ⟨H0, _, _, rfl, Ex.refl _, O, h13⟩ (by rintro r σ H ⟨H0, size_10, j_11, rfl, eJ_, O, hL⟩; replace hp_a_2 := eJ_.l hp_a_2; replace hp_p_5 := eJ_ _ _ hp_p_5; exact (SqL.of (O.ex _ _ hp_p_5))) ?_ ?_⟩
    · rintro place_16 r σ H ⟨H0, size_10, j_11, rfl, eL17, O, hL⟩
      replace hp_a_2 := eL17.l hp_a_2
      replace hp_p_5 := eL17 _ _ hp_p_5
      replace eB := eB.trans eL17
      obtain ⟨s_, hm, h15⟩ := loopM_cons hL
      replace hm : m_law_L0 place_16 size_10 = some s_ := hm
      unfold m_law_L0 at hm
      -- 84
      refine o_asg ?_
      refine ⟨_, rfl, _, rfl, _, _, rfl, rfl, _, _, rfl, ?_⟩
      have Oz := O
      obtain rfl := Option.some.inj hm
      exact ⟨H0, _, _, rfl, eL17, Oz, h15⟩
    rintro σ H ⟨H0, size_10, j_11, rfl, eJ_, O, hL⟩
    replace hp_a_2 := eJ_.l hp_a_2
    replace hp_p_5 := eJ_ _ _ hp_p_5
    replace eB := eB.trans eJ_
    cases loopM_nil hL
    -- 85
    refine o_seq ?_
    refine o_asg ?_
    obtain ⟨rg_18, h19, hm⟩ := bndE hm
    refine ⟨_, rfl, ?_⟩
    refine x_nil ?_
    obtain ⟨c1, c2, rfl⟩ := rng1E h19
    obtain ⟨l_22, h23, hm⟩ := bndE hm
    refine ⟨_, rfl, c1, c2, fun p_24 hD => k_lcR (fun r H => ∃ acc : List Int, Own H0 H ((p_24, .lst (List.map V.int acc)) :: []) ∧ compM (m_law_C1 script_1) r acc = some l_22) ⟨[], O.new hD, h23⟩ ?_ ?_⟩
    · rintro k_20 r H ⟨acc, O, hC⟩
      obtain ⟨y, hm, hz, hC⟩ := compM_cons hC
      refine ⟨rfl, ?_⟩
      unfold m_law_C1 at hm
      obtain ⟨law_dr_25, h26, hm⟩ := bndE hm
      refine ⟨_, rfl, _, rfl, _, _, rfl, rfl, ?_⟩
      refine o_cons ?_
      refine o_c ?_
      refine x_nil ?_
      refine ⟨_, _, _, _, law_dr_25, rfl, (O.ex.l hp_a_2), h26, ?_⟩
      refine O.retV fun H O => ?_
      obtain rfl := Option.some.inj hm
      refine ⟨_, O.mem (List.Mem.head _), (by rw [List.length_map]; exact hz), _, ?_, hC⟩
      rw [map_snoc]
      exact O.put0
    rintro H ⟨acc, O, hC⟩
    obtain rfl := compM_nil hC
    -- 86
    refine o_seq ?_
    refine o_asg ?_
    refine ⟨_, rfl, ?_⟩
    refine x_nil ?_
    refine n_list O (SqL.of (O.mem (List.Mem.head _))) fun p_27 H O => ?_
    -- 87
    refine o_seq ?_
    refine o_for ?_
    refine ⟨_, rfl, ?_⟩
    obtain ⟨turned_31, h32, hm⟩ := bndE hm
    refine ⟨_, rfl, ⟨_, (SqL.of (O.ex _ _ hp_p_5))⟩, q_forL (f := V.int) (xs := law_pl_3) (fun r σ H => ∃ (R_ : Hp) (turned_30 : List Int) (j_28 : Option V) (j_29 : Option V), σ = [j_28, some (.ref p_5), some (.int size_12), j_29, some (.ref p_24), some (.ref p_27), none, none, none, none] ∧ Ex H0 R_ ∧ Own R_ H [(p_24, .lst (List.map V.int l_22)), (p_27, .lst (List.map V.int turned_30))] ∧ loopM (fun place_35 s => m_law_L2 size_12 place_35 s) r turned_30 = some turned_31) ⟨H0, _, _, _, rfl, Ex.refl _, O.sel [1, 0] (by decide) rfl, h32⟩ (by rintro r σ H ⟨H0, turned_30, j_28, j_29, rfl, eJ_, O, hL⟩; replace hp_p_5 := eJ_ _ _ hp_p_5; exact (SqL.of (O.ex _ _ hp_p_5))) ?_ ?_⟩
    · rintro place_35 r σ H ⟨H0, turned_30, j_28, j_29, rfl, eL36, O, hL⟩
      replace hp_p_5 := eL36 _ _ hp_p_5
      replace eB := eB.trans eL36
      obtain ⟨s_, hm, h34⟩ := loopM_cons hL
      replace hm : m_law_L2 size_12 place_35 turned_30 = some s_ := hm
      unfold m_law_L2 at hm
      -- 88
      refine o_sub ?_
      obtain ⟨e_37, h38, hm⟩ := bndE hm
      refine ⟨_, rfl, _, rfl, _, _, rfl, rfl, _, rfl, _, _, rfl, rfl, ?_⟩
      refine k_ixL (f := V.int) (SqL.of (O.mem (List.Mem.tail _ (List.Mem.head _)))) h38 ?_
      obtain ⟨l_39, h40, hm⟩ := bndE hm
      refine ⟨_, _, rfl, rfl, _, rfl, _, rfl, _, _, rfl, rfl, _, rfl, _, _, rfl, rfl, ?_⟩
      refine k_setL (f := V.int) (O.mem (List.Mem.tail _ (List.Mem.head _))) (fun _ => O.put1) h40 fun H O => ?_
      have Oz := O
      obtain rfl := Option.some.inj hm
      exact ⟨H0, _, _, _, rfl, eL36, Oz, h34⟩
    rintro σ H ⟨H0, turned_30, j_28, j_29, rfl, eJ_, O, hL⟩
    replace hp_p_5 := eJ_ _ _ hp_p_5
    replace eB := eB.trans eJ_
    cases loopM_nil hL
    -- 89
    refine o_seq ?_
    refine o_asg ?_
    obtain ⟨law_re_41, h42, hm⟩ := bndE hm
    refine ⟨_, rfl, ?_⟩
    refine x_nil ?_
    refine ⟨_, _, law_re_41, rfl, (O.ex _ _ hp_p_5), h42, ?_⟩
    refine O.retV fun H O => ?_
    refine o_c ?_
    refine k_eqI ?_
    obtain ⟨due_43, h44, hm⟩ := ltvE hm
    refine a_set (congrArg V.bl h44) ?_
    -- 90
    refine o_seq ?_
    refine o_asg ?_
    refine ⟨_, rfl, ?_⟩
    refine x_nil ?_
    refine n_list O (SqL.of (O.ex _ _ hp_p_5)) fun p_45 H O => ?_
    -- 91
    refine o_seq ?_
    refine o_asg ?_
    obtain ⟨is_uns_46, h47, hm⟩ := bndE hm
    refine ⟨_, rfl, ?_⟩
    refine x_nil ?_
    refine ⟨_, _, is_uns_46, rfl, (O.mem (List.Mem.head _)), h47, ?_⟩
    refine O.retV fun H O => ?_
    -- 92
    refine o_seq ?_
    refine o_ifs ?_
    refine x_or (c := (!true)) (e := ((!decide (is_uns_46 = due_43)) || (!decide (law_pl_3 = law_pl_3)))) (d := ((!true) || ((!decide (is_uns_46 = due_43)) || (!decide (law_pl_3 = law_pl_3))))) O (fun Q1 k1 => ?_) (fun h49 => ⟨by rw [h49]; rfl, fun H O Q2 k2 => ?_⟩) (fun h49 => by rw [h49]; rfl) (fun H O => ?_)
    · refine ⟨_, rfl, _, _, _, _, true, rfl, .ty _, .base (.bl _), kit_ty (by decide +kernel), _, rfl, ?_⟩
      exact k1 _ O
    · refine x_or (c := (!decide (is_uns_46 = due_43))) (e := (!decide (law_pl_3 = law_pl_3))) (d := ((!decide (is_uns_46 = due_43)) || (!decide (law_pl_3 = law_pl_3)))) O (fun Q1 k1 => ?_) (fun h48 => ⟨by rw [h48]; rfl, fun H O Q2 k2 => ?_⟩) (fun h48 => by rw [h48]; rfl) (fun H O => ?_)
      · refine ⟨_, rfl, _, rfl, ?_⟩
        refine k_neB ?_
        refine ⟨_, rfl, ?_⟩
        exact k1 _ O
      · refine ⟨_, rfl, _, rfl, ?_⟩
        refine k_neLI (SqL.of (O.mem (List.Mem.head _))) (SqL.of (O.ex _ _ hp_p_5)) ?_
        refine ⟨_, rfl, ?_⟩
        exact k2 _ O
      exact k2 _ O
    refine iteS (c := ((!true) || ((!decide (is_uns_46 = due_43)) || (!decide (law_pl_3 = law_pl_3))))) (fun h50 => ?_) (fun h50 => ?_)
    · replace hm := ifT hm h50
      -- 93
      refine o_ret ?_
      refine o_c ?_
      obtain rfl := Option.some.inj hm
      exact RetV.goR k O eB
    · replace hm := ifF hm h50
      refine o_next ?_
      -- 94
      refine o_ret ?_
      obtain ⟨rest_o_51, h52, hm⟩ := bndE hm
      refine ⟨_, rfl, ?_⟩
      refine x_nil ?_
      refine ⟨_, _, rest_o_51, rfl, (O.mem (List.Mem.tail _ (List.Mem.tail _ (List.Mem.head _)))), h52, ?_⟩
      refine O.retV fun H O => ?_
      obtain ⟨rest_o_53, h54, hm⟩ := bndE hm
      refine ⟨_, rfl, ?_⟩
      refine x_nil ?_
      refine ⟨_, _, rest_o_53, rfl, (O.mem (List.Mem.tail _ (List.Mem.head _))), h54, ?_⟩
      refine O.retV fun H O => ?_
      refine k_eqI ?_
      refine ⟨_, rfl, ?_⟩
      refine k_eqB ?_
      obtain rfl := Option.some.inj hm
      exact RetV.goR k O eB
end
theorem walk {l : PySem.W.OpenLaw} {q : Program} {loose : List Str} {XP : (Str → Option Value) → Heap → Prop} {YP : World → Heap → Prop} {d : DefRec} {K : Params → PySem.W.Frag} (M : ∀ ns : List Int, ns.length ≤ 63 → m_law ns = some true) (hn : l.most = some 63) (hdf : d.params.defaults = [])
    (hY : ∀ (w : World) (h : Heap), YP w h → (K w.params).In h)
    (F : ∀ (w : World) (mg : Str → Option Value) (fa : Addr) (h : Heap), (K w.params).In h → h.Ns mainGlobals mg → mg d.name = some (.ref fa) →
      ∃ fd : FuncData, (∀ (s : Shared) (u : Value), BindsTo s fd ⟨[u], []⟩ [("script", u)]) ∧ ∀ base : Heap, (K w.params).In base → base.Ns mainGlobals mg → FnOk l.prog w (K w.params) mg base CX0 4 fa fd ["script"] (sp_law (K w.params))) :
    PySem.W.WalkO q loose XP YP l.row.toRowW d [] (fun f vs => PySem.call f vs) :=
  L2.walk_of (n := 63) (k := 4) (x := "script") (CX := fun _ => CX0) (sp := fun w => sp_law (K w.params)) hn (by decide) hdf ⟨rfl, by decide, by decide⟩ hY F (fun _ _ a ns hl _ hS => ⟨ns, a, true, rfl, hS, M ns hl, fun _ _ => rfl⟩) fun _ _ _ _ _ z => z
theorem pack {K : PySem.W.Frag} {h : Heap} {mg : Str → Option Value} (X : K.In h) (G : h.Ns mainGlobals mg) {A_NoKey : Addr} (a_NoKey : PySem.W.nsIn K mainGlobals "NoKey" = some (some (.ref A_NoKey))) (e_NoKey : PySem.W.excIn K A_NoKey [.type "ValueError", .type "Exception", .type "BaseException", .type "object"] "ValueError.__new__" = true) (k_NoKey : PySem.W.keepIn K (.ref A_NoKey) = true) (s_NoKey : PySem.W.subIn K (.ref A_NoKey) (.type "BaseException") = some true) (t_NoKey : PySem.W.typeIn K (.ref A_NoKey) = some (.type "type")) :
  ∃ es : Eds, mg "NoKey" = some (.ref es.NoKey) ∧ ErrC K mg "NoKey" es.NoKey :=
  ⟨(⟨A_NoKey, A_NoKey, A_NoKey, A_NoKey, A_NoKey, A_NoKey, A_NoKey, A_NoKey, A_NoKey, A_NoKey, A_NoKey⟩ : Eds), PySem.W.mg_of X G a_NoKey, ⟨PySem.W.mg_of X G a_NoKey, e_NoKey, k_NoKey, s_NoKey, t_NoKey⟩⟩
end Bt

/-! Sums without carries, over Nat. -/
namespace Bt
open PySem L2
theorem bx (a b : Nat) : Builtin.bitXor (a : Int) (b : Int) = ((a ^^^ b : Nat) : Int) := Bits.bitXor_pp (Int.natCast_nonneg a) (Int.natCast_nonneg b)
theorem ba (a b : Nat) : Builtin.bitAnd (a : Int) (b : Int) = ((a &&& b : Nat) : Int) := PyProof.Rows.bitAnd_pp (Int.natCast_nonneg a) (Int.natCast_nonneg b)
theorem ba1 (a : Nat) : Builtin.bitAnd (a : Int) 1 = ((a % 2 : Nat) : Int) := by
  have h := ba a 1
  rw [Nat.and_one_is_mod] at h
  exact h
/-- the product without carries -/
def clm (a b : Nat) : Nat := if h : b = 0 then 0 else (if b % 2 = 1 then a else 0) ^^^ clm (2 * a) (b / 2)
termination_by b
decreasing_by omega
theorem clm_zero (a : Nat) : clm a 0 = 0 := by unfold clm; rfl
theorem clm_step (a b : Nat) : clm a b = (if b % 2 = 1 then a else 0) ^^^ clm (2 * a) (b / 2) := by
  by_cases h : b = 0
  · subst h
    rw [clm_zero]
    simp [clm_zero]
  · rw [clm]
    simp [h]
theorem xor4 (a b c d : Nat) : (a ^^^ b) ^^^ (c ^^^ d) = (a ^^^ c) ^^^ (b ^^^ d) := by
  rw [Nat.xor_assoc, Nat.xor_assoc, ← Nat.xor_assoc b c d, Nat.xor_comm b c, Nat.xor_assoc c b d]
theorem two_xor (a b : Nat) : 2 * (a ^^^ b) = (2 * a) ^^^ (2 * b) := by
  have h1 := Nat.xor_div_two (a := 2 * a) (b := 2 * b)
  have h2 := Nat.xor_mod_two_eq_one (a := 2 * a) (b := 2 * b)
  rw [show 2 * a / 2 = a from by omega, show 2 * b / 2 = b from by omega] at h1
  have h3 : ¬ (2 * a ^^^ 2 * b) % 2 = 1 := by rw [h2]; omega
  omega
theorem two_xor1 (k : Nat) : (2 * k) ^^^ 1 = 2 * k + 1 := by
  have h1 := Nat.xor_div_two (a := 2 * k) (b := 1)
  have h2 := Nat.xor_mod_two_eq_one (a := 2 * k) (b := 1)
  rw [show 2 * k / 2 = k from by omega, show 1 / 2 = 0 from rfl, Nat.xor_zero] at h1
  have h3 : (2 * k ^^^ 1) % 2 = 1 := by rw [h2]; omega
  omega
theorem clm_xor_right : ∀ (n : Nat) (a b c : Nat), b + c ≤ n → clm a (b ^^^ c) = clm a b ^^^ clm a c
  | 0, a, b, c, h => by
    obtain ⟨rfl, rfl⟩ : b = 0 ∧ c = 0 := by omega
    simp [clm_zero]
  | n + 1, a, b, c, h => by
    by_cases h0 : b = 0 ∧ c = 0
    · obtain ⟨rfl, rfl⟩ := h0
      simp [clm_zero]
    rw [clm_step a (b ^^^ c), clm_step a b, clm_step a c, Nat.xor_div_two, clm_xor_right n (2 * a) (b / 2) (c / 2) (by omega), xor4]
    congr 1
    have hm := Nat.xor_mod_two_eq_one (a := b) (b := c)
    by_cases h1 : b % 2 = 1 <;> by_cases h2 : c % 2 = 1
    · rw [if_neg (by rw [hm]; simp [h1, h2]), if_pos h1, if_pos h2, Nat.xor_self]
    · rw [if_pos (by rw [hm]; simp [h1, h2]), if_pos h1, if_neg h2, Nat.xor_zero]
    · rw [if_pos (by rw [hm]; simp [h1, h2]), if_neg h1, if_pos h2, Nat.zero_xor]
    · rw [if_neg (by rw [hm]; simp [h1, h2]), if_neg h1, if_neg h2, Nat.xor_zero]
theorem clm_xr (a b c : Nat) : clm a (b ^^^ c) = clm a b ^^^ clm a c := clm_xor_right _ a b c (Nat.le_refl _)
theorem clm_two : ∀ (n a b : Nat), b ≤ n → clm (2 * a) b = 2 * clm a b
  | 0, a, b, h => by
    obtain rfl : b = 0 := by omega
    rw [clm_zero, clm_zero]
  | n + 1, a, b, h => by
    by_cases h0 : b = 0
    · subst h0; rw [clm_zero, clm_zero]
    rw [clm_step (2 * a) b, clm_step a b, clm_two n (2 * a) (b / 2) (by omega), two_xor]
    congr 1
    by_cases h1 : b % 2 = 1
    · rw [if_pos h1, if_pos h1]
    · rw [if_neg h1, if_neg h1]
theorem clm_tl (a b : Nat) : clm (2 * a) b = 2 * clm a b := clm_two b a b (Nat.le_refl _)
theorem clm_xl : ∀ (n a b c : Nat), c ≤ n → clm (a ^^^ b) c = clm a c ^^^ clm b c
  | 0, a, b, c, h => by
    obtain rfl : c = 0 := by omega
    simp [clm_zero]
  | n + 1, a, b, c, h => by
    by_cases h0 : c = 0
    · subst h0; simp [clm_zero]
    rw [clm_step (a ^^^ b) c, clm_step a c, clm_step b c, two_xor, clm_xl n (2 * a) (2 * b) (c / 2) (by omega), xor4]
    congr 1
    by_cases h1 : c % 2 = 1
    · rw [if_pos h1, if_pos h1, if_pos h1]
    · rw [if_neg h1, if_neg h1, if_neg h1, Nat.xor_zero]
theorem clm_xl' (a b c : Nat) : clm (a ^^^ b) c = clm a c ^^^ clm b c := clm_xl c a b c (Nat.le_refl _)
theorem clm_tr (a b : Nat) : clm a (2 * b) = 2 * clm a b := by
  rw [clm_step a (2 * b), if_neg (by omega), Nat.zero_xor, show 2 * b / 2 = b from by omega, clm_tl]
theorem zero_clm : ∀ (n b : Nat), b ≤ n → clm 0 b = 0
  | 0, b, h => by
    obtain rfl : b = 0 := by omega
    exact clm_zero 0
  | n + 1, b, h => by
    by_cases h0 : b = 0
    · subst h0; exact clm_zero 0
    rw [clm_step, zero_clm n (b / 2) (by omega)]
    split <;> rfl
theorem clm_zl (b : Nat) : clm 0 b = 0 := zero_clm b b (Nat.le_refl _)
theorem one_clm : ∀ (n b : Nat), b ≤ n → clm 1 b = b
  | 0, b, h => by
    obtain rfl : b = 0 := by omega
    exact clm_zero 1
  | n + 1, b, h => by
    by_cases h0 : b = 0
    · subst h0; exact clm_zero 1
    rw [clm_step, clm_tl 1, one_clm n (b / 2) (by omega)]
    by_cases h1 : b % 2 = 1
    · rw [if_pos h1]
      rw [Nat.xor_comm, two_xor1]
      omega
    · rw [if_neg h1, Nat.zero_xor]
      omega
theorem clm_ol (b : Nat) : clm 1 b = b := one_clm b b (Nat.le_refl _)
theorem clm_or (a : Nat) : clm a 1 = a := by
  rw [clm_step, if_pos rfl, show 1 / 2 = 0 from rfl, clm_zero, Nat.xor_zero]
theorem split_bit (b : Nat) : b = (2 * (b / 2)) ^^^ (b % 2) := by
  rcases Nat.mod_two_eq_zero_or_one b with h | h
  · rw [h, Nat.xor_zero]; omega
  · rw [h, two_xor1]
    omega
theorem clm_cm : ∀ (n a b : Nat), b ≤ n → clm a b = clm b a
  | 0, a, b, h => by
    obtain rfl : b = 0 := by omega
    rw [clm_zero, clm_zl]
  | n + 1, a, b, h => by
    by_cases h0 : b = 0
    · subst h0; rw [clm_zero, clm_zl]
    have e := split_bit b
    have ih := clm_cm n a (b / 2) (by omega)
    have h1 : clm a b = 2 * clm a (b / 2) ^^^ clm a (b % 2) := by
      conv => lhs; rw [e]
      rw [clm_xr, clm_tr]
    have h2 : clm b a = 2 * clm (b / 2) a ^^^ clm (b % 2) a := by
      conv => lhs; rw [e]
      rw [clm_xl', clm_tl]
    rw [h1, h2, ih]
    congr 1
    rcases Nat.mod_two_eq_zero_or_one b with q | q
    · rw [q, clm_zero, clm_zl]
    · rw [q, clm_or, clm_ol]
theorem clm_comm (a b : Nat) : clm a b = clm b a := clm_cm b a b (Nat.le_refl _)
/-- the same, power by power -/
def pws (a b : Nat) : Nat → Nat
  | 0 => 0
  | n + 1 => pws a b n ^^^ (if b / 2 ^ n % 2 = 1 then a * 2 ^ n else 0)
theorem pws_shift (a b : Nat) : ∀ n : Nat, pws a b (n + 1) = (if b % 2 = 1 then a else 0) ^^^ pws (2 * a) (b / 2) n
  | 0 => by simp [pws]
  | n + 1 => by
    have ih := pws_shift a b n
    show pws a b (n + 1) ^^^ _ = _ ^^^ (pws (2 * a) (b / 2) n ^^^ _)
    rw [ih, Nat.xor_assoc]
    have e1 : b / 2 ^ (n + 1) = b / 2 / 2 ^ n := by rw [Nat.div_div_eq_div_mul, Nat.pow_succ, Nat.mul_comm]
    have e2 : a * 2 ^ (n + 1) = 2 * a * 2 ^ n := by rw [Nat.pow_succ]; ac_rfl
    rw [e1, e2]
theorem pws_clm : ∀ (n a b : Nat), b < 2 ^ n → pws a b n = clm a b
  | 0, a, b, h => by
    obtain rfl : b = 0 := by simp at h; omega
    rw [clm_zero]; rfl
  | n + 1, a, b, h => by
    rw [pws_shift, clm_step, pws_clm n (2 * a) (b / 2) (by rw [Nat.pow_succ] at h; omega)]
end Bt
namespace Bt
open PySem L2
theorem shrN (a k : Nat) : shrG (a : Int) (k : Int) = some ((a / 2 ^ k : Nat) : Int) := by
  rw [shrG_ok (by omega), Int.toNat_natCast, Int.natCast_ediv, Int.natCast_pow]; rfl
theorem shlN {a n : Nat} (k : Nat) (h : a < 2 ^ n) (hn : n + k ≤ 90000000) : shlG (a : Int) (k : Int) = some ((a * 2 ^ k : Nat) : Int) := by
  rw [shlG_ok (n := n) (by omega) (by omega) (by omega), Int.toNat_natCast, Int.natCast_mul, Int.natCast_pow]; rfl
theorem emod_nat {z m : Int} (hm : 0 < m) : ∃ n : Nat, z % m = (n : Int) ∧ (n : Int) < m := by
  obtain ⟨n, hn⟩ := Int.eq_ofNat_of_zero_le (Int.emod_nonneg z (by omega : m ≠ 0))
  exact ⟨n, hn, by rw [← hn]; exact Int.emod_lt_of_pos z hm⟩
theorem testBit_div (x k : Nat) : x.testBit k = decide (x / 2 ^ k % 2 = 1) := by
  rw [Nat.testBit_eq_decide_div_mod_eq]
end Bt

/-! The laws' own draw: the same text in all of them. -/
namespace Bt
open PySem L2
theorem draw_ok (ns : List Int) (k many : Int) (hk : 0 ≤ k) (hk2 : k ≤ 1000000000) (hm : 0 < many) : ∃ v, m__law_draw ns k many = some v ∧ 0 ≤ v ∧ v < many := by
  have hc : ∃ c, (ifB (decide ((0 : Int) < (List.length ns : Int))) (bnd (modG k (List.length ns : Int)) fun t => bnd (atI ns t) fun e => some e) (some (0 : Int))) = some c := by
    by_cases h : (0 : Int) < (List.length ns : Int)
    · rw [decide_eq_true h, ifB_t, modG_ok h, bnd_some]
      obtain ⟨x, hx, _⟩ := atI_mem (xs := ns) (i := k % (ns.length : Int)) (Int.emod_nonneg _ (by omega)) (Int.emod_lt_of_pos _ h)
      exact ⟨x, by rw [hx]; rfl⟩
    · rw [decide_eq_false h]
      exact ⟨0, rfl⟩
  obtain ⟨c, hc⟩ := hc
  refine ⟨(((c % 1000003 + 31 * k * k + 1) * 48271 % 999983) * 7919 % 524287) % many, ?_, Int.emod_nonneg _ (by omega), Int.emod_lt_of_pos _ hm⟩
  unfold m__law_draw
  rw [bnd_of hc, mulG_ok (a := 40) (b := 40) (by omega) (by omega) (by omega), bnd_some, ltv_eq, modG_ok hm, bnd_some]
end Bt

namespace Bt
open PySem L2
def Bits (xs : List Int) : Prop := ∀ b ∈ xs, b = 0 ∨ b = 1
theorem Bits.app {xs ys : List Int} (h : Bits xs) (k : Bits ys) : Bits (xs ++ ys) := fun b hb => by
  rcases List.mem_append.mp hb with q | q
  · exact h b q
  · exact k b q
theorem Bits.one {b : Int} (h : b = 0 ∨ b = 1) : Bits [b] := fun c hc => by rw [List.mem_singleton.mp hc]; exact h
theorem Bits.drop {xs : List Int} (h : Bits xs) (n : Nat) : Bits (xs.drop n) := fun b hb => h b (List.mem_of_mem_drop hb)
theorem Bits.rep {b : Int} (h : b = 0 ∨ b = 1) (n : Nat) : Bits (List.replicate n b) := fun c hc => by rw [List.eq_of_mem_replicate hc]; exact h
def ci (qs : List Nat) : List Int := qs.map fun (q : Nat) => (q : Int)
theorem ci_of : ∀ (l : List Int) (m : Nat), (∀ y ∈ l, ∃ n : Nat, y = (n : Int) ∧ n < m) → ∃ D, l = ci D ∧ ∀ d ∈ D, d < m
  | [], _, _ => ⟨[], rfl, fun _ h => (nomatch h)⟩
  | y :: r, m, h => by
    obtain ⟨n, rfl, hn⟩ := h y (List.Mem.head _)
    obtain ⟨D, rfl, hD⟩ := ci_of r m fun z hz => h z (List.Mem.tail _ hz)
    refine ⟨n :: D, rfl, fun d hd => ?_⟩
    rcases List.mem_cons.mp hd with rfl | hd
    · exact hn
    · exact hD d hd
theorem ci_len (D : List Nat) : (ci D).length = D.length := by simp [ci]
theorem ci_mem {D : List Nat} {x : Int} (h : x ∈ ci D) : ∃ d ∈ D, x = (d : Int) := by
  obtain ⟨d, hd, rfl⟩ := List.mem_map.mp h
  exact ⟨d, hd, rfl⟩
theorem cut_mem {α : Type} {xs : List α} {lo hi : Option Int} {x : α} (h : x ∈ cutL xs lo hi) : x ∈ xs := by
  unfold cutL at h
  exact List.mem_of_mem_drop (List.mem_of_mem_take h)
theorem cut_len {α : Type} (xs : List α) (lo hi : Option Int) : (cutL xs lo hi).length ≤ xs.length := by
  unfold cutL
  rw [List.length_take, List.length_drop]
  omega
theorem draw2 (ns : List Int) (k : Int) (hk : 0 ≤ k) (hk2 : k ≤ 1000000000) : ∃ v, m__law_draw ns k 2 = some v ∧ (v = 0 ∨ v = 1) := by
  obtain ⟨v, h1, h2, h3⟩ := draw_ok ns k 2 hk hk2 (by decide)
  exact ⟨v, h1, by omega⟩
end Bt

/-! Rests by a key, over Nat, and numbers of bits. -/
namespace Bt
open PySem L2
theorem xor_top {x y m : Nat} (h1 : 2 ^ m ≤ x) (h2 : x < 2 ^ (m + 1)) (h3 : y < 2 ^ m) : 2 ^ m ≤ x ^^^ y ∧ x ^^^ y < 2 ^ (m + 1) := by
  have e := Nat.xor_div_two_pow (a := x) (b := y) (n := m)
  rw [Nat.pow_succ] at h2 ⊢
  have hp : 0 < 2 ^ m := Nat.two_pow_pos m
  have e1 : x / 2 ^ m = 1 := by
    rw [Nat.div_eq_iff hp]; omega
  have e2 : y / 2 ^ m = 0 := Nat.div_eq_of_lt h3
  rw [e1, e2, Nat.xor_zero] at e
  have h4 := (Nat.div_eq_iff hp).mp e
  omega
theorem xor_cancel {x y m : Nat} (h1 : 2 ^ m ≤ x) (h2 : x < 2 ^ (m + 1)) (h3 : 2 ^ m ≤ y) (h4 : y < 2 ^ (m + 1)) : x ^^^ y < 2 ^ m := by
  have e := Nat.xor_div_two_pow (a := x) (b := y) (n := m)
  rw [Nat.pow_succ] at h2 h4
  have hp : 0 < 2 ^ m := Nat.two_pow_pos m
  have e1 : x / 2 ^ m = 1 := by
    rw [Nat.div_eq_iff hp]; omega
  have e2 : y / 2 ^ m = 1 := by
    rw [Nat.div_eq_iff hp]; omega
  rw [e1, e2, Nat.xor_self] at e
  exact (Nat.div_eq_zero_iff_lt hp).mp e
theorem clm_top : ∀ (t a b s : Nat), 2 ^ s ≤ a → a < 2 ^ (s + 1) → 2 ^ t ≤ b → b < 2 ^ (t + 1) → 2 ^ (s + t) ≤ clm a b ∧ clm a b < 2 ^ (s + t + 1)
  | 0, a, b, s, h1, h2, h3, h4 => by
    obtain rfl : b = 1 := by simp at h3 h4; omega
    rw [clm_or]
    exact ⟨h1, h2⟩
  | t + 1, a, b, s, h1, h2, h3, h4 => by
    have e := split_bit b
    have ih := clm_top t a (b / 2) s h1 h2 (by rw [Nat.pow_succ] at h3; omega) (by rw [Nat.pow_succ] at h4; omega)
    have h5 : clm a b = 2 * clm a (b / 2) ^^^ clm a (b % 2) := by
      conv => lhs; rw [e]
      rw [clm_xr, clm_tr]
    rw [h5]
    have h6 : clm a (b % 2) < 2 ^ (s + (t + 1)) := by
      have : 2 ^ (s + 1) ≤ 2 ^ (s + (t + 1)) := Nat.pow_le_pow_right (by decide) (by omega)
      rcases Nat.mod_two_eq_zero_or_one b with q | q
      · rw [q, clm_zero]; exact Nat.two_pow_pos _
      · rw [q, clm_or]; omega
    refine xor_top ?_ ?_ h6
    · rw [show s + (t + 1) = s + t + 1 from rfl, Nat.pow_succ]; omega
    · rw [show s + (t + 1) + 1 = s + t + 1 + 1 from rfl, Nat.pow_succ]; omega
theorem log_of {n : Nat} (h : n ≠ 0) : ∃ t, 2 ^ t ≤ n ∧ n < 2 ^ (t + 1) := ⟨n.log2, Nat.log2_self_le h, Nat.lt_log2_self⟩
theorem clm_small {a w s : Nat} (h1 : 2 ^ s ≤ a) (h2 : a < 2 ^ (s + 1)) (h3 : clm a w < 2 ^ s) : w = 0 := by
  by_cases h : w = 0
  · exact h
  · obtain ⟨t, h4, h5⟩ := log_of h
    have h6 := (clm_top t a w s h1 h2 h4 h5).1
    have : 2 ^ s ≤ 2 ^ (s + t) := Nat.pow_le_pow_right (by decide) (by omega)
    omega
theorem xor_zero_eq {a b : Nat} (h : a ^^^ b = 0) : a = b := by
  have h2 : a ^^^ b ^^^ b = b := by rw [h, Nat.zero_xor]
  rw [Nat.xor_assoc, Nat.xor_self, Nat.xor_zero] at h2
  exact h2
theorem xor_move {a b c d : Nat} (h : a ^^^ b = c ^^^ d) : a ^^^ c = b ^^^ d := by
  have : (a ^^^ b) ^^^ (c ^^^ d) = 0 := by rw [h, Nat.xor_self]
  rw [xor4] at this
  exact xor_zero_eq this
theorem rest_one {key s w r w' r' : Nat} (h1 : 2 ^ s ≤ key) (h2 : key < 2 ^ (s + 1)) (h3 : r < 2 ^ s) (h4 : r' < 2 ^ s) (h : clm key w ^^^ r = clm key w' ^^^ r') : w = w' ∧ r = r' := by
  have h5 := xor_move h
  rw [← clm_xr] at h5
  have h6 : clm key (w ^^^ w') < 2 ^ s := by rw [h5]; exact Nat.xor_lt_two_pow h3 h4
  have h7 := clm_small h1 h2 h6
  refine ⟨xor_zero_eq h7, xor_zero_eq ?_⟩
  rw [← h5, h7, clm_zero]
/-- r is the rest of n by the key of the checks -/
def IsR (n r : Nat) : Prop := r < 32768 ∧ ∃ w, n = clm 64647 w ^^^ r
theorem IsR.uniq {n r r' : Nat} (h : IsR n r) (k : IsR n r') : r = r' := by
  obtain ⟨h1, w, h2⟩ := h
  obtain ⟨h3, w', h4⟩ := k
  exact (rest_one (s := 15) (key := 64647) (by decide) (by decide) h1 h3 (h2.symm.trans h4)).2
theorem IsR.xor {n m r s : Nat} (h : IsR n r) (k : IsR m s) : IsR (n ^^^ m) (r ^^^ s) := by
  obtain ⟨h1, w, h2⟩ := h
  obtain ⟨h3, w', h4⟩ := k
  refine ⟨Nat.xor_lt_two_pow (n := 15) h1 h3, w ^^^ w', ?_⟩
  rw [h2, h4, clm_xr, xor4]
theorem IsR.small {r : Nat} (h : r < 32768) : IsR r r := ⟨h, 0, by rw [clm_zero, Nat.zero_xor]⟩
/-- one bit more behind -/
def hst (r b : Nat) : Nat := if 32768 ≤ 2 * r + b then (2 * r + b) ^^^ 64647 else 2 * r + b
theorem add_bit {a b : Nat} (h : b ≤ 1) : 2 * a + b = 2 * a ^^^ b := by
  rcases (show b = 0 ∨ b = 1 by omega) with rfl | rfl
  · rw [Nat.xor_zero]; rfl
  · rw [two_xor1]
theorem IsR.step {n r b : Nat} (h : IsR n r) (hb : b ≤ 1) : IsR (2 * n + b) (hst r b) := by
  obtain ⟨h1, w, h2⟩ := h
  have e : 2 * n + b = clm 64647 (2 * w) ^^^ (2 * r + b) := by
    rw [add_bit hb, add_bit hb, h2, two_xor, clm_tr, Nat.xor_assoc]
  unfold hst
  by_cases c : 32768 ≤ 2 * r + b
  · rw [if_pos c]
    refine ⟨xor_cancel (m := 15) c (by show _ < 65536; omega) (by decide) (by decide), 2 * w + 1, ?_⟩
    rw [e, add_bit (a := w) (by decide), clm_xr, clm_or, Nat.xor_comm (2 * r + b), Nat.xor_assoc, ← Nat.xor_assoc 64647 64647, Nat.xor_self, Nat.zero_xor]
  · rw [if_neg c]
    exact ⟨by omega, 2 * w, e⟩
/-- the number that bits write, behind a number -/
def hn (a : Nat) : List Int → Nat
  | [] => a
  | b :: r => hn (2 * a + b.toNat) r
def hr (a : Nat) : List Int → Nat
  | [] => a
  | b :: r => hr (hst a b.toNat) r
theorem bit_le {b : Int} (h : b = 0 ∨ b = 1) : b.toNat ≤ 1 := by omega
theorem Bits.hd {b : Int} {r : List Int} (h : Bits (b :: r)) : b = 0 ∨ b = 1 := h b (List.Mem.head _)
theorem Bits.tl {b : Int} {r : List Int} (h : Bits (b :: r)) : Bits r := fun c hc => h c (List.Mem.tail _ hc)
theorem hr_is : ∀ (xs : List Int) (a r : Nat), Bits xs → IsR a r → IsR (hn a xs) (hr r xs)
  | [], a, r, _, h => h
  | b :: xs, a, r, hb, h => hr_is xs (2 * a + b.toNat) (hst r b.toNat) hb.tl (h.step (bit_le hb.hd))
theorem hn_app : ∀ (xs ys : List Int) (a : Nat), hn a (xs ++ ys) = hn (hn a xs) ys
  | [], _, _ => rfl
  | b :: xs, ys, a => hn_app xs ys _
theorem hn_lt : ∀ (xs : List Int) (a n : Nat), Bits xs → a < 2 ^ n → hn a xs < 2 ^ (n + xs.length)
  | [], a, n, _, h => h
  | b :: xs, a, n, hb, h => by
    have := hn_lt xs (2 * a + b.toNat) (n + 1) hb.tl (by have := bit_le hb.hd; rw [Nat.pow_succ]; omega)
    rw [show n + (b :: xs).length = n + 1 + xs.length by simp only [List.length_cons]; omega]
    exact this
def zs (n : Nat) : List Int := List.replicate n 0
theorem zs_bits (n : Nat) : Bits (zs n) := Bits.rep (.inl rfl) n
theorem hn_xor : ∀ (ys : List Int) (a c : Nat), Bits ys → hn (a ^^^ c) ys = hn a (zs ys.length) ^^^ hn c ys
  | [], a, c, _ => rfl
  | b :: ys, a, c, hb => by
    show hn (2 * (a ^^^ c) + b.toNat) ys = hn (2 * a) (zs ys.length) ^^^ hn (2 * c + b.toNat) ys
    rw [← hn_xor ys (2 * a) (2 * c + b.toNat) hb.tl]
    congr 1
    have h := bit_le hb.hd
    rw [add_bit h, add_bit h, two_xor, Nat.xor_assoc]
theorem hn_tail (xs ys : List Int) (hy : Bits ys) : hn 0 (xs ++ ys) = hn 0 (xs ++ zs ys.length) ^^^ hn 0 ys := by
  rw [hn_app, hn_app, ← hn_xor ys (hn 0 xs) 0 hy, Nat.xor_zero]
/-- the bits of a number -/
def bl (c n : Nat) : List Int := (List.range n).map fun k => ((c / 2 ^ (n - 1 - k) % 2 : Nat) : Int)
theorem bl_len (c n : Nat) : (bl c n).length = n := by simp [bl]
theorem bl_bits (c n : Nat) : Bits (bl c n) := fun b hb => by
  obtain ⟨k, _, rfl⟩ := List.mem_map.mp hb
  omega
theorem bl_succ (c n : Nat) : bl c (n + 1) = bl (c / 2) n ++ [((c % 2 : Nat) : Int)] := by
  unfold bl
  rw [List.range_succ, List.map_append]
  congr 1
  · refine List.map_congr_left fun k hk => ?_
    have := List.mem_range.mp hk
    rw [Nat.div_div_eq_div_mul, show n + 1 - 1 - k = (n - 1 - k) + 1 by omega, Nat.pow_succ, Nat.mul_comm]
  · simp
theorem hn_bl : ∀ (n c a : Nat), hn a (bl c n) = a * 2 ^ n + c % 2 ^ n
  | 0, c, a => by simp [bl, hn, Nat.mod_one]
  | n + 1, c, a => by
    rw [bl_succ, hn_app, hn_bl n (c / 2) a]
    show 2 * (a * 2 ^ n + c / 2 % 2 ^ n) + (((c % 2 : Nat) : Int)).toNat = _
    rw [Int.toNat_natCast, Nat.pow_succ, Nat.mul_comm (2 ^ n) 2, Nat.mod_mul]
    have : a * (2 * 2 ^ n) = 2 * (a * 2 ^ n) := by ac_rfl
    omega
theorem hn_bl0 {n c : Nat} (h : c < 2 ^ n) : hn 0 (bl c n) = c := by
  rw [hn_bl, Nat.zero_mul, Nat.zero_add, Nat.mod_eq_of_lt h]
theorem nb_small {a t : Nat} (h : a < 2 ^ t) : Builtin.Int.intBits (a : Int) ≤ t := bits_le (by omega)
theorem nb_big {a t : Nat} (h : 2 ^ t ≤ a) : t < Builtin.Int.intBits (a : Int) := by
  have hp : 0 < 2 ^ t := Nat.two_pow_pos t
  unfold Builtin.Int.intBits
  split
  · rename_i h0
    simp at h0
    omega
  · rename_i h0
    have h1 : a ≠ 0 := by omega
    have h2 : ¬ a.log2 < t := fun q => by
      have := (Nat.log2_lt h1).mp q
      omega
    rw [Int.natAbs_natCast]
    omega
theorem nb_eq {a t : Nat} (h1 : 2 ^ t ≤ a) (h2 : a < 2 ^ (t + 1)) : Builtin.Int.intBits (a : Int) = t + 1 := by
  have := nb_small h2
  have := nb_big h1
  omega
theorem nb_lt {a t : Nat} : Builtin.Int.intBits (a : Int) ≤ t → a < 2 ^ t := fun h => by
  by_cases q : a < 2 ^ t
  · exact q
  · have := nb_big (Nat.le_of_not_lt q)
    omega
end Bt

/-! The program's own rests: any law that has rests_of. -/
namespace Bt
open PySem L2
/-- one power further, divided by the key -/
def rst (r : Nat) : Nat := if 32768 ≤ 2 * r then 2 * r ^^^ 64647 else 2 * r
def rs : Nat → Nat
  | 0 => 1
  | n + 1 => rst (rs n)
theorem rst_lt {r : Nat} (h : r < 32768) : rst r < 32768 := by
  unfold rst
  by_cases c : 32768 ≤ 2 * r
  · rw [if_pos c]
    have h1 : 2 * r ^^^ 64647 < 2 ^ 16 := Nat.xor_lt_two_pow (by omega) (by decide)
    have h2 : (2 * r ^^^ 64647) / 2 ^ 15 = 0 := by
      rw [Nat.xor_div_two_pow]
      have : 2 * r / 2 ^ 15 = 1 := by omega
      rw [this]
      decide
    omega
  · rw [if_neg c]; omega
theorem rs_lt : ∀ n, rs n < 32768
  | 0 => by decide
  | n + 1 => rst_lt (rs_lt n)
def rl (n : Nat) : List Int := (List.range n).map fun k => ((rs k : Nat) : Int)
theorem rl_len (n : Nat) : (rl n).length = n := by simp [rl]
theorem rl_succ (n : Nat) : rl (n + 1) = rl n ++ [((rs n : Nat) : Int)] := by simp [rl, List.range_succ]
theorem rests_step (many i : Nat) (hi : i < 100000) : m_rests_of_W0 many (rl i) (rs i) = some (rl (i + 1), ((rs (i + 1) : Nat) : Int)) := by
  have h := rs_lt i
  unfold m_rests_of_W0
  rw [appG_ok (by rw [rl_len]; omega), bnd_some, shlG_ok (n := 15) (by omega) (by decide) (by decide), bnd_some, shrG_ok (by decide), bnd_some]
  have e1 : ((rs i : Nat) : Int) * 2 ^ (1 : Int).toNat = ((2 * rs i : Nat) : Int) := by
    rw [show (2 : Int) ^ (1 : Int).toNat = 2 from rfl]; omega
  have e2 : ((2 * rs i : Nat) : Int) / 2 ^ (15 : Int).toNat = ((2 * rs i / 32768 : Nat) : Int) := by
    rw [show (2 : Int) ^ (15 : Int).toNat = 32768 from rfl]; omega
  rw [e1, e2, ifB_dec, rl_succ]
  have e3 : rs (i + 1) = rst (rs i) := rfl
  rw [e3]
  unfold rst
  by_cases c : 32768 ≤ 2 * rs i
  · rw [if_pos (by omega), if_pos c, show (64647 : Int) = ((64647 : Nat) : Int) from rfl, bx]
  · rw [if_neg (by omega), if_neg c]
theorem rests_loop (many : Nat) (hm : many ≤ 1000) : ∀ (d i n : Nat), many - i = d → i ≤ many → d < n → ∃ r, whileM (fun s => m_rests_of_W0c many s.1 s.2) (fun s => m_rests_of_W0 many s.1 s.2) n (rl i, ((rs i : Nat) : Int)) = some (rl many, r)
  | 0, i, n + 1, h, hi, _ => by
    obtain rfl : i = many := by omega
    rw [whileM_stop (by show m_rests_of_W0c i (rl i) _ = some false; unfold m_rests_of_W0c; rw [rl_len, decide_eq_false (by omega)])]
    exact ⟨_, rfl⟩
  | d + 1, i, n + 1, h, hi, hn => by
    rw [whileM_go (by show m_rests_of_W0c many (rl i) _ = some true; unfold m_rests_of_W0c; rw [rl_len, decide_eq_true (by omega)]) (rests_step many i (by omega))]
    exact rests_loop many hm d (i + 1) n (by omega) (by omega) (by omega)
  | 0, _, 0, _, _, h => absurd h (Nat.not_lt_zero _)
theorem rests_ok (many : Nat) (hm : many ≤ 1000) : m_rests_of many = some (rl many) := by
  obtain ⟨r, e⟩ := rests_loop many hm many 0 FUEL (by omega) (by omega) (by unfold FUEL; omega)
  unfold m_rests_of
  have e' : whileM (fun s => m_rests_of_W0c many s.1 s.2) (fun s => m_rests_of_W0 many s.1 s.2) FUEL (([] : List Int), (1 : Int)) = some (rl many, r) := e
  rw [e', bnd_some]
end Bt

/-! The program's own is_unseen: any law that has it. -/
namespace Bt
open PySem L2
theorem rs_is : ∀ k : Nat, IsR (2 ^ k) (rs k)
  | 0 => IsR.small (by decide)
  | k + 1 => by
    have h := (rs_is k).step (b := 0) (by decide)
    have e : hst (rs k) 0 = rs (k + 1) := rfl
    rw [e] at h
    rw [Nat.pow_succ, Nat.mul_comm]
    exact h
/-- the sum of the rests at some places, of the powers there -/
def xs : List Nat → Nat
  | [] => 0
  | q :: r => rs q ^^^ xs r
def ps : List Nat → Nat
  | [] => 0
  | q :: r => 2 ^ q ^^^ ps r
theorem xs_is : ∀ qs : List Nat, IsR (ps qs) (xs qs)
  | [] => IsR.small (by decide)
  | q :: r => (rs_is q).xor (xs_is r)
theorem fold_max : ∀ (l : List Int) (a : Int), a ≤ l.foldl (fun a y => if a < y then y else a) a ∧ (∀ y ∈ l, y ≤ l.foldl (fun a y => if a < y then y else a) a) ∧ (l.foldl (fun a y => if a < y then y else a) a = a ∨ l.foldl (fun a y => if a < y then y else a) a ∈ l)
  | [], a => ⟨Int.le_refl a, fun _ h => (nomatch h), .inl rfl⟩
  | y :: r, a => by
    obtain ⟨h1, h2, h3⟩ := fold_max r (if a < y then y else a)
    have h4 : a ≤ (if a < y then y else a) ∧ y ≤ (if a < y then y else a) ∧ ((if a < y then y else a) = a ∨ (if a < y then y else a) = y) := by
      by_cases c : a < y
      · rw [if_pos c]; exact ⟨by omega, by omega, .inr rfl⟩
      · rw [if_neg c]; exact ⟨by omega, by omega, .inl rfl⟩
    rw [List.foldl_cons]
    refine ⟨Int.le_trans h4.1 h1, fun z hz => ?_, ?_⟩
    · rcases List.mem_cons.mp hz with rfl | hz
      · exact Int.le_trans h4.2.1 h1
      · exact h2 z hz
    · rcases h3 with h3 | h3
      · rcases h4.2.2 with e | e
        · left; rw [h3]; exact e
        · right; rw [h3, e]; exact List.Mem.head _
      · right; exact List.Mem.tail _ h3
theorem max_ok (qs : List Nat) (h : ∀ q ∈ qs, q ≤ 900) : ∃ M : Nat, maxL (-1) (ci qs) + 1 = (M : Int) ∧ M ≤ 901 ∧ ∀ q ∈ qs, q < M := by
  cases qs with
  | nil => exact ⟨0, rfl, by decide, fun _ h => (nomatch h)⟩
  | cons q r =>
    obtain ⟨h1, h2, h3⟩ := fold_max (ci r) q
    have e : maxL (-1) (ci (q :: r)) = (ci r).foldl (fun a y => if a < y then y else a) (q : Int) := rfl
    rw [e]
    have hb : (ci r).foldl (fun a y => if a < y then y else a) (q : Int) ≤ 900 := by
      rcases h3 with h3 | h3
      · rw [h3]; have := h q (List.Mem.head _); omega
      · obtain ⟨z, hz, e⟩ := List.mem_map.mp h3
        rw [← e]; have := h z (List.Mem.tail _ hz); omega
    refine ⟨((ci r).foldl (fun a y => if a < y then y else a) (q : Int) + 1).toNat, by omega, by omega, fun z hz => ?_⟩
    rcases List.mem_cons.mp hz with rfl | hz
    · omega
    · have := h2 z (List.mem_map.mpr ⟨z, hz, rfl⟩)
      omega
theorem rl_at {M q : Nat} (h : q < M) : atI (rl M) (q : Int) = some ((rs q : Nat) : Int) := by
  rw [atI_ok (by omega) (by rw [rl_len]; omega), Int.toNat_natCast]
  unfold rl
  rw [List.getElem?_map, List.getElem?_range h]
  rfl
theorem unseen_loop (M : Nat) : ∀ (qs : List Nat) (t : Nat), (∀ q ∈ qs, q < M) → loopM (fun a s => m_is_unseen_L0 (rl M) a s) (ci qs) (t : Int) = some ((t ^^^ xs qs : Nat) : Int)
  | [], t, _ => by rw [show xs [] = 0 from rfl, Nat.xor_zero]; rfl
  | q :: r, t, h => by
    have hf : m_is_unseen_L0 (rl M) q t = some ((t ^^^ rs q : Nat) : Int) := by
      unfold m_is_unseen_L0
      rw [rl_at (h q (List.Mem.head _)), bnd_some, bx]
    show loopM _ ((q : Int) :: ci r) _ = _
    rw [loopM_go hf, unseen_loop M r _ fun z hz => h z (List.Mem.tail _ hz), Nat.xor_assoc]
    rfl
theorem unseen_ok (qs : List Nat) (h : ∀ q ∈ qs, q ≤ 900) : m_is_unseen (ci qs) = some (decide (xs qs = 0)) := by
  obtain ⟨M, e, h1, h2⟩ := max_ok qs h
  unfold m_is_unseen
  rw [e, rests_ok M (by omega), bnd_some, show (0 : Int) = ((0 : Nat) : Int) from rfl, unseen_loop M qs 0 h2, bnd_some, Nat.zero_xor]
  congr 1
  exact decide_eq_decide.mpr (by omega)
theorem hn_zs : ∀ (n a : Nat), hn a (zs n) = a * 2 ^ n
  | 0, a => by simp [zs, hn]
  | n + 1, a => by
    show hn (2 * a + 0) (zs n) = _
    rw [hn_zs n, Nat.pow_succ, Nat.add_zero]
    ac_rfl
theorem flip_at : ∀ (l : List Int) (p a : Nat), Bits l → p < l.length → ∃ b, l[p]? = some b ∧ (b = 0 ∨ b = 1) ∧ hn a (l.set p (1 - b)) = hn a l ^^^ 2 ^ (l.length - 1 - p)
  | [], p, a, _, h => absurd h (Nat.not_lt_zero _)
  | b :: r, 0, a, hb, _ => by
    refine ⟨b, rfl, hb.hd, ?_⟩
    show hn (2 * a + (1 - b).toNat) r = hn (2 * a + b.toNat) r ^^^ 2 ^ (r.length + 1 - 1 - 0)
    have e : 2 * a + (1 - b).toNat = 1 ^^^ (2 * a + b.toNat) := by
      rcases hb.hd with rfl | rfl
      · rw [Nat.xor_comm]; exact (two_xor1 a).symm
      · show 2 * a + 0 = 1 ^^^ (2 * a + 1)
        rw [← two_xor1 a, Nat.xor_comm, Nat.xor_assoc, Nat.xor_self, Nat.xor_zero, Nat.add_zero]
    rw [e, hn_xor r 1 _ hb.tl, hn_zs, Nat.one_mul, Nat.xor_comm]
    rfl
  | b :: r, p + 1, a, hb, h => by
    simp only [List.length_cons] at h
    obtain ⟨c, h1, h2, h3⟩ := flip_at r p (2 * a + b.toNat) hb.tl (by omega)
    refine ⟨c, by simpa using h1, h2, ?_⟩
    show hn (2 * a + b.toNat) (r.set p (1 - c)) = hn (2 * a + b.toNat) r ^^^ 2 ^ (r.length + 1 - 1 - (p + 1))
    rw [h3, show r.length + 1 - 1 - (p + 1) = r.length - 1 - p by omega]
theorem Bits.set {l : List Int} (h : Bits l) {p : Nat} {b : Int} (hb : b = 0 ∨ b = 1) : Bits (l.set p b) := fun c hc => by
  rcases List.mem_or_eq_of_mem_set hc with q | q
  · exact h c q
  · rw [q]; exact hb
end Bt

/-! The program's own number_of. -/
namespace Bt
open PySem L2
theorem bor1 {b : Nat} (a : Nat) (h : b ≤ 1) : Builtin.bitOr ((2 * a : Nat) : Int) (b : Int) = ((2 * a + b : Nat) : Int) := by
  rw [PyProof.Rows.bitOr_and, ba]
  have e : 2 * a &&& b = 0 := by
    rcases (show b = 0 ∨ b = 1 by omega) with rfl | rfl
    · exact Nat.and_zero _
    · rw [Nat.and_one_is_mod]; omega
  rw [e]
  omega
theorem number_loop : ∀ (xs : List Int) (a n : Nat), Bits xs → a < 2 ^ n → n + xs.length ≤ 1000000 → loopM (fun b s => m_number_of_L0 b s) xs (a : Int) = some ((hn a xs : Nat) : Int)
  | [], a, n, _, _, _ => rfl
  | b :: xs, a, n, hb, ha, hz => by
    simp only [List.length_cons] at hz
    have h1 := bit_le hb.hd
    have hf : m_number_of_L0 b a = some ((2 * a + b.toNat : Nat) : Int) := by
      unfold m_number_of_L0
      rw [shlG_ok (n := n) (by omega) (by decide) (by omega), bnd_some]
      have e : (a : Int) * 2 ^ (1 : Int).toNat = ((2 * a : Nat) : Int) := by
        rw [show (2 : Int) ^ (1 : Int).toNat = 2 from rfl]; omega
      have e2 : b = ((b.toNat : Nat) : Int) := by have := hb.hd; omega
      rw [e]
      conv => lhs; rw [e2]
      rw [bor1 a h1]
    rw [loopM_go hf]
    exact number_loop xs (2 * a + b.toNat) (n + 1) hb.tl (by rw [Nat.pow_succ]; omega) (by omega)
theorem number_ok (xs : List Int) (hb : Bits xs) (hz : xs.length ≤ 900000) : m_number_of xs = some ((hn 0 xs : Nat) : Int) := by
  unfold m_number_of
  rw [show (0 : Int) = ((0 : Nat) : Int) from rfl, number_loop xs 0 0 hb (by decide) (by omega), bnd_some]
end Bt

/-! The program's own divided. -/
namespace Bt
open PySem L2
theorem clm_pow (a : Nat) : ∀ t : Nat, clm a (2 ^ t) = a * 2 ^ t
  | 0 => by rw [Nat.pow_zero, clm_or, Nat.mul_one]
  | t + 1 => by rw [Nat.pow_succ, Nat.mul_comm (2 ^ t) 2, clm_tr, clm_pow a t]; ac_rfl
theorem div_loop {key s : Nat} (h1 : 2 ^ s ≤ key) (h2 : key < 2 ^ (s + 1)) (hs : s ≤ 10000) : ∀ (N n w fuel : Nat), n < 2 ^ N → N < fuel → N ≤ 1000000 →
    ∃ n' w' : Nat, whileM (fun s' => m_divided_W0c (key : Int) ((s + 1 : Nat) : Int) s'.1 s'.2) (fun s' => m_divided_W0 (key : Int) ((s + 1 : Nat) : Int) s'.1 s'.2) fuel ((n : Int), (w : Int)) = some ((n' : Int), (w' : Int)) ∧ n' < 2 ^ s ∧ n' ^^^ clm key w' = n ^^^ clm key w
  | _, _, _, 0, _, h, _ => absurd h (Nat.not_lt_zero _)
  | N, n, w, fuel + 1, hn, hf, hN => by
    by_cases c : n < 2 ^ s
    · have := nb_small c
      rw [whileM_stop (by show m_divided_W0c _ _ (n : Int) (w : Int) = some false; unfold m_divided_W0c; rw [decide_eq_false (by omega)])]
      exact ⟨n, w, rfl, c, rfl⟩
    · cases N with
      | zero =>
        have := Nat.two_pow_pos s
        simp at hn
        omega
      | succ N =>
        by_cases d : n < 2 ^ N
        · exact div_loop h1 h2 hs N n w (fuel + 1) d (by omega) (by omega)
        · have hsN : s ≤ N := by
            by_cases q : s ≤ N
            · exact q
            · have : 2 ^ (N + 1) ≤ 2 ^ s := Nat.pow_le_pow_right (by decide) (by omega)
              omega
          have hb := nb_eq (Nat.le_of_not_lt d) hn
          have hw : m_divided_W0 (key : Int) ((s + 1 : Nat) : Int) (n : Int) (w : Int) = some (((n ^^^ key * 2 ^ (N - s) : Nat) : Int), ((w ^^^ 2 ^ (N - s) : Nat) : Int)) := by
            unfold m_divided_W0
            have e : ((Builtin.Int.intBits (n : Int) : Int) - ((s + 1 : Nat) : Int)) = ((N - s : Nat) : Int) := by omega
            rw [ltv_eq, e, show (1 : Int) = ((1 : Nat) : Int) from rfl, shlN (n := 1) (N - s) (by decide) (by omega), bnd_some, ltv_eq, shlN (n := s + 1) (N - s) h2 (by omega), bnd_some, bx, bx, Nat.one_mul]
          rw [whileM_go (s' := (((n ^^^ key * 2 ^ (N - s) : Nat) : Int), ((w ^^^ 2 ^ (N - s) : Nat) : Int))) (by show m_divided_W0c _ _ (n : Int) (w : Int) = some true; unfold m_divided_W0c; rw [decide_eq_true (by omega)]) hw]
          have e3 : 2 ^ s * 2 ^ (N - s) = 2 ^ N := by rw [← Nat.pow_add, show s + (N - s) = N by omega]
          have e4 : 2 ^ (s + 1) * 2 ^ (N - s) = 2 ^ (N + 1) := by rw [← Nat.pow_add, show s + 1 + (N - s) = N + 1 by omega]
          have hp : 0 < 2 ^ (N - s) := Nat.two_pow_pos _
          have k1 : 2 ^ N ≤ key * 2 ^ (N - s) := by rw [← e3]; exact Nat.mul_le_mul_right _ h1
          have k2 : key * 2 ^ (N - s) < 2 ^ (N + 1) := by rw [← e4]; exact Nat.mul_lt_mul_of_pos_right h2 hp
          have h5 := xor_cancel (Nat.le_of_not_lt d) hn k1 k2
          obtain ⟨n', w', e5, e6, e7⟩ := div_loop h1 h2 hs N (n ^^^ key * 2 ^ (N - s)) (w ^^^ 2 ^ (N - s)) fuel h5 (by omega) (by omega)
          refine ⟨n', w', e5, e6, ?_⟩
          rw [e7, clm_xr, clm_pow, Nat.xor_comm (clm key w), Nat.xor_assoc, ← Nat.xor_assoc (key * 2 ^ (N - s)), Nat.xor_self, Nat.zero_xor]
termination_by N n w fuel => (fuel, N)
theorem divided_ok {key s n N : Nat} (h1 : 2 ^ s ≤ key) (h2 : key < 2 ^ (s + 1)) (hs : s ≤ 10000) (hn : n < 2 ^ N) (hN : N < 90000) :
    ∃ w r : Nat, m_divided n key = some (.ok ((w : Int), (r : Int))) ∧ r < 2 ^ s ∧ n = clm key w ^^^ r := by
  obtain ⟨r, w, e1, e2, e3⟩ := div_loop h1 h2 hs N n 0 FUEL hn (by unfold FUEL; omega) (by omega)
  have hp := Nat.two_pow_pos s
  refine ⟨w, r, ?_, e2, ?_⟩
  · unfold m_divided
    rw [decide_eq_false (by omega), ifB_f, ltv_eq, nb_eq h1 h2, show (0 : Int) = ((0 : Nat) : Int) from rfl, e1, bnd_some]
  · rw [clm_zero, Nat.xor_zero] at e3
    rw [← e3, Nat.xor_comm]
end Bt

/-! The program's own rest_of. -/
namespace Bt
open PySem L2
theorem rest_of_ok (xs : List Int) (hb : Bits xs) (hz : xs.length ≤ 80000) : m_rest_of xs = some ((hr 0 xs : Nat) : Int) := by
  have hl := hn_lt xs 0 0 hb (by decide)
  rw [Nat.zero_add] at hl
  obtain ⟨w, r, e1, e2, e3⟩ := divided_ok (key := 64647) (s := 15) (n := hn 0 xs) (N := xs.length) (by decide) (by decide) (by decide) hl (by omega)
  have hi := hr_is xs 0 0 hb (IsR.small (by decide))
  have e4 : r = hr 0 xs := IsR.uniq (n := hn 0 xs) ⟨e2, w, e3⟩ hi
  unfold m_rest_of
  rw [number_ok xs hb (by omega), bnd_some, show (64647 : Int) = ((64647 : Nat) : Int) from rfl, e1]
  show some (r : Int) = _
  rw [e4]
end Bt

set_option maxRecDepth 100000
namespace Bt
open PySem L2
/-- a row of unlike places below 300 -/
structure PP (Q : List Nat) : Prop where
  nd : Q.Nodup
  lt : ∀ q ∈ Q, q < 300
theorem ci_in {Q : List Nat} {p : Nat} : ((p : Int) ∈ ci Q) ↔ p ∈ Q := by
  constructor
  · intro h
    obtain ⟨d, hd, e⟩ := ci_mem h
    have : p = d := by omega
    rw [this]; exact hd
  · exact fun h => List.mem_map.mpr ⟨p, h, rfl⟩
theorem turned_ok (Q : List Nat) (p : Nat) (h : PP Q) (hp : p < 300) (hl : Q.length ≤ 10000) : ∃ Q', m__law_turned (ci Q) p = some (ci Q') ∧ PP Q' ∧ Q'.length ≤ Q.length + 1 := by
  unfold m__law_turned
  by_cases c : p ∈ Q
  · rw [decide_eq_true (ci_in.mpr c), ifB_t, compT_ok (c := m__law_turned_C0t (p : Int)) (f := m__law_turned_C0) (p := fun x => !decide (x = (p : Int))) (g := id) _ _ (fun x _ => rfl) (fun x _ => rfl) (by rw [ci_len]; simp; omega), bnd_some]
    refine ⟨Q.filter fun q => !decide (q = p), ?_, ⟨h.nd.filter _, fun q hq => h.lt q (List.mem_filter.mp hq).1⟩, Nat.le_succ_of_le (List.length_filter_le _ _)⟩
    rw [List.nil_append, List.map_id]
    congr 1
    unfold ci
    rw [List.filter_map]
    congr 1
    refine List.filter_congr fun q _ => ?_
    simp only [Function.comp]
    congr 1
    exact decide_eq_decide.mpr (by omega)
  · rw [decide_eq_false (fun q => c (ci_in.mp q)), ifB_f, catG_ok (by rw [ci_len]; simp; omega), bnd_some]
    refine ⟨Q ++ [p], by simp [ci], ⟨?_, fun q hq => ?_⟩, by simp⟩
    · rw [List.nodup_append]
      exact ⟨h.nd, by simp, fun a ha b hb e => by
        rw [List.mem_singleton.mp hb] at e
        exact c (e ▸ ha)⟩
    · rcases List.mem_append.mp hq with hq | hq
      · exact h.lt q hq
      · rw [List.mem_singleton.mp hq]; exact hp
theorem shifted_ok (Q : List Nat) (s : Nat) (h : PP Q) (hs : s < 285) (hl : Q.length ≤ 1000) : ∃ Q', m__law_shifted (ci Q) s = some (ci Q') ∧ PP Q' ∧ Q'.length ≤ Q.length + 10 := by
  unfold m__law_shifted
  obtain ⟨out, e, Q', rfl, h1, h2⟩ := loopM_ok (f := fun x t => m__law_shifted_L0 (s : Int) x t) (fun xs t => ∃ R : List Nat, t = ci R ∧ PP R ∧ R.length + xs.length ≤ Q.length + 10 ∧ ∀ x ∈ xs, ∃ n : Nat, x = (n : Int) ∧ n ≤ 15) (fun x r t ⟨R, e1, h1, h2, h3⟩ => by
    subst e1
    obtain ⟨n, rfl, hn⟩ := h3 x (List.Mem.head _)
    simp only [List.length_cons] at h2
    obtain ⟨R', e2, h4, h5⟩ := turned_ok R (n + s) h1 (by omega) (by omega)
    unfold m__law_shifted_L0
    rw [show (n : Int) + (s : Int) = ((n + s : Nat) : Int) by omega, e2, bnd_some]
    exact ⟨_, rfl, R', rfl, h4, by omega, fun z hz => h3 z (List.Mem.tail _ hz)⟩) [(0 : Int), (1 : Int), (2 : Int), (7 : Int), (10 : Int), (11 : Int), (12 : Int), (13 : Int), (14 : Int), (15 : Int)] (ci Q) ⟨Q, rfl, h, by simp, fun x hx => by
      simp at hx
      exact ⟨x.toNat, by omega, by omega⟩⟩
  rw [e, bnd_some]
  exact ⟨Q', rfl, h1, by simpa using h2.1⟩
theorem places_ok (ns : List Int) (hn : ns.length ≤ 63) : ∃ Q, m__law_places ns = some (ci Q) ∧ PP Q ∧ Q.length ≤ 100 := by
  unfold m__law_places
  obtain ⟨w, e1, _, _⟩ := draw_ok ns 0 3 (by decide) (by decide) (by decide)
  rw [e1, bnd_some]
  have nil : PP [] := ⟨.nil, fun _ h => (nomatch h)⟩
  by_cases c : w = 0
  · have hc := cut_len ns none (some (20 : Int))
    rw [decide_eq_true c, ifB_t, rng1_ok (by omega) (by omega), bnd_some]
    obtain ⟨out, e2, h0, Q, rfl, h1, h2⟩ := loopM_rng (f := fun k s => m__law_places_L0 ns k s) (hi := (cutL ns none (some (20 : Int))).length) (fun i s => 0 ≤ i ∧ ∃ Q : List Nat, s = ci Q ∧ PP Q ∧ (Q.length : Int) ≤ i) (fun i s hi ⟨h0, Q, e, h1, h2⟩ => by
      subst e
      unfold m__law_places_L0
      obtain ⟨d, e3, d0, d1⟩ := draw_ok ns (60 + i) 300 (by omega) (by omega) (by decide)
      obtain ⟨p, rfl⟩ := Int.eq_ofNat_of_zero_le d0
      rw [e3, bnd_some]
      by_cases q : p ∈ Q
      · rw [decide_eq_true (ci_in.mpr q)]
        exact ⟨_, rfl, by omega, Q, rfl, h1, by omega⟩
      · rw [decide_eq_false (fun z => q (ci_in.mp z))]
        show ∃ s', bnd (appG (ci Q) (p : Int)) (fun l => some l) = some s' ∧ _
        rw [appG_ok (by rw [ci_len]; omega), bnd_some]
        refine ⟨_, rfl, by omega, Q ++ [p], by simp [ci], ⟨?_, fun z hz => ?_⟩, by simp; omega⟩
        · rw [List.nodup_append]
          exact ⟨h1.nd, by simp, fun a ha b hb e => by
            rw [List.mem_singleton.mp hb] at e
            exact q (e ▸ ha)⟩
        · rcases List.mem_append.mp hz with hz | hz
          · exact h1.lt z hz
          · rw [List.mem_singleton.mp hz]; omega) _ 0 [] rfl (by omega) ⟨by omega, [], rfl, nil, by simp⟩
    rw [e2, bnd_some]
    exact ⟨Q, rfl, h1, by omega⟩
  · rw [decide_eq_false c, ifB_f]
    obtain ⟨s, e2, s0, s1⟩ := draw_ok ns 1 285 (by decide) (by decide) (by decide)
    obtain ⟨s, rfl⟩ := Int.eq_ofNat_of_zero_le s0
    obtain ⟨Q1, e3, h1, l1⟩ := shifted_ok [] s nil (by omega) (by decide)
    have e3' : m__law_shifted ([] : List Int) (s : Int) = some (ci Q1) := e3
    obtain ⟨w2, e4, _, _⟩ := draw_ok ns 2 2 (by decide) (by decide) (by decide)
    rw [e2, bnd_some, e3', bnd_some, e4, bnd_some]
    obtain ⟨Q2, e5, h2, l2⟩ : ∃ Q2, (ifB (decide (w2 = (0 : Int))) (bnd (m__law_draw ns (3 : Int) (285 : Int)) fun a => bnd (m__law_shifted (ci Q1) a) fun b => some b) (some (ci Q1))) = some (ci Q2) ∧ PP Q2 ∧ Q2.length ≤ 20 := by
      simp at l1
      by_cases q : w2 = 0
      · obtain ⟨s, e5, s0, s1⟩ := draw_ok ns 3 285 (by decide) (by decide) (by decide)
        obtain ⟨s, rfl⟩ := Int.eq_ofNat_of_zero_le s0
        obtain ⟨Q2, e6, h2, l2⟩ := shifted_ok Q1 s h1 (by omega) (by omega)
        exact ⟨Q2, by rw [decide_eq_true q, ifB_t, e5, bnd_some, e6, bnd_some], h2, by omega⟩
      · exact ⟨Q1, by rw [decide_eq_false q, ifB_f], h1, by omega⟩
    rw [bnd_of e5]
    obtain ⟨w3, e6, _, _⟩ := draw_ok ns 4 2 (by decide) (by decide) (by decide)
    rw [e6, bnd_some]
    by_cases q : w3 = 0
    · obtain ⟨s, e7, s0, s1⟩ := draw_ok ns 5 300 (by decide) (by decide) (by decide)
      obtain ⟨s, rfl⟩ := Int.eq_ofNat_of_zero_le s0
      obtain ⟨Q3, e8, h3, l3⟩ := turned_ok Q2 s h2 (by omega) (by omega)
      rw [decide_eq_true q, ifB_t, e7, bnd_some, e8, bnd_some, bnd_some]
      exact ⟨Q3, rfl, h3, by omega⟩
    · rw [decide_eq_false q, ifB_f, bnd_some]
      exact ⟨Q2, rfl, h2, by omega⟩
/-- the law's own walk of the sum -/
def fq (Q : List Nat) : Nat → Nat
  | 0 => 0
  | k + 1 => fq Q k ^^^ (if k ∈ Q then rs k else 0)
theorem fq_nil : ∀ k, fq [] k = 0
  | 0 => rfl
  | k + 1 => by
    show fq [] k ^^^ (if k ∈ [] then rs k else 0) = 0
    rw [fq_nil k, if_neg (by simp)]
    rfl
theorem fq_cons {q : Nat} {Q : List Nat} (h : q ∉ Q) : ∀ k, fq (q :: Q) k = fq Q k ^^^ (if q < k then rs q else 0)
  | 0 => by
    show 0 = 0 ^^^ (if q < 0 then rs q else 0)
    rw [if_neg (by omega)]
    rfl
  | k + 1 => by
    show fq (q :: Q) k ^^^ (if k ∈ q :: Q then rs k else 0) = (fq Q k ^^^ (if k ∈ Q then rs k else 0)) ^^^ _
    rw [fq_cons h k, Nat.xor_assoc, Nat.xor_assoc]
    congr 1
    by_cases e : k = q
    · subst e
      have h1 : k ∈ k :: Q := List.Mem.head _
      simp only [if_neg (Nat.lt_irrefl k), if_pos h1, if_neg h, if_pos (Nat.lt_succ_self k)]
    · by_cases m : k ∈ Q
      · have h1 : k ∈ q :: Q := List.Mem.tail _ m
        simp only [if_pos m, if_pos h1]
        rw [Nat.xor_comm]
        congr 1
        by_cases l : q < k
        · rw [if_pos l, if_pos (by omega)]
        · rw [if_neg l, if_neg (by omega)]
      · have h1 : k ∉ q :: Q := fun z => by
          rcases List.mem_cons.mp z with z | z
          · exact e z
          · exact m z
        simp only [if_neg m, if_neg h1]
        rw [Nat.xor_zero, Nat.zero_xor]
        by_cases l : q < k
        · rw [if_pos l, if_pos (by omega)]
        · rw [if_neg l, if_neg (by omega)]
theorem fq_xs : ∀ {Q : List Nat} {n : Nat}, Q.Nodup → (∀ q ∈ Q, q < n) → fq Q n = xs Q
  | [], n, _, _ => fq_nil n
  | q :: Q, n, h, hl => by
    obtain ⟨h1, h2⟩ := List.nodup_cons.mp h
    rw [fq_cons h1, if_pos (hl q (List.Mem.head _)), fq_xs h2 fun z hz => hl z (List.Mem.tail _ hz), Nat.xor_comm]
    rfl
theorem law_rest_ok (Q : List Nat) (h : PP Q) : m__law_rest (ci Q) = some ((xs Q : Nat) : Int) := by
  unfold m__law_rest
  rw [rng1_ok (by decide) (by decide), bnd_some]
  obtain ⟨out, e, j, h1, h2, h3⟩ := loopM_rng (f := fun k s => m__law_rest_L0 (ci Q) k s.1 s.2) (hi := 300) (fun k s => ∃ j : Nat, k = (j : Int) ∧ j ≤ 300 ∧ s = (((fq Q j : Nat) : Int), ((rs j : Nat) : Int))) (fun k s hk ⟨j, h1, h2, h3⟩ => by
    subst h1 h3
    unfold m__law_rest_L0
    refine ⟨(((fq Q (j + 1) : Nat) : Int), ((rs (j + 1) : Nat) : Int)), ?_, j + 1, by omega, by omega, rfl⟩
    have e1 : (ifB (decide ((j : Int) ∈ ci Q)) (some (Builtin.bitXor ((fq Q j : Nat) : Int) ((rs j : Nat) : Int))) (some ((fq Q j : Nat) : Int))) = some ((fq Q (j + 1) : Nat) : Int) := by
      show _ = some ((fq Q j ^^^ (if j ∈ Q then rs j else 0) : Nat) : Int)
      by_cases c : j ∈ Q
      · rw [decide_eq_true (ci_in.mpr c), ifB_t, bx, if_pos c]
      · rw [decide_eq_false (fun z => c (ci_in.mp z)), ifB_f, if_neg c, Nat.xor_zero]
    show bnd (ifB (decide ((j : Int) ∈ ci Q)) (some (Builtin.bitXor ((fq Q j : Nat) : Int) ((rs j : Nat) : Int))) (some ((fq Q j : Nat) : Int))) _ = _
    rw [bnd_of e1, ltv_eq]
    dsimp only
    have e2 : ((rs j : Nat) : Int) * 2 = ((2 * rs j : Nat) : Int) := by omega
    have e3 : rs (j + 1) = rst (rs j) := rfl
    rw [e2, ifB_dec, e3]
    unfold rst
    by_cases c : 32768 ≤ 2 * rs j
    · rw [if_pos (by omega), if_pos c, show (64647 : Int) = ((64647 : Nat) : Int) from rfl, bx]
    · rw [if_neg (by omega), if_neg c]) _ 0 ((0 : Int), (1 : Int)) rfl (by decide) ⟨0, rfl, by decide, rfl⟩
  have : j = 300 := by omega
  subst this
  rw [e, h3, bnd_some]
  dsimp only
  rw [fq_xs h.nd h.lt]
theorem size_ok : ∀ (Q : List Nat) (s : Nat), 1 ≤ s → s ≤ 300 → (∀ q ∈ Q, q < 300) → ∃ z : Nat, loopM (fun p s => m_law_L0 p s) (ci Q) (s : Int) = some (z : Int) ∧ s ≤ z ∧ z ≤ 300 ∧ ∀ q ∈ Q, q < z
  | [], s, h1, h2, _ => ⟨s, rfl, Nat.le_refl s, h2, fun _ h => (nomatch h)⟩
  | q :: Q, s, h1, h2, h => by
    have hq := h q (List.Mem.head _)
    obtain ⟨t, e, t1, t2, t3⟩ : ∃ t : Nat, m_law_L0 (q : Int) (s : Int) = some (t : Int) ∧ s ≤ t ∧ t ≤ 300 ∧ q < t := by
      unfold m_law_L0
      by_cases c : (q : Int) + 1 > (s : Int)
      · exact ⟨q + 1, by rw [if_pos c]; rfl, by omega, by omega, by omega⟩
      · exact ⟨s, by rw [if_neg c], by omega, by omega, by omega⟩
    obtain ⟨z, e2, z1, z2, z3⟩ := size_ok Q t (by omega) t2 fun w hw => h w (List.Mem.tail _ hw)
    refine ⟨z, ?_, by omega, z2, fun w hw => ?_⟩
    · show loopM _ ((q : Int) :: ci Q) _ = _
      rw [loopM_go e, e2]
    · rcases List.mem_cons.mp hw with rfl | hw
      · omega
      · exact z3 w hw
theorem turn_ok (n : Nat) : ∀ (Q : List Nat) (l : List Int), Bits l → l.length = n → (∀ p ∈ Q, p < n) →
    ∃ l', loopM (fun p s => m_law_L2 (n : Int) p s) (ci Q) l = some l' ∧ Bits l' ∧ l'.length = n ∧ hn 0 l' = hn 0 l ^^^ ps Q
  | [], l, hb, hl, _ => ⟨l, rfl, hb, hl, by rw [show ps [] = 0 from rfl, Nat.xor_zero]⟩
  | p :: Q, l, hb, hl, h => by
    have hp := h p (List.Mem.head _)
    obtain ⟨b, h1, h2, h3⟩ := flip_at l (n - 1 - p) 0 hb (by omega)
    have hf : m_law_L2 (n : Int) p l = some (l.set (n - 1 - p) (1 - b)) := by
      unfold m_law_L2
      rw [show (n : Int) - 1 - (p : Int) = ((n - 1 - p : Nat) : Int) by omega, atI_ok (by omega) (by omega), Int.toNat_natCast, h1, bnd_some, setG_ok (by omega) (by omega), Int.toNat_natCast, bnd_some]
    have hb' : Bits (l.set (n - 1 - p) (1 - b)) := hb.set (by omega)
    obtain ⟨l', e1, e2, e3, e4⟩ := turn_ok n Q _ hb' (by rw [List.length_set]; exact hl) fun z hz => h z (List.Mem.tail _ hz)
    refine ⟨l', ?_, e2, e3, ?_⟩
    · show loopM _ ((p : Int) :: ci Q) _ = _
      rw [loopM_go hf, e1]
    · rw [e4, h3, hl, show n - 1 - (n - 1 - p) = p by omega, Nat.xor_assoc]
      rfl
theorem law_true (ns : List Int) (hn : ns.length ≤ 63) : m_law ns = some true := by
  unfold m_law
  obtain ⟨Q, e1, h, hl⟩ := places_ok ns hn
  obtain ⟨s, e2, s0, s1⟩ := draw_ok ns 6 300 (by decide) (by decide) (by decide)
  obtain ⟨s, rfl⟩ := Int.eq_ofNat_of_zero_le s0
  rw [e1, bnd_some, e2, bnd_some, ltv_eq, show (1 : Int) + (s : Int) = ((1 + s : Nat) : Int) by omega]
  obtain ⟨z, e3, z1, z2, z3⟩ := size_ok Q (1 + s) (by omega) (by omega) h.lt
  rw [e3, bnd_some, rng1_ok (by omega) (by omega), bnd_some]
  obtain ⟨bits, e4, hl2, hb⟩ := compM_all (f := m_law_C1 ns) (P := fun b => b = 0 ∨ b = 1) (rangeI 0 z) [] (fun k hk => by
    have := mem_rangeI hk
    obtain ⟨v, e, hv⟩ := draw2 ns (7 + k) (by omega) (by omega)
    exact ⟨v, by unfold m_law_C1; rw [e, bnd_some], hv⟩) (by rw [rangeI_length]; simp; omega) (fun _ h => (nomatch h))
  have hb : Bits bits := hb
  have hl3 : bits.length = z := by rw [rangeI_length] at hl2; simp at hl2; omega
  obtain ⟨l', e5, b1, b2, b3⟩ := turn_ok z Q bits hb hl3 z3
  have k1 := hr_is bits 0 0 hb (IsR.small (by decide))
  have k2 := hr_is l' 0 0 b1 (IsR.small (by decide))
  rw [b3] at k2
  have k3 : hr 0 l' = hr 0 bits ^^^ xs Q := IsR.uniq k2 (k1.xor (xs_is Q))
  have hd : decide (((xs Q : Nat) : Int) = 0) = decide (xs Q = 0) := decide_eq_decide.mpr (by omega)
  rw [e4, bnd_some, e5, bnd_some, law_rest_ok Q h, bnd_some, ltv_eq, hd, unseen_ok Q (fun q hq => by have := h.lt q hq; omega), bnd_some, decide_eq_true rfl, decide_eq_true rfl]
  show bnd (m_rest_of l') _ = _
  rw [rest_of_ok l' b1 (by omega), bnd_some, rest_of_ok bits hb (by omega), bnd_some, k3]
  congr 1
  have he : decide (((hr 0 bits ^^^ xs Q : Nat) : Int) = ((hr 0 bits : Nat) : Int)) = decide (xs Q = 0) := by
    refine decide_eq_decide.mpr ⟨fun q => ?_, fun q => by rw [q, Nat.xor_zero]⟩
    have q : hr 0 bits ^^^ xs Q = hr 0 bits := by omega
    have := congrArg (hr 0 bits ^^^ ·) q
    simpa [← Nat.xor_assoc] using this
  rw [he, decide_eq_true rfl]
end Bt

open PySem PySem.W PyProof.Rows in
set_option maxRecDepth 100000 in
set_option maxHeartbeats 0 in
theorem PySem.Challenge.cw_bitrail_k12_unseen_holds : PySem.Challenge.rw_bitrail_k12_unseen.Holds := by
  w_on; o_law; k_head; (case hw => w_witness2)
  k_fill
  refine Bt.walk Bt.law_true (l := PySem.Challenge.rw_bitrail_k12_unseen) rfl rfl (fun w h Y => PySem.W.kIn_of Y) ?F
  case F =>
    intro w mg fa h KX G hmg
    obtain ⟨f_number_of, fd_number_of, F_number_of, g_number_of⟩ : ∃ f fd, L2.Fun _ "number_of" "number_of" Bt.s_number_of f fd ∧ mg "number_of" = some (.ref f) := by
      refine' Bt.def_mk KX G ?a ?l ?c ?k
      (case a => k_is)
      (case l => k_is)
      (case c => k_is)
      (case k => k_is)
    obtain ⟨f_divided, fd_divided, F_divided, g_divided⟩ : ∃ f fd, L2.Fun _ "divided" "divided" Bt.s_divided f fd ∧ mg "divided" = some (.ref f) := by
      refine' Bt.def_mk KX G ?a ?l ?c ?k
      (case a => k_is)
      (case l => k_is)
      (case c => k_is)
      (case k => k_is)
    obtain ⟨f_rest_of, fd_rest_of, F_rest_of, g_rest_of⟩ : ∃ f fd, L2.Fun _ "rest_of" "rest_of" Bt.s_rest_of f fd ∧ mg "rest_of" = some (.ref f) := by
      refine' Bt.def_mk KX G ?a ?l ?c ?k
      (case a => k_is)
      (case l => k_is)
      (case c => k_is)
      (case k => k_is)
    obtain ⟨f_rests_of, fd_rests_of, F_rests_of, g_rests_of⟩ : ∃ f fd, L2.Fun _ "rests_of" "rests_of" Bt.s_rests_of f fd ∧ mg "rests_of" = some (.ref f) := by
      refine' Bt.def_mk KX G ?a ?l ?c ?k
      (case a => k_is)
      (case l => k_is)
      (case c => k_is)
      (case k => k_is)
    obtain ⟨f_is_unseen, fd_is_unseen, F_is_unseen, g_is_unseen⟩ : ∃ f fd, L2.Fun _ "is_unseen" "is_unseen" Bt.s_is_unseen f fd ∧ mg "is_unseen" = some (.ref f) := by
      refine' Bt.def_mk KX G ?a ?l ?c ?k
      (case a => k_is)
      (case l => k_is)
      (case c => k_is)
      (case k => k_is)
    obtain ⟨f__law_draw, fd__law_draw, F__law_draw, g__law_draw⟩ : ∃ f fd, L2.Fun _ "_law_draw" "_law_draw" Bt.s__law_draw f fd ∧ mg "_law_draw" = some (.ref f) := by
      refine' Bt.def_mk KX G ?a ?l ?c ?k
      (case a => k_is)
      (case l => k_is)
      (case c => k_is)
      (case k => k_is)
    obtain ⟨f__law_turned, fd__law_turned, F__law_turned, g__law_turned⟩ : ∃ f fd, L2.Fun _ "_law_turned" "_law_turned" Bt.s__law_turned f fd ∧ mg "_law_turned" = some (.ref f) := by
      refine' Bt.def_mk KX G ?a ?l ?c ?k
      (case a => k_is)
      (case l => k_is)
      (case c => k_is)
      (case k => k_is)
    obtain ⟨f__law_shifted, fd__law_shifted, F__law_shifted, g__law_shifted⟩ : ∃ f fd, L2.Fun _ "_law_shifted" "_law_shifted" Bt.s__law_shifted f fd ∧ mg "_law_shifted" = some (.ref f) := by
      refine' Bt.def_mk KX G ?a ?l ?c ?k
      (case a => k_is)
      (case l => k_is)
      (case c => k_is)
      (case k => k_is)
    obtain ⟨f__law_places, fd__law_places, F__law_places, g__law_places⟩ : ∃ f fd, L2.Fun _ "_law_places" "_law_places" Bt.s__law_places f fd ∧ mg "_law_places" = some (.ref f) := by
      refine' Bt.def_mk KX G ?a ?l ?c ?k
      (case a => k_is)
      (case l => k_is)
      (case c => k_is)
      (case k => k_is)
    obtain ⟨f__law_rest, fd__law_rest, F__law_rest, g__law_rest⟩ : ∃ f fd, L2.Fun _ "_law_rest" "_law_rest" Bt.s__law_rest f fd ∧ mg "_law_rest" = some (.ref f) := by
      refine' Bt.def_mk KX G ?a ?l ?c ?k
      (case a => k_is)
      (case l => k_is)
      (case c => k_is)
      (case k => k_is)
    obtain ⟨f_law, fd_law, F_law, g_law⟩ : ∃ f fd, L2.Fun _ "law" "law" Bt.s_law f fd ∧ mg "law" = some (.ref f) := by
      refine' Bt.def_mk KX G ?a ?l ?c ?k
      (case a => k_is)
      (case l => k_is)
      (case c => k_is)
      (case k => k_is)
    have z_bool : mg "bool" = none := PySem.W.mg_none_of KX G (by k_is)
    have z_isinstance : mg "isinstance" = none := PySem.W.mg_none_of KX G (by k_is)
    have z_len : mg "len" = none := PySem.W.mg_none_of KX G (by k_is)
    have z_list : mg "list" = none := PySem.W.mg_none_of KX G (by k_is)
    have z_max : mg "max" = none := PySem.W.mg_none_of KX G (by k_is)
    have z_range : mg "range" = none := PySem.W.mg_none_of KX G (by k_is)
    have g_KEY : Bt.Gv mg "KEY" (.int 64647) := by
      refine' Bt.gv_int KX G ?a
      (case a => k_is)
    have g_WIDE : Bt.Gv mg "WIDE" (.int 15) := by
      refine' Bt.gv_int KX G ?a
      (case a => k_is)
    obtain ⟨es, n_NoKey, e_NoKey⟩ : ∃ es : Bt.Eds, mg "NoKey" = some (.ref es.NoKey) ∧ Bt.ErrC _ mg "NoKey" es.NoKey := by
      refine' Bt.pack KX G ?a_NoKey ?e_NoKey ?k_NoKey ?s_NoKey ?t_NoKey
      (case a_NoKey => k_is)
      (case e_NoKey => first | k_exc | k_is | decide +kernel)
      (case k_NoKey => k_is)
      (case s_NoKey => k_is)
      (case t_NoKey => k_is)
    cases hmg.symm.trans g_law
    refine ⟨fd_law, ?_, fun base _ _ => Bt.ok_law (ad := ⟨f_number_of, fd_number_of, f_divided, fd_divided, f_rest_of, fd_rest_of, f_rests_of, fd_rests_of, f_is_unseen, fd_is_unseen, f__law_draw, fd__law_draw, f__law_turned, fd__law_turned, f__law_shifted, fd__law_shifted, f__law_places, fd__law_places, f__law_rest, fd__law_rest, fa, fd_law, es⟩) ⟨F_number_of, g_number_of, F_number_of.binds (ps := ["bits"]) fun _ _ _ _ _ _ us hl => match us, hl with | [_], _ => rfl, F_divided, g_divided, F_divided.binds (ps := ["number", "key"]) fun _ _ _ _ _ _ us hl => match us, hl with | [_, _], _ => rfl, F_rest_of, g_rest_of, F_rest_of.binds (ps := ["bits"]) fun _ _ _ _ _ _ us hl => match us, hl with | [_], _ => rfl, F_rests_of, g_rests_of, F_rests_of.binds (ps := ["many"]) fun _ _ _ _ _ _ us hl => match us, hl with | [_], _ => rfl, F_is_unseen, g_is_unseen, F_is_unseen.binds (ps := ["places"]) fun _ _ _ _ _ _ us hl => match us, hl with | [_], _ => rfl, F__law_draw, g__law_draw, F__law_draw.binds (ps := ["script", "k", "many"]) fun _ _ _ _ _ _ us hl => match us, hl with | [_, _, _], _ => rfl, F__law_turned, g__law_turned, F__law_turned.binds (ps := ["places", "place"]) fun _ _ _ _ _ _ us hl => match us, hl with | [_, _], _ => rfl, F__law_shifted, g__law_shifted, F__law_shifted.binds (ps := ["places", "shift"]) fun _ _ _ _ _ _ us hl => match us, hl with | [_, _], _ => rfl, F__law_places, g__law_places, F__law_places.binds (ps := ["script"]) fun _ _ _ _ _ _ us hl => match us, hl with | [_], _ => rfl, F__law_rest, g__law_rest, F__law_rest.binds (ps := ["places"]) fun _ _ _ _ _ _ us hl => match us, hl with | [_], _ => rfl, F_law, g_law, F_law.binds (ps := ["script"]) fun _ _ _ _ _ _ us hl => match us, hl with | [_], _ => rfl, z_bool, z_isinstance, z_len, z_list, z_max, z_range, g_KEY, g_WIDE, e_NoKey⟩⟩
    obtain ⟨oc, od, kV, doc, pm, an, cdv, ct, osl, rfl, lk, hcd⟩ := F_law.ex
    exact fun s u => .of_eq rfl
