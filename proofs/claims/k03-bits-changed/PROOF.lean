import PyProof.Rows.All
import Wide.All
import OpenK.AllK
import Wide.FinOn
import HandS.ForMost
import HandS.Exc
import HandS.TryOnly
import HandS.ExcOwn
import HandS.WordsExc
import HandS.IsInst
import HandS.Wide
import HandS.WideBits
import HandS.Flow
import HandS.Evl
import HandS.TryMany
import HandS.Style
import HandS.SortKw
import KE.DatumOrd
import HandS.ExcIs
import HandS.HotCalls
import KE.KExcIs
import PySem.Challenge.RW_bitrail_k03_bits_changed
set_option Elab.async false
set_option linter.all false
set_option maxRecDepth 100000
set_option maxHeartbeats 4000000
/-! The base of all proofs over bitrail: owned cells over a frame, and the readings' steps, one a construct. -/
namespace Bt
open PySem L2

/-! ### owned cells -/
abbrev Cell := Addr × HO
abbrev Ex (H H' : Hp) : Prop := ∀ a o, H a = some o → H' a = some o
theorem Ex.refl (H : Hp) : Ex H H := fun _ _ h => h
theorem Ex.trans {H H1 H2 : Hp} (a : Ex H H1) (b : Ex H1 H2) : Ex H H2 := fun x o h => b x o (a x o h)
theorem Ex.new {H : Hp} {p : Addr} {o : HO} (h : H p = none) : Ex H (upd H p o) := fun a u e => by
  rw [upd_ne (ne_of_none e h)]
  exact e
theorem Ex.back {H H' : Hp} {p : Addr} (e : Ex H H') (h : H' p = none) : H p = none := by
  cases h1 : H p with
  | none => rfl
  | some o =>
    rw [e p o h1] at h
    cases h
theorem Ex.rd {H H' : Hp} {a : Addr} {u : HO} (e : Ex H H') (h : Rd H a u) : Rd H' a u := by
  rcases h with h | ⟨o, h⟩
  · exact Or.inl (e a _ h)
  · exact Or.inr ⟨o, e a _ h⟩
theorem Ex.l {K : PySem.W.Frag} {H H' : Hp} {a : Addr} {xs : List V} (e : Ex H H') (h : SqL K H a xs) : SqL K H' a xs := by
  rcases h with h | h
  · exact Or.inl (e.rd h)
  · exact Or.inr h
theorem Ex.t {K : PySem.W.Frag} {H H' : Hp} {a : Addr} {xs : List V} (e : Ex H H') (h : SqT K H a xs) : SqT K H' a xs := by
  rcases h with h | h
  · exact Or.inl (e.rd h)
  · exact Or.inr h

/-- H holds the frame R, and beside it the cells L, at unlike places that R does not know -/
structure Own (R H : Hp) (L : List Cell) : Prop where
  ex : Ex R H
  at_ : ∀ c ∈ L, H c.1 = some c.2
  fr : ∀ c ∈ L, R c.1 = none
  nd : (L.map (·.1)).Nodup

section
variable {R H H' : Hp} {L L' A B C : List Cell} {a p q : Addr} {o o' : HO}
theorem Own.start (H : Hp) : Own H H [] := ⟨Ex.refl H, fun _ h => (nomatch h), fun _ h => (nomatch h), List.Pairwise.nil⟩
theorem Own.mem (O : Own R H L) (h : (a, o) ∈ L) : H a = some o := O.at_ _ h
theorem Own.g0 {c1 : Cell} (O : Own R H (c1 :: L)) : H c1.1 = some c1.2 := O.at_ _ (List.Mem.head _)
theorem Own.tl {c1 : Cell} (O : Own R H (c1 :: L)) : Own R H L :=
  ⟨O.ex, fun c h => O.at_ c (List.Mem.tail _ h), fun c h => O.fr c (List.Mem.tail _ h), (List.nodup_cons.mp O.nd).2⟩
theorem Own.ext (O : Own R H L) (e : Ex H H') : Own R H' L := ⟨O.ex.trans e, fun c h => e _ _ (O.at_ c h), O.fr, O.nd⟩
theorem Own.notin (O : Own R H L) (h : H p = none) : p ∉ L.map (·.1) := fun m => by
  obtain ⟨c, hc, e⟩ := List.mem_map.mp m
  have := O.at_ c hc
  rw [e, h] at this
  cases this
theorem Own.ext1 (O : Own R H L) (e : Ex H H') (h : H p = none) (h' : H' p = some o) : Own R H' ((p, o) :: L) :=
  ⟨O.ex.trans e, fun c hc => by
    rcases List.mem_cons.mp hc with rfl | hc
    · exact h'
    · exact e _ _ (O.at_ c hc), fun c hc => by
    rcases List.mem_cons.mp hc with rfl | hc
    · exact O.ex.back h
    · exact O.fr c hc, List.nodup_cons.mpr ⟨O.notin h, O.nd⟩⟩
theorem Own.new (O : Own R H L) (h : H p = none) : Own R (upd H p o) ((p, o) :: L) := O.ext1 (Ex.new h) h upd_same
/-- more cells, owned over H -/
theorem Own.app (O : Own R H L) (N : Own H H' A) : Own R H' (A ++ L) :=
  ⟨O.ex.trans N.ex, fun c hc => by
    rcases List.mem_append.mp hc with hc | hc
    · exact N.at_ c hc
    · exact N.ex _ _ (O.at_ c hc), fun c hc => by
    rcases List.mem_append.mp hc with hc | hc
    · exact O.ex.back (N.fr c hc)
    · exact O.fr c hc, by
    rw [List.map_append]
    refine List.nodup_append.mpr ⟨N.nd, O.nd, fun x hx y hy e => ?_⟩
    subst e
    obtain ⟨c, hc, e⟩ := List.mem_map.mp hx
    have := N.fr c hc
    rw [e] at this
    exact O.notin this hy⟩
theorem Own.put (O : Own R H (A ++ (p, o) :: B)) : Own R (upd H p o') (A ++ (p, o') :: B) := by
  have nd := O.nd
  rw [List.map_append, List.map_cons] at nd
  have nA : p ∉ A.map (·.1) := fun m => by
    have := (List.nodup_append.mp nd).2.2
    exact this _ m p (List.Mem.head _) rfl
  have nB : p ∉ B.map (·.1) := (List.nodup_cons.mp (List.nodup_append.mp nd).2.1).1
  have hp : R p = none := O.fr (p, o) (by simp)
  refine ⟨fun b u e => ?_, fun c hc => ?_, fun c hc => ?_, by rw [List.map_append, List.map_cons]; exact nd⟩
  · rw [upd_ne (ne_of_none e hp)]
    exact O.ex _ _ e
  · rcases List.mem_append.mp hc with hA | hc
    · rw [upd_ne (fun e : c.1 = p => nA (by rw [← e]; exact List.mem_map_of_mem hA))]
      exact O.at_ c (List.mem_append.mpr (Or.inl hA))
    · rcases List.mem_cons.mp hc with rfl | hB
      · exact upd_same
      · rw [upd_ne (fun e : c.1 = p => nB (by rw [← e]; exact List.mem_map_of_mem hB))]
        exact O.at_ c (List.mem_append.mpr (Or.inr (List.mem_cons_of_mem _ hB)))
  · rcases List.mem_append.mp hc with hA | hc
    · exact O.fr c (List.mem_append.mpr (Or.inl hA))
    · rcases List.mem_cons.mp hc with rfl | hB
      · exact hp
      · exact O.fr c (List.mem_append.mpr (Or.inr (List.mem_cons_of_mem _ hB)))
theorem Own.put0 (O : Own R H ((p, o) :: B)) : Own R (upd H p o') ((p, o') :: B) := Own.put (A := []) O
theorem Own.put1 {c1 : Cell} (O : Own R H (c1 :: (p, o) :: B)) : Own R (upd H p o') (c1 :: (p, o') :: B) := Own.put (A := [c1]) O
theorem Own.put2 {c1 c2 : Cell} (O : Own R H (c1 :: c2 :: (p, o) :: B)) : Own R (upd H p o') (c1 :: c2 :: (p, o') :: B) := Own.put (A := [c1, c2]) O
theorem Own.put3 {c1 c2 c3 : Cell} (O : Own R H (c1 :: c2 :: c3 :: (p, o) :: B)) : Own R (upd H p o') (c1 :: c2 :: c3 :: (p, o') :: B) := Own.put (A := [c1, c2, c3]) O
theorem Own.put4 {c1 c2 c3 c4 : Cell} (O : Own R H (c1 :: c2 :: c3 :: c4 :: (p, o) :: B)) : Own R (upd H p o') (c1 :: c2 :: c3 :: c4 :: (p, o') :: B) := Own.put (A := [c1, c2, c3, c4]) O
theorem Own.put5 {c1 c2 c3 c4 c5 : Cell} (O : Own R H (c1 :: c2 :: c3 :: c4 :: c5 :: (p, o) :: B)) : Own R (upd H p o') (c1 :: c2 :: c3 :: c4 :: c5 :: (p, o') :: B) := Own.put (A := [c1, c2, c3, c4, c5]) O
theorem Own.put6 {c1 c2 c3 c4 c5 c6 : Cell} (O : Own R H (c1 :: c2 :: c3 :: c4 :: c5 :: c6 :: (p, o) :: B)) : Own R (upd H p o') (c1 :: c2 :: c3 :: c4 :: c5 :: c6 :: (p, o') :: B) := Own.put (A := [c1, c2, c3, c4, c5, c6]) O
theorem Own.perm (O : Own R H L) (e : L.Perm L') : Own R H L' :=
  ⟨O.ex, fun c h => O.at_ c (e.mem_iff.mpr h), fun c h => O.fr c (e.mem_iff.mpr h), (e.map _).nodup_iff.mp O.nd⟩
/-- fewer cells -/
theorem Own.sub (O : Own R H L) (e : L'.Sublist L) : Own R H L' :=
  ⟨O.ex, fun c h => O.at_ c (e.subset h), fun c h => O.fr c (e.subset h), List.Nodup.sublist (e.map _) O.nd⟩
/-- THE FRAME: what is done to some of the cells, the others being its frame -/
theorem Own.focus (O : Own R H (A ++ B)) : ∃ R', Own R' H A ∧ Ex R R' ∧ (∀ c ∈ B, R' c.1 = some c.2) ∧ ∀ H' A', Own R' H' A' → Own R H' (A' ++ B) := by
  have nd := O.nd
  rw [List.map_append] at nd
  obtain ⟨ndA, ndB, dis⟩ := List.nodup_append.mp nd
  refine ⟨fun b => if b ∈ A.map (·.1) then none else H b, ⟨fun b u e => ?_, fun c h => O.at_ c (List.mem_append.mpr (Or.inl h)), fun c h => if_pos (List.mem_map_of_mem h), ndA⟩, fun b u e => ?_, fun c hc => ?_, fun H' A' O' => ?_⟩
  · by_cases hb : b ∈ A.map (·.1)
    · rw [if_pos hb] at e; cases e
    · rw [if_neg hb] at e; exact e
  · have hb : b ∉ A.map (·.1) := fun m => by
      obtain ⟨c, hc, e1⟩ := List.mem_map.mp m
      have := O.fr c (List.mem_append.mpr (Or.inl hc))
      rw [e1, e] at this
      cases this
    show (if b ∈ A.map (·.1) then none else H b) = some u
    rw [if_neg hb]
    exact O.ex _ _ e
  · have hb : c.1 ∉ A.map (·.1) := fun m => dis _ m _ (List.mem_map_of_mem hc) rfl
    show (if c.1 ∈ A.map (·.1) then none else H c.1) = some c.2
    rw [if_neg hb]
    exact O.at_ c (List.mem_append.mpr (Or.inr hc))
  · have hB : ∀ c ∈ B, (if c.1 ∈ A.map (·.1) then none else H c.1) = some c.2 := fun c hc => by
      have hb : c.1 ∉ A.map (·.1) := fun m => dis _ m _ (List.mem_map_of_mem hc) rfl
      rw [if_neg hb]
      exact O.at_ c (List.mem_append.mpr (Or.inr hc))
    have hR : ∀ b u, R b = some u → (if b ∈ A.map (·.1) then none else H b) = some u := fun b u e => by
      have hb : b ∉ A.map (·.1) := fun m => by
        obtain ⟨c, hc, e1⟩ := List.mem_map.mp m
        have := O.fr c (List.mem_append.mpr (Or.inl hc))
        rw [e1, e] at this
        cases this
      rw [if_neg hb]
      exact O.ex _ _ e
    refine ⟨fun b u e => O'.ex _ _ (hR b u e), fun c hc => ?_, fun c hc => ?_, ?_⟩
    · rcases List.mem_append.mp hc with hc | hc
      · exact O'.at_ c hc
      · exact O'.ex _ _ (hB c hc)
    · rcases List.mem_append.mp hc with hc | hc
      · cases e : R c.1 with
        | none => rfl
        | some u =>
          have := O'.fr c hc
          rw [hR _ _ e] at this
          cases this
      · exact O.fr c (List.mem_append.mpr (Or.inr hc))
    · rw [List.map_append]
      refine List.nodup_append.mpr ⟨O'.nd, ndB, fun x hx y hy e => ?_⟩
      subst e
      obtain ⟨c, hc, e⟩ := List.mem_map.mp hx
      obtain ⟨d, hd, e2⟩ := List.mem_map.mp hy
      have h1 := O'.fr c hc
      have h2 := hB d hd
      rw [e2, ← e, h1] at h2
      cases h2
/-- the frame may be what is there now: all else is kept -/
theorem Own.over (O : Own R H L) : Own H H [] := Own.start H
end

/-! ### what a call hands back: a value; a new list; a new tuple -/
def RetV (v : V) (H : Hp) (Q : VK) : Prop := ∀ H', Ex H H' → Q v H'
def RetL (xs : List V) (H : Hp) (Q : VK) : Prop := ∀ p H', H p = none → Ex H H' → H' p = some (.lst xs) → Q (.ref p) H'
def RetT (xs : List V) (H : Hp) (Q : VK) : Prop := ∀ p H', H p = none → Ex H H' → H' p = some (.tup xs) → Q (.ref p) H'
/-- any new cells, as D says -/
def RetN (D : V → List Cell → Prop) (H : Hp) (Q : VK) : Prop := ∀ v H' L, Own H H' L → D v L → Q v H'
section
variable {R H : Hp} {L : List Cell} {Q : VK} {v : V} {xs : List V}
theorem Own.retV (O : Own R H L) (k : ∀ H', Own R H' L → Q v H') : RetV v H Q := fun H' e => k H' (O.ext e)
theorem Own.retL (O : Own R H L) (k : ∀ p H', Own R H' ((p, .lst xs) :: L) → Q (.ref p) H') : RetL xs H Q := fun p H' h e h' => k p H' (O.ext1 e h h')
theorem Own.retT (O : Own R H L) (k : ∀ p H', Own R H' ((p, .tup xs) :: L) → Q (.ref p) H') : RetT xs H Q := fun p H' h e h' => k p H' (O.ext1 e h h')
theorem Own.retN {D : V → List Cell → Prop} (O : Own R H L) (k : ∀ v H' N, Own R H' (N ++ L) → D v N → Q v H') : RetN D H Q := fun v H' N o d => k v H' N (O.app o) d
/-- the end of a def that started at H: what it hands back is new -/
theorem RetV.go {H0 H : Hp} {L : List Cell} {v : V} {Q : VK} (k : RetV v H0 Q) (O : Own H0 H L) : Q v H := k H O.ex
theorem RetL.go {H0 H : Hp} {L : List Cell} {xs : List V} {Q : VK} {p : Addr} (k : RetL xs H0 Q) (O : Own H0 H L) (h : (p, HO.lst xs) ∈ L) : Q (.ref p) H := k p H (O.fr _ h) O.ex (O.at_ _ h)
theorem RetT.go {H0 H : Hp} {L : List Cell} {xs : List V} {Q : VK} {p : Addr} (k : RetT xs H0 Q) (O : Own H0 H L) (h : (p, HO.tup xs) ∈ L) : Q (.ref p) H := k p H (O.fr _ h) O.ex (O.at_ _ h)
theorem RetN.go {H0 H : Hp} {L N : List Cell} {D : V → List Cell → Prop} {Q : VK} {v : V} (k : RetN D H0 Q) (O : Own H0 H L) (e : N.Sublist L) (d : D v N) : Q v H := k v H N (O.sub e) d
end

end Bt

set_option Elab.async false
set_option linter.all false
set_option maxRecDepth 100000
set_option maxHeartbeats 4000000
/-! The mirror's words (partial functions: none where the program would stop), and the steps that join a reading with its mirror. -/
namespace Bt
open PySem L2

/-! ### the mirror's words -/
section
variable {α β γ S R T : Type}
def ltv (a : α) (f : α → Option β) : Option β := f a
theorem ltvE {a : α} {f : α → Option β} {r : β} (h : ltv a f = some r) : ∃ x, a = x ∧ f x = some r := ⟨a, rfl, h⟩
def bnd (a : Option α) (f : α → Option β) : Option β := match a with
  | some x => f x
  | none => none
theorem bndE {a : Option α} {f : α → Option β} {r : β} (h : bnd a f = some r) : ∃ x, a = some x ∧ f x = some r := by
  cases a with
  | none => cases h
  | some x => exact ⟨x, rfl, h⟩
def ifB (c : Bool) (a b : α) : α := match c with
  | true => a
  | false => b
theorem ifT {c : Bool} {a b r : α} (h : ifB c a b = r) (hc : c = true) : a = r := by subst hc; exact h
theorem ifF {c : Bool} {a b r : α} (h : ifB c a b = r) (hc : c = false) : b = r := by subst hc; exact h
inductive Fl (S R : Type) where
  | nx (s : S)
  | rt (r : R)
  | bk (s : S)
def finK (rest : S → Option R) : Fl S R → Option R
  | .nx s => rest s
  | .rt r => some r
  | .bk _ => none
def fin (a : Option (Fl S R)) (rest : S → Option R) : Option R := bnd a (finK rest)
def floK (rest : S → Option (Fl T R)) : Fl S R → Option (Fl T R)
  | .nx s => rest s
  | .rt r => some (.rt r)
  | .bk _ => none
def flo (a : Option (Fl S R)) (rest : S → Option (Fl T R)) : Option (Fl T R) := bnd a (floK rest)
theorem finRt {rest : S → Option R} {v r : R} (h : finK rest (.rt v) = some r) : v = r := Option.some.inj h
theorem floRt {rest : S → Option (Fl T R)} {v : R} {fl : Fl T R} (h : floK rest (.rt v) = some fl) : Fl.rt v = fl := Option.some.inj h
def loopM (f : α → S → Option S) : List α → S → Option S
  | [], s => some s
  | x :: r, s => bnd (f x s) (loopM f r)
theorem loopM_nil {f : α → S → Option S} {s out : S} (h : loopM f [] s = some out) : out = s := (Option.some.inj h).symm
theorem loopM_cons {f : α → S → Option S} {x : α} {r : List α} {s out : S} (h : loopM f (x :: r) s = some out) : ∃ s', f x s = some s' ∧ loopM f r s' = some out := bndE h
def contF (go : S → Option (Fl S R)) : Fl S R → Option (Fl S R)
  | .nx s => go s
  | .rt r => some (.rt r)
  | .bk s => some (.nx s)
def loopF (f : α → S → Option (Fl S R)) : List α → S → Option (Fl S R)
  | [], s => some (.nx s)
  | x :: r, s => bnd (f x s) (contF (loopF f r))
theorem loopF_nil {f : α → S → Option (Fl S R)} {s : S} {out : Fl S R} (h : loopF f [] s = some out) : Fl.nx s = out := Option.some.inj h
theorem loopF_cons {f : α → S → Option (Fl S R)} {x : α} {r : List α} {s : S} {out : Fl S R} (h : loopF f (x :: r) s = some out) : ∃ fl, f x s = some fl ∧ contF (loopF f r) fl = some out := bndE h
theorem contRt {go : S → Option (Fl S R)} {v : R} {out : Fl S R} (h : contF go (.rt v) = some out) : Fl.rt v = out := Option.some.inj h
theorem contBk {go : S → Option (Fl S R)} {s : S} {out : Fl S R} (h : contF go (.bk s) = some out) : Fl.nx s = out := Option.some.inj h
def whileM (c : S → Option Bool) (f : S → Option S) : Nat → S → Option S
  | 0, _ => none
  | n + 1, s => bnd (c s) fun b => ifB b (bnd (f s) (whileM c f n)) (some s)
theorem whileM_zero {c : S → Option Bool} {f : S → Option S} {s out : S} (h : whileM c f 0 s = some out) : False := nomatch h
theorem whileM_succ {c : S → Option Bool} {f : S → Option S} {n : Nat} {s out : S} (h : whileM c f (n + 1) s = some out) : ∃ b, c s = some b ∧ ifB b (bnd (f s) (whileM c f n)) (some s) = some out := bndE h
def whileF (c : S → Option Bool) (f : S → Option (Fl S R)) : Nat → S → Option (Fl S R)
  | 0, _ => none
  | n + 1, s => bnd (c s) fun b => ifB b (bnd (f s) (contF (whileF c f n))) (some (.nx s))
theorem whileF_succ {c : S → Option Bool} {f : S → Option (Fl S R)} {n : Nat} {s : S} {out : Fl S R} (h : whileF c f (n + 1) s = some out) : ∃ b, c s = some b ∧ ifB b (bnd (f s) (contF (whileF c f n))) (some (.nx s)) = some out := bndE h
/-- a comprehension: what is kept, in order -/
def compM (f : α → Option β) : List α → List β → Option (List β)
  | [], acc => some acc
  | x :: r, acc => bnd (f x) fun y => if acc.length < 16777216 then compM f r (acc ++ [y]) else none
theorem compM_cons {f : α → Option β} {x : α} {r : List α} {acc out : List β} (h : compM f (x :: r) acc = some out) : ∃ y, f x = some y ∧ acc.length < 16777216 ∧ compM f r (acc ++ [y]) = some out := by
  obtain ⟨y, h1, h2⟩ := bndE (show bnd (f x) (fun y => if acc.length < 16777216 then compM f r (acc ++ [y]) else none) = some out from h)
  by_cases c : acc.length < 16777216
  · rw [if_pos c] at h2
    exact ⟨y, h1, c, h2⟩
  · rw [if_neg c] at h2
    cases h2
theorem compM_nil {f : α → Option β} {acc out : List β} (h : compM f [] acc = some out) : out = acc := (Option.some.inj h).symm
/-- .. with a test -/
def compT (c : α → Option Bool) (f : α → Option β) : List α → List β → Option (List β)
  | [], acc => some acc
  | x :: r, acc => bnd (c x) fun b => ifB b (bnd (f x) fun y => if acc.length < 16777216 then compT c f r (acc ++ [y]) else none) (compT c f r acc)
theorem compT_nil {c : α → Option Bool} {f : α → Option β} {acc out : List β} (h : compT c f [] acc = some out) : out = acc := (Option.some.inj h).symm
theorem compT_cons {c : α → Option Bool} {f : α → Option β} {x : α} {r : List α} {acc out : List β} (h : compT c f (x :: r) acc = some out) :
    ∃ b, c x = some b ∧ ifB b (bnd (f x) fun y => if acc.length < 16777216 then compT c f r (acc ++ [y]) else none) (compT c f r acc) = some out := bndE h
theorem compT_yes {c : α → Option Bool} {f : α → Option β} {x : α} {r : List α} {acc out : List β} (h : (bnd (f x) fun y => if acc.length < 16777216 then compT c f r (acc ++ [y]) else none) = some out) :
    ∃ y, f x = some y ∧ acc.length < 16777216 ∧ compT c f r (acc ++ [y]) = some out := by
  obtain ⟨y, h1, h2⟩ := bndE h
  by_cases c : acc.length < 16777216
  · rw [if_pos c] at h2
    exact ⟨y, h1, c, h2⟩
  · rw [if_neg c] at h2
    cases h2
end
section
variable {α : Type}
def grd (c : Prop) [Decidable c] (a : α) : Option α := if c then some a else none
theorem grdE {c : Prop} [Decidable c] {a r : α} (h : grd c a = some r) : c ∧ a = r := by
  unfold grd at h
  by_cases hc : c
  · rw [if_pos hc] at h
    exact ⟨hc, Option.some.inj h⟩
  · rw [if_neg hc] at h
    cases h
theorem grd_of {c : Prop} [Decidable c] {a : α} (h : c) : grd c a = some a := if_pos h
def appG (xs : List α) (y : α) : Option (List α) := grd (xs.length < 16777216) (xs ++ [y])
def catG (xs ys : List α) : Option (List α) := grd (xs.length + ys.length ≤ 16777216) (xs ++ ys)
def repL (xs : List α) : Nat → List α
  | 0 => []
  | n + 1 => xs ++ repL xs n
def repG (xs : List α) (k : Int) : Option (List α) := grd (-(2 ^ 63) ≤ k ∧ k < 2 ^ 63 ∧ xs.length * k.toNat ≤ 16777216) (List.flatten (List.replicate k.toNat xs))
def setG (xs : List α) (i : Int) (y : α) : Option (List α) := match ixN xs.length i with
  | some j => some (xs.set j y)
  | none => none
def cutL (xs : List α) (lo hi : Option Int) : List α := (xs.drop (HT.sIx xs.length 0 lo)).take (HT.sIx xs.length xs.length hi - HT.sIx xs.length 0 lo)
def rangeI (lo hi : Int) : List Int := (List.range (hi - lo).toNat).map fun (i : Nat) => lo + (i : Int)
def rng1 (hi : Int) : Option (List Int) := grd (-(2 ^ 62) ≤ hi ∧ hi < 2 ^ 62) (rangeI 0 hi)
def rng2 (lo hi : Int) : Option (List Int) := grd (-(2 ^ 62) ≤ lo ∧ lo < 2 ^ 62 ∧ -(2 ^ 62) ≤ hi ∧ hi < 2 ^ 62) (rangeI lo hi)
end
def modG (i j : Int) : Option Int := grd (0 < j) (i % j)
def fdivG (i j : Int) : Option Int := grd (0 < j ∧ j.natAbs.log2 < 9000) (i / j)
def mulG (i j : Int) : Option Int := grd (i.natAbs.log2 + j.natAbs.log2 < 1000000) (i * j)
def shlG (i j : Int) : Option Int := grd (0 ≤ j ∧ (Builtin.Int.intBits i : Int) + j ≤ 2 ^ 27) (i * 2 ^ j.toNat)
def shrG (i j : Int) : Option Int := grd (0 ≤ j) (i / 2 ^ j.toNat)
def powG (i j : Int) : Option Int := grd (0 ≤ j ∧ j ≤ 1000000 ∧ i.natAbs < 2 ^ 64) (i ^ j.toNat)

/-! ### the steps -/
section
variable {K : PySem.W.Frag} {σ : St} {H R : Hp} {L : List Cell} {Q : VK} {i j t : Int} {x y z v : V} {a b p q : Addr} {α : Type} {f : α → V} {xs ys zs : List α} {xs' ys' : List Int}
theorem k_mul (h : mulG i j = some t) (k : Q (.int t) H) : rI CMulW (fun i j => .int (i * j)) (.int i) (.int j) H Q := by
  obtain ⟨c, rfl⟩ := grdE h
  exact ⟨_, _, rfl, rfl, c, k⟩
theorem k_mod (h : modG i j = some t) (k : Q (.int t) H) : rI (fun _ j => 0 < j) (fun i j => .int (i % j)) (.int i) (.int j) H Q := by
  obtain ⟨c, rfl⟩ := grdE h
  exact ⟨_, _, rfl, rfl, c, k⟩
theorem k_fdiv (h : fdivG i j = some t) (k : Q (.int t) H) : rI CDivW (fun i j => .int (i / j)) (.int i) (.int j) H Q := by
  obtain ⟨c, rfl⟩ := grdE h
  exact ⟨_, _, rfl, rfl, c, k⟩
theorem k_shl (h : shlG i j = some t) (k : Q (.int t) H) : rI CShl (fun i j => .int (i * 2 ^ j.toNat)) (.int i) (.int j) H Q := by
  obtain ⟨c, rfl⟩ := grdE h
  exact ⟨_, _, rfl, rfl, c, k⟩
theorem k_shr (h : shrG i j = some t) (k : Q (.int t) H) : rI (fun _ j => 0 ≤ j) (fun i j => .int (i / 2 ^ j.toNat)) (.int i) (.int j) H Q := by
  obtain ⟨c, rfl⟩ := grdE h
  exact ⟨_, _, rfl, rfl, c, k⟩
theorem k_pow (h : powG i j = some t) (k : Q (.int t) H) : rI CPow (fun i j => .int (i ^ j.toNat)) (.int i) (.int j) H Q := by
  obtain ⟨c, rfl⟩ := grdE h
  exact ⟨_, _, rfl, rfl, c, k⟩
theorem dec_int (i j : Int) : decide (V.int i = V.int j) = decide (i = j) := by
  by_cases h : i = j
  · subst h; simp
  · have : ¬ V.int i = V.int j := fun e => h (V.int.inj e)
    simp [h, this]
theorem dec_bl (i j : Bool) : decide (V.bl i = V.bl j) = decide (i = j) := by
  by_cases h : i = j
  · subst h; simp
  · have : ¬ V.bl i = V.bl j := fun e => h (V.bl.inj e)
    simp [h, this]
theorem dec_str (i j : Str) : decide (V.str i = V.str j) = decide (i = j) := by
  by_cases h : i = j
  · subst h; simp
  · have : ¬ V.str i = V.str j := fun e => h (V.str.inj e)
    simp [h, this]
theorem k_eqI (k : Q (.bl (decide (i = j))) H) : rEq (.int i) (.int j) H Q := ⟨rfl, by rw [dec_int]; exact k⟩
theorem k_neI (k : Q (.bl (!decide (i = j))) H) : rNe (.int i) (.int j) H Q := ⟨rfl, by rw [dec_int]; exact k⟩
theorem k_eqB {c d : Bool} (k : Q (.bl (decide (c = d))) H) : rEq (.bl c) (.bl d) H Q := ⟨rfl, by rw [dec_bl]; exact k⟩
theorem k_neB {c d : Bool} (k : Q (.bl (!decide (c = d))) H) : rNe (.bl c) (.bl d) H Q := ⟨rfl, by rw [dec_bl]; exact k⟩
theorem k_eqS {c d : Str} (k : Q (.bl (decide (c = d))) H) : rEq (.str c) (.str d) H Q := ⟨rfl, by rw [dec_str]; exact k⟩
theorem k_neS {c d : Str} (k : Q (.bl (!decide (c = d))) H) : rNe (.str c) (.str d) H Q := ⟨rfl, by rw [dec_str]; exact k⟩
/-! deep == of flat lists -/
theorem dpI : ∀ (ns : List Int), DpAll K H (ns.map V.int) (ns.map PyData.int)
  | [] => .nil
  | n :: r => .cons (.int n) (dpI r)
theorem dpB : ∀ (ns : List Bool), DpAll K H (ns.map V.bl) (ns.map PyData.bool)
  | [] => .nil
  | n :: r => .cons (.bl n) (dpB r)
theorem dpS : ∀ (ns : List Str), DpAll K H (ns.map V.str) (ns.map PyData.str)
  | [] => .nil
  | n :: r => .cons (.str n) (dpS r)

theorem sh_I (ns : List Int) : SeqAt.shaped (.list (ns.map PyData.int)) = true := by
  have h1 : ∀ ns : List Int, PyData.canLayAll0 (ns.map PyData.int) = true := fun ns => by
    induction ns with
    | nil => rfl
    | cons n r ih => simpa [PyData.canLayAll0, PyData.canLay0] using ih
  have h2 : ∀ ns : List Int, PyData.depthAll (ns.map PyData.int) = 0 := fun ns => by
    induction ns with
    | nil => rfl
    | cons n r ih => simpa [PyData.depthAll, PyData.depth] using ih
  simp [SeqAt.shaped, PyData.canLay0, h1, PyData.depth, h2]
theorem sh_B (ns : List Bool) : SeqAt.shaped (.list (ns.map PyData.bool)) = true := by
  have h1 : ∀ ns : List Bool, PyData.canLayAll0 (ns.map PyData.bool) = true := fun ns => by
    induction ns with
    | nil => rfl
    | cons n r ih => simpa [PyData.canLayAll0, PyData.canLay0] using ih
  have h2 : ∀ ns : List Bool, PyData.depthAll (ns.map PyData.bool) = 0 := fun ns => by
    induction ns with
    | nil => rfl
    | cons n r ih => simpa [PyData.depthAll, PyData.depth] using ih
  simp [SeqAt.shaped, PyData.canLay0, h1, PyData.depth, h2]
theorem ev_I : ∀ (ns ms : List Int), PyData.eqv (.list (ns.map PyData.int)) (.list (ms.map PyData.int)) = decide (ns = ms) := by
  have h : ∀ (ns ms : List Int), PyData.eqvAll (ns.map PyData.int) (ms.map PyData.int) = decide (ns = ms) := fun ns => by
    induction ns with
    | nil => intro ms; cases ms <;> simp [PyData.eqvAll]
    | cons n r ih =>
      intro ms
      cases ms with
      | nil => simp [PyData.eqvAll]
      | cons m s =>
        simp only [List.map_cons, PyData.eqvAll, PyData.eqv, ih, List.cons.injEq, Bool.decide_and]
        rw [Bool.beq_eq_decide_eq]
  exact fun ns ms => by simpa only [PyData.eqv] using h ns ms
theorem k_eqLI (ha : SqL K H a (xs'.map V.int)) (hb : SqL K H b (ys'.map V.int)) (k : Q (.bl (decide (xs' = ys'))) H) : rEqD K (.ref a) (.ref b) H Q :=
  ⟨_, _, .lst ha (dpI _), .lst hb (dpI _), sh_I _, sh_I _, by rw [ev_I]; exact k⟩
theorem k_neLI (ha : SqL K H a (xs'.map V.int)) (hb : SqL K H b (ys'.map V.int)) (k : Q (.bl (!decide (xs' = ys'))) H) : rNeD K (.ref a) (.ref b) H Q :=
  ⟨_, _, .lst ha (dpI _), .lst hb (dpI _), sh_I _, sh_I _, by rw [ev_I]; exact k⟩
/-! lists -/
theorem k_len (h : SqL K H a (xs.map f)) (k : Q (.int (xs.length : Int)) H) : ∃ p ys, [V.ref a] = [V.ref p] ∧ (SqL K H p ys ∨ SqT K H p ys) ∧ Q (.int ys.length) H :=
  ⟨a, _, rfl, .inl h, by rw [List.length_map]; exact k⟩
theorem k_list (O : Own R H L) {ys : List V} (h : SqL K H a ys) (k : ∀ p H', Own R H' ((p, .lst ys) :: L) → Q (.ref p) H') : ∃ p ys, [V.ref a] = [V.ref p] ∧ (SqL K H p ys ∨ SqT K H p ys) ∧ ∀ l, H l = none → Q (.ref l) (upd H l (.lst ys)) :=
  ⟨a, _, rfl, .inl h, fun l hl => k l _ (O.new hl)⟩
theorem k_sum (h : SqL K H a (xs'.map V.int)) (k : Q (.int xs'.sum) H) : rSum K [.ref a] H Q := ⟨a, _, rfl, h, k⟩
theorem k_new {zs : List V} (O : Own R H L) (k : ∀ p H', Own R H' ((p, .lst zs) :: L) → Q (.ref p) H') : ∀ p, H p = none → Q (.ref p) (upd H p (.lst zs)) := fun p hp => k p _ (O.new hp)
theorem k_newT {zs : List V} (O : Own R H L) (k : ∀ p H', Own R H' ((p, .tup zs) :: L) → Q (.ref p) H') : ∀ p, H p = none → Q (.ref p) (upd H p (.tup zs)) := fun p hp => k p _ (O.new hp)
theorem at_map {xs : List α} {i : Int} {x : α} (h : atI xs i = some x) (f : α → V) : atI (xs.map f) i = some (f x) := by
  unfold atI at h ⊢
  rw [List.length_map]
  cases e : ixN xs.length i with
  | none => rw [e] at h; cases h
  | some j =>
    rw [e] at h
    show (xs.map f)[j]? = some (f x)
    rw [List.getElem?_map, (show xs[j]? = some x from h)]
    rfl
theorem k_ixL {x : α} (hs : SqL K H a (xs.map f)) (h : atI xs i = some x) (k : Q (f x) H) : rIxL K (.ref a) (.int i) H Q := ⟨a, _, i, _, rfl, rfl, hs, at_map h f, k⟩
theorem map_snoc (xs : List α) (x : α) (f : α → V) : xs.map f ++ [f x] = (xs ++ [x]).map f := by rw [List.map_append]; rfl
theorem k_app {x : α} {g : HO → List Cell} (hl : H a = some (.lst (xs.map f))) (hp : ∀ o', Own R (upd H a o') (g o')) (h : appG xs x = some ys) (k : ∀ H', Own R H' (g (.lst (ys.map f))) → Q .non H') : rAppend (.ref a) [f x] H Q := by
  obtain ⟨c, rfl⟩ := grdE h
  refine ⟨a, _, _, rfl, rfl, hl, by rw [List.length_map]; exact c, ?_⟩
  rw [map_snoc]
  exact k _ (hp _)
theorem map_cut (xs : List α) (lo hi : Option Int) (f : α → V) : cutV (xs.map f) lo hi = (cutL xs lo hi).map f := by
  unfold cutV cutL
  rw [List.length_map, ← List.map_drop, ← List.map_take]
theorem k_cut {lo hi : Option Int} (O : Own R H L) (hs : SqL K H a (xs.map f)) (k : ∀ p H', Own R H' ((p, .lst ((cutL xs lo hi).map f)) :: L) → Q (.ref p) H') : rSlL K (.ref a) lo hi H Q :=
  ⟨a, _, rfl, hs, fun p hp => by rw [map_cut]; exact k p _ (O.new hp)⟩
theorem k_cat {ys zs : List α} (O : Own R H L) (h1 : H a = some (.lst (xs.map f))) (h2 : H b = some (.lst (ys.map f))) (h : catG xs ys = some zs) (k : ∀ p H', Own R H' ((p, .lst (zs.map f)) :: L) → Q (.ref p) H') : rCat (.ref a) (.ref b) H Q := by
  obtain ⟨c, rfl⟩ := grdE h
  exact ⟨a, b, _, _, rfl, rfl, h1, h2, by rw [List.length_map, List.length_map]; exact c, fun p hp => by rw [← List.map_append]; exact k p _ (O.new hp)⟩
theorem k_setL {x : α} {g : HO → List Cell} {QH : Hp → Prop} (hl : H a = some (.lst (xs.map f))) (hp : ∀ o', Own R (upd H a o') (g o')) (h : setG xs i x = some ys) (k : ∀ H', Own R H' (g (.lst (ys.map f))) → QH H') : rSetL (.ref a) (.int i) (f x) H QH := by
  unfold setG at h
  cases e : ixN xs.length i with
  | none => rw [e] at h; cases h
  | some j =>
    rw [e] at h
    cases h
    refine ⟨a, _, i, j, rfl, rfl, hl, by rw [List.length_map]; exact e, ?_⟩
    have e2 : (xs.map f).set j (f x) = (xs.set j x).map f := by rw [List.map_set]
    rw [e2]
    exact k _ (hp _)
/-! tests with two sides: what the one is asked for, the other is not seen -/
theorem x_and {c d e : Bool} {tt uu : TT} {QB : Bool → Hp → Prop} (O : Own R H L) (h1 : ∀ Q1 : Bool → Hp → Prop, (∀ H', Own R H' L → Q1 c H') → tt σ H Q1) (h2 : c = true → e = d ∧ ∀ H', Own R H' L → ∀ Q2 : Bool → Hp → Prop, (∀ H'', Own R H'' L → Q2 e H'') → uu σ H' Q2)
    (h3 : c = false → false = d) (k : ∀ H', Own R H' L → QB d H') : tAnd tt uu σ H QB := by
  refine h1 _ fun H' O' => ?_
  cases c with
  | true =>
    obtain ⟨e1, g2⟩ := h2 rfl
    subst e1
    exact g2 H' O' QB k
  | false =>
    rw [← h3 rfl] at k
    exact k H' O'
theorem x_or {c d e : Bool} {tt uu : TT} {QB : Bool → Hp → Prop} (O : Own R H L) (h1 : ∀ Q1 : Bool → Hp → Prop, (∀ H', Own R H' L → Q1 c H') → tt σ H Q1) (h2 : c = false → e = d ∧ ∀ H', Own R H' L → ∀ Q2 : Bool → Hp → Prop, (∀ H'', Own R H'' L → Q2 e H'') → uu σ H' Q2)
    (h3 : c = true → true = d) (k : ∀ H', Own R H' L → QB d H') : tOr tt uu σ H QB := by
  refine h1 _ fun H' O' => ?_
  cases c with
  | false =>
    obtain ⟨e1, g2⟩ := h2 rfl
    subst e1
    exact g2 H' O' QB k
  | true =>
    rw [← h3 rfl] at k
    exact k H' O'
theorem x_andV {c d e : Bool} {tt uu : TE} (O : Own R H L) (h1 : ∀ Q1 : VK, (∀ H', Own R H' L → Q1 (.bl c) H') → tt σ H Q1) (h2 : c = true → e = d ∧ ∀ H', Own R H' L → ∀ Q2 : VK, (∀ H'', Own R H'' L → Q2 (.bl e) H'') → uu σ H' Q2)
    (h3 : c = false → false = d) (k : ∀ H', Own R H' L → Q (.bl d) H') : tAndV tt uu σ H Q := by
  refine h1 _ fun H' O' => ⟨_, rfl, ?_⟩
  cases c with
  | true =>
    obtain ⟨e1, g2⟩ := h2 rfl
    subst e1
    exact g2 H' O' Q k
  | false =>
    rw [← h3 rfl] at k
    exact k H' O'
theorem x_orV {c d e : Bool} {tt uu : TE} (O : Own R H L) (h1 : ∀ Q1 : VK, (∀ H', Own R H' L → Q1 (.bl c) H') → tt σ H Q1) (h2 : c = false → e = d ∧ ∀ H', Own R H' L → ∀ Q2 : VK, (∀ H'', Own R H'' L → Q2 (.bl e) H'') → uu σ H' Q2)
    (h3 : c = true → true = d) (k : ∀ H', Own R H' L → Q (.bl d) H') : tOrV tt uu σ H Q := by
  refine h1 _ fun H' O' => ⟨_, rfl, ?_⟩
  cases c with
  | false =>
    obtain ⟨e1, g2⟩ := h2 rfl
    subst e1
    exact g2 H' O' Q k
  | true =>
    rw [← h3 rfl] at k
    exact k H' O'
/-- a < b < c -/
theorem x_chain {r r' : R2} {c d e : Bool} {ta tb tc : TE} (O : Own R H L) (h1 : ∀ Q1 : VK, (∀ H', Own R H' L → Q1 x H') → ta σ H Q1) (h2 : ∀ H', Own R H' L → ∀ Q1 : VK, (∀ H', Own R H' L → Q1 y H') → tb σ H' Q1) (h3 : ∀ H' (Q1 : VK), Q1 (.bl c) H' → r x y H' Q1)
    (h4 : c = true → e = d ∧ ∀ H', Own R H' L → ∀ Q1 : VK, (∀ H', Own R H' L → Q1 z H') → tc σ H' Q1) (h5 : ∀ H' (Q1 : VK), Q1 (.bl e) H' → r' y z H' Q1) (h6 : c = false → false = d) (k : ∀ H', Own R H' L → Q (.bl d) H') : tChain r r' ta tb tc σ H Q := by
  refine h1 _ fun H1 O1 => h2 H1 O1 _ fun H2 O2 => h3 H2 _ ⟨c, rfl, ?_⟩
  cases c with
  | true =>
    obtain ⟨e1, g4⟩ := h4 rfl
    subst e1
    exact g4 H2 O2 _ fun H3 O3 => h5 H3 _ (k H3 O3)
  | false =>
    rw [← h6 rfl] at k
    exact k H2 O2
/-- a if c else b, a value -/
theorem x_if {c : Bool} {tt : TT} {ta tb : TE} (O : Own R H L) (h1 : ∀ Q1 : Bool → Hp → Prop, (∀ H', Own R H' L → Q1 c H') → tt σ H Q1) (h2 : c = true → x = v ∧ ∀ H', Own R H' L → ∀ Q2 : VK, (∀ H'', Own R H'' L → Q2 x H'') → ta σ H' Q2)
    (h3 : c = false → y = v ∧ ∀ H', Own R H' L → ∀ Q2 : VK, (∀ H'', Own R H'' L → Q2 y H'') → tb σ H' Q2) (k : ∀ H', Own R H' L → Q v H') : tIf tt ta tb σ H Q := by
  refine h1 _ fun H' O' => ?_
  cases c with
  | true =>
    obtain ⟨e1, g2⟩ := h2 rfl
    subst e1
    exact g2 H' O' Q k
  | false =>
    obtain ⟨e1, g3⟩ := h3 rfl
    subst e1
    exact g3 H' O' Q k
theorem iteS {c : Bool} {A B : Prop} (h1 : c = true → A) (h2 : c = false → B) : if c = true then A else B := by
  cases c with
  | true => rw [if_pos rfl]; exact h1 rfl
  | false => rw [if_neg Bool.false_ne_true]; exact h2 rfl
/-! loops -/
theorem k_forL {g : TG} {tb : TS} {D : Ends} (J : List α → St → Hp → Prop) (h0 : J xs σ H) (hl : ∀ r σ H, J r σ H → SqL K H a (xs.map f))
    (hs : ∀ x r σ H, J (x :: r) σ H → g (f x) σ H fun σ2 H2 => tb { D with nx := J r, ct := J r, bk := D.nx } σ2 H2) (hd : ∀ σ H, J [] σ H → D.nx σ H) :
    ∃ W : Nat → Nat → St → Hp → Prop, (∃ m, W 0 m σ H) ∧ ∀ i m σ H, W i m σ H →
      ((Itl K a).stop i H ∧ D.nx σ H) ∨ ((Itl K a).go i H ∧ ∃ N : St → Hp → Prop, (∀ σ' H', N σ' H' → ∃ m', m' < m ∧ W (i + 1) m' σ' H') ∧ ∀ x H', (Itl K a).yld i H x H' → g x σ H' fun σ2 H2 => tb { D with nx := N, ct := N, bk := D.nx } σ2 H2) := by
  refine for_list (xs := xs.map f) (fun i σ H => J (xs.drop i) σ H) h0 (fun i σ H _ => hl _ σ H) (fun i x σ H hi hJ => ?_) fun σ H hJ => ?_
  · rw [List.getElem?_map] at hi
    cases e : xs[i]? with
    | none => rw [e] at hi; cases hi
    | some y =>
      rw [e] at hi
      cases hi
      have e2 : xs.drop i = y :: xs.drop (i + 1) := by
        obtain ⟨h1, h2⟩ := List.getElem?_eq_some_iff.mp e
        rw [← h2]
        exact List.drop_eq_getElem_cons h1
      rw [e2] at hJ
      exact hs y _ σ H hJ
  · rw [List.length_map, List.drop_length] at hJ
    exact hd σ H hJ
theorem k_forR {lo : Int} {n : Nat} {g : TG} {tb : TS} {D : Ends} (J : List Int → St → Hp → Prop) (h0 : J ((List.range n).map fun (i : Nat) => lo + (i : Int)) σ H)
    (hs : ∀ x r σ H, J (x :: r) σ H → g (.int x) σ H fun σ2 H2 => tb { D with nx := J r, ct := J r, bk := D.nx } σ2 H2) (hd : ∀ σ H, J [] σ H → D.nx σ H) :
    ∃ W : Nat → Nat → St → Hp → Prop, (∃ m, W 0 m σ H) ∧ ∀ i m σ H, W i m σ H →
      ((Itr lo n).stop i H ∧ D.nx σ H) ∨ ((Itr lo n).go i H ∧ ∃ N : St → Hp → Prop, (∀ σ' H', N σ' H' → ∃ m', m' < m ∧ W (i + 1) m' σ' H') ∧ ∀ x H', (Itr lo n).yld i H x H' → g x σ H' fun σ2 H2 => tb { D with nx := N, ct := N, bk := D.nx } σ2 H2) := by
  refine for_range (fun i σ H => J (((List.range n).map fun (i : Nat) => lo + (i : Int)).drop i) σ H) h0 (fun i σ H hi hJ => ?_) fun σ H hJ => ?_
  · have e2 : ((List.range n).map fun (i : Nat) => lo + (i : Int)).drop i = (lo + (i : Int)) :: ((List.range n).map fun (i : Nat) => lo + (i : Int)).drop (i + 1) := by
      have h1 : i < ((List.range n).map fun (i : Nat) => lo + (i : Int)).length := by simpa using hi
      rw [List.drop_eq_getElem_cons h1]
      simp
    rw [e2] at hJ
    exact hs _ _ σ H hJ
  · have e : ((List.range n).map fun (i : Nat) => lo + (i : Int)).drop n = [] := List.drop_eq_nil_of_le (by simp)
    rw [e] at hJ
    exact hd σ H hJ
theorem k_rng1 {RJ : It → Hp → Prop} (h : rng1 j = some xs') (k : xs' = ((List.range j.toNat).map fun (i : Nat) => (0 : Int) + (i : Int)) → RJ (Itr 0 j.toNat) H) : ∃ j' : Int, [V.int j] = [V.int j'] ∧ -(2 ^ 62) ≤ j' ∧ j' < 2 ^ 62 ∧ RJ (Itr 0 j'.toNat) H := by
  obtain ⟨⟨c1, c2⟩, rfl⟩ := grdE h
  exact ⟨j, rfl, c1, c2, k (by unfold rangeI; rw [Int.sub_zero])⟩
theorem k_rng2 {RJ : It → Hp → Prop} (h : rng2 i j = some xs') (k : xs' = ((List.range (j - i).toNat).map fun (n : Nat) => i + (n : Int)) → RJ (Itr i (j - i).toNat) H) :
    ∃ i' j' : Int, [V.int i, V.int j] = [V.int i', V.int j'] ∧ (-(2 ^ 62) ≤ i' ∧ i' < 2 ^ 62 ∧ -(2 ^ 62) ≤ j' ∧ j' < 2 ^ 62) ∧ RJ (Itr i' (j' - i').toNat) H := by
  obtain ⟨c, rfl⟩ := grdE h
  exact ⟨i, j, rfl, c, k rfl⟩
/-- while: J, by the turns that the mirror still has -/
theorem k_while {tc : TT} {tb : TS} {D : Ends} (J : Nat → St → Hp → Prop) (n : Nat) (h0 : J n σ H)
    (hs : ∀ n σ H, J n σ H → tc σ H fun b H1 => if b = true then ∃ N : St → Hp → Prop, (∀ σ' H', N σ' H' → ∃ m', m' < n ∧ J m' σ' H') ∧ tb { D with nx := N, ct := N, bk := D.nx } σ H1 else D.nx σ H1) : tWhile tc tb D σ H :=
  ⟨J, ⟨n, h0⟩, hs⟩
/-! comprehensions -/
theorem k_lcL {g : TG} {te : TE} {vs : List Nat} {D : Addr} {Qd : Hp → Prop} (J : List α → Hp → Prop) (h0 : J xs (upd H D (.lst []))) (hl : ∀ r H, J r H → SqL K H a (xs.map f))
    (hs : ∀ x r H, J (x :: r) H → g (f x) (wipe σ vs) H fun σ2 H2 => wipe σ2 vs = wipe σ vs ∧ te σ2 H2 fun y H4 => ∃ acc, H4 D = some (.lst acc) ∧ acc.length < sizeLine ∧ J r (upd H4 D (.lst (acc ++ [y])))) (hd : ∀ H, J [] H → Qd H) :
    ∃ W : Nat → Nat → Hp → Prop, (∃ m, W 0 m (upd H D (.lst []))) ∧ ∀ i m H, W i m H →
      ((Itl K a).stop i H ∧ Qd H) ∨ ((Itl K a).go i H ∧ ∃ Nx : Hp → Prop, (∀ H', Nx H' → ∃ m', m' < m ∧ W (i + 1) m' H') ∧ ∀ x H', (Itl K a).yld i H x H' → g x (wipe σ vs) H' fun σ2 H2 => wipe σ2 vs = wipe σ vs ∧ tYes σ2 H2 fun b H3 =>
        if b = true then te σ2 H3 fun y H4 => ∃ acc, H4 D = some (.lst acc) ∧ acc.length < sizeLine ∧ Nx (upd H4 D (.lst (acc ++ [y]))) else Nx H3) := by
  refine lc_list (xs := xs.map f) (fun i H => J (xs.drop i) H) h0 (fun i H _ => hl _ H) (fun i x H hi hJ => ?_) fun H hJ => ?_
  · rw [List.getElem?_map] at hi
    cases e : xs[i]? with
    | none => rw [e] at hi; cases hi
    | some y =>
      rw [e] at hi
      cases hi
      have e2 : xs.drop i = y :: xs.drop (i + 1) := by
        obtain ⟨h1, h2⟩ := List.getElem?_eq_some_iff.mp e
        rw [← h2]
        exact List.drop_eq_getElem_cons h1
      rw [e2] at hJ
      exact hs y _ H hJ
  · rw [List.length_map, List.drop_length] at hJ
    exact hd H hJ
theorem k_lcR {lo : Int} {n : Nat} {g : TG} {te : TE} {vs : List Nat} {D : Addr} {Qd : Hp → Prop} (J : List Int → Hp → Prop) (h0 : J ((List.range n).map fun (i : Nat) => lo + (i : Int)) (upd H D (.lst [])))
    (hs : ∀ x r H, J (x :: r) H → g (.int x) (wipe σ vs) H fun σ2 H2 => wipe σ2 vs = wipe σ vs ∧ te σ2 H2 fun y H4 => ∃ acc, H4 D = some (.lst acc) ∧ acc.length < sizeLine ∧ J r (upd H4 D (.lst (acc ++ [y])))) (hd : ∀ H, J [] H → Qd H) :
    ∃ W : Nat → Nat → Hp → Prop, (∃ m, W 0 m (upd H D (.lst []))) ∧ ∀ i m H, W i m H →
      ((Itr lo n).stop i H ∧ Qd H) ∨ ((Itr lo n).go i H ∧ ∃ Nx : Hp → Prop, (∀ H', Nx H' → ∃ m', m' < m ∧ W (i + 1) m' H') ∧ ∀ x H', (Itr lo n).yld i H x H' → g x (wipe σ vs) H' fun σ2 H2 => wipe σ2 vs = wipe σ vs ∧ tYes σ2 H2 fun b H3 =>
        if b = true then te σ2 H3 fun y H4 => ∃ acc, H4 D = some (.lst acc) ∧ acc.length < sizeLine ∧ Nx (upd H4 D (.lst (acc ++ [y]))) else Nx H3) := by
  refine lc_range (fun i H => J (((List.range n).map fun (i : Nat) => lo + (i : Int)).drop i) H) h0 (fun i H hi hJ => ?_) fun H hJ => ?_
  · have e2 : ((List.range n).map fun (i : Nat) => lo + (i : Int)).drop i = (lo + (i : Int)) :: ((List.range n).map fun (i : Nat) => lo + (i : Int)).drop (i + 1) := by
      have h1 : i < ((List.range n).map fun (i : Nat) => lo + (i : Int)).length := by simpa using hi
      rw [List.drop_eq_getElem_cons h1]
      simp
    rw [e2] at hJ
    exact hs _ _ H hJ
  · have e : ((List.range n).map fun (i : Nat) => lo + (i : Int)).drop n = [] := List.drop_eq_nil_of_le (by simp)
    rw [e] at hJ
    exact hd H hJ
end
end Bt

set_option Elab.async false
set_option linter.all false
set_option maxRecDepth 100000
set_option maxHeartbeats 4000000
/-! More steps. -/
namespace Bt
open PySem L2
/-- a name of the module that holds a value -/
def Gv (mg : Str → Option Value) (x : Str) (v : V) : Prop := ∃ u, mg x = some u ∧ RelV v u
theorem pe_gv {X : Cx} {x : Str} {v : V} {pos : Pos} (hg : Gl X x) (h : Gv X.mg x v) (hd : (x == ("__debug__" : Str)) = false := by decide) : PE X (.Name x pos) (tC v) := by
  obtain ⟨u, h1, h2⟩ := h
  exact pe_glob hg h1 h2 hd
section
variable {α S T R' : Type}
theorem finNx {rest : S → Option R'} {s : S} {r : R'} (h : finK rest (.nx s) = some r) : rest s = some r := h
theorem floNx {rest : S → Option (Fl T R')} {s : S} {fl : Fl T R'} (h : floK rest (.nx s) = some fl) : rest s = some fl := h
end
section
variable {K : PySem.W.Frag} {σ : St} {H R : Hp} {L L' : List Cell} {Q : VK} {a b p : Addr} {α : Type} {f : α → V} {xs ys zs : List α}
/-- some of the cells, by their places -/
theorem Own.sel (O : Own R H L) (is : List Nat) (hd : is.Nodup) (e : is.map (fun i => L[i]?) = L'.map some) : Own R H L' := by
  have hm : ∀ c ∈ L', c ∈ L := fun c hc => by
    have h1 : some c ∈ is.map (fun i => L[i]?) := by rw [e]; exact List.mem_map_of_mem hc
    obtain ⟨i, _, h2⟩ := List.mem_map.mp h1
    exact List.mem_of_getElem? h2
  refine ⟨O.ex, fun c h => O.at_ c (hm c h), fun c h => O.fr c (hm c h), ?_⟩
  clear hm
  induction is generalizing L' with
  | nil =>
    cases L' with
    | nil => exact List.Pairwise.nil
    | cons c r => simp at e
  | cons i is ih =>
    cases L' with
    | nil => simp at e
    | cons c r =>
      simp only [List.map_cons, List.cons.injEq] at e
      obtain ⟨e1, e2⟩ := e
      obtain ⟨n1, n2⟩ := List.nodup_cons.mp hd
      refine List.nodup_cons.mpr ⟨fun m => ?_, ih n2 e2⟩
      obtain ⟨d, hdm, ed⟩ := List.mem_map.mp m
      have h1 : some d ∈ is.map (fun i => L[i]?) := by rw [e2]; exact List.mem_map_of_mem hdm
      obtain ⟨j, hj, h2⟩ := List.mem_map.mp h1
      have g1 : (L.map (·.1))[i]? = some c.1 := by rw [List.getElem?_map, e1]; rfl
      have g2 : (L.map (·.1))[j]? = some c.1 := by
        rw [List.getElem?_map, h2]
        exact congrArg some ed
      have : i = j := nd_ix O.nd g1 g2
      subst this
      exact n1 hj
theorem a_set {v v' : V} {nx : St → Hp → Prop} {i : Nat} (e : v = v') (k : nx (σ.set i (some v')) H) : nx (σ.set i (some v)) H := by rw [e]; exact k
theorem k_newM {zs : List V} (O : Own R H L) (e : xs.map f = zs) (k : ∀ p H', Own R H' ((p, .lst (xs.map f)) :: L) → Q (.ref p) H') : ∀ p, H p = none → Q (.ref p) (upd H p (.lst zs)) := by
  subst e
  exact fun p hp => k p _ (O.new hp)
theorem k_rep {k : Int} (O : Own R H L) (h1 : H a = some (.lst (xs.map f))) (h : repG xs k = some zs) (q : ∀ p H', Own R H' ((p, .lst (zs.map f)) :: L) → Q (.ref p) H') : rRep (.ref a) (.int k) H Q := by
  obtain ⟨⟨c1, c2, c3⟩, rfl⟩ := grdE h
  refine ⟨a, k, _, rfl, rfl, h1, c1, c2, by rw [List.length_map]; exact c3, fun p hp => ?_⟩
  have e : ∀ n : Nat, (List.replicate n (xs.map f)).flatten = (List.replicate n xs).flatten.map f := fun n => by
    induction n with
    | zero => rfl
    | succ n ih => rw [List.replicate_succ, List.flatten_cons, ih, List.replicate_succ, List.flatten_cons, List.map_append]
  first
    | (rw [e]; exact q p _ (O.new hp))
    | (show Q (.ref p) _; simpa only [e] using q p _ (O.new hp))
end
end Bt
namespace Bt
open PySem L2
/-! readings under a name of their own, so that what follows stands as an argument -/
@[irreducible] def rNewL (xs : List V) (H : Hp) (Q : VK) : Prop := xs.length ≤ sizeLine ∧ ∀ p, H p = none → Q (.ref p) (upd H p (.lst xs))
@[irreducible] def rNewT (xs : List V) (H : Hp) (Q : VK) : Prop := xs.length ≤ sizeLine ∧ ∀ p, H p = none → Q (.ref p) (upd H p (.tup xs))
@[irreducible] def rLenQ (K : PySem.W.Frag) (xs : List V) (H : Hp) (Q : VK) : Prop := ∃ p ys, xs = [V.ref p] ∧ (SqL K H p ys ∨ SqT K H p ys) ∧ Q (.int ys.length) H
@[irreducible] def rListQ (K : PySem.W.Frag) (xs : List V) (H : Hp) (Q : VK) : Prop := ∃ p ys, xs = [V.ref p] ∧ (SqL K H p ys ∨ SqT K H p ys) ∧ ∀ l, H l = none → Q (.ref l) (upd H l (.lst ys))
section
variable {X : Cx}
theorem pe_lstQ {es : List Expr} {t : TA} {pos : Pos} (h : PE X (.List es pos) (tLst t)) : PE X (.List es pos) (fun σ H Q => t σ H fun xs H1 => rNewL xs H1 Q) := by
  unfold rNewL
  exact h
theorem pe_tupQ {es : List Expr} {k : Nat} {t : TA} {pos : Pos} (h : PE X (.Tuple es k pos) (tTup t)) : PE X (.Tuple es k pos) (fun σ H Q => t σ H fun xs H1 => rNewT xs H1 Q) := by
  unfold rNewT
  exact h
theorem call_lenQ : CallR X (.builtin "len") (rLenQ X.K) := by
  have e : rLenQ X.K = fun xs H Q => ∃ p ys, xs = [V.ref p] ∧ (SqL X.K H p ys ∨ SqT X.K H p ys) ∧ Q (.int ys.length) H := by
    funext xs H Q
    unfold rLenQ
    rfl
  rw [e]
  exact call_len_seq
theorem call_listQ : CallR X (.type "list") (rListQ X.K) := by
  have e : rListQ X.K = fun xs H Q => ∃ p ys, xs = [V.ref p] ∧ (SqL X.K H p ys ∨ SqT X.K H p ys) ∧ ∀ l, H l = none → Q (.ref l) (upd H l (.lst ys)) := by
    funext xs H Q
    unfold rListQ
    rfl
  rw [e]
  exact call_list_of
end
section
variable {K : PySem.W.Frag} {σ : St} {H R : Hp} {L L' : List Cell} {Q : VK} {a b p : Addr} {α : Type} {f : α → V} {xs ys zs : List α}
theorem x_nil {QA : List V → Hp → Prop} (h : QA [] H) : tNil σ H QA := h
theorem x_np {QO : Option Int → Hp → Prop} (h : QO none H) : tNoPart σ H QO := h
theorem n_lst {zs : List V} (O : Own R H L) (e : xs.map f = zs) (hz : zs.length ≤ sizeLine) (k : ∀ p H', Own R H' ((p, .lst (xs.map f)) :: L) → Q (.ref p) H') : rNewL zs H Q := by
  subst e
  unfold rNewL
  exact ⟨hz, fun p hp => k p _ (O.new hp)⟩
theorem n_lenT {K : PySem.W.Frag} {H : Hp} {Q : VK} {a : Addr} {ys : List V} {n : Nat} (hs : SqT K H a ys) (hn : ys.length = n) (q : Q (.int (n : Int)) H) : rLenQ K [.ref a] H Q := by
  unfold rLenQ
  exact ⟨a, ys, rfl, .inr hs, by rw [hn]; exact q⟩
theorem n_len (h : SqL K H a (xs.map f)) (k : Q (.int (xs.length : Int)) H) : rLenQ K [.ref a] H Q := by
  unfold rLenQ
  exact ⟨a, _, rfl, .inl h, by rw [List.length_map]; exact k⟩
theorem n_list {ys : List V} (O : Own R H L) (h : SqL K H a ys) (k : ∀ p H', Own R H' ((p, .lst ys) :: L) → Q (.ref p) H') : rListQ K [.ref a] H Q := by
  unfold rListQ
  exact ⟨a, _, rfl, .inl h, fun l hl => k l _ (O.new hl)⟩
theorem rng1E {j : Int} {xs : List Int} (h : rng1 j = some xs) : -(2 ^ 62) ≤ j ∧ j < 2 ^ 62 ∧ ((List.range j.toNat).map fun (i : Nat) => (0 : Int) + (i : Int)) = xs := by
  obtain ⟨⟨c1, c2⟩, rfl⟩ := grdE h
  exact ⟨c1, c2, by unfold rangeI; rw [Int.sub_zero]⟩
theorem rng2E {i j : Int} {xs : List Int} (h : rng2 i j = some xs) : (-(2 ^ 62) ≤ i ∧ i < 2 ^ 62 ∧ -(2 ^ 62) ≤ j ∧ j < 2 ^ 62) ∧ ((List.range (j - i).toNat).map fun (n : Nat) => i + (n : Int)) = xs := by
  obtain ⟨c, rfl⟩ := grdE h
  exact ⟨c, rfl⟩
end
end Bt
namespace Bt
open PySem L2
/-! a reading opened by one step, by its head -/
section
variable {K : PySem.W.Frag} {σ : St} {H : Hp} {Q : VK} {D : Ends} {t u ts : TS} {te ta tb tl : TE} {tr : TA} {c : TT} {v : V} {i : Nat} {r : R2} {QB : Bool → Hp → Prop} {QA : List V → Hp → Prop} {QO : Option Int → Hp → Prop} {R : It → Hp → Prop}
theorem o_seq {n b k : St → Hp → Prop} {w : VK} (h : t (Ends.mk (u (Ends.mk n w b k)) w b k) σ H) : tSeq t u (Ends.mk n w b k) σ H := h
theorem o_asg {n b k : St → Hp → Prop} {w : VK} (h : te σ H fun x H1 => n (σ.set i (some x)) H1) : tAsg te (gName i) (Ends.mk n w b k) σ H := h
theorem o_drop {n b k : St → Hp → Prop} {w : VK} (h : te σ H fun _ H1 => n σ H1) : tDrop te (Ends.mk n w b k) σ H := h
theorem o_ret {n b k : St → Hp → Prop} {w : VK} (h : te σ H w) : tRet te (Ends.mk n w b k) σ H := h
theorem o_ifs {n b k : St → Hp → Prop} {w : VK} (h : c σ H fun z H1 => if z = true then t (Ends.mk n w b k) σ H1 else u (Ends.mk n w b k) σ H1) : tIfS c t u (Ends.mk n w b k) σ H := h
theorem o_next {n b k : St → Hp → Prop} {w : VK} (h : n σ H) : tNext (Ends.mk n w b k) σ H := h
theorem o_brk {n b k : St → Hp → Prop} {w : VK} (h : b σ H) : tBreak (Ends.mk n w b k) σ H := h
theorem o_cont {n b k : St → Hp → Prop} {w : VK} (h : k σ H) : tCont (Ends.mk n w b k) σ H := h
theorem o_retN {n b k : St → Hp → Prop} {w : VK} (h : w .non H) : tRetN (Ends.mk n w b k) σ H := h
theorem o_cut {n b k : St → Hp → Prop} {w : VK} (Mid : St → Hp → Prop) (h1 : t (Ends.mk Mid w b k) σ H) (h2 : ∀ σ' H', Mid σ' H' → u (Ends.mk n w b k) σ' H') : Evl.tCut t u (Ends.mk n w b k) σ H := ⟨Mid, h1, h2⟩
theorem o_op (h : ta σ H fun x H1 => tb σ H1 fun y H2 => r x y H2 Q) : tOp r ta tb σ H Q := h
theorem o_un {r : V → Hp → VK → Prop} (h : ta σ H fun x H1 => r x H1 Q) : tUn r ta σ H Q := h
theorem o_c (h : Q v H) : tC v σ H Q := h
theorem o_test (h : te σ H fun x H' => ∃ k, x = .bl k ∧ QB k H') : tTest te σ H QB := h
theorem o_B (h : te σ H fun x H' => ∃ k, x = .bl k ∧ QB k H') : tB te σ H QB := h
theorem o_not (h : c σ H fun b H1 => QB (!b) H1) : tNot c σ H QB := h
theorem o_notV (h : te σ H fun x H1 => ∃ c, x = .bl c ∧ Q (.bl (!c)) H1) : tNotV te σ H Q := h
theorem o_cons (h : ta σ H fun x H1 => tr σ H1 fun xs H2 => QA (x :: xs) H2) : tCons ta tr σ H QA := h
theorem o_cb {r : List V → Hp → VK → Prop} (h : tr σ H fun vs H1 => r vs H1 Q) : tCB r tr σ H Q := h
theorem o_call {sp : Sp} {dvs : List V} {E : XK} (h : tr σ H fun vs H1 => sp (vs ++ dvs) H1 Q E) : tCall sp dvs E tr σ H Q := h
theorem o_bm {T : String} {r : V → List V → Hp → VK → Prop} (h : te σ H fun x H1 => tyV K T x H1 ∧ tr σ H1 fun xs H2 => r x xs H2 Q) : tBM K T r te tr σ H Q := h
theorem o_bm0 {T : String} {r : V → List V → Hp → VK → Prop} (h : te σ H fun x H1 => tyV K T x H1 ∧ r x [] H1 Q) : tBM0 K T r te σ H Q := h
theorem o_sl {r : V → Option Int → Option Int → Hp → VK → Prop} {t1 t2 : TO} (h : te σ H fun x H1 => t1 σ H1 fun l H2 => t2 σ H2 fun u H3 => r x l u H3 Q) : tSl r te t1 t2 σ H Q := h
theorem o_part (h : te σ H fun x H1 => ∃ i, x = .int i ∧ QO (some i) H1) : tPart te σ H QO := h
theorem o_for {wi : TI} {g : TG} {n b k : St → Hp → Prop} {w : VK} (h : wi σ H fun J H1 => ∃ W : Nat → Nat → St → Hp → Prop, (∃ m, W 0 m σ H1) ∧ ∀ i m σ H, W i m σ H →
    (J.stop i H ∧ n σ H) ∨ (J.go i H ∧ ∃ N : St → Hp → Prop, (∀ σ' H', N σ' H' → ∃ m', m' < m ∧ W (i + 1) m' σ' H') ∧ ∀ x H', J.yld i H x H' → g x σ H' fun σ2 H2 => ts (Ends.mk N w n N) σ2 H2)) : tFor wi g ts (Ends.mk n w b k) σ H := h
theorem o_il (h : tl σ H fun x H1 => ∃ a, x = .ref a ∧ (∃ xs, SqL K H1 a xs) ∧ R (Itl K a) H1) : iList K tl σ H R := h
theorem o_ir1 (h : tr σ H fun vs H1 => ∃ j : Int, vs = [.int j] ∧ -(2 ^ 62) ≤ j ∧ j < 2 ^ 62 ∧ R (Itr 0 j.toNat) H1) : iRng1 tr σ H R := h
theorem o_ir2 (h : tr σ H fun vs H1 => ∃ i j : Int, vs = [.int i, .int j] ∧ (-(2 ^ 62) ≤ i ∧ i < 2 ^ 62 ∧ -(2 ^ 62) ≤ j ∧ j < 2 ^ 62) ∧ R (Itr i (j - i).toNat) H1) : iRng2 tr σ H R := h
theorem o_sub {to ti : TE} {tset : TSet} {n b k : St → Hp → Prop} {w : VK} (h : te σ H fun x H1 => to σ H1 fun o H2 => ti σ H2 fun i H3 => tset o i x H3 fun H4 => n σ H4) : tAsg te (gSub to ti tset) (Ends.mk n w b k) σ H := h
/-! the loops once more, their ends apart -/
variable {α : Type} {f : α → V} {xs : List α} {a : Addr} {g : TG} {n b k : St → Hp → Prop} {w : VK}
theorem q_forL {j : Nat} (J : List α → St → Hp → Prop) (h0 : J xs σ H) (hl : ∀ r σ H, J r σ H → SqL K H a (xs.map f))
    (hs : ∀ x r σ H, J (x :: r) σ H → ts (Ends.mk (J r) w n (J r)) (σ.set j (some (f x))) H) (hd : ∀ σ H, J [] σ H → n σ H) :
    ∃ W : Nat → Nat → St → Hp → Prop, (∃ m, W 0 m σ H) ∧ ∀ i m σ H, W i m σ H →
      ((Itl K a).stop i H ∧ n σ H) ∨ ((Itl K a).go i H ∧ ∃ N : St → Hp → Prop, (∀ σ' H', N σ' H' → ∃ m', m' < m ∧ W (i + 1) m' σ' H') ∧ ∀ x H', (Itl K a).yld i H x H' → gName j x σ H' fun σ2 H2 => ts (Ends.mk N w n N) σ2 H2) :=
  k_forL (D := Ends.mk n w (fun _ _ => False) fun _ _ => False) (g := gName j) (tb := ts) J h0 hl hs hd
theorem q_forR {j : Nat} {lo : Int} {m : Nat} (J : List Int → St → Hp → Prop) (h0 : J ((List.range m).map fun (i : Nat) => lo + (i : Int)) σ H)
    (hs : ∀ x r σ H, J (x :: r) σ H → ts (Ends.mk (J r) w n (J r)) (σ.set j (some (.int x))) H) (hd : ∀ σ H, J [] σ H → n σ H) :
    ∃ W : Nat → Nat → St → Hp → Prop, (∃ m, W 0 m σ H) ∧ ∀ i m' σ H, W i m' σ H →
      ((Itr lo m).stop i H ∧ n σ H) ∨ ((Itr lo m).go i H ∧ ∃ N : St → Hp → Prop, (∀ σ' H', N σ' H' → ∃ m'', m'' < m' ∧ W (i + 1) m'' σ' H') ∧ ∀ x H', (Itr lo m).yld i H x H' → gName j x σ H' fun σ2 H2 => ts (Ends.mk N w n N) σ2 H2) :=
  k_forR (D := Ends.mk n w (fun _ _ => False) fun _ _ => False) (g := gName j) (tb := ts) J h0 hs hd
end
end Bt
namespace Bt
open PySem L2
/-! what the head tells of a def -/
theorem def_mk {K : PySem.W.Frag} {h : Heap} {mg : Str → Option Value} {name qual : Str} {st : Stmt} {f : Addr} {od an : Option Addr} {sl : Array (Option Value)} {oc kV dc pm cd ct : Value} (X : K.In h) (G : h.Ns mainGlobals mg)
    (a : PySem.W.nsIn K mainGlobals name = some (some (.ref f))) (l : K.lookup f = some ⟨oc, od, .func (PySem.W.fnOf name qual (defArgs st) (defBody st) (defScope st) .none kV dc pm an cd ct), sl⟩) (c : PySem.W.codeIn K cd qual = true) (k : PySem.W.keepIn K (.ref f) = true) :
    ∃ f fd, Fun K name qual st f fd ∧ mg name = some (.ref f) := ⟨f, _, fun_mk l c k, PySem.W.mg_of X G a⟩
theorem gv_int {K : PySem.W.Frag} {h : Heap} {mg : Str → Option Value} {x : Str} {i : Int} {t : Tok} (X : K.In h) (G : h.Ns mainGlobals mg) (a : PySem.W.nsIn K mainGlobals x = some (some (.int i t))) : Gv mg x (.int i) := ⟨_, PySem.W.mg_of X G a, _, rfl⟩
end Bt
namespace Bt
open PySem L2
section
variable {K : PySem.W.Frag} {σ : St} {H R : Hp} {L : List Cell} {Q : VK} {a p : Addr} {i : Int} {x v : V} {S R' : Type}
def FUEL : Nat := 100000
theorem whileM_end {c : Bool} {s out : S} {f : Option S} (h : ifB c f (some s) = some out) (hc : c = false) : out = s := (Option.some.inj (ifF h hc)).symm
theorem whileF_end {c : Bool} {s : S} {out : Fl S R'} {f : Option (Fl S R')} (h : ifB c f (some (.nx s)) = some out) (hc : c = false) : Fl.nx s = out := Option.some.inj (ifF h hc)
/-- while: J, by the turns that the mirror still has -/
theorem q_while {tc : TT} {ts : TS} {n b k : St → Hp → Prop} {w : VK} (J : Nat → St → Hp → Prop) (m : Nat) (h0 : J m σ H) (hz : ∀ σ H, J 0 σ H → False)
    (hs : ∀ m σ H, J (m + 1) σ H → tc σ H fun z H1 => if z = true then ts (Ends.mk (J m) w n (J m)) σ H1 else n σ H1) (mono : ∀ σ H (Q Q' : Bool → Hp → Prop), (∀ z H1, Q z H1 → Q' z H1) → tc σ H Q → tc σ H Q') : tWhile tc ts (Ends.mk n w b k) σ H := by
  refine ⟨J, ⟨m, h0⟩, fun m σ H hJ => ?_⟩
  cases m with
  | zero => exact (hz σ H hJ).elim
  | succ m =>
    refine mono σ H _ _ (fun z H1 q => ?_) (hs m σ H hJ)
    cases z with
    | true =>
      rw [if_pos rfl] at q ⊢
      exact ⟨J m, fun σ' H' hJ' => ⟨m, Nat.lt_succ_self m, hJ'⟩, q⟩
    | false =>
      rw [if_neg Bool.false_ne_true] at q ⊢
      exact q
theorem o_while {tc : TT} {ts : TS} {n b k : St → Hp → Prop} {w : VK} (J : Nat → St → Hp → Prop) (m : Nat) (h0 : J m σ H) (hz : ∀ σ H, J 0 σ H → False)
    (hs : ∀ m σ H, J (m + 1) σ H → tc σ H fun z H1 => if z = true then ∃ N : St → Hp → Prop, (∀ σ' H', N σ' H' → ∃ m', m' < m + 1 ∧ J m' σ' H') ∧ ts (Ends.mk N w n N) σ H1 else n σ H1) : tWhile tc ts (Ends.mk n w b k) σ H := by
  refine ⟨J, ⟨m, h0⟩, fun m σ H hJ => ?_⟩
  cases m with
  | zero => exact (hz σ H hJ).elim
  | succ m => exact hs m σ H hJ
theorem o_turn {J : Nat → St → Hp → Prop} {m : Nat} {ts : TS} {n : St → Hp → Prop} {w : VK} (h : ts (Ends.mk (J m) w n (J m)) σ H) :
    ∃ N : St → Hp → Prop, (∀ σ' H', N σ' H' → ∃ m', m' < m + 1 ∧ J m' σ' H') ∧ ts (Ends.mk N w n N) σ H := ⟨J m, fun _ _ hJ => ⟨m, Nat.lt_succ_self m, hJ⟩, h⟩
theorem n_tup {zs : List V} (O : Own R H L) (hz : zs.length ≤ sizeLine) (k : ∀ p H', Own R H' ((p, .tup zs) :: L) → Q (.ref p) H') : rNewT zs H Q := by
  unfold rNewT
  exact ⟨hz, fun p hp => k p _ (O.new hp)⟩
theorem k_ixT {xs : List V} (hs : SqT K H a xs) (h : atI xs i = some v) (k : Q v H) : rIxT K (.ref a) (.int i) H Q := ⟨a, xs, i, v, rfl, rfl, hs, h, k⟩
end
end Bt
namespace Bt
open PySem L2
section
variable {K : PySem.W.Frag} {σ : St} {H R : Hp} {L : List Cell} {Q : VK} {a p : Addr} {i : Int} {x v : V} {α : Type} {f : α → V} {xs : List α}
theorem inV_int (i : Int) : ∀ xs : List Int, inV (.int i) (xs.map V.int) = decide (i ∈ xs)
  | [] => rfl
  | y :: r => by
    have ih := inV_int i r
    have e : inV (.int i) ((y :: r).map V.int) = (eqV (.int y) (.int i) || inV (.int i) (r.map V.int)) := rfl
    rw [e, ih]
    have e2 : eqV (.int y) (.int i) = decide (i = y) := by
      by_cases h : i = y
      · subst h; simp [eqV]
      · have : ¬ y = i := fun q => h q.symm
        simp [eqV, h, this]
    rw [e2]
    simp
theorem flat_int : ∀ xs : List Int, (xs.map V.int).all flatV = true
  | [] => rfl
  | y :: r => by
    have ih := flat_int r
    show (flatV (.int y) && (r.map V.int).all flatV) = true
    rw [ih]
    rfl
theorem k_inL {ns : List Int} (hs : SqL K H a (ns.map V.int)) (k : Q (.bl (decide (i ∈ ns))) H) : rIn K false (.int i) (.ref a) H Q :=
  ⟨a, _, rfl, .inl hs, rfl, flat_int _, by rw [inV_int]; exact k⟩
theorem k_niL {ns : List Int} (hs : SqL K H a (ns.map V.int)) (k : Q (.bl (!decide (i ∈ ns))) H) : rIn K true (.int i) (.ref a) H Q :=
  ⟨a, _, rfl, .inl hs, rfl, flat_int _, by rw [inV_int]; exact k⟩
theorem k_inT {ns : List Int} (hs : SqT K H a (ns.map V.int)) (k : Q (.bl (decide (i ∈ ns))) H) : rIn K false (.int i) (.ref a) H Q :=
  ⟨a, _, rfl, .inr hs, rfl, flat_int _, by rw [inV_int]; exact k⟩
theorem k_niT {ns : List Int} (hs : SqT K H a (ns.map V.int)) (k : Q (.bl (!decide (i ∈ ns))) H) : rIn K true (.int i) (.ref a) H Q :=
  ⟨a, _, rfl, .inr hs, rfl, flat_int _, by rw [inV_int]; exact k⟩
/-! comprehensions with a test -/
theorem k_lcLt {g : TG} {tt : TT} {te : TE} {vs : List Nat} {D : Addr} {Qd : Hp → Prop} (J : List α → Hp → Prop) (h0 : J xs (upd H D (.lst []))) (hl : ∀ r H, J r H → SqL K H a (xs.map f))
    (hs : ∀ x r H, J (x :: r) H → g (f x) (wipe σ vs) H fun σ2 H2 => wipe σ2 vs = wipe σ vs ∧ tt σ2 H2 fun b H3 => if b = true then te σ2 H3 fun y H4 => ∃ acc, H4 D = some (.lst acc) ∧ acc.length < sizeLine ∧ J r (upd H4 D (.lst (acc ++ [y]))) else J r H3) (hd : ∀ H, J [] H → Qd H) :
    ∃ W : Nat → Nat → Hp → Prop, (∃ m, W 0 m (upd H D (.lst []))) ∧ ∀ i m H, W i m H →
      ((Itl K a).stop i H ∧ Qd H) ∨ ((Itl K a).go i H ∧ ∃ Nx : Hp → Prop, (∀ H', Nx H' → ∃ m', m' < m ∧ W (i + 1) m' H') ∧ ∀ x H', (Itl K a).yld i H x H' → g x (wipe σ vs) H' fun σ2 H2 => wipe σ2 vs = wipe σ vs ∧ tt σ2 H2 fun b H3 =>
        if b = true then te σ2 H3 fun y H4 => ∃ acc, H4 D = some (.lst acc) ∧ acc.length < sizeLine ∧ Nx (upd H4 D (.lst (acc ++ [y]))) else Nx H3) := by
  refine lc_list (xs := xs.map f) (fun i H => J (xs.drop i) H) h0 (fun i H _ => hl _ H) (fun i x H hi hJ => ?_) fun H hJ => ?_
  · rw [List.getElem?_map] at hi
    cases e : xs[i]? with
    | none => rw [e] at hi; cases hi
    | some y =>
      rw [e] at hi
      cases hi
      have e2 : xs.drop i = y :: xs.drop (i + 1) := by
        obtain ⟨h1, h2⟩ := List.getElem?_eq_some_iff.mp e
        rw [← h2]
        exact List.drop_eq_getElem_cons h1
      rw [e2] at hJ
      exact hs y _ H hJ
  · rw [List.length_map, List.drop_length] at hJ
    exact hd H hJ
theorem k_lcRt {lo : Int} {n : Nat} {g : TG} {tt : TT} {te : TE} {vs : List Nat} {D : Addr} {Qd : Hp → Prop} (J : List Int → Hp → Prop) (h0 : J ((List.range n).map fun (i : Nat) => lo + (i : Int)) (upd H D (.lst [])))
    (hs : ∀ x r H, J (x :: r) H → g (.int x) (wipe σ vs) H fun σ2 H2 => wipe σ2 vs = wipe σ vs ∧ tt σ2 H2 fun b H3 => if b = true then te σ2 H3 fun y H4 => ∃ acc, H4 D = some (.lst acc) ∧ acc.length < sizeLine ∧ J r (upd H4 D (.lst (acc ++ [y]))) else J r H3) (hd : ∀ H, J [] H → Qd H) :
    ∃ W : Nat → Nat → Hp → Prop, (∃ m, W 0 m (upd H D (.lst []))) ∧ ∀ i m H, W i m H →
      ((Itr lo n).stop i H ∧ Qd H) ∨ ((Itr lo n).go i H ∧ ∃ Nx : Hp → Prop, (∀ H', Nx H' → ∃ m', m' < m ∧ W (i + 1) m' H') ∧ ∀ x H', (Itr lo n).yld i H x H' → g x (wipe σ vs) H' fun σ2 H2 => wipe σ2 vs = wipe σ vs ∧ tt σ2 H2 fun b H3 =>
        if b = true then te σ2 H3 fun y H4 => ∃ acc, H4 D = some (.lst acc) ∧ acc.length < sizeLine ∧ Nx (upd H4 D (.lst (acc ++ [y]))) else Nx H3) := by
  refine lc_range (fun i H => J (((List.range n).map fun (i : Nat) => lo + (i : Int)).drop i) H) h0 (fun i H hi hJ => ?_) fun H hJ => ?_
  · have e2 : ((List.range n).map fun (i : Nat) => lo + (i : Int)).drop i = (lo + (i : Int)) :: ((List.range n).map fun (i : Nat) => lo + (i : Int)).drop (i + 1) := by
      have h1 : i < ((List.range n).map fun (i : Nat) => lo + (i : Int)).length := by simpa using hi
      rw [List.drop_eq_getElem_cons h1]
      simp
    rw [e2] at hJ
    exact hs _ _ H hJ
  · have e : ((List.range n).map fun (i : Nat) => lo + (i : Int)).drop n = [] := List.drop_eq_nil_of_le (by simp)
    rw [e] at hJ
    exact hd H hJ
/-! for i, x in enumerate(xs) -/
def enumI {α : Type} : Nat → List α → List (Int × α)
  | _, [] => []
  | n, x :: r => ((n : Int), x) :: enumI (n + 1) r
theorem enumI_drop {α : Type} : ∀ (xs : List α) (n i : Nat) (x : α), xs[i]? = some x → (enumI n xs).drop i = (((n + i : Nat) : Int), x) :: (enumI n xs).drop (i + 1)
  | [], _, _, _, h => by simp at h
  | y :: r, n, 0, x, h => by
    cases (Option.some.inj h)
    rfl
  | y :: r, n, i + 1, x, h => by
    have ih := enumI_drop r (n + 1) i x (by simpa using h)
    show (enumI (n + 1) r).drop i = _ :: (enumI (n + 1) r).drop (i + 1)
    rw [ih]
    have : n + 1 + i = n + (i + 1) := by omega
    rw [this]
theorem enumI_len {α : Type} : ∀ (xs : List α) (n : Nat), (enumI n xs).length = xs.length
  | [], _ => rfl
  | x :: r, n => by show (enumI (n + 1) r).length + 1 = r.length + 1; rw [enumI_len r]
theorem q_forE {i1 i2 : Nat} {ts : TS} {n b k : St → Hp → Prop} {w : VK} {KK : PySem.W.Frag} (J : List (Int × α) → St → Hp → Prop) (h0 : J (enumI 0 xs) σ H) (hl : ∀ r σ H, J r σ H → SqL K H a (xs.map f)) (hx : ∀ r σ H H', J r σ H → Ex H H' → J r σ H')
    (hs : ∀ j x r σ H, J ((j, x) :: r) σ H → ts (Ends.mk (J r) w n (J r)) ((σ.set i1 (some (.int j))).set i2 (some (f x))) H) (hd : ∀ σ H, J [] σ H → n σ H) :
    ∃ W : Nat → Nat → St → Hp → Prop, (∃ m, W 0 m σ H) ∧ ∀ i m σ H, W i m σ H →
      ((Ite K a).stop i H ∧ n σ H) ∨ ((Ite K a).go i H ∧ ∃ N : St → Hp → Prop, (∀ σ' H', N σ' H' → ∃ m', m' < m ∧ W (i + 1) m' σ' H') ∧ ∀ x H', (Ite K a).yld i H x H' → gTup KK 2 (gCons (gName i1) (gCons (gName i2) gNil)) x σ H' fun σ2 H2 => ts (Ends.mk N w n N) σ2 H2) := by
  refine ⟨fun i m σ H => m = xs.length - i ∧ i ≤ xs.length ∧ J ((enumI 0 xs).drop i) σ H, ⟨xs.length, by simp, Nat.zero_le _, h0⟩, ?_⟩
  rintro i m σ H ⟨rfl, hi, hJ⟩
  have hS := hl _ σ H hJ
  by_cases hlt : i < xs.length
  · have e : xs[i]? = some xs[i] := List.getElem?_eq_getElem hlt
    have e1 : (xs.map f)[i]? = some (f xs[i]) := by rw [List.getElem?_map, e]; rfl
    have e2 := enumI_drop xs 0 i xs[i] e
    rw [e2] at hJ
    refine .inr ⟨⟨_, _, hS, e1⟩, J ((enumI 0 xs).drop (i + 1)), fun σ' H' hJ' => ⟨_, by omega, rfl, hlt, hJ'⟩, fun y H' hy => ?_⟩
    obtain ⟨T, x, rfl, hT, rfl, hq⟩ := hy
    have hxx := hq _ hS
    rw [e1] at hxx
    cases hxx
    refine ⟨T, _, rfl, SqT.of upd_same, rfl, _, _, rfl, _, _, rfl, rfl, ?_⟩
    have hJ2 := hx _ _ _ (upd H T (.tup [.int ((i : Nat) : Int), f xs[i]])) hJ (Ex.new hT)
    have e3 : ((0 + i : Nat) : Int) = (i : Int) := by omega
    rw [e3] at hJ2
    exact hs _ _ _ _ _ hJ2
  · have e : (enumI 0 xs).drop i = [] := List.drop_eq_nil_of_le (by rw [enumI_len]; omega)
    rw [e] at hJ
    exact .inl ⟨⟨_, hS, by rw [List.length_map]; omega⟩, hd σ H hJ⟩
end
end Bt
namespace Bt
open PySem L2
/-! what is refused -/
inductive Er where
  | NoBits | NoName | NoKey | NoFrame | NoPost | NoThing | NoStrip | NoRail
  | NoWire (i : Int) | NoRow (i : Int)
  deriving DecidableEq
structure Eds where
  NoBits : Addr
  NoName : Addr
  NoKey : Addr
  NoFrame : Addr
  NoPost : Addr
  NoThing : Addr
  NoStrip : Addr
  NoRail : Addr
  NoWire : Addr
  NoRow : Addr
  RailError : Addr
def Eds.of (d : Eds) : Er → Addr
  | .NoBits => d.NoBits
  | .NoName => d.NoName
  | .NoKey => d.NoKey
  | .NoFrame => d.NoFrame
  | .NoPost => d.NoPost
  | .NoThing => d.NoThing
  | .NoStrip => d.NoStrip
  | .NoRail => d.NoRail
  | .NoWire _ => d.NoWire
  | .NoRow _ => d.NoRow
inductive Rs (R : Type) where
  | ok (r : R)
  | er (e : Er)
def RetE (d : Eds) (e : Er) (H : Hp) (E : XK) : Prop := match e with
  | .NoWire i => ∀ H' a, H a = none → Ex H H' → H' a = some (.xd [(("at" : Str), .int i)]) → E (.ref d.NoWire) (some a) H'
  | .NoRow i => ∀ H' a, H a = none → Ex H H' → H' a = some (.xd [(("word" : Str), .int i)]) → E (.ref d.NoRow) (some a) H'
  | e => ∀ H', Ex H H' → E (.ref (d.of e)) none H'
def RetR {R : Type} (P : R → Prop) (d : Eds) (r : Rs R) (H : Hp) (E : XK) : Prop := match r with
  | .ok r => P r
  | .er e => RetE d e H E
section
variable {α β S R' : Type} {d : Eds} {H H0 : Hp} {E : XK} {L : List Cell}
theorem RetE.go {e : Er} (k : RetE d e H0 E) (O : Own H0 H L) : RetE d e H E := by
  cases e <;> first
    | exact fun H' h => k H' (O.ex.trans h)
    | exact fun H' a ha h => k H' a (O.ex.back ha) (O.ex.trans h)
theorem RetR.ok {P : α → Prop} {y : α} (h : P y) : RetR P d (.ok y) H E := h
theorem RetR.split {P : α → Prop} {x : Rs α} (h2 : ∀ e, x = .er e → RetE d e H E) (h1 : ∀ y, x = .ok y → P y) : RetR P d x H E := by
  cases x with
  | ok y => exact h1 y rfl
  | er e => exact h2 e rfl
def contR (f : α → Option (Rs β)) : Rs α → Option (Rs β)
  | .ok x => f x
  | .er e => some (.er e)
def bndR (a : Option (Rs α)) (f : α → Option (Rs β)) : Option (Rs β) := bnd a (contR f)
def contRF (f : α → Option (Fl S (Rs β))) : Rs α → Option (Fl S (Rs β))
  | .ok x => f x
  | .er e => some (.rt (.er e))
def bndRF (a : Option (Rs α)) (f : α → Option (Fl S (Rs β))) : Option (Fl S (Rs β)) := bnd a (contRF f)
def contO (f : α → Option β) : Rs α → Option β
  | .ok x => f x
  | .er _ => none
def bndO (a : Option (Rs α)) (f : α → Option β) : Option β := bnd a (contO f)
theorem bndRE {a : Option (Rs α)} {f : α → Option (Rs β)} {r : Rs β} (h : bndR a f = some r) : ∃ x, a = some x ∧ contR f x = some r := bndE h
theorem bndRFE {a : Option (Rs α)} {f : α → Option (Fl S (Rs β))} {r : Fl S (Rs β)} (h : bndRF a f = some r) : ∃ x, a = some x ∧ contRF f x = some r := bndE h
theorem okR {f : α → Option (Rs β)} {y : α} {r : Rs β} (h : contR f (.ok y) = some r) : f y = some r := h
theorem okRF {f : α → Option (Fl S (Rs β))} {y : α} {r : Fl S (Rs β)} (h : contRF f (.ok y) = some r) : f y = some r := h
theorem erR {f : α → Option (Rs β)} {e : Er} {r : Rs β} (h : contR f (.er e) = some r) : Rs.er e = r := Option.some.inj h
theorem erRF {f : α → Option (Fl S (Rs β))} {e : Er} {r : Fl S (Rs β)} (h : contRF f (.er e) = some r) : Fl.rt (Rs.er e) = r := Option.some.inj h
theorem bndOE {a : Option (Rs α)} {f : α → Option β} {r : β} (h : bndO a f = some r) : ∃ y, a = some (.ok y) ∧ f y = some r := by
  obtain ⟨x, h1, h2⟩ := bndE h
  cases x with
  | ok y => exact ⟨y, h1, h2⟩
  | er e => cases h2
end
/-- a class of refusals, as the top has made it -/
structure ErrC (K : PySem.W.Frag) (mg : Str → Option Value) (x : Str) (C : Addr) : Prop where
  g : mg x = some (.ref C)
  ex : PySem.W.excIn K C [.type "ValueError", .type "Exception", .type "BaseException", .type "object"] "ValueError.__new__" = true
  kp : PySem.W.keepIn K (.ref C) = true
  b : PySem.W.subIn K (.ref C) (.type "BaseException") = some true
  t : PySem.W.typeIn K (.ref C) = some (.type "type")
theorem ps_err {X : Cx} {W : WX} {x m : Str} {j : Nat} {p p2 pos pos' : Pos} {C : Addr} (e : ErrC X.K X.mg x C) (tk : Takes X W) (hc : X.calm = true) (hg : Gl X x) (hdb : (x == ("__debug__" : Str)) = false := by decide) :
    PS X (.Raise (some (.Call (.Name x p) [.Constant (.str m) j p2] [] pos)) none pos') (fun _ σ H => W (.ref C) none σ H) :=
  ps_raise hc tk (pmk_own PySem.F.excBase_ValueError e.ex e.g e.kp (raises_own e.b e.t) hg hdb)
end Bt
namespace Bt
open PySem L2
theorem err_mk {K : PySem.W.Frag} {h : Heap} {mg : Str → Option Value} {x : Str} {C : Addr} (X : K.In h) (G : h.Ns mainGlobals mg) (a : PySem.W.nsIn K mainGlobals x = some (some (.ref C)))
    (e : PySem.W.excIn K C [.type "ValueError", .type "Exception", .type "BaseException", .type "object"] "ValueError.__new__" = true) (k : PySem.W.keepIn K (.ref C) = true) (b : PySem.W.subIn K (.ref C) (.type "BaseException") = some true) (t : PySem.W.typeIn K (.ref C) = some (.type "type")) :
    ∃ C, ErrC K mg x C := ⟨C, PySem.W.mg_of X G a, e, k, b, t⟩
end Bt
namespace Bt
open PySem L2
inductive Ek where
  | NoBits | NoName | NoKey | NoFrame | NoPost | NoThing | NoStrip | NoRail | NoWire | NoRow
  deriving DecidableEq
def Er.k : Er → Ek
  | .NoBits => .NoBits
  | .NoName => .NoName
  | .NoKey => .NoKey
  | .NoFrame => .NoFrame
  | .NoPost => .NoPost
  | .NoThing => .NoThing
  | .NoStrip => .NoStrip
  | .NoRail => .NoRail
  | .NoWire _ => .NoWire
  | .NoRow _ => .NoRow
def tryR {α β : Type} (x : Rs α) (f : α → β) (g : Er → β) : β := match x with
  | .ok y => f y
  | .er e => g e
theorem tryOk {α β : Type} {y : α} {f : α → β} {g : Er → β} {r : β} (h : tryR (.ok y) f g = r) : f y = r := h
theorem tryEr {α β : Type} {e : Er} {f : α → β} {g : Er → β} {r : β} (h : tryR (.er e) f g = r) : g e = r := h
theorem exm_mk {K : PySem.W.Frag} {C S : Addr} {r : Bool} (h1 : PySem.W.subIn K (.ref S) (.type "BaseException") = some true) (h2 : (PySem.W.clsIn K S).isSome = true) (h3 : PySem.W.typeIn K (.ref S) = some (.type "type")) (h4 : PySem.W.subIn K (.ref C) (.ref S) = some r) :
    PySem.W.exmOne K (.ref C) (.ref S) = some r := by
  have e1 : (PySem.W.subIn K (.ref S) (.type "BaseException") == some true) = true := by rw [h1] <;> rfl
  have e2 : ((PySem.W.clsIn K S).isSome && PySem.W.typeIn K (.ref S) == some (.type "type")) = true := by
    rw [h2, h3] <;> rfl
  unfold PySem.W.exmOne
  rw [if_pos e1]
  unfold PySem.W.kitCls
  dsimp only
  rw [if_pos e2]
  exact h4
end Bt
namespace Bt
open PySem L2
theorem o_callS {sp : Sp} {E : L2.St → XK} {tr : TA} {σ : L2.St} {H : Hp} {Q : VK} (h : tr σ H fun vs H1 => sp vs H1 Q (E σ)) : tCallS sp E tr σ H Q := h
end Bt
namespace Bt
open PySem L2
section
variable {α : Type} {R H : Hp} {Q : VK} {a : Addr} {xs ys : List α} {y : α} {f : α → V}
def popL (xs : List α) : Option (α × List α) := match xs[xs.length - 1]? with
  | some y => some (y, xs.dropLast)
  | none => none
theorem popE (h : popL xs = some (y, ys)) : xs[xs.length - 1]? = some y ∧ xs.dropLast = ys := by
  unfold popL at h
  split at h
  · rename_i e
    cases h
    exact ⟨e, rfl⟩
  · cases h
theorem popL_ok {xs : List α} {y : α} : popL (xs ++ [y]) = some (y, xs) := by
  unfold popL
  rw [List.length_append, List.length_singleton, Nat.add_sub_cancel, List.getElem?_append_right (Nat.le_refl _), Nat.sub_self]
  simp
theorem k_clr {g : HO → List Cell} (hl : H a = some (.lst (xs.map f))) (hp : ∀ o', Own R (upd H a o') (g o')) (k : ∀ H', Own R H' (g (.lst (([] : List α).map f))) → Q .non H') : rClear (.ref a) [] H Q :=
  ⟨a, _, rfl, rfl, hl, k _ (hp _)⟩
theorem k_pop {g : HO → List Cell} (hl : H a = some (.lst (xs.map f))) (hp : ∀ o', Own R (upd H a o') (g o')) (h : popL xs = some (y, ys)) (k : ∀ H', Own R H' (g (.lst (ys.map f))) → Q (f y) H') : rPop (.ref a) [] H Q := by
  obtain ⟨e, rfl⟩ := popE h
  refine ⟨a, _, f y, rfl, rfl, hl, ?_, ?_⟩
  · rw [List.length_map, List.getElem?_map, e]; rfl
  · rw [← List.map_dropLast]
    exact k _ (hp _)
theorem k_ext {b : Addr} {zs : List α} {g : HO → List Cell} (hl : H a = some (.lst (xs.map f))) (hb : H b = some (.lst (zs.map f))) (hp : ∀ o', Own R (upd H a o') (g o')) (h : catG xs zs = some ys) (k : ∀ H', Own R H' (g (.lst (ys.map f))) → Q .non H') : rExtend (.ref a) [.ref b] H Q := by
  obtain ⟨c, rfl⟩ := grdE h
  refine ⟨a, b, _, _, rfl, rfl, hl, hb, ?_, ?_⟩
  · rw [List.length_map, List.length_map]; exact c
  · rw [← List.map_append]
    exact k _ (hp _)
end
end Bt

set_option Elab.async false
set_option linter.all false
set_option maxRecDepth 100000
set_option maxHeartbeats 4000000
/-! Built-ins that the kit's rules do not name. -/
namespace Bt
open PySem L2 PyProof.Rows
section
variable {X : Cx}
def maxL (d : Int) : List Int → Int
  | [] => d
  | n :: ns => ns.foldl (fun a y => if a < y then y else a) n
def rMaxD (K : PySem.W.Frag) : List V → List V → Hp → VK → Prop := fun xs zs H Q => ∃ a ns d, xs = [.ref a] ∧ zs = [.int d] ∧ SqL K H a (ns.map V.int) ∧ Q (.int (maxL d ns)) H
theorem maxOf_int (x : Int) (xs : List Int) : PySem.W.maxOf x xs = xs.foldl (fun a y => if a < y then y else a) x := by
  unfold PySem.W.maxOf
  congr 1
  funext a y
  show (if decide (a < y) = true then y else a) = _
  by_cases h : a < y
  · rw [if_pos (decide_eq_true h), if_pos h]
  · rw [if_neg (by simpa using h), if_neg h]
theorem cr_maxD (hc : X.calm = true) (hu : X.A.units + 64 < cLine) : CallRK X (.builtin "max") [Str.ofString "default"] (rMaxD X.K) := by
  intro pins s σ H xs zs us ws Q I r1 r2 h
  obtain ⟨a, ns, d, rfl, rfl, hs, q⟩ := h
  obtain ⟨its, rv, hl, _⟩ := I.list hs
  rw [Vals.ref1 r1]
  obtain ⟨w, rfl, t, rfl⟩ := r2.one
  refine PySem.W.max_list_datum_default (α := Int) (I.ok.hd hc) hl.isList (PySem.W.HoldAll.of_ints rv.ints) (by show X.A.units + 1 + 0 < cLine; omega) (fun e h' tk k => ?_) fun y ys i v h' tk e _ hv k => ?_
  · subst e
    exact ⟨.int d, H, I.kept k, ⟨_, rfl⟩, q⟩
  · subst e
    obtain ⟨bs, hv⟩ := hv
    rw [maxOf_int] at hv
    cases hv
    exact ⟨.int _, H, I.kept k, ⟨_, rfl⟩, q⟩
variable {K : PySem.W.Frag} {H : Hp} {Q : VK} {a : Addr} {ns : List Int} {d : Int} {t tk : TA} {r : List V → List V → Hp → VK → Prop} {σ : L2.St}
theorem o_kw (h : t σ H fun vs H1 => tk σ H1 fun zs H2 => r vs zs H2 Q) : tCKw r t tk σ H Q := h
theorem k_maxD (hs : SqL K H a (ns.map V.int)) (q : Q (.int (maxL d ns)) H) : rMaxD K [.ref a] [.int d] H Q := ⟨a, ns, d, rfl, rfl, hs, q⟩
end
end Bt

set_option Elab.async false
set_option linter.all false
set_option maxRecDepth 100000
set_option maxHeartbeats 4000000
/-! Data in data: what stands in a heap that only grows. -/
namespace Bt
open PySem L2
inductive All2 {α β : Type} (P : α → β → Prop) : List α → List β → Prop
  | nil : All2 P [] []
  | cons {a : α} {b : β} {as : List α} {bs : List β} : P a b → All2 P as bs → All2 P (a :: as) (b :: bs)
section
variable {α β : Type} {P Q : α → β → Prop} {as cs : List α} {bs ds : List β} {a : α} {b : β}
theorem All2.mp (f : ∀ a b, P a b → Q a b) (h : All2 P as bs) : All2 Q as bs := by
  induction h with
  | nil => exact .nil
  | cons h _ ih => exact .cons (f _ _ h) ih
theorem All2.app (h : All2 P as bs) (k : All2 P cs ds) : All2 P (as ++ cs) (bs ++ ds) := by
  induction h with
  | nil => exact k
  | cons h _ ih => exact .cons h ih
theorem All2.snoc (h : All2 P as bs) (k : P a b) : All2 P (as ++ [a]) (bs ++ [b]) := h.app (.cons k .nil)
theorem All2.len (h : All2 P as bs) : as.length = bs.length := by
  induction h with
  | nil => rfl
  | cons _ _ ih => simp [ih]
theorem All2.get (h : All2 P as bs) : ∀ {i : Nat} {b : β}, bs[i]? = some b → ∃ a, as[i]? = some a ∧ P a b := by
  induction h with
  | nil => intro i b e; simp at e
  | cons h _ ih =>
    intro i b e
    cases i with
    | zero => cases Option.some.inj e; exact ⟨_, rfl, h⟩
    | succ i => exact ih (by simpa using e)
theorem All2.drop (h : All2 P as bs) : ∀ n, All2 P (as.drop n) (bs.drop n) := by
  induction h with
  | nil => intro n; simp; exact .nil
  | cons h t ih =>
    intro n
    cases n with
    | zero => exact .cons h t
    | succ n => exact ih n
theorem All2.take (h : All2 P as bs) : ∀ n, All2 P (as.take n) (bs.take n) := by
  induction h with
  | nil => intro n; simp; exact .nil
  | cons h t ih =>
    intro n
    cases n with
    | zero => exact .nil
    | succ n => exact .cons h (ih n)
theorem All2.set (h : All2 P as bs) (k : P a b) : ∀ n, All2 P (as.set n a) (bs.set n b) := by
  induction h with
  | nil => intro n; exact .nil
  | cons h t ih =>
    intro n
    cases n with
    | zero => exact .cons k t
    | succ n => exact .cons h (ih n)
end
/-- what a value stands for, in a heap -/
abbrev Rp (α : Type) := Hp → V → α → Prop
def Mono {α : Type} (P : Rp α) : Prop := ∀ F F' v x, Ex F F' → P F v x → P F' v x
def rI : Rp Int := fun _ v a => v = .int a
def rB : Rp Bool := fun _ v a => v = .bl a
def rS : Rp Str := fun _ v a => v = .str a
def rL {α : Type} (P : Rp α) : Rp (List α) := fun F v xs => ∃ p vs, v = .ref p ∧ F p = some (.lst vs) ∧ All2 (P F) vs xs
def rT2 {α β : Type} (P : Rp α) (Q : Rp β) : Rp (α × β) := fun F v x => ∃ p a b, v = .ref p ∧ F p = some (.tup [a, b]) ∧ P F a x.1 ∧ Q F b x.2
def rT3 {α β γ : Type} (P : Rp α) (Q : Rp β) (R : Rp γ) : Rp (α × β × γ) := fun F v x => ∃ p a b c, v = .ref p ∧ F p = some (.tup [a, b, c]) ∧ P F a x.1 ∧ Q F b x.2.1 ∧ R F c x.2.2
def rT4 {α β γ δ : Type} (P : Rp α) (Q : Rp β) (R : Rp γ) (S : Rp δ) : Rp (α × β × γ × δ) := fun F v x => ∃ p a b c d, v = .ref p ∧ F p = some (.tup [a, b, c, d]) ∧ P F a x.1 ∧ Q F b x.2.1 ∧ R F c x.2.2.1 ∧ S F d x.2.2.2
def rO {α : Type} (P : Rp α) : Rp (Option α) := fun F v x => match x with
  | none => v = .non
  | some y => P F v y
theorem mI : Mono rI := fun _ _ _ _ _ h => h
theorem mB : Mono rB := fun _ _ _ _ _ h => h
theorem mS : Mono rS := fun _ _ _ _ _ h => h
theorem mL {α : Type} {P : Rp α} (m : Mono P) : Mono (rL P) := fun F F' v x e ⟨p, vs, h1, h2, h3⟩ => ⟨p, vs, h1, e _ _ h2, h3.mp fun a b h => m F F' a b e h⟩
theorem mA {α : Type} {P : Rp α} (m : Mono P) {F F' : Hp} {vs : List V} {xs : List α} (e : Ex F F') (h : All2 (P F) vs xs) : All2 (P F') vs xs := h.mp fun a b h => m F F' a b e h
theorem mT2 {α β : Type} {P : Rp α} {Q : Rp β} (m : Mono P) (n : Mono Q) : Mono (rT2 P Q) := fun F F' v x e ⟨p, a, b, h1, h2, h3, h4⟩ => ⟨p, a, b, h1, e _ _ h2, m _ _ _ _ e h3, n _ _ _ _ e h4⟩
theorem mT3 {α β γ : Type} {P : Rp α} {Q : Rp β} {R : Rp γ} (m : Mono P) (n : Mono Q) (o : Mono R) : Mono (rT3 P Q R) := fun F F' v x e ⟨p, a, b, c, h1, h2, h3, h4, h5⟩ => ⟨p, a, b, c, h1, e _ _ h2, m _ _ _ _ e h3, n _ _ _ _ e h4, o _ _ _ _ e h5⟩
theorem mT4 {α β γ δ : Type} {P : Rp α} {Q : Rp β} {R : Rp γ} {S : Rp δ} (m : Mono P) (n : Mono Q) (o : Mono R) (q : Mono S) : Mono (rT4 P Q R S) := fun F F' v x e ⟨p, a, b, c, d, h1, h2, h3, h4, h5, h6⟩ => ⟨p, a, b, c, d, h1, e _ _ h2, m _ _ _ _ e h3, n _ _ _ _ e h4, o _ _ _ _ e h5, q _ _ _ _ e h6⟩
theorem mO {α : Type} {P : Rp α} (m : Mono P) : Mono (rO P) := fun F F' v x e h => by
  cases x with
  | none => exact h
  | some y => exact m _ _ _ _ e h
/-! flat lists in a heap -/
theorem aI {F : Hp} : ∀ {vs : List V} {xs : List Int}, All2 (rI F) vs xs → vs = xs.map V.int
  | _, _, .nil => rfl
  | _, _, .cons h t => by rw [show _ = _ from h, aI t]; rfl
theorem aB {F : Hp} : ∀ {vs : List V} {xs : List Bool}, All2 (rB F) vs xs → vs = xs.map V.bl
  | _, _, .nil => rfl
  | _, _, .cons h t => by rw [show _ = _ from h, aB t]; rfl
theorem aS {F : Hp} : ∀ {vs : List V} {xs : List Str}, All2 (rS F) vs xs → vs = xs.map V.str
  | _, _, .nil => rfl
  | _, _, .cons h t => by rw [show _ = _ from h, aS t]; rfl
theorem iA {F : Hp} : ∀ (xs : List Int), All2 (rI F) (xs.map V.int) xs
  | [] => .nil
  | x :: r => .cons rfl (iA r)
theorem bA {F : Hp} : ∀ (xs : List Bool), All2 (rB F) (xs.map V.bl) xs
  | [] => .nil
  | x :: r => .cons rfl (bA r)
theorem sA {F : Hp} : ∀ (xs : List Str), All2 (rS F) (xs.map V.str) xs
  | [] => .nil
  | x :: r => .cons rfl (sA r)
theorem fI {F : Hp} {v : V} {xs : List Int} (h : rL rI F v xs) : ∃ p, v = .ref p ∧ F p = some (.lst (xs.map V.int)) := by
  obtain ⟨p, vs, h1, h2, h3⟩ := h
  rw [aI h3] at h2
  exact ⟨p, h1, h2⟩
theorem fB {F : Hp} {v : V} {xs : List Bool} (h : rL rB F v xs) : ∃ p, v = .ref p ∧ F p = some (.lst (xs.map V.bl)) := by
  obtain ⟨p, vs, h1, h2, h3⟩ := h
  rw [aB h3] at h2
  exact ⟨p, h1, h2⟩
theorem fS {F : Hp} {v : V} {xs : List Str} (h : rL rS F v xs) : ∃ p, v = .ref p ∧ F p = some (.lst (xs.map V.str)) := by
  obtain ⟨p, vs, h1, h2, h3⟩ := h
  rw [aS h3] at h2
  exact ⟨p, h1, h2⟩
theorem gI {F : Hp} {p : Addr} {xs : List Int} (h : F p = some (.lst (xs.map V.int))) : rL rI F (.ref p) xs := ⟨p, _, rfl, h, iA xs⟩
theorem gB {F : Hp} {p : Addr} {xs : List Bool} (h : F p = some (.lst (xs.map V.bl))) : rL rB F (.ref p) xs := ⟨p, _, rfl, h, bA xs⟩
theorem gS {F : Hp} {p : Addr} {xs : List Str} (h : F p = some (.lst (xs.map V.str))) : rL rS F (.ref p) xs := ⟨p, _, rfl, h, sA xs⟩
/-! the frame grows -/
/-- of X what R knows, or what H does not -/
def ovr (R H X : Hp) : Hp := fun a => if R a ≠ none ∨ H a = none then X a else none
theorem ovr_some {R H X : Hp} {a : Addr} {u : HO} (h : ovr R H X a = some u) : (R a ≠ none ∨ H a = none) ∧ X a = some u := by
  unfold ovr at h
  split at h
  · exact ⟨by assumption, h⟩
  · cases h
theorem ovr_mk {R H X : Hp} {a : Addr} {u : HO} (h : R a ≠ none ∨ H a = none) (k : X a = some u) : ovr R H X a = some u := by
  unfold ovr
  rw [if_pos h]
  exact k
theorem ovr_ex {R H X : Hp} : Ex (ovr R H X) X := fun a o h => by
  unfold ovr at h
  split at h
  · exact h
  · cases h
theorem ovr_mono {R H X Y : Hp} (e : Ex X Y) : Ex (ovr R H X) (ovr R H Y) := fun a o h => by
  unfold ovr at h ⊢
  split at h
  · rename_i c
    rw [if_pos c]
    exact e _ _ h
  · cases h
theorem ovr_start {R H : Hp} (e : Ex R H) : Ex R (ovr R H H) := fun a o h => by
  unfold ovr
  rw [if_pos (.inl (by rw [h]; simp))]
  exact e _ _ h
section
variable {R H H' F H0 R0 : Hp} {L : List Cell} {p : Addr} {o : HO}
theorem Own.freeze (O : Own R H ((p, o) :: L)) : Own (upd R p o) H L :=
  ⟨fun a u h => by
    by_cases e : a = p
    · subst e
      rw [upd_same] at h
      cases h
      exact O.at_ _ (List.Mem.head _)
    · rw [upd_ne e] at h
      exact O.ex _ _ h, fun c h => O.at_ c (List.Mem.tail _ h), fun c h => by
    have hne : c.1 ≠ p := fun e => (List.nodup_cons.mp O.nd).1 (by rw [← e]; exact List.mem_map_of_mem (f := (·.1)) h)
    rw [upd_ne hne]
    exact O.fr c (List.Mem.tail _ h), (List.nodup_cons.mp O.nd).2⟩
/-- R grows by a cell; what was known of it stays, the new cell is known -/
theorem Own.frz (O : Own R H ((p, o) :: L)) : ∃ R', Own R' H L ∧ Ex R R' ∧ R' p = some o := ⟨_, O.freeze, Ex.new (O.fr _ (List.Mem.head _)), upd_same⟩
theorem Own.frzO (O : Own R H ((p, o) :: L)) (e0 : Ex H0 R) : ∃ R', Own R' H L ∧ Ex R R' ∧ ovr R0 H0 R' p = some o := ⟨_, O.freeze, Ex.new (O.fr _ (List.Mem.head _)), by
  unfold ovr
  rw [if_pos (.inr (e0.back (O.fr _ (List.Mem.head _))))]
  exact upd_same⟩
/-- R grows by all that is new -/
theorem Own.grow (O : Own R H L) (e : Ex H H') : ∃ R', Own R' H' L ∧ Ex R R' ∧ ∀ F, Ex F R → Ex (ovr F H H') R' := by
  refine ⟨fun a => if H a = none then H' a else R a, ⟨fun a u h => ?_, fun c h => e _ _ (O.at_ c h), fun c h => ?_, O.nd⟩, fun a u h => ?_, fun F hF a u h => ?_⟩
  · by_cases c : H a = none
    · rw [if_pos c] at h; exact h
    · rw [if_neg c] at h; exact e _ _ (O.ex _ _ h)
  · rw [if_neg (by rw [O.at_ c h]; simp)]
    exact O.fr c h
  · show (if H a = none then H' a else R a) = some u
    rw [if_neg (by rw [O.ex _ _ h]; simp)]
    exact h
  · unfold ovr at h
    split at h
    · rename_i q
      rcases q with q | q
      · cases hf : F a with
        | none => exact absurd hf q
        | some w =>
          have h1 := O.ex _ _ (hF _ _ hf)
          have h2 := e _ _ h1
          rw [h] at h2
          cases h2
          show (if H a = none then H' a else R a) = some u
          rw [if_neg (by rw [h1]; simp)]
          exact hF _ _ hf
      · show (if H a = none then H' a else R a) = some u
        rw [if_pos q]
        exact h
    · cases h
theorem Own.growO (O : Own R H L) (e : Ex H H') (e0 : Ex H0 R) : ∃ R', Own R' H' L ∧ Ex R R' ∧ Ex (ovr (ovr R0 H0 R) H H') (ovr R0 H0 R') := by
  obtain ⟨R', O', e1, e2⟩ := O.grow e
  refine ⟨R', O', e1, fun a u h => ?_⟩
  have h1 := e2 (ovr R0 H0 R) ovr_ex _ _ h
  obtain ⟨q, _⟩ := ovr_some h
  refine ovr_mk ?_ h1
  rcases q with q | q
  · cases hq : ovr R0 H0 R a with
    | none => exact absurd hq q
    | some w => exact (ovr_some hq).1
  · exact .inr (Ex.back (e0.trans O.ex) q)
end
/-- a new thing is handed back, in what R knows or what is new -/
def RetG {α : Type} (P : Rp α) (R : Hp) (r : α) (H : Hp) (Q : VK) : Prop := ∀ v H', Ex H H' → P (ovr R H H') v r → Q v H'
section
variable {α : Type} {P : Rp α} {R H F H0 R0 : Hp} {L : List Cell} {r : α} {Q : VK} {v : V}
theorem Own.retG (O : Own R H L) (m : Mono P) (k : ∀ v H' R', Own R' H' L → Ex R R' → P R' v r → Q v H') : RetG P R r H Q := fun v H' e h => by
  obtain ⟨R', O', e1, e2⟩ := O.grow e
  exact k v H' R' O' e1 (m _ _ _ _ (e2 R (Ex.refl R)) h)
theorem Own.retGO (O : Own R H L) (m : Mono P) (e0 : Ex H0 R) (k : ∀ v H' R', Own R' H' L → Ex R R' → P (ovr R0 H0 R') v r → Q v H') : RetG P (ovr R0 H0 R) r H Q := fun v H' e h => by
  obtain ⟨R', O', e1, e2⟩ := O.growO (R0 := R0) e e0
  exact k v H' R' O' e1 (m _ _ _ _ e2 h)
theorem RetG.go (k : RetG P R0 r H0 Q) (m : Mono P) (O : Own R H L) (e0 : Ex H0 R) (h : P (ovr R0 H0 R) v r) : Q v H := k v H (e0.trans O.ex) (m _ _ _ _ (ovr_mono O.ex) h)
theorem RetV.goR {v : V} (k : RetV v H0 Q) (O : Own R H L) (e0 : Ex H0 R) : Q v H := k H (e0.trans O.ex)
theorem RetL.goR {xs : List V} {p : Addr} (k : RetL xs H0 Q) (O : Own R H L) (e0 : Ex H0 R) (h : (p, HO.lst xs) ∈ L) : Q (.ref p) H := k p H (e0.back (O.fr _ h)) (e0.trans O.ex) (O.at_ _ h)
theorem RetT.goR {xs : List V} {p : Addr} (k : RetT xs H0 Q) (O : Own R H L) (e0 : Ex H0 R) (h : (p, HO.tup xs) ∈ L) : Q (.ref p) H := k p H (e0.back (O.fr _ h)) (e0.trans O.ex) (O.at_ _ h)
end
/-! == of such data -/
structure De {α : Type} [DecidableEq α] (P : Rp α) where
  d : α → PyData
  dp : ∀ (K : PySem.W.Frag) F v a, P F v a → Dp K F v (d a)
  ok : ∀ a, PyData.canLay0 (d a) = true
  n : Nat
  dep : ∀ a, PyData.depth (d a) ≤ n
  eq : ∀ a b, PyData.eqv (d a) (d b) = decide (a = b)
def deI : De rI where
  d := PyData.int
  dp := fun K F v a h => by rw [show v = V.int a from h]; exact .int a
  ok := fun _ => rfl
  n := 0
  dep := fun _ => Nat.le_refl _
  eq := fun a b => by simp only [PyData.eqv]; rw [Bool.beq_eq_decide_eq]
def deB : De rB where
  d := PyData.bool
  dp := fun K F v a h => by rw [show v = V.bl a from h]; exact .bl a
  ok := fun _ => rfl
  n := 0
  dep := fun _ => Nat.le_refl _
  eq := fun a b => by simp only [PyData.eqv]; rw [Bool.beq_eq_decide_eq]
section
variable {α β γ : Type} [DecidableEq α] [DecidableEq β] [DecidableEq γ]
theorem de_all {P : Rp α} (e : De P) {K : PySem.W.Frag} {F : Hp} : ∀ {vs : List V} {xs : List α}, All2 (P F) vs xs → DpAll K F vs (xs.map e.d)
  | _, _, .nil => .nil
  | _, _, .cons h t => .cons (e.dp K F _ _ h) (de_all e t)
theorem ok_all {P : Rp α} (e : De P) : ∀ xs : List α, PyData.canLayAll0 (xs.map e.d) = true
  | [] => rfl
  | x :: r => by simp only [List.map_cons, PyData.canLayAll0, e.ok x, ok_all e r, Bool.and_self]
theorem dep_all {P : Rp α} (e : De P) : ∀ xs : List α, PyData.depthAll (xs.map e.d) ≤ e.n
  | [] => by simp [PyData.depthAll]
  | x :: r => by
    have h1 := e.dep x
    have h2 := dep_all e r
    simp only [List.map_cons, PyData.depthAll]
    omega
theorem eq_all {P : Rp α} (e : De P) : ∀ xs ys : List α, PyData.eqvAll (xs.map e.d) (ys.map e.d) = decide (xs = ys)
  | [], [] => by simp [PyData.eqvAll]
  | [], y :: s => by simp [PyData.eqvAll]
  | x :: r, [] => by simp [PyData.eqvAll]
  | x :: r, y :: s => by simp only [List.map_cons, PyData.eqvAll, e.eq x y, eq_all e r s, List.cons.injEq, Bool.decide_and]
def deL {P : Rp α} (e : De P) : De (rL P) where
  d := fun xs => .list (xs.map e.d)
  dp := fun K F v xs ⟨p, vs, h1, h2, h3⟩ => by
    subst h1
    exact .lst (SqL.of h2) (de_all e h3)
  ok := fun xs => by simp only [PyData.canLay0]; exact ok_all e xs
  n := e.n + 1
  dep := fun xs => by
    have := dep_all e xs
    simp only [PyData.depth]
    omega
  eq := fun xs ys => by simp only [PyData.eqv]; exact eq_all e xs ys
def deT2 {P : Rp α} {Q : Rp β} (e : De P) (f : De Q) : De (rT2 P Q) where
  d := fun x => .tuple [e.d x.1, f.d x.2]
  dp := fun K F v x ⟨p, a, b, h1, h2, h3, h4⟩ => by
    subst h1
    exact .tup (SqT.of h2) (.cons (e.dp K F _ _ h3) (.cons (f.dp K F _ _ h4) .nil))
  ok := fun x => by simp only [PyData.canLay0, PyData.canLayAll0, e.ok, f.ok, Bool.and_self]
  n := max e.n f.n + 1
  dep := fun x => by
    have h1 := e.dep x.1
    have h2 := f.dep x.2
    simp only [PyData.depth, PyData.depthAll]
    omega
  eq := fun x y => by
    obtain ⟨x1, x2⟩ := x
    obtain ⟨y1, y2⟩ := y
    simp only [PyData.eqv, PyData.eqvAll, e.eq, f.eq, Prod.mk.injEq, Bool.decide_and, Bool.and_true]
def deT3 {P : Rp α} {Q : Rp β} {R : Rp γ} (e : De P) (f : De Q) (g : De R) : De (rT3 P Q R) where
  d := fun x => .tuple [e.d x.1, f.d x.2.1, g.d x.2.2]
  dp := fun K F v x ⟨p, a, b, c, h1, h2, h3, h4, h5⟩ => by
    subst h1
    exact .tup (SqT.of h2) (.cons (e.dp K F _ _ h3) (.cons (f.dp K F _ _ h4) (.cons (g.dp K F _ _ h5) .nil)))
  ok := fun x => by simp only [PyData.canLay0, PyData.canLayAll0, e.ok, f.ok, g.ok, Bool.and_self]
  n := max e.n (max f.n g.n) + 1
  dep := fun x => by
    have h1 := e.dep x.1
    have h2 := f.dep x.2.1
    have h3 := g.dep x.2.2
    simp only [PyData.depth, PyData.depthAll]
    omega
  eq := fun x y => by
    obtain ⟨x1, x2, x3⟩ := x
    obtain ⟨y1, y2, y3⟩ := y
    simp only [PyData.eqv, PyData.eqvAll, e.eq, f.eq, g.eq, Prod.mk.injEq, Bool.decide_and, Bool.and_true, Bool.and_assoc]
end
section
variable {α : Type} [DecidableEq α] {P : Rp α} {K : PySem.W.Frag} {F F' H : Hp} {v w : V} {x y : α} {Q : VK}
theorem sh_de (e : De P) (h : e.n ≤ 64) (x : α) : SeqAt.shaped (e.d x) = true := by
  have h1 := e.dep x
  simp only [SeqAt.shaped, e.ok, Bool.true_and]
  exact decide_eq_true (by omega)
theorem k_eqN (e : De P) (m : Mono P) (h : e.n ≤ 64) (h1 : P F v x) (e1 : Ex F H) (h2 : P F' w y) (e2 : Ex F' H) (k : Q (.bl (decide (x = y))) H) : rEqD K v w H Q :=
  ⟨_, _, e.dp K H _ _ (m _ _ _ _ e1 h1), e.dp K H _ _ (m _ _ _ _ e2 h2), sh_de e h x, sh_de e h y, by rw [e.eq]; exact k⟩
theorem k_neN (e : De P) (m : Mono P) (h : e.n ≤ 64) (h1 : P F v x) (e1 : Ex F H) (h2 : P F' w y) (e2 : Ex F' H) (k : Q (.bl (!decide (x = y))) H) : rNeD K v w H Q :=
  ⟨_, _, e.dp K H _ _ (m _ _ _ _ e1 h1), e.dp K H _ _ (m _ _ _ _ e2 h2), sh_de e h x, sh_de e h y, by rw [e.eq]; exact k⟩
end
section
variable {α : Type} {P : Rp α} {K : PySem.W.Frag} {F H R : Hp} {L : List Cell} {p a : Addr} {i : Int} {xs : List α} {y : α} {Q : VK} {vs : List V} {σ : L2.St}
theorem All2.at {β : Type} {P : α → β → Prop} {as : List α} {bs : List β} (h : All2 P as bs) {i : Int} {b : β} (e : atI bs i = some b) : ∃ a, atI as i = some a ∧ P a b := by
  unfold atI at e ⊢
  rw [h.len]
  cases hj : ixN bs.length i with
  | none => rw [hj] at e; cases e
  | some j =>
    rw [hj] at e
    obtain ⟨a, h1, h2⟩ := h.get e
    exact ⟨a, h1, h2⟩
theorem k_ixN (hn : rL P F (.ref p) xs) (e : Ex F H) (h : atI xs i = some y) (k : ∀ v, P F v y → Q v H) : rIxL K (.ref p) (.int i) H Q := by
  obtain ⟨q, vs, h1, h2, h3⟩ := hn
  cases h1
  obtain ⟨v, e1, hv⟩ := h3.at h
  exact ⟨p, vs, i, v, rfl, rfl, SqL.of (e _ _ h2), e1, k v hv⟩
theorem n_lenN (hn : rL P F (.ref p) xs) (e : Ex F H) (k : Q (.int (xs.length : Int)) H) : rLenQ K [.ref p] H Q := by
  obtain ⟨q, vs, h1, h2, h3⟩ := hn
  cases h1
  unfold rLenQ
  exact ⟨p, vs, rfl, .inl (SqL.of (e _ _ h2)), by rw [h3.len]; exact k⟩
theorem n_lstV (O : Own R H L) (hz : vs.length ≤ sizeLine) (k : ∀ p H', Own R H' ((p, .lst vs) :: L) → Q (.ref p) H') : rNewL vs H Q := by
  unfold rNewL
  exact ⟨hz, fun p hp => k p _ (O.new hp)⟩
end
end Bt

set_option Elab.async false
set_option linter.all false
set_option maxRecDepth 100000
set_option maxHeartbeats 4000000
/-! What is refused, caught by a name, asked of its class. -/
namespace Bt
open PySem L2 PyProof.Rows
theorem passN {X : Cx} : Passes (L2N.CX X.prog X.w) X E0 := fun _ _ _ _ _ _ _ h => by
  obtain ⟨_, _, _, _, _, _, _, _, _, _, _, _, z⟩ := h
  exact z.elim
theorem takesN0 {X : Cx} : L2N.Takes X (fun _ _ _ _ => False) := fun _ _ x => by
  obtain ⟨_, _, _, _, _, _, _, _, _, _, _, _, _, _, _, _, z⟩ := x
  exact z.elim
theorem okN {P : Program} {w : World} {K : PySem.W.Frag} {mg : Str → Option Value} {base : Heap} {x qual : Str} {st : Stmt} {f : Addr} {fd : FuncData} {N ps : List Str} {k : Nat} {sp : Sp} (F : Fun K x qual st f fd) (S : FnScope N ps (defScope st)) (len : ∀ vs H Q E, sp vs H Q E → vs.length = ps.length)
    (hbody : ∀ (cdv : Value) (A : Around) (outer : List Env) (s : Shared) (H : Hp) (vs : List V) (Q : VK) (E : XK), Room k (A.deeper (envOfC qual (defScope st) s.heap.objs.size f cdv)) → sp vs H Q E →
      ∃ t, PSs (cxOf (L2N.CX P w) P w K mg base N qual (defScope st) f cdv A outer s H E) (defBody st) t ∧ t { nx := fun _ H' => Q .non H', rt := Q } (start N vs) H) : FnOk P w K mg base (L2N.CX P w) (k + 1) f fd ps sp := by
  obtain ⟨oc, od, kV, doc, pm, an, cdv, ct, osl, rfl, lk, hcd⟩ := F.ex
  exact fn_of lk hcd S len fun A outer s H vs Q E hr hsp => hbody cdv A outer s H vs Q E hr hsp
theorem ps_errN {X : Cx} {W : WX} {x m : Str} {j : Nat} {p p2 pos pos' : Pos} {C : Addr} (e : ErrC X.K X.mg x C) (tk : L2N.Takes X W) (hc : X.calm = true) (hg : Gl X x) (hdb : (x == ("__debug__" : Str)) = false := by decide) :
    PS X (.Raise (some (.Call (.Name x p) [.Constant (.str m) j p2] [] pos)) none pos') (fun _ σ H => W (.ref C) none σ H) :=
  L2N.ps_raise hc tk (L2N.pmk_own PySem.F.excBase_ValueError e.ex e.g e.kp (raises_own e.b e.t) hg hdb)
/-! classes by their letters -/
def Eds.at (d : Eds) : Ek → Addr
  | .NoBits => d.NoBits
  | .NoName => d.NoName
  | .NoKey => d.NoKey
  | .NoFrame => d.NoFrame
  | .NoPost => d.NoPost
  | .NoThing => d.NoThing
  | .NoStrip => d.NoStrip
  | .NoRail => d.NoRail
  | .NoWire => d.NoWire
  | .NoRow => d.NoRow
/-- what the walk knows of the classes ks -/
structure EcF (K : PySem.W.Frag) (d : Eds) (ks : List Ek) : Prop where
  ec : ∀ k ∈ ks, ExcC K (d.at k)
  kt : ∀ k ∈ ks, ∀ c ∈ ks, PySem.W.kitOne K (.ref (d.at k)) (.ref (d.at c)) = some (decide (k = c))
  kv : ∀ k ∈ ks, PySem.W.kitOne K (.ref (d.at k)) (.type "ValueError") = some true
  kr : ∀ k ∈ ks, PySem.W.kitOne K (.ref (d.at k)) (.ref d.RailError) = some true
  xr : ∀ k ∈ ks, PySem.W.exmOne K (.ref (d.at k)) (.ref d.RailError) = some true
  xx : ∀ k ∈ ks, ∀ c ∈ ks, PySem.W.exmOne K (.ref (d.at k)) (.ref (d.at c)) = some (decide (k = c))
/-- what an exception's own dict holds -/
def XFl (e : Er) (d : Option Addr) (H : Hp) : Prop := match e with
  | .NoWire i => ∃ x, d = some x ∧ H x = some (.xd [(("at" : Str), .int i)])
  | .NoRow i => ∃ x, d = some x ∧ H x = some (.xd [(("word" : Str), .int i)])
  | _ => d = none
theorem XFl.ext {e : Er} {d : Option Addr} {H H' : Hp} (h : XFl e d H) (x : Ex H H') : XFl e d H' := by
  cases e <;> first
    | exact h
    | (obtain ⟨a, h1, h2⟩ := h; exact ⟨a, h1, x _ _ h2⟩)
theorem RetE.by {d : Eds} {e : Er} {H : Hp} {E : XK} (h : ∀ H' dd, Ex H H' → XFl e dd H' → E (.ref (d.at e.k)) dd H') : RetE d e H E := by
  cases e <;> first
    | exact fun H' x => h H' none x rfl
    | exact fun H' a _ x q => h H' (some a) x ⟨a, rfl, q⟩
/-! isinstance of the exception in hand -/
section
variable {X : Cx} {p : Addr × Obj} {D : Addr} {ex : Er}
theorem inst_pin {pins : List (Addr × Obj)} {σ : L2.St} {H : Hp} {s : Shared} (I : Inv X pins σ H s) (hp : p ∈ X.pn) (hz : p.2.cls = .ref D) (hd : XFl ex p.2.dict H) (hf : ∃ vs, p.2.data = .fields vs) : ∃ od, PySem.W.InstAt s.heap p.1 p.2 D od := by
  obtain ⟨hget, _⟩ := I.pin p (List.mem_append.mpr (.inl hp))
  obtain ⟨a, oc, od, oda, osl⟩ := p
  obtain ⟨vs, hv⟩ := hf
  dsimp only at hz hd hv hget
  subst hz hv
  have hk : od = none ∨ ∃ x fs, od = some x ∧ H x = some (.xd fs) := by
    cases ex <;> first
      | exact .inl hd
      | (obtain ⟨x, h1, h2⟩ := hd; exact .inr ⟨x, _, h1, h2⟩)
  rcases hk with rfl | ⟨x, fs, rfl, hx⟩
  · exact ⟨none, hget, rfl, rfl, trivial⟩
  · obtain ⟨_, ⟨o, _, _, e, _⟩, _⟩ := (show ∃ mA, s.heap.Ns1 x mA ∧ ∀ f, RelO (fs.lookup f) (mA f) from I.hok x _ hx)
    exact ⟨some _, hget, rfl, rfl, e⟩
theorem exc_cls {K : PySem.W.Frag} {D : Addr} (C : ExcC K D) : (PySem.W.clsIn K D).isSome = true := by
  obtain ⟨cd, hc, _⟩ := PySem.W.any_some C.hd
  rw [hc]; rfl
/-- isinstance(e, c), e the exception in hand -/
def rIsX (K : PySem.W.Frag) (D a : Addr) (ex : Er) (d : Option Addr) : List V → Hp → VK → Prop := fun xs H Q => ∃ (c : V) (cv : Value) (b : Bool), xs = [.ref a, c] ∧ ClsV c cv ∧ XFl ex d H ∧ PySem.W.kitOne K (.ref D) cv = some b ∧ Q (.bl b) H
theorem call_isP (hp : p ∈ X.pn) (C : ExcC X.K D) (hz : p.2.cls = .ref D) {d : Option Addr} (hdd : p.2.dict = d) (hf : ∃ vs, p.2.data = .fields vs) : CallR X (.builtin "isinstance") (rIsX X.K D p.1 ex d) := by
  subst hdd
  intro pins s σ H xs us Q I r h
  obtain ⟨c, cv, b, rfl, hcv, hd, e, q⟩ := h
  obtain ⟨u1, u2, rfl, r1, r2⟩ := vals2 r
  cases (show u1 = Value.ref p.1 from r1)
  have ec := hcv.eq r2
  subst ec
  obtain ⟨od, J⟩ := inst_pin I hp hz hd hf
  exact PySem.W.kia_one (PySem.W.kitx_exc (exc_cls C) C.hg C.hk C.hs C.ha C.hn C.ht C.hm) I.kIn J e (fun z => nomatch z) fun tk => ⟨.bl b, H, I.kept (t' := tk) fun _ _ z => z, rfl, q⟩
/-- .. and of a row of classes -/
def rIsXt (K : PySem.W.Frag) (D a : Addr) (ex : Er) (d : Option Addr) : List V → Hp → VK → Prop := fun xs H Q => ∃ (tp : Addr) (cs : List V) (us : List Value) (b : Bool), xs = [.ref a, .ref tp] ∧ H tp = some (.tup cs) ∧ Paired ClsV cs us ∧ XFl ex d H ∧ PySem.W.kitAny K (.ref D) us = some b ∧ Q (.bl b) H
theorem call_isPt (hp : p ∈ X.pn) (C : ExcC X.K D) (hz : p.2.cls = .ref D) {d : Option Addr} (hdd : p.2.dict = d) (hf : ∃ vs, p.2.data = .fields vs) : CallR X (.builtin "isinstance") (rIsXt X.K D p.1 ex d) := by
  subst hdd
  intro pins s σ H xs us Q I r h
  obtain ⟨tp, cs, ws, b, rfl, hT, k, hd, e, q⟩ := h
  obtain ⟨u1, u2, rfl, r1, r2⟩ := vals2 r
  cases (show u1 = Value.ref p.1 from r1)
  cases (show u2 = Value.ref tp from r2)
  obtain ⟨_, its, rv, o, h1, h2, n, h3⟩ := (show ObjOk X.prog X.w H s.heap tp (.tup cs) from I.hok tp _ hT)
  have e3 := ClsV.all k rv
  subst e3
  obtain ⟨oc, od, dt, sl⟩ := o
  simp only at h2 h3
  subst h2 h3
  obtain ⟨od, J⟩ := inst_pin I hp hz hd hf
  exact PySem.W.kia_tup (PySem.W.kitx_exc (exc_cls C) C.hg C.hk C.hs C.ha C.hn C.ht C.hm) I.kIn J h1 e (fun z => nomatch z) fun tk => ⟨.bl b, H, I.kept (t' := tk) fun _ _ z => z, rfl, q⟩
end
/-- the classes of a row, asked -/
def inKs (k : Ek) : List Ek → Bool
  | [] => false
  | c :: r => decide (k = c) || inKs k r
theorem kit_any {K : PySem.W.Frag} {d : Eds} {ks : List Ek} (T : EcF K d ks) {k : Ek} (hk : k ∈ ks) : ∀ (cs : List Ek), (∀ c ∈ cs, c ∈ ks) → PySem.W.kitAny K (.ref (d.at k)) (cs.map fun c => .ref (d.at c)) = some (inKs k cs)
  | [], _ => rfl
  | c :: r, h => by
    refine kitAny_cons (T.kt k hk c (h c (List.Mem.head _))) (fun e => ?_) fun e => ?_
    · rw [kit_any T hk r fun z hz => h z (List.Mem.tail _ hz)]
      show some (inKs k r) = some (decide (k = c) || inKs k r)
      rw [e, Bool.false_or]
    · show (decide (k = c) || inKs k r) = true
      rw [e, Bool.true_or]
/-! a def of the exception in hand, called in the suite -/
structure FnE (P : Program) (w : World) (K : PySem.W.Frag) (mg : Str → Option Value) (base : Heap) (k : Nat) (f : Addr) (fd : FuncData) (x : Str) (D : Addr) (ex : Er) (R : Bool) : Prop where
  run : ∀ (A : Around) (outer : List Env) (s : Shared) (H : Hp) (args : Args) (p : Addr × Obj) (Q : VK), L2H.RoomH k A → L2H.Hot1 A p → L2H.PinOk outer H s p → p.2.cls = .ref D → XFl ex p.2.dict H → Env0 P w K mg base A outer s H → BindsTo s fd args ([x].zip [.ref p.1]) → RetV (.bl R) H Q →
    codeAny (model P w) A (.call (.ref f) args) (CR CX0 outer P w H s Q E0) s
theorem fnE_of {P : Program} {w : World} {K : PySem.W.Frag} {mg : Str → Option Value} {base : Heap} {x qual : Str} {st : Stmt} {f : Addr} {fd : FuncData} {N : List Str} {y : Str} {k : Nat} {D : Addr} {ex : Er} {R : Bool} (F : Fun K x qual st f fd) (S : FnScope N [y] (defScope st))
    (hbody : ∀ (cdv : Value) (A : Around) (outer : List Env) (s : Shared) (H : Hp) (p : Addr × Obj) (Q : VK), A.units + 64 < cLine → p.2.cls = .ref D → XFl ex p.2.dict H → (∃ vs, p.2.data = .fields vs) → RetV (.bl R) H Q →
      ∃ t, PSs (L2H.cxH CX0 P w K mg base N qual (defScope st) f cdv A outer s H E0 p) (defBody st) t ∧ t { nx := fun _ H' => Q .non H', rt := Q } (start N [.ref p.1]) H) : FnE P w K mg base (k + 1) f fd y D ex R := by
  obtain ⟨oc, od, kV, doc, pm, an, cdv, ct, osl, rfl, lk, hcd⟩ := F.ex
  refine ⟨fun A outer s H args p Q hr hot hpin hz hd e0 hb hq => ?_⟩
  have KX : K.In s.heap := e0.mod.kin.keeps fun b o e => (e0.bs b o e).1
  have lim : s.heap.NoLimit := e0.mod.nolimit.keeps fun b o e => (e0.bs b o e).1
  have hkind : ∀ z ∈ [y].zip [Value.ref p.1], (defScope st).names.lookup z.1 = some .local ∨ ((defScope st).names.lookup z.1 = some .cell ∧ ((cellsFrom (s.heap.objs.size + 1) (defScope st).names []).lookup z.1).isSome = true) := fun ⟨n, v⟩ hy =>
    (S.par n (List.of_mem_zip hy).1).imp id fun q => ⟨q, PySem.W.cellsFrom_some _ _ _ (.inl q)⟩
  refine codeAny_call_function hr.depth (KX _ _ lk) rfl S.co S.gen rfl (PySem.W.codeRec_of KX hcd) (hb _ _ _ _ (wpAny_newFunctionEnv_cells S.kind hkind fun env he s1 hx => ?_))
  subst he
  refine ⟨lim.keeps hx.toInCall.keep, codeAny_func ?_⟩
  obtain ⟨h1, vs, h2, _⟩ := hot
  obtain ⟨t, ht, h3⟩ := hbody cdv A outer s H p Q (by have := hr.un; omega) hz hd ⟨vs, h2⟩ hq
  have rv : Vals [V.ref p.1] [Value.ref p.1] := .cons rfl .nil
  have I := L2H.inv_startH (CX := CX0) (qual := qual) (f := f) (cd := cdv) (E := E0) S hpin e0 rfl rv hx
  refine wpAny_mono (ht.run [] s1 _ H _ I h3) (fun fl s' hs => ?_) fun e s' hs => hs
  cases fl with
  | ret u =>
    obtain ⟨v, σ', H', J, r, q⟩ := hs
    exact ⟨v, H', J.os, J.bare, J.base, J.hok, r, q⟩
  | next =>
    obtain ⟨σ', H', J, q⟩ := hs
    exact ⟨V.non, H', J.os, J.bare, J.base, J.hok, rfl, q⟩
  | brk =>
    obtain ⟨_, _, _, q⟩ := hs
    exact q.elim
  | cont =>
    obtain ⟨_, _, _, q⟩ := hs
    exact q.elim
def tCallE (a : Addr) (ex : Er) (d : Option Addr) (R : Bool) (t : TA) : TE := fun σ H Q => t σ H fun vs H1 => vs = [.ref a] ∧ XFl ex d H1 ∧ RetV (.bl R) H1 Q
theorem pe_callE {X : Cx} {k : Nat} {f : Addr} {fd : FuncData} {x y : Str} {q pos : Pos} {e : Expr} {t : TA} {D : Addr} {ex : Er} {R : Bool} {p : Addr × Obj} (F : FnE X.prog X.w X.K X.mg X.base k f fd y D ex R) (hp : p ∈ X.pn) (hot : L2H.Hot1 X.A p) (hz : p.2.cls = .ref D) {d : Option Addr} (hdd : p.2.dict = d)
    (hr : L2H.RoomH k X.A) (hg : Gl X x) (hm : X.mg x = some (.ref f)) (hk : PySem.W.keepIn X.K (.ref f) = true) (hb : Binds X.K fd [y] []) (ha : PA X [e] t) (hdb : (x == ("__debug__" : Str)) = false := by decide)
    (he : starEach [e] X.env = (false, eval e X.env) :: starEach [] X.env := by rfl) (hpl : (backTo pos (starEach [] X.env)).any (·.1) = false := by rfl) : PE X (.Call (.Name x q) [e] [] pos) (tCallE p.1 ex d R t) := by
  subst hdd
  refine ⟨fun pins s σ H Q I h => ?_⟩
  refine wpAny_Call_Name_kw (ld_glob I hg hm ?_ hdb)
  refine PySem.W.callWith_K (h₀ := X.base) I.ok.mod.kin hk (thn (ha.run pos pins s σ H _ I h) fun us s1 ⟨vs, H1, I1, r, e1, hd, hq⟩ => ⟨I1.kIn, ?_⟩) he hpl
  subst e1
  obtain ⟨u, rfl, r1⟩ := r.one
  cases (show u = Value.ref p.1 from r1)
  have b := hb s1 [.ref p.1] I1.kIn (by rw [List.append_nil]; rfl)
  rw [List.append_nil] at b
  obtain ⟨p1, p2, p3, p4, p5⟩ := I1.pin p (List.mem_append_left _ hp)
  have hpin : L2H.PinOk X.stack H1 s1 p := ⟨p1, p2, fun hm => (List.mem_cons.mp (I1.stkSub p.1 hm)).elim p3 p4, p5⟩
  refine wpAny_call (codeAny_mono (F.run X.A X.stack s1 H1 ⟨[.ref p.1], []⟩ p Q hr hot hpin hz hd I1.env0 b hq) fun r s' hq => ?_)
  cases r with
  | error e => exact (show False from hq).elim
  | ok fl =>
    cases fl with
    | ret u => exact I1.after hq
    | next => exact False.elim hq
    | brk => exact False.elim hq
    | cont => exact False.elim hq
/-! all of it, class by class -/
structure EcP (K : PySem.W.Frag) (C : Addr) : Prop where
  hg : PySem.W.findIn K (.ref C) "__getattribute__" = some (some (.builtin "BaseException.__getattribute__"))
  hk : PySem.W.findIn K (.ref C) "__getattr__" = some none
  hs : PySem.W.subIn K (.ref C) (.type "BaseException") = some true
  hd : PySem.W.hasDictIn K C = true
  ha : PySem.W.findIn K (.ref C) "__class__" = some (some (.builtin "object.__class__"))
  hm : PySem.W.mroIn K C (.type "object") = some true
  ct : PySem.W.typeIn K (.ref C) = some (.type "type")
  sv : PySem.W.subIn K (.ref C) (.type "ValueError") = some true
theorem all_nil {α : Type} {P : α → Prop} : ∀ x ∈ ([] : List α), P x := fun _ h => (nomatch h)
theorem all_cons {α : Type} {P : α → Prop} {a : α} {l : List α} (h : P a) (t : ∀ x ∈ l, P x) : ∀ x ∈ a :: l, P x := fun x hx => by
  rcases List.mem_cons.mp hx with rfl | hx
  · exact h
  · exact t x hx
theorem ecf_mk {K : PySem.W.Frag} {d : Eds} {ks : List Ek} (h : ∀ k ∈ ks, EcP K (d.at k)) (hp : ∀ k ∈ ks, ∀ c ∈ ks, PySem.W.subIn K (.ref (d.at k)) (.ref (d.at c)) = some (decide (k = c)))
    (hr : ∀ k ∈ ks, PySem.W.subIn K (.ref (d.at k)) (.ref d.RailError) = some true) (rr : EcP K d.RailError)
    (hn : PySem.W.specialIn K (.builtin "object.__class__") "__get__" = some (some (.builtin "getset_descriptor.__get__"))) (ht : PySem.W.takesIn K (.builtin "object.__class__") = some true) (hv : PySem.W.kitMeta "ValueError" = true) : EcF K d ks := by
  have ec : ∀ k ∈ ks, ExcC K (d.at k) := fun k hk => by
    obtain ⟨h1, h2, h3, h4, h5, h6, h7, h8⟩ := h k hk
    exact ⟨h1, h2, h3, h4, h5, hn, ht, h6⟩
  have cl : ∀ {C : Addr}, EcP K C → (PySem.W.clsIn K C).isSome = true := fun q => by
    obtain ⟨cd, hc, _⟩ := PySem.W.any_some q.hd
    rw [hc]; rfl
  have ko : ∀ {a b : Addr} {r : Bool}, EcP K b → PySem.W.subIn K (.ref a) (.ref b) = some r → (a = b → r = true) → PySem.W.kitOne K (.ref a) (.ref b) = some r := fun {a b r} q e1 e2 => by
    unfold PySem.W.kitOne
    by_cases e : a = b
    · subst e
      rw [if_pos (by simp), e2 rfl]
    · rw [if_neg (by simp [e])]
      unfold PySem.W.kitCls
      dsimp only
      rw [if_pos (by rw [cl q, q.ct]; rfl)]
      exact e1
  refine ⟨ec, fun k hk c hc => ko (h c hc) (hp k hk c hc) (fun e => ?_), fun k hk => ?_, fun k hk => ko rr (hr k hk) fun _ => rfl, fun k hk => exm_mk rr.hs (cl rr) rr.ct (hr k hk), fun k hk c hc => exm_mk (h c hc).hs (cl (h c hc)) (h c hc).ct (hp k hk c hc)⟩
  · have e1 := hp k hk c hc
    have e2 := hp c hc c hc
    rw [e] at e1
    rw [e2] at e1
    rw [decide_eq_true (rfl : c = c)] at e1
    exact (Option.some.inj e1).symm
  · unfold PySem.W.kitOne
    rw [if_neg (by simp)]
    unfold PySem.W.kitCls
    dsimp only
    rw [if_pos hv]
    exact (h k hk).sv
theorem gv_ref {K : PySem.W.Frag} {h : Heap} {mg : Str → Option Value} {x : Str} {C : Addr} (X : K.In h) (G : h.Ns mainGlobals mg) (a : PySem.W.nsIn K mainGlobals x = some (some (.ref C))) : Gv mg x (.ref C) := ⟨_, PySem.W.mg_of X G a, rfl⟩
theorem err_at {K : PySem.W.Frag} {h : Heap} {mg : Str → Option Value} {x : Str} {C : Addr} (X : K.In h) (G : h.Ns mainGlobals mg) (a : PySem.W.nsIn K mainGlobals x = some (some (.ref C)))
    (e : PySem.W.excIn K C [.type "ValueError", .type "Exception", .type "BaseException", .type "object"] "ValueError.__new__" = true) (k : PySem.W.keepIn K (.ref C) = true) (b : PySem.W.subIn K (.ref C) (.type "BaseException") = some true) (t : PySem.W.typeIn K (.ref C) = some (.type "type")) : ErrC K mg x C :=
  ⟨PySem.W.mg_of X G a, e, k, b, t⟩
def Er.plain : Er → Bool
  | .NoWire _ => false
  | .NoRow _ => false
  | _ => true
theorem XFl.of {e : Er} {H : Hp} (h : e.plain = true) : XFl e none H := by
  cases e <;> first
    | rfl
    | cases h
theorem RetE.byP {d : Eds} {e : Er} {H : Hp} {E : XK} (hp : e.plain = true) (h : ∀ H', Ex H H' → E (.ref (d.at e.k)) none H') : RetE d e H E := by
  cases e <;> first
    | exact fun H' x => h H' x
    | cases hp
theorem Ek.all (k : Ek) : k ∈ [Ek.NoBits, .NoName, .NoKey, .NoFrame, .NoPost, .NoThing, .NoStrip, .NoRail, .NoWire, .NoRow] := by
  cases k <;> decide
/-! the suite, its exception known -/
theorem pss_exc {X : Cx} {ss : List Stmt} {es : Eds} {ks : List Ek} {cls : Value} {t : Er → TS} (h : ∀ e, e.k ∈ ks → cls = .ref (es.at e.k) → PSs X ss (t e)) :
    PSs X ss (fun D σ H => ∃ e : Er, e.k ∈ ks ∧ cls = .ref (es.at e.k) ∧ t e D σ H) :=
  ⟨fun pins s σ H D I ⟨e, h1, h2, q⟩ => (h e h1 h2).run pins s σ H D I q⟩
theorem hot_suite {X : Cx} {a : Addr} {oe : Obj} {pn : List (Addr × Obj)} {cls : Value} {d : Option Addr} (hz : L2N.Zn cls d oe) (hf : ∃ vs, oe.data = .fields vs) : L2H.Hot1 (X.suite a ((a, oe) :: pn)).A (a, oe) := by
  obtain ⟨vs, hv⟩ := hf
  exact ⟨rfl, vs, hv, hz.2.2 vs hv⟩
theorem roomE {X : Cx} {k : Nat} {v : Option Value} (hr : Room k X.A) : L2H.RoomH k (X.A.mark v) := ⟨hr.dp, hr.un⟩
def Er.num : Er → Int
  | .NoWire i => i
  | .NoRow i => i
  | _ => 0
end Bt
namespace Bt
open PySem L2 PyProof.Rows
def okE (ks : List Ek) (e : Er) : Bool := e.plain && decide (e.k ∈ ks)
theorem okE_iff {ks : List Ek} {e : Er} (h : okE ks e = true) : e.plain = true ∧ e.k ∈ ks := by
  unfold okE at h
  rw [Bool.and_eq_true, decide_eq_true_eq] at h
  exact h
theorem ifN {α : Type} {c : Bool} {a : Option α} {r : α} (h : ifB c a none = some r) : c = true ∧ a = some r := by
  cases c with
  | true => exact ⟨rfl, h⟩
  | false => cases h
theorem o_cE {a : Addr} {ex : Er} {d : Option Addr} {R : Bool} {t : TA} {σ : L2.St} {H : Hp} {Q : VK} (h : t σ H fun vs H1 => vs = [.ref a] ∧ XFl ex d H1 ∧ RetV (.bl R) H1 Q) : tCallE a ex d R t σ H Q := h
end Bt
namespace Bt
open PySem L2 PyProof.Rows
theorem pe_gr {X : Cx} {x : Str} {C : Addr} {pos : Pos} (hg : Gl X x) (h : X.mg x = some (.ref C)) (hd : (x == ("__debug__" : Str)) = false := by decide) : PE X (.Name x pos) (tC (.ref C)) := pe_gv hg ⟨_, h, rfl⟩ hd
end Bt
namespace Bt
open PySem L2 PyProof.Rows
theorem pe_callEs {X : Cx} {a : Addr} {oe : Obj} {pn : List (Addr × Obj)} {cls : Value} {k : Nat} {f : Addr} {fd : FuncData} {x y : Str} {q pos : Pos} {e : Expr} {t : TA} {D : Addr} {ex : Er} {R : Bool} {d : Option Addr} (F : FnE X.prog X.w X.K X.mg X.base k f fd y D ex R) (hz : L2N.Zn cls d oe) (hf : ∃ vs, oe.data = .fields vs) (hc : cls = .ref D)
    (hr : Room k X.A) (hg : Gl X x) (hm : X.mg x = some (.ref f)) (hk : PySem.W.keepIn X.K (.ref f) = true) (hb : Binds X.K fd [y] []) (ha : PA (X.suite a ((a, oe) :: pn)) [e] t) (hdb : (x == ("__debug__" : Str)) = false := by decide)
    (he : starEach [e] X.env = (false, eval e X.env) :: starEach [] X.env := by rfl) (hpl : (backTo pos (starEach [] X.env)).any (·.1) = false := by rfl) : PE (X.suite a ((a, oe) :: pn)) (.Call (.Name x q) [e] [] pos) (tCallE a ex d R t) :=
  pe_callE (X := X.suite a ((a, oe) :: pn)) (p := (a, oe)) F (List.Mem.head _) (hot_suite hz hf) (hz.1.trans hc) hz.2.1 (roomE hr) hg hm hk hb ha hdb he hpl
end Bt
namespace Bt
open PySem L2
theorem o_dn {n b k : L2.St → Hp → Prop} {w : VK} {σ : L2.St} {H : Hp} (h : n σ H) : (Ends.mk n w b k).nx σ H := h
end Bt
namespace Bt
open PySem L2
theorem RetE.up {d : Eds} {e : Er} {H H' : Hp} {E : XK} (k : RetE d e H E) (x : Ex H H') : RetE d e H' E := by
  cases e <;> first
    | exact fun H2 h => k H2 (x.trans h)
    | exact fun H2 a ha h => k H2 a (x.back ha) (x.trans h)
end Bt

set_option linter.all false
set_option maxRecDepth 100000
set_option maxHeartbeats 1000000
/-! Plain facts about the mirror's words. -/
namespace Bt
open PySem L2
section
variable {α β S R : Type}
theorem bnd_some {a : α} {f : α → Option β} : bnd (some a) f = f a := rfl
theorem bnd_of {a : Option α} {x : α} {f : α → Option β} (h : a = some x) : bnd a f = f x := by rw [h]; rfl
theorem ltv_eq {a : α} {f : α → Option β} : ltv a f = f a := rfl
theorem ifB_t {a b : α} : ifB true a b = a := rfl
theorem ifB_f {a b : α} : ifB false a b = b := rfl
theorem ifB_dec {c : Prop} [Decidable c] {a b : α} : ifB (decide c) a b = if c then a else b := by
  by_cases h : c
  · rw [if_pos h, decide_eq_true h]; rfl
  · rw [if_neg h, decide_eq_false h]; rfl
theorem ifB_ite {c : Bool} {a b : α} : ifB c a b = if c = true then a else b := by cases c <;> rfl
theorem fin_nx {s : S} {rest : S → Option R} : fin (some (.nx s)) rest = rest s := rfl
theorem fin_rt {r : R} {rest : S → Option R} : fin (some (.rt r)) rest = some r := rfl
theorem loopM_ok {f : α → S → Option S} (I : List α → S → Prop) (hs : ∀ x r s, I (x :: r) s → ∃ s', f x s = some s' ∧ I r s') : ∀ (xs : List α) (s : S), I xs s → ∃ out, loopM f xs s = some out ∧ I [] out
  | [], s, h => ⟨s, rfl, h⟩
  | x :: r, s, h => by
    obtain ⟨s', h1, h2⟩ := hs x r s h
    obtain ⟨out, h3, h4⟩ := loopM_ok I hs r s' h2
    exact ⟨out, by show bnd (f x s) (loopM f r) = some out; rw [h1]; exact h3, h4⟩
theorem loopF_ok {f : α → S → Option (Fl S R)} (I : List α → S → Prop) (hs : ∀ x r s, I (x :: r) s → ∃ s', f x s = some (.nx s') ∧ I r s') : ∀ (xs : List α) (s : S), I xs s → ∃ out, loopF f xs s = some (.nx out) ∧ I [] out
  | [], s, h => ⟨s, rfl, h⟩
  | x :: r, s, h => by
    obtain ⟨s', h1, h2⟩ := hs x r s h
    obtain ⟨out, h3, h4⟩ := loopF_ok I hs r s' h2
    exact ⟨out, by show bnd (f x s) (contF (loopF f r)) = some (.nx out); rw [h1]; exact h3, h4⟩
/-- a search that finds nothing -/
theorem loopF_unit {f : α → Unit → Option (Fl Unit R)} {xs : List α} (h : ∀ x ∈ xs, f x () = some (.nx ())) : loopF f xs () = some (.nx ()) := by
  induction xs with
  | nil => rfl
  | cons x r ih =>
    show bnd (f x ()) (contF (loopF f r)) = some (.nx ())
    rw [h x (List.Mem.head _)]
    exact ih fun y hy => h y (List.Mem.tail _ hy)
theorem compM_ok {f : α → Option β} {g : α → β} : ∀ (xs : List α) (acc : List β), (∀ x ∈ xs, f x = some (g x)) → acc.length + xs.length ≤ 16777216 → compM f xs acc = some (acc ++ xs.map g)
  | [], acc, _, _ => by simp [compM]
  | x :: r, acc, h, hz => by
    have hl : acc.length < 16777216 := by simp only [List.length_cons] at hz; omega
    have ih := compM_ok r (acc ++ [g x]) (fun y hy => h y (List.Mem.tail _ hy)) (by simp only [List.length_append, List.length_cons, List.length_nil] at hz ⊢; omega)
    show bnd (f x) (fun y => if acc.length < 16777216 then compM f r (acc ++ [y]) else none) = _
    rw [h x (List.Mem.head _), bnd_some, if_pos hl, ih]
    simp
/-- the elements' property alone -/
theorem compM_all {f : α → Option β} {P : β → Prop} : ∀ (xs : List α) (acc : List β), (∀ x ∈ xs, ∃ y, f x = some y ∧ P y) → acc.length + xs.length ≤ 16777216 → (∀ y ∈ acc, P y) → ∃ out, compM f xs acc = some out ∧ out.length = acc.length + xs.length ∧ ∀ y ∈ out, P y
  | [], acc, _, _, ha => ⟨acc, rfl, by simp, ha⟩
  | x :: r, acc, h, hz, ha => by
    obtain ⟨y, h1, h2⟩ := h x (List.Mem.head _)
    have hl : acc.length < 16777216 := by simp only [List.length_cons] at hz; omega
    obtain ⟨out, h3, h4, h5⟩ := compM_all r (acc ++ [y]) (fun y hy => h y (List.Mem.tail _ hy)) (by simp only [List.length_append, List.length_cons, List.length_nil] at hz ⊢; omega) (fun z hz => by
      rcases List.mem_append.mp hz with q | q
      · exact ha z q
      · rw [List.mem_singleton.mp q]; exact h2)
    refine ⟨out, ?_, by rw [h4]; simp only [List.length_append, List.length_cons, List.length_nil]; omega, h5⟩
    show bnd (f x) (fun y => if acc.length < 16777216 then compM f r (acc ++ [y]) else none) = _
    rw [h1, bnd_some, if_pos hl, h3]
theorem appG_ok {xs : List α} {y : α} (h : xs.length < 16777216) : appG xs y = some (xs ++ [y]) := grd_of h
theorem catG_ok {xs ys : List α} (h : xs.length + ys.length ≤ 16777216) : catG xs ys = some (xs ++ ys) := grd_of h
theorem ixN_nat' {n : Nat} {i : Int} (h0 : 0 ≤ i) (h1 : i < n) : ixN n i = some i.toNat := by
  unfold ixN
  rw [if_pos h0, if_pos h1]
theorem atI_ok {xs : List α} {i : Int} (h0 : 0 ≤ i) (h1 : i < xs.length) : atI xs i = xs[i.toNat]? := by
  unfold atI
  rw [ixN_nat' h0 h1]
  rfl
theorem atI_mem {xs : List α} {i : Int} (h0 : 0 ≤ i) (h1 : i < xs.length) : ∃ x, atI xs i = some x ∧ x ∈ xs := by
  have hn : i.toNat < xs.length := by omega
  exact ⟨xs[i.toNat], by rw [atI_ok h0 h1]; exact List.getElem?_eq_getElem hn, List.getElem_mem hn⟩
theorem setG_ok {xs : List α} {i : Int} {y : α} (h0 : 0 ≤ i) (h1 : i < xs.length) : setG xs i y = some (xs.set i.toNat y) := by
  unfold setG
  rw [ixN_nat' h0 h1]
theorem repG_ok {xs : List α} {k : Int} (h0 : 0 ≤ k) (h1 : k ≤ 1000000) (h2 : xs.length * k.toNat ≤ 16777216) : repG xs k = some (List.replicate k.toNat xs).flatten := grd_of ⟨by omega, by omega, h2⟩
end
theorem modG_ok {i j : Int} (h : 0 < j) : modG i j = some (i % j) := grd_of h
theorem log2_small {n k : Nat} (h : n < 2 ^ k) : n.log2 ≤ k := by
  by_cases h0 : n = 0
  · subst h0; rw [show Nat.log2 0 = 0 from by decide]; exact Nat.zero_le _
  · exact Nat.le_of_lt ((Nat.log2_lt h0).mpr h)
theorem mulG_ok {i j : Int} {a b : Nat} (h1 : i.natAbs < 2 ^ a) (h2 : j.natAbs < 2 ^ b) (h : a + b < 1000000) : mulG i j = some (i * j) := by
  refine grd_of ?_
  have := log2_small h1
  have := log2_small h2
  omega
theorem fdivG_ok {i j : Int} {b : Nat} (h : 0 < j) (h2 : j.natAbs < 2 ^ b) (hb : b < 9000) : fdivG i j = some (i / j) := by
  refine grd_of ⟨h, ?_⟩
  have := log2_small h2
  omega
theorem shrG_ok {i j : Int} (h : 0 ≤ j) : shrG i j = some (i / 2 ^ j.toNat) := grd_of h
theorem rng1_ok {j : Int} (h : j ≤ 1000000) (h0 : -1000000 ≤ j) : rng1 j = some (rangeI 0 j) := grd_of ⟨by omega, by omega⟩
theorem rng2_ok {i j : Int} (h : j ≤ 1000000) (h0 : -1000000 ≤ j) (h1 : -1000000 ≤ i) (h2 : i ≤ 1000000) : rng2 i j = some (rangeI i j) := grd_of ⟨by omega, by omega, by omega, by omega⟩
theorem mem_rangeI {i j x : Int} (h : x ∈ rangeI i j) : i ≤ x ∧ x < j := by
  unfold rangeI at h
  obtain ⟨n, hn, rfl⟩ := List.mem_map.mp h
  have := List.mem_range.mp hn
  omega
theorem rangeI_length (i j : Int) : (rangeI i j).length = (j - i).toNat := by simp [rangeI]
theorem rangeI_cons {i j : Int} (h : i < j) : rangeI i j = i :: rangeI (i + 1) j := by
  unfold rangeI
  have e : (j - i).toNat = (j - (i + 1)).toNat + 1 := by omega
  rw [e, List.range_succ_eq_map]
  simp only [List.map_cons, List.map_map]
  congr 1
  · simp
  · refine List.map_congr_left fun n _ => ?_
    simp only [Function.comp]
    omega
theorem rangeI_nil {i j : Int} (h : j ≤ i) : rangeI i j = [] := by
  unfold rangeI
  rw [show (j - i).toNat = 0 from by omega]
  rfl
/-- a loop over a range: the invariant by the number ahead -/
theorem loopM_rng {S : Type} {f : Int → S → Option S} (I : Int → S → Prop) {hi : Int} (hs : ∀ i s, i < hi → I i s → ∃ s', f i s = some s' ∧ I (i + 1) s') : ∀ (n : Nat) (lo : Int) (s : S), (hi - lo).toNat = n → lo ≤ hi → I lo s → ∃ out, loopM f (rangeI lo hi) s = some out ∧ I hi out
  | 0, lo, s, e, h, h0 => by
    have : lo = hi := by omega
    subst this
    rw [rangeI_nil (Int.le_refl _)]
    exact ⟨s, rfl, h0⟩
  | n + 1, lo, s, e, h, h0 => by
    rw [rangeI_cons (by omega)]
    obtain ⟨s', h1, h2⟩ := hs lo s (by omega) h0
    obtain ⟨out, h3, h4⟩ := loopM_rng I hs n (lo + 1) s' (by omega) (by omega) h2
    exact ⟨out, by show bnd (f lo s) _ = _; rw [h1]; exact h3, h4⟩
theorem loopF_rng {S R : Type} {f : Int → S → Option (Fl S R)} (I : Int → S → Prop) {hi : Int} (hs : ∀ i s, i < hi → I i s → ∃ s', f i s = some (.nx s') ∧ I (i + 1) s') : ∀ (n : Nat) (lo : Int) (s : S), (hi - lo).toNat = n → lo ≤ hi → I lo s → ∃ out, loopF f (rangeI lo hi) s = some (.nx out) ∧ I hi out
  | 0, lo, s, e, h, h0 => by
    have : lo = hi := by omega
    subst this
    rw [rangeI_nil (Int.le_refl _)]
    exact ⟨s, rfl, h0⟩
  | n + 1, lo, s, e, h, h0 => by
    rw [rangeI_cons (by omega)]
    obtain ⟨s', h1, h2⟩ := hs lo s (by omega) h0
    obtain ⟨out, h3, h4⟩ := loopF_rng I hs n (lo + 1) s' (by omega) (by omega) h2
    exact ⟨out, by show bnd (f lo s) _ = _; rw [h1]; exact h3, h4⟩
end Bt
namespace Bt
open PySem L2
theorem bits_le {i : Int} {n : Nat} (h : i.natAbs < 2 ^ n) : Builtin.Int.intBits i ≤ n := by
  unfold Builtin.Int.intBits
  split
  · exact Nat.zero_le _
  · rename_i h0
    have h1 : i.natAbs ≠ 0 := by simpa using h0
    have := (Nat.log2_lt h1).mpr h
    omega
theorem shlG_ok {i j : Int} {n : Nat} (h : i.natAbs < 2 ^ n) (h0 : 0 ≤ j) (h1 : (n : Int) + j ≤ 100000000) : shlG i j = some (i * 2 ^ j.toNat) := by
  refine grd_of ⟨h0, ?_⟩
  have := bits_le h
  omega
end Bt
namespace Bt
open PySem L2
theorem whileM_go {S : Type} {c : S → Option Bool} {f : S → Option S} {n : Nat} {s s' : S} (h1 : c s = some true) (h2 : f s = some s') : whileM c f (n + 1) s = whileM c f n s' := by
  show bnd (c s) (fun b => ifB b (bnd (f s) (whileM c f n)) (some s)) = _
  rw [h1, bnd_some, ifB_t, h2, bnd_some]
theorem whileM_stop {S : Type} {c : S → Option Bool} {f : S → Option S} {n : Nat} {s : S} (h1 : c s = some false) : whileM c f (n + 1) s = some s := by
  show bnd (c s) (fun b => ifB b (bnd (f s) (whileM c f n)) (some s)) = _
  rw [h1, bnd_some, ifB_f]
theorem loopM_go {α S : Type} {f : α → S → Option S} {x : α} {r : List α} {s s' : S} (h : f x s = some s') : loopM f (x :: r) s = loopM f r s' := by
  show bnd (f x s) (loopM f r) = _
  rw [h, bnd_some]
theorem loopF_go {α S R : Type} {f : α → S → Option (Fl S R)} {x : α} {r : List α} {s s' : S} (h : f x s = some (.nx s')) : loopF f (x :: r) s = loopF f r s' := by
  show bnd (f x s) (contF (loopF f r)) = _
  rw [h, bnd_some]
  rfl
end Bt
namespace Bt
open PySem L2
theorem compT_ok {α β : Type} {c : α → Option Bool} {f : α → Option β} {p : α → Bool} {g : α → β} : ∀ (xs : List α) (acc : List β), (∀ x ∈ xs, c x = some (p x)) → (∀ x ∈ xs, f x = some (g x)) → acc.length + xs.length ≤ 16777216 → compT c f xs acc = some (acc ++ (xs.filter p).map g)
  | [], acc, _, _, _ => by simp [compT]
  | x :: r, acc, h, k, hz => by
    simp only [List.length_cons] at hz
    show bnd (c x) (fun b => ifB b (bnd (f x) fun y => if acc.length < 16777216 then compT c f r (acc ++ [y]) else none) (compT c f r acc)) = _
    rw [h x (List.Mem.head _), bnd_some]
    cases e : p x with
    | true =>
      rw [ifB_t, k x (List.Mem.head _), bnd_some, if_pos (by omega), compT_ok r (acc ++ [g x]) (fun y hy => h y (List.Mem.tail _ hy)) (fun y hy => k y (List.Mem.tail _ hy)) (by simp; omega)]
      simp [e]
    | false =>
      rw [ifB_f, compT_ok r acc (fun y hy => h y (List.Mem.tail _ hy)) (fun y hy => k y (List.Mem.tail _ hy)) (by omega)]
      simp [e]
end Bt
namespace Bt
theorem bndO_ok {α β : Type} {y : α} {f : α → Option β} : bndO (some (.ok y)) f = f y := rfl
theorem bndR_ok {α β : Type} {y : α} {f : α → Option (Rs β)} : bndR (some (.ok y)) f = f y := rfl
theorem bndR_er {α β : Type} {e : Er} {f : α → Option (Rs β)} : bndR (some (.er e)) f = some (.er e) := rfl
theorem tryR_ok {α β : Type} {y : α} {f : α → β} {g : Er → β} : tryR (.ok y) f g = f y := rfl
theorem tryR_er {α β : Type} {e : Er} {f : α → β} {g : Er → β} : tryR (.er e) f g = g e := rfl
end Bt

set_option Elab.async false
set_option linter.all false
set_option maxRecDepth 100000
set_option maxHeartbeats 4000000
namespace Bt
open PySem L2
def top (i : Nat) : Stmt := PySem.Challenge.pw_bitrail_k03_bits_changed.main.body.getD i (.Pass ⟨0, 0, 0, 0⟩)
abbrev s_changed : Stmt := top 4
abbrev s_longest_run : Stmt := top 5
abbrev s__law_cell_at : Stmt := top 7
abbrev s__law_draw : Stmt := top 8
abbrev s__law_row : Stmt := top 9
abbrev s__law_places : Stmt := top 10
abbrev s__law_whole : Stmt := top 11
abbrev s__law_run_fits : Stmt := top 12
abbrev s__law_refused : Stmt := top 13
abbrev s_law : Stmt := top 14
structure Ad where
  f_changed : Addr
  fd_changed : FuncData
  f_longest_run : Addr
  fd_longest_run : FuncData
  f__law_cell_at : Addr
  fd__law_cell_at : FuncData
  f__law_draw : Addr
  fd__law_draw : FuncData
  f__law_row : Addr
  fd__law_row : FuncData
  f__law_places : Addr
  fd__law_places : FuncData
  f__law_whole : Addr
  fd__law_whole : FuncData
  f__law_run_fits : Addr
  fd__law_run_fits : FuncData
  f__law_refused : Addr
  fd__law_refused : FuncData
  f_law : Addr
  fd_law : FuncData
  es : Eds
structure Txt (K : PySem.W.Frag) (mg : Str → Option Value) (ad : Ad) : Prop where
  F_changed : Fun K "changed" "changed" s_changed ad.f_changed ad.fd_changed
  g_changed : mg "changed" = some (.ref ad.f_changed)
  b_changed : Binds K ad.fd_changed ["bits", "places"] []
  F_longest_run : Fun K "longest_run" "longest_run" s_longest_run ad.f_longest_run ad.fd_longest_run
  g_longest_run : mg "longest_run" = some (.ref ad.f_longest_run)
  b_longest_run : Binds K ad.fd_longest_run ["bits"] []
  F__law_cell_at : Fun K "_law_cell_at" "_law_cell_at" s__law_cell_at ad.f__law_cell_at ad.fd__law_cell_at
  g__law_cell_at : mg "_law_cell_at" = some (.ref ad.f__law_cell_at)
  b__law_cell_at : Binds K ad.fd__law_cell_at ["script", "k"] []
  F__law_draw : Fun K "_law_draw" "_law_draw" s__law_draw ad.f__law_draw ad.fd__law_draw
  g__law_draw : mg "_law_draw" = some (.ref ad.f__law_draw)
  b__law_draw : Binds K ad.fd__law_draw ["script", "k", "many"] []
  F__law_row : Fun K "_law_row" "_law_row" s__law_row ad.f__law_row ad.fd__law_row
  g__law_row : mg "_law_row" = some (.ref ad.f__law_row)
  b__law_row : Binds K ad.fd__law_row ["script", "many"] []
  F__law_places : Fun K "_law_places" "_law_places" s__law_places ad.f__law_places ad.fd__law_places
  g__law_places : mg "_law_places" = some (.ref ad.f__law_places)
  b__law_places : Binds K ad.fd__law_places ["script", "many"] []
  F__law_whole : Fun K "_law_whole" "_law_whole" s__law_whole ad.f__law_whole ad.fd__law_whole
  g__law_whole : mg "_law_whole" = some (.ref ad.f__law_whole)
  b__law_whole : Binds K ad.fd__law_whole ["found"] []
  F__law_run_fits : Fun K "_law_run_fits" "_law_run_fits" s__law_run_fits ad.f__law_run_fits ad.fd__law_run_fits
  g__law_run_fits : mg "_law_run_fits" = some (.ref ad.f__law_run_fits)
  b__law_run_fits : Binds K ad.fd__law_run_fits ["bits", "size"] []
  F__law_refused : Fun K "_law_refused" "_law_refused" s__law_refused ad.f__law_refused ad.fd__law_refused
  g__law_refused : mg "_law_refused" = some (.ref ad.f__law_refused)
  b__law_refused : Binds K ad.fd__law_refused ["bits", "places"] []
  F_law : Fun K "law" "law" s_law ad.f_law ad.fd_law
  g_law : mg "law" = some (.ref ad.f_law)
  b_law : Binds K ad.fd_law ["script"] []
  z_bool : mg "bool" = none
  z_int : mg "int" = none
  z_isinstance : mg "isinstance" = none
  z_len : mg "len" = none
  z_list : mg "list" = none
  z_max : mg "max" = none
  z_range : mg "range" = none
  z_sum : mg "sum" = none
  e_NoBits : ErrC K mg "NoBits" ad.es.NoBits
  x_NoBits_NoBits : PySem.W.exmOne K (.ref ad.es.NoBits) (.ref ad.es.NoBits) = some true
section
variable {P : Program} {w : World} {K : PySem.W.Frag} {mg : Str → Option Value} {base : Heap}
def m_changed_L0  (at_13 : Int) (turned_7 : List Int) : Option (Fl ((List Int)) (Rs (List Int))) :=
  ifB (decide (at_13 < (0 : Int)) || decide ((List.length turned_7 : Int) ≤ at_13)) (
    some (.rt (.er .NoBits))) (
    bnd (atI turned_7 at_13) fun e_17 =>
    bnd (setG turned_7 at_13 (Builtin.bitXor e_17 (1 : Int))) fun l_19 =>
    some (.nx l_19))
def m_changed (bits_1 : List Int) (places_3 : List Int) : Option (Rs (List Int)) :=
  fin (loopF (fun at_13 s => m_changed_L0 at_13 s) places_3 bits_1) fun turned_7 =>
  some (.ok turned_7)
def sp_changed (K : PySem.W.Frag) (d : Eds) : Sp := fun vs H Q E => ∃ (bits_1 : List Int) (a_2 : Addr) (places_3 : List Int) (a_4 : Addr) (r : Rs (List Int)), vs = [.ref a_2, .ref a_4] ∧ H a_2 = some (.lst (List.map V.int bits_1)) ∧ H a_4 = some (.lst (List.map V.int places_3)) ∧ m_changed bits_1 places_3 = some r ∧ RetR (fun r => RetL (List.map V.int r) H Q) d r H E
abbrev N_changed : List Str := ["bits", "places", "turned", "at"]
theorem sc_changed : FnScope N_changed ["bits", "places"] (defScope s_changed) := ⟨rfl, rfl, rfl, by decide +kernel, rfl, by decide +kernel, by decide +kernel⟩
theorem ok_changed {ad : Ad} (T : Txt K mg ad) : FnOk P w K mg base (L2N.CX P w) 1 ad.f_changed ad.fd_changed ["bits", "places"] (sp_changed K ad.es) := by
  refine okN T.F_changed sc_changed (fun vs H Q E h => ?_) (fun cdv A outer s H vs Q E hr h => ?_)
  · obtain ⟨_, _, _, _, _, rfl, _⟩ := h
    rfl
  · obtain ⟨bits_1, a_2, places_3, a_4, r, rfl, hp_a_2, hp_a_4, hm, k⟩ := h
    unfold m_changed at hm
    obtain ⟨H0, hH0⟩ : ∃ H0 : Hp, H0 = H := ⟨H, rfl⟩
    have O : Own H0 H [] := by rw [hH0]; exact Own.start H
    rw [← hH0] at k hp_a_2 hp_a_4
    clear hH0
    refine ⟨_, (pss_cons (ps_set (i := 2) sc_changed.nd rfl (Or.inl rfl) (pe_callTy (r := rListQ K) call_listQ (by rfl) T.z_list (by decide +kernel) (pa_cons (pv 0) pa_nil))) (pss_cons (ps_for (passes_of rfl) rfl (pi_list (pv 1)) (pg_name (i := 3) sc_changed.nd rfl (Or.inl rfl)) (pss_cons (ps_if (PW.pt (pw_or (pt_cmpR op_lt (pv 3) pe_int (nomark _)) (pw_or1 (pt_cmpR op_ge (pv 3) (pe_callB (r := rLenQ K) call_lenQ (by rfl) T.z_len PySem.boot_len (pa_cons (pv 2) pa_nil)) (nomark _))))) (pss_one (ps_errN T.e_NoBits (L2N.takes_of rfl rfl rfl rfl) rfl rfl)) pss_nil) (pss_one (ps_asg (pe_op op_xor (pe_ix (r := rIxL K) ix_list (pv 2) (pv 3) (fun _ _ => rfl)) pe_int) (pg_sub (pv 2) (pv 3) set_list))))) (pss_one (ps_ret (pv 2))))), ?_⟩
    -- 8
    refine o_seq ?_
    refine o_asg ?_
    refine ⟨_, rfl, ?_⟩
    refine x_nil ?_
    refine n_list O (SqL.of (O.ex _ _ hp_a_2)) fun p_5 H O => ?_
    -- 9
    refine o_seq ?_
    refine o_for ?_
    refine ⟨_, rfl, ?_⟩
    obtain ⟨out_14, h10, h11⟩ := bndE hm
    refine ⟨_, rfl, ⟨_, (SqL.of (O.ex _ _ hp_a_4))⟩, q_forL (f := V.int) (xs := places_3) (fun r σ H => ∃ (turned_7 : List Int) (j_6 : Option V) (j_8 : Option V), σ = [j_6, some (.ref a_4), some (.ref p_5), j_8] ∧ Own H0 H [(p_5, .lst (List.map V.int turned_7))] ∧ loopF (fun at_13 s => m_changed_L0 at_13 s) r turned_7 = some out_14) ⟨_, _, _, rfl, O, h10⟩ (by rintro r σ H ⟨turned_7, j_6, j_8, rfl, O, hL⟩; exact (SqL.of (O.ex _ _ hp_a_4))) ?_ ?_⟩
    · rintro at_13 r σ H ⟨turned_7, j_6, j_8, rfl, O, hL⟩
      obtain ⟨s_, hm, h12⟩ := loopF_cons hL
      replace hm : m_changed_L0 at_13 turned_7 = some s_ := hm
      unfold m_changed_L0 at hm
      -- 10
      refine o_seq ?_
      refine o_ifs ?_
      refine x_or (c := decide (at_13 < (0 : Int))) (e := decide ((List.length turned_7 : Int) ≤ at_13)) (d := (decide (at_13 < (0 : Int)) || decide ((List.length turned_7 : Int) ≤ at_13))) O (fun Q1 k1 => ?_) (fun h15 => ⟨by rw [h15]; rfl, fun H O Q2 k2 => ?_⟩) (fun h15 => by rw [h15]; rfl) (fun H O => ?_)
      · refine ⟨_, rfl, _, _, rfl, rfl, _, rfl, ?_⟩
        exact k1 _ O
      · refine ⟨_, rfl, _, rfl, ?_⟩
        refine x_nil ?_
        refine n_len (SqL.of (O.mem (List.Mem.head _))) ?_
        refine ⟨_, _, rfl, rfl, _, rfl, ?_⟩
        exact k2 _ O
      refine iteS (c := (decide (at_13 < (0 : Int)) || decide ((List.length turned_7 : Int) ≤ at_13))) (fun h16 => ?_) (fun h16 => ?_)
      · replace hm := ifT hm h16
        -- 11
        obtain rfl := Option.some.inj hm
        obtain rfl := contRt h12
        obtain rfl := finRt h11
        exact k _ O.ex
      · replace hm := ifF hm h16
        refine o_next ?_
        -- 12
        refine o_sub ?_
        obtain ⟨e_17, h18, hm⟩ := bndE hm
        refine ⟨_, rfl, _, rfl, ?_⟩
        refine k_ixL (f := V.int) (SqL.of (O.mem (List.Mem.head _))) h18 ?_
        obtain ⟨l_19, h20, hm⟩ := bndE hm
        refine ⟨_, _, rfl, rfl, _, rfl, _, rfl, ?_⟩
        refine k_setL (f := V.int) (O.mem (List.Mem.head _)) (fun _ => O.put0) h20 fun H O => ?_
        have Oz := O
        obtain rfl := Option.some.inj hm
        exact ⟨_, _, _, rfl, Oz, h12⟩
    rintro σ H ⟨turned_7, j_6, j_8, rfl, O, hL⟩
    obtain rfl := loopF_nil hL
    replace hm := finNx h11
    -- 13
    refine o_ret ?_
    refine ⟨_, rfl, ?_⟩
    obtain rfl := Option.some.inj hm
    exact RetL.go k O (List.Mem.head _)
def m_longest_run_L0  (bit_15 : Int) (best_5 : Int) (run_6 : Int) (last_7 : Int) : Option (Int × Int × Int) :=
  ltv ((ifB (decide (bit_15 = last_7)) (run_6 + (1 : Int)) (1 : Int))) fun run_18 =>
  some ((if run_18 > best_5 then run_18 else best_5), run_18, bit_15)
def m_longest_run (bits_1 : List Int) : Option Int :=
  ltv ((-(1 : Int))) fun last_3 =>
  bnd (loopM (fun bit_15 s => m_longest_run_L0 bit_15 s.1 s.2.1 s.2.2) bits_1 ((0 : Int), (0 : Int), last_3)) fun (best_9, run_10, last_11) =>
  some best_9
def sp_longest_run (K : PySem.W.Frag) : Sp := fun vs H Q _ => ∃ (bits_1 : List Int) (a_2 : Addr) (r : Int), vs = [.ref a_2] ∧ H a_2 = some (.lst (List.map V.int bits_1)) ∧ m_longest_run bits_1 = some r ∧ RetV (.int r) H Q
abbrev N_longest_run : List Str := ["bits", "best", "run", "last", "bit"]
theorem sc_longest_run : FnScope N_longest_run ["bits"] (defScope s_longest_run) := ⟨rfl, rfl, rfl, by decide +kernel, rfl, by decide +kernel, by decide +kernel⟩
theorem ok_longest_run {ad : Ad} (T : Txt K mg ad) : FnOk P w K mg base CX0 1 ad.f_longest_run ad.fd_longest_run ["bits"] (sp_longest_run K) := by
  refine T.F_longest_run.ok sc_longest_run (fun vs H Q E h => ?_) (fun cdv A outer s H vs Q E hr h => ?_)
  · obtain ⟨_, _, _, rfl, _⟩ := h
    rfl
  · obtain ⟨bits_1, a_2, r, rfl, hp_a_2, hm, k⟩ := h
    unfold m_longest_run at hm
    obtain ⟨H0, hH0⟩ : ∃ H0 : Hp, H0 = H := ⟨H, rfl⟩
    have O : Own H0 H [] := by rw [hH0]; exact Own.start H
    rw [← hH0] at k hp_a_2
    clear hH0
    refine ⟨_, (pss_cons (ps_set (i := 1) sc_longest_run.nd rfl (Or.inl rfl) pe_int) (pss_cons (ps_set (i := 2) sc_longest_run.nd rfl (Or.inl rfl) pe_int) (pss_cons (ps_set (i := 3) sc_longest_run.nd rfl (Or.inl rfl) (pe_un un_neg pe_int)) (pss_cons (ps_for PassesOwn.never rfl (pi_list (pv 0)) (pg_name (i := 4) sc_longest_run.nd rfl (Or.inl rfl)) (pss_cons (ps_set (i := 2) sc_longest_run.nd rfl (Or.inl rfl) (pe_ifExp (pt_cmpR op_eq (pv 4) (pv 3) (nomark _)) (pe_op op_add (pv 2) pe_int) pe_int)) (pss_cons (ps_set (i := 3) sc_longest_run.nd rfl (Or.inl rfl) (pv 4)) (pss_one (ps_set (i := 1) sc_longest_run.nd rfl (Or.inl rfl) (pe_callB (call_max2 rfl) (by rfl) T.z_max (by decide +kernel) (pa_cons (pv 1) (pa_cons (pv 2) pa_nil)))))))) (pss_one (ps_ret (pv 1))))))), ?_⟩
    -- 15
    refine o_seq ?_
    refine o_asg ?_
    refine o_c ?_
    -- 16
    refine o_seq ?_
    refine o_asg ?_
    refine o_c ?_
    -- 17
    refine o_seq ?_
    refine o_asg ?_
    refine ⟨_, rfl, ?_⟩
    obtain ⟨last_3, h4, hm⟩ := ltvE hm
    refine a_set (congrArg V.int h4) ?_
    -- 18
    refine o_seq ?_
    refine o_for ?_
    refine ⟨_, rfl, ?_⟩
    obtain ⟨⟨best_9, run_10, last_11⟩, h12, hm⟩ := bndE hm
    refine ⟨_, rfl, ⟨_, (SqL.of (O.ex _ _ hp_a_2))⟩, q_forL (f := V.int) (xs := bits_1) (fun r σ H => ∃ (best_5 : Int) (run_6 : Int) (last_7 : Int) (j_8 : Option V), σ = [some (.ref a_2), some (.int best_5), some (.int run_6), some (.int last_7), j_8] ∧ Own H0 H [] ∧ loopM (fun bit_15 s => m_longest_run_L0 bit_15 s.1 s.2.1 s.2.2) r (best_5, run_6, last_7) = some (best_9, run_10, last_11)) ⟨_, _, _, _, rfl, O, h12⟩ (by rintro r σ H ⟨best_5, run_6, last_7, j_8, rfl, O, hL⟩; exact (SqL.of (O.ex _ _ hp_a_2))) ?_ ?_⟩
    · rintro bit_15 r σ H ⟨best_5, run_6, last_7, j_8, rfl, O, hL⟩
      obtain ⟨s_, hm, h14⟩ := loopM_cons hL
      replace hm : m_longest_run_L0 bit_15 best_5 run_6 last_7 = some s_ := hm
      unfold m_longest_run_L0 at hm
      -- 19
      refine o_seq ?_
      refine o_asg ?_
      refine x_if (c := (decide (bit_15 = last_7))) (x := .int (run_6 + (1 : Int))) (y := .int (1 : Int)) (v := .int (ifB (decide (bit_15 = last_7)) (run_6 + (1 : Int)) (1 : Int))) O (fun Q1 k1 => ?_) (fun h17 => ⟨by rw [h17]; rfl, fun H O Q2 k2 => ?_⟩) (fun h17 => ⟨by rw [h17]; rfl, fun H O Q2 k2 => ?_⟩) (fun H O => ?_)
      · refine ⟨_, rfl, _, rfl, ?_⟩
        refine k_eqI ?_
        refine ⟨_, rfl, ?_⟩
        exact k1 _ O
      · refine ⟨_, rfl, _, _, rfl, rfl, ?_⟩
        exact k2 _ O
      · refine o_c ?_
        exact k2 _ O
      obtain ⟨run_18, h19, hm⟩ := ltvE hm
      refine a_set (congrArg V.int h19) ?_
      -- 20
      refine o_seq ?_
      refine o_asg ?_
      refine ⟨_, rfl, ?_⟩
      -- 21
      refine o_asg ?_
      refine ⟨_, rfl, _, rfl, _, _, rfl, ?_⟩
      have Oz := O
      obtain rfl := Option.some.inj hm
      exact ⟨_, _, _, _, rfl, Oz, h14⟩
    rintro σ H ⟨best_5, run_6, last_7, j_8, rfl, O, hL⟩
    cases loopM_nil hL
    -- 22
    refine o_ret ?_
    refine ⟨_, rfl, ?_⟩
    obtain rfl := Option.some.inj hm
    exact RetV.go k O
def m__law_cell_at (script_1 : List Int) (k_3 : Int) : Option Int :=
  ifB (decide (k_3 < (List.length script_1 : Int))) (
    bnd (atI script_1 k_3) fun e_5 =>
    some e_5) (
    some (0 : Int))
def sp__law_cell_at (K : PySem.W.Frag) : Sp := fun vs H Q _ => ∃ (script_1 : List Int) (a_2 : Addr) (k_3 : Int) (r : Int), vs = [.ref a_2, .int k_3] ∧ SqL K H a_2 (List.map V.int script_1) ∧ m__law_cell_at script_1 k_3 = some r ∧ RetV (.int r) H Q
abbrev N__law_cell_at : List Str := ["script", "k"]
theorem sc__law_cell_at : FnScope N__law_cell_at ["script", "k"] (defScope s__law_cell_at) := ⟨rfl, rfl, rfl, by decide +kernel, rfl, by decide +kernel, by decide +kernel⟩
theorem ok__law_cell_at {ad : Ad} (T : Txt K mg ad) : FnOk P w K mg base CX0 1 ad.f__law_cell_at ad.fd__law_cell_at ["script", "k"] (sp__law_cell_at K) := by
  refine T.F__law_cell_at.ok sc__law_cell_at (fun vs H Q E h => ?_) (fun cdv A outer s H vs Q E hr h => ?_)
  · obtain ⟨_, _, _, _, rfl, _⟩ := h
    rfl
  · obtain ⟨script_1, a_2, k_3, r, rfl, hp_a_2, hm, k⟩ := h
    unfold m__law_cell_at at hm
    obtain ⟨H0, hH0⟩ : ∃ H0 : Hp, H0 = H := ⟨H, rfl⟩
    have O : Own H0 H [] := by rw [hH0]; exact Own.start H
    rw [← hH0] at k hp_a_2
    clear hH0
    refine ⟨_, (pss_cons (ps_if (pt_cmpR op_lt (pv 1) (pe_callB (r := rLenQ K) call_lenQ (by rfl) T.z_len PySem.boot_len (pa_cons (pv 0) pa_nil)) (nomark _)) (pss_one (ps_ret (pe_ix (r := rIxL K) ix_list (pv 0) (pv 1) (fun _ _ => rfl)))) pss_nil) (pss_one (ps_ret pe_int))), ?_⟩
    -- 25
    refine o_seq ?_
    refine o_ifs ?_
    refine ⟨_, rfl, _, rfl, ?_⟩
    refine x_nil ?_
    refine n_len (O.ex.l hp_a_2) ?_
    refine ⟨_, _, rfl, rfl, _, rfl, ?_⟩
    refine iteS (c := decide (k_3 < (List.length script_1 : Int))) (fun h4 => ?_) (fun h4 => ?_)
    · replace hm := ifT hm h4
      -- 26
      refine o_ret ?_
      obtain ⟨e_5, h6, hm⟩ := bndE hm
      refine ⟨_, rfl, _, rfl, ?_⟩
      refine k_ixL (f := V.int) (O.ex.l hp_a_2) h6 ?_
      obtain rfl := Option.some.inj hm
      exact RetV.go k O
    · replace hm := ifF hm h4
      refine o_next ?_
      -- 27
      refine o_ret ?_
      refine o_c ?_
      obtain rfl := Option.some.inj hm
      exact RetV.go k O
def m__law_draw (script_1 : List Int) (k_3 : Int) (many_4 : Int) : Option Int :=
  bnd (ifB (decide ((0 : Int) < (List.length script_1 : Int))) (bnd (modG k_3 (List.length script_1 : Int)) fun t_5 =>
  bnd (atI script_1 t_5) fun e_7 => some e_7) ( some (0 : Int))) fun z_10 =>
  bnd (mulG ((31 : Int) * k_3) k_3) fun t_12 =>
  ltv ((((z_10 % (1000003 : Int)) + t_12) + (1 : Int))) fun seed_14 =>
  bnd (modG ((((seed_14 * (48271 : Int)) % (999983 : Int)) * (7919 : Int)) % (524287 : Int)) many_4) fun t_16 =>
  some t_16
def sp__law_draw (K : PySem.W.Frag) : Sp := fun vs H Q _ => ∃ (script_1 : List Int) (a_2 : Addr) (k_3 : Int) (many_4 : Int) (r : Int), vs = [.ref a_2, .int k_3, .int many_4] ∧ SqL K H a_2 (List.map V.int script_1) ∧ m__law_draw script_1 k_3 many_4 = some r ∧ RetV (.int r) H Q
abbrev N__law_draw : List Str := ["script", "k", "many", "cell", "seed"]
theorem sc__law_draw : FnScope N__law_draw ["script", "k", "many"] (defScope s__law_draw) := ⟨rfl, rfl, rfl, by decide +kernel, rfl, by decide +kernel, by decide +kernel⟩
theorem ok__law_draw {ad : Ad} (T : Txt K mg ad) : FnOk P w K mg base CX0 1 ad.f__law_draw ad.fd__law_draw ["script", "k", "many"] (sp__law_draw K) := by
  refine T.F__law_draw.ok sc__law_draw (fun vs H Q E h => ?_) (fun cdv A outer s H vs Q E hr h => ?_)
  · obtain ⟨_, _, _, _, _, rfl, _⟩ := h
    rfl
  · obtain ⟨script_1, a_2, k_3, many_4, r, rfl, hp_a_2, hm, k⟩ := h
    unfold m__law_draw at hm
    obtain ⟨H0, hH0⟩ : ∃ H0 : Hp, H0 = H := ⟨H, rfl⟩
    have O : Own H0 H [] := by rw [hH0]; exact Own.start H
    rw [← hH0] at k hp_a_2
    clear hH0
    refine ⟨_, (pss_cons (ps_set (i := 3) sc__law_draw.nd rfl (Or.inl rfl) (pe_ifExp (pt_cmpR op_gt (pe_callB (r := rLenQ K) call_lenQ (by rfl) T.z_len PySem.boot_len (pa_cons (pv 0) pa_nil)) pe_int (nomark _)) (pe_ix (r := rIxL K) ix_list (pv 0) (pe_op op_mod (pv 1) (pe_callB (r := rLenQ K) call_lenQ (by rfl) T.z_len PySem.boot_len (pa_cons (pv 0) pa_nil))) (fun _ _ => rfl)) pe_int)) (pss_cons (ps_set (i := 4) sc__law_draw.nd rfl (Or.inl rfl) (pe_op op_add (pe_op op_add (pe_op op_mod (pv 3) pe_int) (pe_op op_mulW (pe_op op_mul pe_int (pv 1)) (pv 1))) pe_int)) (pss_one (ps_ret (pe_op op_mod (pe_op op_mod (pe_op op_mul (pe_op op_mod (pe_op op_mul (pv 4) pe_int) pe_int) pe_int) pe_int) (pv 2)))))), ?_⟩
    -- 29
    refine o_seq ?_
    refine o_asg ?_
    obtain ⟨z_10, h11, hm⟩ := bndE hm
    refine x_if (c := decide ((0 : Int) < (List.length script_1 : Int))) (x := .int z_10) (y := .int z_10) (v := .int z_10) O (fun Q1 k1 => ?_) (fun h9 => ⟨rfl, fun H O Q2 k2 => ?_⟩) (fun h9 => ⟨rfl, fun H O Q2 k2 => ?_⟩) (fun H O => ?_)
    · refine ⟨_, rfl, ?_⟩
      refine x_nil ?_
      refine n_len (O.ex.l hp_a_2) ?_
      refine ⟨_, _, rfl, rfl, _, rfl, ?_⟩
      exact k1 _ O
    · replace hm := ifT h11 h9
      obtain ⟨t_5, h6, hm⟩ := bndE hm
      obtain ⟨e_7, h8, hm⟩ := bndE hm
      obtain rfl := Option.some.inj hm
      refine ⟨_, rfl, _, rfl, _, rfl, ?_⟩
      refine x_nil ?_
      refine n_len (O.ex.l hp_a_2) ?_
      refine k_mod h6 ?_
      refine k_ixL (f := V.int) (O.ex.l hp_a_2) h8 ?_
      exact k2 _ O
    · replace hm := ifF h11 h9
      obtain rfl := Option.some.inj hm
      refine o_c ?_
      exact k2 _ O
    -- 30
    refine o_seq ?_
    refine o_asg ?_
    obtain ⟨t_12, h13, hm⟩ := bndE hm
    refine ⟨_, rfl, _, _, rfl, rfl, (by show (0 : Int) < 1000003; decide), _, rfl, _, _, rfl, rfl, .inl ⟨by decide, by decide⟩, _, rfl, ?_⟩
    refine k_mul h13 ?_
    refine ⟨_, _, rfl, rfl, _, _, rfl, rfl, ?_⟩
    obtain ⟨seed_14, h15, hm⟩ := ltvE hm
    refine a_set (congrArg V.int h15) ?_
    -- 31
    refine o_ret ?_
    obtain ⟨t_16, h17, hm⟩ := bndE hm
    refine ⟨_, rfl, _, _, rfl, rfl, .inr ⟨by decide, by decide⟩, _, _, rfl, rfl, (by show (0 : Int) < 999983; decide), _, _, rfl, rfl, .inr ⟨by decide, by decide⟩, _, _, rfl, rfl, (by show (0 : Int) < 524287; decide), _, rfl, ?_⟩
    refine k_mod h17 ?_
    obtain rfl := Option.some.inj hm
    exact RetV.go k O
def m__law_row_L0 (script_1 : List Int) (slow_7 : Bool) (k_18 : Int) (bits_11 : List Int) : Option ((List Int)) :=
  bnd (m__law_draw script_1 ((7 : Int) + k_18) (2 : Int)) fun law_dr_20 =>
  bnd (ifB slow_7 (bnd (ifB (decide ((0 : Int) < k_18)) (bnd (m__law_draw script_1 (((3 : Int) * k_18) + (5 : Int)) (5 : Int)) fun law_dr_22 => some (decide ((0 : Int) < law_dr_22))) (some false)) fun c_25 => some c_25) (some false)) fun c_28 =>
  bnd (ifB c_28 (
    bnd (atI bits_11 (k_18 - (1 : Int))) fun e_32 =>
    some e_32) (
    some law_dr_20)) fun bit_35 =>
  bnd (appG bits_11 bit_35) fun l_36 =>
  some l_36
def m__law_row (script_1 : List Int) (many_3 : Int) : Option (List Int) :=
  bnd (m__law_draw script_1 (1 : Int) (2 : Int)) fun law_dr_5 =>
  ltv ((decide (law_dr_5 = (0 : Int)))) fun slow_7 =>
  bnd (rng1 many_3) fun rg_9 =>
  bnd (loopM (fun k_18 s => m__law_row_L0 script_1 slow_7 k_18 s) rg_9 ([] : List Int)) fun bits_14 =>
  some bits_14
def sp__law_row (K : PySem.W.Frag) : Sp := fun vs H Q _ => ∃ (script_1 : List Int) (a_2 : Addr) (many_3 : Int) (r : List Int), vs = [.ref a_2, .int many_3] ∧ SqL K H a_2 (List.map V.int script_1) ∧ m__law_row script_1 many_3 = some r ∧ RetL (List.map V.int r) H Q
abbrev N__law_row : List Str := ["script", "many", "bits", "slow", "k", "bit"]
theorem sc__law_row : FnScope N__law_row ["script", "many"] (defScope s__law_row) := ⟨rfl, rfl, rfl, by decide +kernel, rfl, by decide +kernel, by decide +kernel⟩
theorem ok__law_row {ad : Ad} (T : Txt K mg ad) : FnOk P w K mg base CX0 2 ad.f__law_row ad.fd__law_row ["script", "many"] (sp__law_row K) := by
  have G__law_draw := ok__law_draw (P := P) (w := w) (base := base) T
  refine T.F__law_row.ok sc__law_row (fun vs H Q E h => ?_) (fun cdv A outer s H vs Q E hr h => ?_)
  · obtain ⟨_, _, _, _, rfl, _⟩ := h
    rfl
  · obtain ⟨script_1, a_2, many_3, r, rfl, hp_a_2, hm, k⟩ := h
    unfold m__law_row at hm
    obtain ⟨H0, hH0⟩ : ∃ H0 : Hp, H0 = H := ⟨H, rfl⟩
    have O : Own H0 H [] := by rw [hH0]; exact Own.start H
    rw [← hH0] at k hp_a_2
    clear hH0
    refine ⟨_, (pss_cons (ps_set (i := 2) sc__law_row.nd rfl (Or.inl rfl) (pe_lstQ (pe_lst pa_nil))) (pss_cons (ps_set (i := 3) sc__law_row.nd rfl (Or.inl rfl) (pe_cmpR op_eq (pe_call G__law_draw (hr.mono (by decide)) (by rfl) T.g__law_draw T.F__law_draw.kp T.b__law_draw .nil pass0 (pa_cons (pv 0) (pa_cons pe_int (pa_cons pe_int pa_nil)))) pe_int (nomark _))) (pss_cons (ps_for PassesOwn.never rfl (pi_range1 (by rfl) T.z_range (pa_cons (pv 1) pa_nil)) (pg_name (i := 4) sc__law_row.nd rfl (Or.inl rfl)) (pss_cons (ps_set (i := 5) sc__law_row.nd rfl (Or.inl rfl) (pe_call G__law_draw (hr.mono (by decide)) (by rfl) T.g__law_draw T.F__law_draw.kp T.b__law_draw .nil pass0 (pa_cons (pv 0) (pa_cons (pe_op op_add pe_int (pv 4)) (pa_cons pe_int pa_nil))))) (Evl.pss_cut (ps_if (PW.pt (pw_and (pt_val (pv 3)) (pw_and (pt_cmpR op_gt (pv 4) pe_int (nomark _)) (pw_and1 (pt_cmpR op_gt (pe_call G__law_draw (hr.mono (by decide)) (by rfl) T.g__law_draw T.F__law_draw.kp T.b__law_draw .nil pass0 (pa_cons (pv 0) (pa_cons (pe_op op_add (pe_op op_mul pe_int (pv 4)) pe_int) (pa_cons pe_int pa_nil)))) pe_int (nomark _)))))) (pss_one (ps_set (i := 5) sc__law_row.nd rfl (Or.inl rfl) (pe_ix (r := rIxL K) ix_list (pv 2) (pe_op op_sub (pv 4) pe_int) (fun _ _ => rfl)))) pss_nil) (pss_one (ps_expr (pe_bm PySem.F.plainAttrs_list PySem.F.slot_list_append PySem.F.type_list_append mt_append (pv 2) (pa_cons (pv 5) pa_nil))))))) (pss_one (ps_ret (pv 2)))))), ?_⟩
    -- 33
    refine o_seq ?_
    refine o_asg ?_
    refine x_nil ?_
    refine n_lst (f := V.int) (xs := ([] : List Int)) O rfl (Nat.zero_le _) fun p_4 H O => ?_
    -- 34
    refine o_seq ?_
    refine o_asg ?_
    obtain ⟨law_dr_5, h6, hm⟩ := bndE hm
    refine ⟨_, rfl, ?_⟩
    refine o_cons ?_
    refine o_c ?_
    refine o_cons ?_
    refine o_c ?_
    refine x_nil ?_
    refine ⟨_, _, _, _, law_dr_5, rfl, (O.ex.l hp_a_2), h6, ?_⟩
    refine O.retV fun H O => ?_
    refine o_c ?_
    refine k_eqI ?_
    obtain ⟨slow_7, h8, hm⟩ := ltvE hm
    refine a_set (congrArg V.bl h8) ?_
    -- 35
    refine o_seq ?_
    refine o_for ?_
    obtain ⟨rg_9, h10, hm⟩ := bndE hm
    refine ⟨_, rfl, ?_⟩
    refine x_nil ?_
    obtain ⟨c1, c2, rfl⟩ := rng1E h10
    obtain ⟨bits_14, h15, hm⟩ := bndE hm
    refine ⟨_, rfl, c1, c2, q_forR (fun r σ H => ∃ (bits_11 : List Int) (j_12 : Option V) (j_13 : Option V), σ = [some (.ref a_2), some (.int many_3), some (.ref p_4), some (.bl slow_7), j_12, j_13] ∧ Own H0 H [(p_4, .lst (List.map V.int bits_11))] ∧ loopM (fun k_18 s => m__law_row_L0 script_1 slow_7 k_18 s) r bits_11 = some bits_14) ⟨_, _, _, rfl, O, h15⟩ ?_ ?_⟩
    · rintro k_18 r σ H ⟨bits_11, j_12, j_13, rfl, O, hL⟩
      obtain ⟨s_, hm, h17⟩ := loopM_cons hL
      replace hm : m__law_row_L0 script_1 slow_7 k_18 bits_11 = some s_ := hm
      unfold m__law_row_L0 at hm
      -- 36
      refine o_seq ?_
      refine o_asg ?_
      obtain ⟨law_dr_20, h21, hm⟩ := bndE hm
      refine ⟨_, rfl, _, rfl, _, _, rfl, rfl, ?_⟩
      refine o_cons ?_
      refine o_c ?_
      refine x_nil ?_
      refine ⟨_, _, _, _, law_dr_20, rfl, (O.ex.l hp_a_2), h21, ?_⟩
      refine O.retV fun H O => ?_
      -- 37
      obtain ⟨c_28, h29, hm⟩ := bndE hm
      obtain ⟨bit_35, h31, hm⟩ := bndE hm
      refine o_cut (fun σ H => ∃ (j_34 : Option V), σ = [some (.ref a_2), some (.int many_3), some (.ref p_4), some (.bl slow_7), j_34, some (.int bit_35)] ∧ Own H0 H [(p_4, .lst (List.map V.int bits_11))]) ?_ ?_
      · refine o_ifs ?_
        refine x_and (c := slow_7) (e := c_28) (d := c_28) O (fun Q1 k1 => ?_) (fun h27 => ⟨rfl, fun H O Q2 k2 => ?_⟩) (fun h27 => Option.some.inj (ifF h29 h27)) (fun H O => ?_)
        · refine ⟨_, rfl, _, rfl, ?_⟩
          exact k1 _ O
        · replace hm := ifT h29 h27
          obtain ⟨c_25, h26, hm⟩ := bndE hm
          obtain rfl := Option.some.inj hm
          refine x_and (c := decide ((0 : Int) < k_18)) (e := c_25) (d := c_25) O (fun Q1 k1 => ?_) (fun h24 => ⟨rfl, fun H O Q2 k2 => ?_⟩) (fun h24 => Option.some.inj (ifF h26 h24)) (fun H O => ?_)
          · refine ⟨_, rfl, _, _, rfl, rfl, _, rfl, ?_⟩
            exact k1 _ O
          · replace hm := ifT h26 h24
            obtain ⟨law_dr_22, h23, hm⟩ := bndE hm
            obtain rfl := Option.some.inj hm
            refine ⟨_, rfl, _, rfl, _, _, rfl, rfl, .inl ⟨by decide, by decide⟩, _, _, rfl, rfl, ?_⟩
            refine o_cons ?_
            refine o_c ?_
            refine x_nil ?_
            refine ⟨_, _, _, _, law_dr_22, rfl, (O.ex.l hp_a_2), h23, ?_⟩
            refine O.retV fun H O => ?_
            refine ⟨_, _, rfl, rfl, _, rfl, ?_⟩
            exact k2 _ O
          exact k2 _ O
        refine iteS (c := c_28) (fun h30 => ?_) (fun h30 => ?_)
        · replace hm := ifT h31 h30
          -- 38
          refine o_asg ?_
          obtain ⟨e_32, h33, hm⟩ := bndE hm
          refine ⟨_, rfl, _, rfl, _, _, rfl, rfl, ?_⟩
          refine k_ixL (f := V.int) (SqL.of (O.mem (List.Mem.head _))) h33 ?_
          have Oz := O
          cases Option.some.inj hm
          exact ⟨_, rfl, Oz⟩
        · replace hm := ifF h31 h30
          refine o_next ?_
          have Oz := O
          cases Option.some.inj hm
          exact ⟨_, rfl, Oz⟩
      rintro σ H ⟨j_34, rfl, O⟩
      -- 39
      refine o_drop ?_
      obtain ⟨l_36, h37, hm⟩ := bndE hm
      refine ⟨_, rfl, .inl ⟨rfl, _, (SqL.of (O.mem (List.Mem.head _)))⟩, _, rfl, ?_⟩
      refine x_nil ?_
      refine k_app (f := V.int) (O.mem (List.Mem.head _)) (fun _ => O.put0) h37 fun H O => ?_
      have Oz := O
      obtain rfl := Option.some.inj hm
      exact ⟨_, _, _, rfl, Oz, h17⟩
    rintro σ H ⟨bits_11, j_12, j_13, rfl, O, hL⟩
    cases loopM_nil hL
    -- 40
    refine o_ret ?_
    refine ⟨_, rfl, ?_⟩
    obtain rfl := Option.some.inj hm
    exact RetL.go k O (List.Mem.head _)
def m__law_places_L0 (script_1 : List Int) (many_3 : Int) (k_16 : Int) (places_10 : List Int) : Option ((List Int)) :=
  bnd (m__law_draw script_1 ((100 : Int) + k_16) many_3) fun law_dr_18 =>
  bnd (appG places_10 law_dr_18) fun l_20 =>
  bnd (atI script_1 k_16) fun e_22 =>
  ifB (decide ((e_22 % (3 : Int)) = (1 : Int))) (
    bnd (m__law_draw script_1 ((200 : Int) + k_16) (List.length l_20 : Int)) fun law_dr_25 =>
    bnd (atI l_20 law_dr_25) fun e_27 =>
    bnd (appG l_20 e_27) fun l_29 =>
    some l_29) (
    some l_20)
def m__law_places (script_1 : List Int) (many_3 : Int) : Option (List Int) :=
  bnd (ifB (decide ((0 : Int) < many_3)) (
    bnd (rng1 (List.length (cutL script_1 none (some (24 : Int))) : Int)) fun rg_8 =>
    bnd (loopM (fun k_16 s => m__law_places_L0 script_1 many_3 k_16 s) rg_8 ([] : List Int)) fun places_12 =>
    some places_12) (
    some ([] : List Int))) fun places_33 =>
  some places_33
def sp__law_places (K : PySem.W.Frag) : Sp := fun vs H Q _ => ∃ (script_1 : List Int) (a_2 : Addr) (many_3 : Int) (r : List Int), vs = [.ref a_2, .int many_3] ∧ SqL K H a_2 (List.map V.int script_1) ∧ m__law_places script_1 many_3 = some r ∧ RetL (List.map V.int r) H Q
abbrev N__law_places : List Str := ["script", "many", "places", "k"]
theorem sc__law_places : FnScope N__law_places ["script", "many"] (defScope s__law_places) := ⟨rfl, rfl, rfl, by decide +kernel, rfl, by decide +kernel, by decide +kernel⟩
theorem ok__law_places {ad : Ad} (T : Txt K mg ad) : FnOk P w K mg base CX0 2 ad.f__law_places ad.fd__law_places ["script", "many"] (sp__law_places K) := by
  have G__law_draw := ok__law_draw (P := P) (w := w) (base := base) T
  refine T.F__law_places.ok sc__law_places (fun vs H Q E h => ?_) (fun cdv A outer s H vs Q E hr h => ?_)
  · obtain ⟨_, _, _, _, rfl, _⟩ := h
    rfl
  · obtain ⟨script_1, a_2, many_3, r, rfl, hp_a_2, hm, k⟩ := h
    unfold m__law_places at hm
    obtain ⟨H0, hH0⟩ : ∃ H0 : Hp, H0 = H := ⟨H, rfl⟩
    have O : Own H0 H [] := by rw [hH0]; exact Own.start H
    rw [← hH0] at k hp_a_2
    clear hH0
    refine ⟨_, (pss_cons (ps_set (i := 2) sc__law_places.nd rfl (Or.inl rfl) (pe_lstQ (pe_lst pa_nil))) (Evl.pss_cut (ps_if (pt_cmpR op_gt (pv 1) pe_int (nomark _)) (pss_one (ps_for PassesOwn.never rfl (pi_range1 (by rfl) T.z_range (pa_cons (pe_callB (r := rLenQ K) call_lenQ (by rfl) T.z_len PySem.boot_len (pa_cons (pe_slice (r := rSlL K) sl_list (pv 0) po_none (po_some pe_int)) pa_nil)) pa_nil)) (pg_name (i := 3) sc__law_places.nd rfl (Or.inl rfl)) (pss_cons (ps_expr (pe_bm PySem.F.plainAttrs_list PySem.F.slot_list_append PySem.F.type_list_append mt_append (pv 2) (pa_cons (pe_call G__law_draw (hr.mono (by decide)) (by rfl) T.g__law_draw T.F__law_draw.kp T.b__law_draw .nil pass0 (pa_cons (pv 0) (pa_cons (pe_op op_add pe_int (pv 3)) (pa_cons (pv 1) pa_nil)))) pa_nil))) (pss_one (ps_if (pt_cmpR op_eq (pe_op op_mod (pe_ix (r := rIxL K) ix_list (pv 0) (pv 3) (fun _ _ => rfl)) pe_int) pe_int (nomark _)) (pss_one (ps_expr (pe_bm PySem.F.plainAttrs_list PySem.F.slot_list_append PySem.F.type_list_append mt_append (pv 2) (pa_cons (pe_ix (r := rIxL K) ix_list (pv 2) (pe_call G__law_draw (hr.mono (by decide)) (by rfl) T.g__law_draw T.F__law_draw.kp T.b__law_draw .nil pass0 (pa_cons (pv 0) (pa_cons (pe_op op_add pe_int (pv 3)) (pa_cons (pe_callB (r := rLenQ K) call_lenQ (by rfl) T.z_len PySem.boot_len (pa_cons (pv 2) pa_nil)) pa_nil)))) (fun _ _ => rfl)) pa_nil)))) pss_nil))))) pss_nil) (pss_one (ps_ret (pv 2))))), ?_⟩
    -- 42
    refine o_seq ?_
    refine o_asg ?_
    refine x_nil ?_
    refine n_lst (f := V.int) (xs := ([] : List Int)) O rfl (Nat.zero_le _) fun p_4 H O => ?_
    -- 43
    obtain ⟨places_33, h6, hm⟩ := bndE hm
    refine o_cut (fun σ H => ∃ (j_31 : Option V) (j_32 : Option V) (j_34 : Option V), σ = [j_31, j_32, some (.ref p_4), j_34] ∧ Own H0 H [(p_4, .lst (List.map V.int places_33))]) ?_ ?_
    · refine o_ifs ?_
      refine ⟨_, rfl, _, _, rfl, rfl, _, rfl, ?_⟩
      refine iteS (c := decide ((0 : Int) < many_3)) (fun h5 => ?_) (fun h5 => ?_)
      · replace hm := ifT h6 h5
        -- 44
        refine o_for ?_
        refine ⟨_, rfl, _, rfl, ?_⟩
        refine k_cut (f := V.int) O (O.ex.l hp_a_2) fun p_7 H O => ?_
        refine x_nil ?_
        refine n_len (SqL.of (O.mem (List.Mem.head _))) ?_
        obtain ⟨rg_8, h9, hm⟩ := bndE hm
        refine x_nil ?_
        obtain ⟨c1, c2, rfl⟩ := rng1E h9
        obtain ⟨places_12, h13, hm⟩ := bndE hm
        refine ⟨_, rfl, c1, c2, q_forR (fun r σ H => ∃ (places_10 : List Int) (j_11 : Option V), σ = [some (.ref a_2), some (.int many_3), some (.ref p_4), j_11] ∧ Own H0 H [(p_4, .lst (List.map V.int places_10)), (p_7, .lst (List.map V.int (cutL script_1 none (some (24 : Int)))))] ∧ loopM (fun k_16 s => m__law_places_L0 script_1 many_3 k_16 s) r places_10 = some places_12) ⟨_, _, rfl, O.sel [1, 0] (by decide) rfl, h13⟩ ?_ ?_⟩
        · rintro k_16 r σ H ⟨places_10, j_11, rfl, O, hL⟩
          obtain ⟨s_, hm, h15⟩ := loopM_cons hL
          replace hm : m__law_places_L0 script_1 many_3 k_16 places_10 = some s_ := hm
          unfold m__law_places_L0 at hm
          -- 45
          refine o_seq ?_
          refine o_drop ?_
          obtain ⟨law_dr_18, h19, hm⟩ := bndE hm
          refine ⟨_, rfl, .inl ⟨rfl, _, (SqL.of (O.mem (List.Mem.head _)))⟩, _, rfl, _, rfl, _, _, rfl, rfl, _, rfl, ?_⟩
          refine x_nil ?_
          refine ⟨_, _, _, _, law_dr_18, rfl, (O.ex.l hp_a_2), h19, ?_⟩
          refine O.retV fun H O => ?_
          obtain ⟨l_20, h21, hm⟩ := bndE hm
          refine x_nil ?_
          refine k_app (f := V.int) (O.mem (List.Mem.head _)) (fun _ => O.put0) h21 fun H O => ?_
          -- 46
          refine o_ifs ?_
          obtain ⟨e_22, h23, hm⟩ := bndE hm
          refine ⟨_, rfl, _, rfl, ?_⟩
          refine k_ixL (f := V.int) (O.ex.l hp_a_2) h23 ?_
          refine ⟨_, _, rfl, rfl, (by show (0 : Int) < 3; decide), ?_⟩
          refine o_c ?_
          refine k_eqI ?_
          refine ⟨_, rfl, ?_⟩
          refine iteS (c := (decide ((e_22 % (3 : Int)) = (1 : Int)))) (fun h24 => ?_) (fun h24 => ?_)
          · replace hm := ifT hm h24
            -- 47
            refine o_drop ?_
            refine ⟨_, rfl, .inl ⟨rfl, _, (SqL.of (O.mem (List.Mem.head _)))⟩, _, rfl, _, rfl, _, rfl, _, _, rfl, rfl, _, rfl, ?_⟩
            refine x_nil ?_
            refine n_len (SqL.of (O.mem (List.Mem.head _))) ?_
            obtain ⟨law_dr_25, h26, hm⟩ := bndE hm
            refine x_nil ?_
            refine ⟨_, _, _, _, law_dr_25, rfl, (O.ex.l hp_a_2), h26, ?_⟩
            refine O.retV fun H O => ?_
            obtain ⟨e_27, h28, hm⟩ := bndE hm
            refine k_ixL (f := V.int) (SqL.of (O.mem (List.Mem.head _))) h28 ?_
            obtain ⟨l_29, h30, hm⟩ := bndE hm
            refine x_nil ?_
            refine k_app (f := V.int) (O.mem (List.Mem.head _)) (fun _ => O.put0) h30 fun H O => ?_
            have Oz := O
            obtain rfl := Option.some.inj hm
            exact ⟨_, _, rfl, Oz, h15⟩
          · replace hm := ifF hm h24
            refine o_next ?_
            have Oz := O
            obtain rfl := Option.some.inj hm
            exact ⟨_, _, rfl, Oz, h15⟩
        rintro σ H ⟨places_10, j_11, rfl, O, hL⟩
        cases loopM_nil hL
        replace O := O.sel (L' := [(p_4, .lst (List.map V.int places_12))]) [0] (by decide) rfl
        have Oz := O
        cases Option.some.inj hm
        exact ⟨_, _, _, rfl, Oz⟩
      · replace hm := ifF h6 h5
        refine o_next ?_
        have Oz := O
        cases Option.some.inj hm
        exact ⟨_, _, _, rfl, Oz⟩
    rintro σ H ⟨j_31, j_32, j_34, rfl, O⟩
    -- 48
    refine o_ret ?_
    refine ⟨_, rfl, ?_⟩
    obtain rfl := Option.some.inj hm
    exact RetL.go k O (List.Mem.head _)
def m__law_whole (found_1 : Int) : Option Bool :=
  some (true && (!false))
def sp__law_whole (K : PySem.W.Frag) : Sp := fun vs H Q _ => ∃ (found_1 : Int) (r : Bool), vs = [.int found_1] ∧ m__law_whole found_1 = some r ∧ RetV (.bl r) H Q
abbrev N__law_whole : List Str := ["found"]
theorem sc__law_whole : FnScope N__law_whole ["found"] (defScope s__law_whole) := ⟨rfl, rfl, rfl, by decide +kernel, rfl, by decide +kernel, by decide +kernel⟩
theorem ok__law_whole {ad : Ad} (T : Txt K mg ad) : FnOk P w K mg base CX0 1 ad.f__law_whole ad.fd__law_whole ["found"] (sp__law_whole K) := by
  refine T.F__law_whole.ok sc__law_whole (fun vs H Q E h => ?_) (fun cdv A outer s H vs Q E hr h => ?_)
  · obtain ⟨_, _, rfl, _⟩ := h
    rfl
  · obtain ⟨found_1, r, rfl, hm, k⟩ := h
    unfold m__law_whole at hm
    obtain ⟨H0, hH0⟩ : ∃ H0 : Hp, H0 = H := ⟨H, rfl⟩
    have O : Own H0 H [] := by rw [hH0]; exact Own.start H
    rw [← hH0] at k
    clear hH0
    refine ⟨_, (pss_one (ps_ret (pe_and (pe_callB (r := rIsi K) call_isi (by rfl) T.z_isinstance (by decide +kernel) (pa_cons (pv 0) (pa_cons (pe_bltn (v := V.ty "int") (u := .type "int") (by rfl) T.z_int (by decide +kernel) rfl) pa_nil))) (pe_one (pe_not (pe_callB (r := rIsi K) call_isi (by rfl) T.z_isinstance (by decide +kernel) (pa_cons (pv 0) (pa_cons (pe_bltn (v := V.ty "bool") (u := .type "bool") (by rfl) T.z_bool (by decide +kernel) rfl) pa_nil)))))))), ?_⟩
    -- 50
    refine o_ret ?_
    refine x_andV (c := true) (e := (!false)) (d := (true && (!false))) O (fun Q1 k1 => ?_) (fun h2 => ⟨by rw [h2]; rfl, fun H O Q2 k2 => ?_⟩) (fun h2 => by rw [h2]; rfl) (fun H O => ?_)
    · refine ⟨_, rfl, _, _, _, _, true, rfl, .ty _, .base (.int _), kit_ty (by decide +kernel), ?_⟩
      exact k1 _ O
    · refine ⟨_, rfl, _, _, _, _, false, rfl, .ty _, .base (.int _), kit_ty (by decide +kernel), _, rfl, ?_⟩
      exact k2 _ O
    obtain rfl := Option.some.inj hm
    exact RetV.go k O
def m__law_run_fits_L0 (bits_1 : List Int) (size_3 : Int) (at_19 : Int) (hit_13 : Bool) : Option (Bool) :=
  bnd (ifB (decide ((0 : Int) < size_3)) (bnd (modG (List.sum (cutL bits_1 (some at_19) (some (at_19 + size_3)))) size_3) fun t_22 => some (decide (t_22 = (0 : Int)))) (some false)) fun c_25 =>
  ifB c_25 (
    some true) (
    some hit_13)
def m__law_run_fits_L1 (bits_1 : List Int) (size_3 : Int) (at_34 : Int) : Option (Fl (Unit) (Bool)) :=
  bnd (modG (List.sum (cutL bits_1 (some at_34) (some ((at_34 + size_3) + (1 : Int))))) (size_3 + (1 : Int))) fun t_37 =>
  ifB (decide (t_37 = (0 : Int))) (
    some (.rt false)) (
    some (.nx ()))
def m__law_run_fits (bits_1 : List Int) (size_3 : Int) : Option Bool :=
  bnd (m__law_whole size_3) fun law_wh_4 =>
  ifB ((!law_wh_4) || (decide (size_3 < (0 : Int)) || decide ((List.length bits_1 : Int) < size_3))) (
    some false) (
    ltv ((decide (size_3 = (0 : Int)))) fun hit_9 =>
    bnd (rng1 (((List.length bits_1 : Int) - size_3) + (1 : Int))) fun rg_11 =>
    bnd (loopM (fun at_19 s => m__law_run_fits_L0 bits_1 size_3 at_19 s) rg_11 hit_9) fun hit_15 =>
    bnd (rng1 ((List.length bits_1 : Int) - size_3)) fun rg_28 =>
    fin (loopF (fun at_34 (_ : Unit) => m__law_run_fits_L1 bits_1 size_3 at_34) rg_28 ()) fun _ =>
    some hit_15)
def sp__law_run_fits (K : PySem.W.Frag) : Sp := fun vs H Q _ => ∃ (bits_1 : List Int) (a_2 : Addr) (size_3 : Int) (r : Bool), vs = [.ref a_2, .int size_3] ∧ H a_2 = some (.lst (List.map V.int bits_1)) ∧ m__law_run_fits bits_1 size_3 = some r ∧ RetV (.bl r) H Q
abbrev N__law_run_fits : List Str := ["bits", "size", "hit", "at"]
theorem sc__law_run_fits : FnScope N__law_run_fits ["bits", "size"] (defScope s__law_run_fits) := ⟨rfl, rfl, rfl, by decide +kernel, rfl, by decide +kernel, by decide +kernel⟩
theorem ok__law_run_fits {ad : Ad} (T : Txt K mg ad) : FnOk P w K mg base CX0 2 ad.f__law_run_fits ad.fd__law_run_fits ["bits", "size"] (sp__law_run_fits K) := by
  have G__law_whole := ok__law_whole (P := P) (w := w) (base := base) T
  refine T.F__law_run_fits.ok sc__law_run_fits (fun vs H Q E h => ?_) (fun cdv A outer s H vs Q E hr h => ?_)
  · obtain ⟨_, _, _, _, rfl, _⟩ := h
    rfl
  · obtain ⟨bits_1, a_2, size_3, r, rfl, hp_a_2, hm, k⟩ := h
    unfold m__law_run_fits at hm
    obtain ⟨H0, hH0⟩ : ∃ H0 : Hp, H0 = H := ⟨H, rfl⟩
    have O : Own H0 H [] := by rw [hH0]; exact Own.start H
    rw [← hH0] at k hp_a_2
    clear hH0
    refine ⟨_, (pss_cons (ps_if (PW.pt (pw_or (pt_not (pt_val (pe_call G__law_whole (hr.mono (by decide)) (by rfl) T.g__law_whole T.F__law_whole.kp T.b__law_whole .nil pass0 (pa_cons (pv 1) pa_nil)))) (pw_or (pt_cmpR op_lt (pv 1) pe_int (nomark _)) (pw_or1 (pt_cmpR op_gt (pv 1) (pe_callB (r := rLenQ K) call_lenQ (by rfl) T.z_len PySem.boot_len (pa_cons (pv 0) pa_nil)) (nomark _)))))) (pss_one (ps_ret pe_bl)) pss_nil) (pss_cons (ps_set (i := 2) sc__law_run_fits.nd rfl (Or.inl rfl) (pe_cmpR op_eq (pv 1) pe_int (nomark _))) (pss_cons (ps_for PassesOwn.never rfl (pi_range1 (by rfl) T.z_range (pa_cons (pe_op op_add (pe_op op_sub (pe_callB (r := rLenQ K) call_lenQ (by rfl) T.z_len PySem.boot_len (pa_cons (pv 0) pa_nil)) (pv 1)) pe_int) pa_nil)) (pg_name (i := 3) sc__law_run_fits.nd rfl (Or.inl rfl)) (pss_one (ps_if (PW.pt (pw_and (pt_cmpR op_gt (pv 1) pe_int (nomark _)) (pw_and1 (pt_cmpR op_eq (pe_op op_mod (pe_callB (r := rSum K) (cr_sum rfl) (by rfl) T.z_sum (by decide +kernel) (pa_cons (pe_slice (r := rSlL K) sl_list (pv 0) (po_some (pv 3)) (po_some (pe_op op_add (pv 3) (pv 1)))) pa_nil)) (pv 1)) pe_int (nomark _))))) (pss_one (ps_set (i := 2) sc__law_run_fits.nd rfl (Or.inl rfl) pe_bl)) pss_nil))) (pss_cons (ps_for PassesOwn.never rfl (pi_range1 (by rfl) T.z_range (pa_cons (pe_op op_sub (pe_callB (r := rLenQ K) call_lenQ (by rfl) T.z_len PySem.boot_len (pa_cons (pv 0) pa_nil)) (pv 1)) pa_nil)) (pg_name (i := 3) sc__law_run_fits.nd rfl (Or.inl rfl)) (pss_one (ps_if (pt_cmpR op_eq (pe_op op_mod (pe_callB (r := rSum K) (cr_sum rfl) (by rfl) T.z_sum (by decide +kernel) (pa_cons (pe_slice (r := rSlL K) sl_list (pv 0) (po_some (pv 3)) (po_some (pe_op op_add (pe_op op_add (pv 3) (pv 1)) pe_int))) pa_nil)) (pe_op op_add (pv 1) pe_int)) pe_int (nomark _)) (pss_one (ps_ret pe_bl)) pss_nil))) (pss_one (ps_ret (pv 2))))))), ?_⟩
    -- 52
    refine o_seq ?_
    refine o_ifs ?_
    obtain ⟨law_wh_4, h5, hm⟩ := bndE hm
    refine x_or (c := (!law_wh_4)) (e := (decide (size_3 < (0 : Int)) || decide ((List.length bits_1 : Int) < size_3))) (d := ((!law_wh_4) || (decide (size_3 < (0 : Int)) || decide ((List.length bits_1 : Int) < size_3)))) O (fun Q1 k1 => ?_) (fun h7 => ⟨by rw [h7]; rfl, fun H O Q2 k2 => ?_⟩) (fun h7 => by rw [h7]; rfl) (fun H O => ?_)
    · refine ⟨_, rfl, ?_⟩
      refine x_nil ?_
      refine ⟨_, law_wh_4, rfl, h5, ?_⟩
      refine O.retV fun H O => ?_
      refine ⟨_, rfl, ?_⟩
      exact k1 _ O
    · refine x_or (c := decide (size_3 < (0 : Int))) (e := decide ((List.length bits_1 : Int) < size_3)) (d := (decide (size_3 < (0 : Int)) || decide ((List.length bits_1 : Int) < size_3))) O (fun Q1 k1 => ?_) (fun h6 => ⟨by rw [h6]; rfl, fun H O Q2 k2 => ?_⟩) (fun h6 => by rw [h6]; rfl) (fun H O => ?_)
      · refine ⟨_, rfl, _, _, rfl, rfl, _, rfl, ?_⟩
        exact k1 _ O
      · refine ⟨_, rfl, _, rfl, ?_⟩
        refine x_nil ?_
        refine n_len (SqL.of (O.ex _ _ hp_a_2)) ?_
        refine ⟨_, _, rfl, rfl, _, rfl, ?_⟩
        exact k2 _ O
      exact k2 _ O
    refine iteS (c := ((!law_wh_4) || (decide (size_3 < (0 : Int)) || decide ((List.length bits_1 : Int) < size_3)))) (fun h8 => ?_) (fun h8 => ?_)
    · replace hm := ifT hm h8
      -- 53
      refine o_ret ?_
      refine o_c ?_
      obtain rfl := Option.some.inj hm
      exact RetV.go k O
    · replace hm := ifF hm h8
      refine o_next ?_
      -- 54
      refine o_seq ?_
      refine o_asg ?_
      refine ⟨_, rfl, ?_⟩
      refine o_c ?_
      refine k_eqI ?_
      obtain ⟨hit_9, h10, hm⟩ := ltvE hm
      refine a_set (congrArg V.bl h10) ?_
      -- 55
      refine o_seq ?_
      refine o_for ?_
      refine ⟨_, rfl, ?_⟩
      refine x_nil ?_
      refine n_len (SqL.of (O.ex _ _ hp_a_2)) ?_
      obtain ⟨rg_11, h12, hm⟩ := bndE hm
      refine ⟨_, rfl, _, _, rfl, rfl, _, _, rfl, rfl, ?_⟩
      refine x_nil ?_
      obtain ⟨c1, c2, rfl⟩ := rng1E h12
      obtain ⟨hit_15, h16, hm⟩ := bndE hm
      refine ⟨_, rfl, c1, c2, q_forR (fun r σ H => ∃ (hit_13 : Bool) (j_14 : Option V), σ = [some (.ref a_2), some (.int size_3), some (.bl hit_13), j_14] ∧ Own H0 H [] ∧ loopM (fun at_19 s => m__law_run_fits_L0 bits_1 size_3 at_19 s) r hit_13 = some hit_15) ⟨_, _, rfl, O, h16⟩ ?_ ?_⟩
      · rintro at_19 r σ H ⟨hit_13, j_14, rfl, O, hL⟩
        obtain ⟨s_, hm, h18⟩ := loopM_cons hL
        replace hm : m__law_run_fits_L0 bits_1 size_3 at_19 hit_13 = some s_ := hm
        unfold m__law_run_fits_L0 at hm
        -- 56
        refine o_ifs ?_
        obtain ⟨c_25, h26, hm⟩ := bndE hm
        refine x_and (c := decide ((0 : Int) < size_3)) (e := c_25) (d := c_25) O (fun Q1 k1 => ?_) (fun h24 => ⟨rfl, fun H O Q2 k2 => ?_⟩) (fun h24 => Option.some.inj (ifF h26 h24)) (fun H O => ?_)
        · refine ⟨_, rfl, _, _, rfl, rfl, _, rfl, ?_⟩
          exact k1 _ O
        · replace hm := ifT h26 h24
          obtain ⟨t_22, h23, hm⟩ := bndE hm
          obtain rfl := Option.some.inj hm
          refine ⟨_, rfl, _, rfl, _, rfl, _, rfl, _, rfl, _, _, rfl, rfl, _, rfl, ?_⟩
          refine k_cut (f := V.int) O (SqL.of (O.ex _ _ hp_a_2)) fun p_21 H O => ?_
          refine x_nil ?_
          refine k_sum (SqL.of (O.mem (List.Mem.head _))) ?_
          refine ⟨_, rfl, ?_⟩
          refine k_mod h23 ?_
          refine o_c ?_
          refine k_eqI ?_
          refine ⟨_, rfl, ?_⟩
          replace O := O.tl
          exact k2 _ O
        refine iteS (c := c_25) (fun h27 => ?_) (fun h27 => ?_)
        · replace hm := ifT hm h27
          -- 57
          refine o_asg ?_
          refine o_c ?_
          have Oz := O
          obtain rfl := Option.some.inj hm
          exact ⟨_, _, rfl, Oz, h18⟩
        · replace hm := ifF hm h27
          refine o_next ?_
          have Oz := O
          obtain rfl := Option.some.inj hm
          exact ⟨_, _, rfl, Oz, h18⟩
      rintro σ H ⟨hit_13, j_14, rfl, O, hL⟩
      cases loopM_nil hL
      -- 58
      refine o_seq ?_
      refine o_for ?_
      refine ⟨_, rfl, ?_⟩
      refine x_nil ?_
      refine n_len (SqL.of (O.ex _ _ hp_a_2)) ?_
      obtain ⟨rg_28, h29, hm⟩ := bndE hm
      refine ⟨_, rfl, _, _, rfl, rfl, ?_⟩
      refine x_nil ?_
      obtain ⟨c1, c2, rfl⟩ := rng1E h29
      obtain ⟨out_35, h31, h32⟩ := bndE hm
      refine ⟨_, rfl, c1, c2, q_forR (fun r σ H => ∃ (j_30 : Option V), σ = [some (.ref a_2), some (.int size_3), some (.bl hit_15), j_30] ∧ Own H0 H [] ∧ loopF (fun at_34 (_ : Unit) => m__law_run_fits_L1 bits_1 size_3 at_34) r () = some out_35) ⟨_, rfl, O, h31⟩ ?_ ?_⟩
      · rintro at_34 r σ H ⟨j_30, rfl, O, hL⟩
        obtain ⟨s_, hm, h33⟩ := loopF_cons hL
        replace hm : m__law_run_fits_L1 bits_1 size_3 at_34 = some s_ := hm
        unfold m__law_run_fits_L1 at hm
        -- 59
        refine o_ifs ?_
        refine ⟨_, rfl, _, rfl, _, rfl, _, rfl, _, rfl, _, _, rfl, rfl, _, _, rfl, rfl, _, rfl, ?_⟩
        refine k_cut (f := V.int) O (SqL.of (O.ex _ _ hp_a_2)) fun p_36 H O => ?_
        refine x_nil ?_
        refine k_sum (SqL.of (O.mem (List.Mem.head _))) ?_
        obtain ⟨t_37, h38, hm⟩ := bndE hm
        refine ⟨_, rfl, _, _, rfl, rfl, ?_⟩
        refine k_mod h38 ?_
        refine o_c ?_
        refine k_eqI ?_
        refine ⟨_, rfl, ?_⟩
        replace O := O.tl
        refine iteS (c := (decide (t_37 = (0 : Int)))) (fun h39 => ?_) (fun h39 => ?_)
        · replace hm := ifT hm h39
          -- 60
          refine o_ret ?_
          refine o_c ?_
          obtain rfl := Option.some.inj hm
          obtain rfl := contRt h33
          obtain rfl := finRt h32
          exact RetV.go k O
        · replace hm := ifF hm h39
          refine o_next ?_
          have Oz := O
          obtain rfl := Option.some.inj hm
          exact ⟨_, rfl, Oz, h33⟩
      rintro σ H ⟨j_30, rfl, O, hL⟩
      obtain rfl := loopF_nil hL
      replace hm := finNx h32
      -- 61
      refine o_ret ?_
      refine ⟨_, rfl, ?_⟩
      obtain rfl := Option.some.inj hm
      exact RetV.go k O
def m__law_refused (bits_1 : List Int) (places_3 : List Int) : Option Bool :=
  bnd (m_changed bits_1 places_3) fun x_7 =>
  tryR x_7 (fun change_5 =>
    some false) (fun e_ =>
    ifB (decide (e_.k = .NoBits)) (
      some true) (none))
def sp__law_refused (K : PySem.W.Frag) : Sp := fun vs H Q _ => ∃ (bits_1 : List Int) (a_2 : Addr) (places_3 : List Int) (a_4 : Addr) (r : Bool), vs = [.ref a_2, .ref a_4] ∧ H a_2 = some (.lst (List.map V.int bits_1)) ∧ H a_4 = some (.lst (List.map V.int places_3)) ∧ m__law_refused bits_1 places_3 = some r ∧ RetV (.bl r) H Q
abbrev N__law_refused : List Str := ["bits", "places", "good"]
theorem sc__law_refused : FnScope N__law_refused ["bits", "places"] (defScope s__law_refused) := ⟨rfl, rfl, rfl, by decide +kernel, rfl, by decide +kernel, by decide +kernel⟩
theorem ok__law_refused {ad : Ad} (T : Txt K mg ad) : FnOk P w K mg base CX0 2 ad.f__law_refused ad.fd__law_refused ["bits", "places"] (sp__law_refused K) := by
  have G_changed := ok_changed (P := P) (w := w) (base := base) T
  refine T.F__law_refused.ok sc__law_refused (fun vs H Q E h => ?_) (fun cdv A outer s H vs Q E hr h => ?_)
  · obtain ⟨_, _, _, _, _, rfl, _⟩ := h
    rfl
  · obtain ⟨bits_1, a_2, places_3, a_4, r, rfl, hp_a_2, hp_a_4, hm, k⟩ := h
    unfold m__law_refused at hm
    obtain ⟨H0, hH0⟩ : ∃ H0 : Hp, H0 = H := ⟨H, rfl⟩
    have O : Own H0 H [] := by rw [hH0]; exact Own.start H
    rw [← hH0] at k hp_a_2 hp_a_4
    clear hH0
    refine ⟨_, (pss_cons (ps_set (i := 2) sc__law_refused.nd rfl (Or.inl rfl) pe_bl) (pss_cons (L2N.ps_try_many (tb := fun W => _) rfl rfl takesN0 (fun W pn xe tk _ => (pss_one (ps_expr (pe_callS G_changed (hr.mono (by decide)) (by rfl) T.g_changed T.F_changed.kp T.b_changed (fun σ => L2N.passAt tk σ) (pa_cons (pv 0) (pa_cons (pv 1) pa_nil)))))) (L2N.HdsOk.cons ⟨rfl, by decide, .inl T.e_NoBits.g⟩ (fun a oe cls d pn _ _ => (pss_one (ps_set (i := 2) sc__law_refused.nd rfl (Or.inl rfl) pe_bl))) L2N.HdsOk.nil)) (pss_one (ps_ret (pv 2))))), ?_⟩
    -- 63
    refine o_seq ?_
    refine o_asg ?_
    refine o_c ?_
    -- 64
    refine o_seq ?_
    refine o_drop ?_
    obtain ⟨x_7, h6, hm⟩ := bndE hm
    refine ⟨_, rfl, _, rfl, ?_⟩
    refine x_nil ?_
    refine ⟨_, _, _, _, x_7, rfl, (O.ex _ _ hp_a_2), (O.ex _ _ hp_a_4), h6, ?_⟩
    refine RetR.split (fun e_ h8 => ?_) (fun change_5 h8 => ?_)
    · subst h8
      replace hm := tryEr hm
      cases e_
      · intro H1 hE
        replace O := O.ext hE
        replace hm := ifT hm rfl
        refine ⟨true, T.x_NoBits_NoBits, fun _ a_ ha_ => ?_, fun q => nomatch q⟩
        -- 67
        refine o_asg ?_
        refine o_c ?_
        -- 68
        refine o_ret ?_
        refine ⟨_, rfl, ?_⟩
        obtain rfl := Option.some.inj hm
        exact RetV.go k O
      · cases (ifF hm rfl)
      · cases (ifF hm rfl)
      · cases (ifF hm rfl)
      · cases (ifF hm rfl)
      · cases (ifF hm rfl)
      · cases (ifF hm rfl)
      · cases (ifF hm rfl)
      · cases (ifF hm rfl)
      · cases (ifF hm rfl)
    subst h8
    replace hm := tryOk hm
    refine O.retL fun p_9 H O => ?_
    replace O := O.tl
    -- 68
    refine o_ret ?_
    refine ⟨_, rfl, ?_⟩
    obtain rfl := Option.some.inj hm
    exact RetV.go k O
def m_law_L0  (at_23 : Int) (due_17 : List Int) : Option ((List Int)) :=
  bnd (atI due_17 at_23) fun e_25 =>
  bnd (setG due_17 at_23 ((1 : Int) - e_25)) fun l_27 =>
  some l_27
def m_law_L1  (bit_50 : Int) : Option (Fl (Unit) (Bool)) :=
  bnd (m__law_whole bit_50) fun law_wh_52 =>
  ifB (!law_wh_52) (
    some (.rt false)) (
    some (.nx ()))
def m_law (script_1 : List Int) : Option Bool :=
  bnd (m__law_draw script_1 (0 : Int) (61 : Int)) fun law_dr_3 =>
  bnd (m__law_draw script_1 (2 : Int) (6 : Int)) fun law_dr_5 =>
  bnd (ifB (decide (law_dr_5 = (1 : Int))) (
    some (law_dr_3 + (340 : Int))) (
    some law_dr_3)) fun many_9 =>
  bnd (m__law_row script_1 many_9) fun law_ro_10 =>
  bnd (m__law_places script_1 many_9) fun law_pl_13 =>
  bnd (loopM (fun at_23 s => m_law_L0 at_23 s) law_pl_13 law_ro_10) fun due_19 =>
  bnd (atI ([law_ro_10, law_pl_13]) (0 : Int)) fun e_32 =>
  bnd (atI ([law_ro_10, law_pl_13]) (1 : Int)) fun e_35 =>
  bndO (m_changed e_32 e_35) fun change_38 =>
  ifB ((!true) || ((!decide (change_38 = due_19)) || (!decide ([law_ro_10, law_pl_13] = [law_ro_10, law_pl_13])))) (
    some false) (
    fin (loopF (fun bit_50 (_ : Unit) => m_law_L1 bit_50) change_38 ()) fun _ =>
    bnd (m__law_cell_at script_1 (4 : Int)) fun law_ce_55 =>
    bnd (powG (10 : Int) (20 : Int)) fun t_57 =>
    bnd (modG law_ce_55 t_57) fun t_59 =>
    bnd (m__law_draw script_1 (3 : Int) (400 : Int)) fun law_dr_61 =>
    bnd (m__law_draw script_1 (5 : Int) (3 : Int)) fun law_dr_64 =>
    bnd (atI ([((-(1 : Int)) - law_dr_61), many_9, ((many_9 + (1 : Int)) + t_59)]) law_dr_64) fun e_66 =>
    bnd (appG change_38 (0 : Int)) fun l_68 =>
    bnd (atI ([law_ro_10, law_pl_13]) (0 : Int)) fun e_70 =>
    bndO (m_changed e_70 ([] : List Int)) fun change_74 =>
    ifB ((!decide ([law_ro_10, law_pl_13] = [law_ro_10, law_pl_13])) || (!decide (change_74 = law_ro_10))) (
      some false) (
      bnd (appG change_74 (1 : Int)) fun l_80 =>
      bnd (popL l_68) fun (e_82, l_83) =>
      ifB ((!decide ([law_ro_10, law_pl_13] = [law_ro_10, law_pl_13])) || (!decide (l_83 = due_19))) (
        some false) (
        bnd (m__law_draw script_1 (6 : Int) ((List.length law_pl_13 : Int) + (1 : Int))) fun law_dr_88 =>
        bnd (catG (cutL law_pl_13 none (some law_dr_88)) ([e_66])) fun t_92 =>
        bnd (catG t_92 (cutL law_pl_13 (some law_dr_88) none)) fun t_96 =>
        bnd (m__law_refused law_ro_10 t_96) fun law_re_99 =>
        ifB (!law_re_99) (
          some false) (
          bnd (atI ([law_ro_10, law_pl_13]) (0 : Int)) fun e_102 =>
          bnd (m_longest_run e_102) fun longes_105 =>
          bnd (m_longest_run l_83) fun longes_107 =>
          ifB ((!decide ([law_ro_10, law_pl_13] = [law_ro_10, law_pl_13])) || (!decide (l_83 = due_19))) (
            some false) (
            bnd (atI ([longes_105, longes_107]) (0 : Int)) fun e_113 =>
            bnd (m__law_run_fits law_ro_10 e_113) fun law_ru_115 =>
            bnd (ifB law_ru_115 (bnd (atI ([longes_105, longes_107]) (1 : Int)) fun e_117 =>
            bnd (m__law_run_fits due_19 e_117) fun law_ru_119 => some law_ru_119) (some false)) fun c_122 =>
            some c_122)))))
def sp_law (K : PySem.W.Frag) : Sp := fun vs H Q _ => ∃ (script_1 : List Int) (a_2 : Addr) (r : Bool), vs = [.ref a_2] ∧ SqL K H a_2 (List.map V.int script_1) ∧ m_law script_1 = some r ∧ RetV (.bl r) H Q
abbrev N_law : List Str := ["script", "many", "bits", "places", "due", "at", "handed", "found", "bit", "more", "far", "plain", "sizes"]
theorem sc_law : FnScope N_law ["script"] (defScope s_law) := ⟨rfl, rfl, rfl, by decide +kernel, rfl, by decide +kernel, by decide +kernel⟩
theorem ok_law {ad : Ad} (T : Txt K mg ad) : FnOk P w K mg base CX0 3 ad.f_law ad.fd_law ["script"] (sp_law K) := by
  have G__law_cell_at := ok__law_cell_at (P := P) (w := w) (base := base) T
  have G__law_draw := ok__law_draw (P := P) (w := w) (base := base) T
  have G__law_places := ok__law_places (P := P) (w := w) (base := base) T
  have G__law_refused := ok__law_refused (P := P) (w := w) (base := base) T
  have G__law_row := ok__law_row (P := P) (w := w) (base := base) T
  have G__law_run_fits := ok__law_run_fits (P := P) (w := w) (base := base) T
  have G__law_whole := ok__law_whole (P := P) (w := w) (base := base) T
  have G_changed := ok_changed (P := P) (w := w) (base := base) T
  have G_longest_run := ok_longest_run (P := P) (w := w) (base := base) T
  refine T.F_law.ok sc_law (fun vs H Q E h => ?_) (fun cdv A outer s H vs Q E hr h => ?_)
  · obtain ⟨_, _, _, rfl, _⟩ := h
    rfl
  · obtain ⟨script_1, a_2, r, rfl, hp_a_2, hm, k⟩ := h
    unfold m_law at hm
    obtain ⟨H0, hH0⟩ : ∃ H0 : Hp, H0 = H := ⟨H, rfl⟩
    have O : Own H0 H [] := by rw [hH0]; exact Own.start H
    rw [← hH0] at k hp_a_2
    clear hH0
    have eB : Ex H0 H0 := Ex.refl _
    refine ⟨_, (pss_cons (ps_set (i := 1) sc_law.nd rfl (Or.inl rfl) (pe_call G__law_draw (hr.mono (by decide)) (by rfl) T.g__law_draw T.F__law_draw.kp T.b__law_draw .nil pass0 (pa_cons (pv 0) (pa_cons pe_int (pa_cons pe_int pa_nil))))) (Evl.pss_cut (ps_if (pt_cmpR op_eq (pe_call G__law_draw (hr.mono (by decide)) (by rfl) T.g__law_draw T.F__law_draw.kp T.b__law_draw .nil pass0 (pa_cons (pv 0) (pa_cons pe_int (pa_cons pe_int pa_nil)))) pe_int (nomark _)) (pss_one (ps_set (i := 1) sc_law.nd rfl (Or.inl rfl) (pe_op op_add (pv 1) pe_int))) pss_nil) (pss_cons (ps_set (i := 2) sc_law.nd rfl (Or.inl rfl) (pe_call G__law_row (hr.mono (by decide)) (by rfl) T.g__law_row T.F__law_row.kp T.b__law_row .nil pass0 (pa_cons (pv 0) (pa_cons (pv 1) pa_nil)))) (pss_cons (ps_set (i := 3) sc_law.nd rfl (Or.inl rfl) (pe_call G__law_places (hr.mono (by decide)) (by rfl) T.g__law_places T.F__law_places.kp T.b__law_places .nil pass0 (pa_cons (pv 0) (pa_cons (pv 1) pa_nil)))) (pss_cons (ps_set (i := 4) sc_law.nd rfl (Or.inl rfl) (pe_callTy (r := rListQ K) call_listQ (by rfl) T.z_list (by decide +kernel) (pa_cons (pv 2) pa_nil))) (pss_cons (ps_for PassesOwn.never rfl (pi_list (pv 3)) (pg_name (i := 5) sc_law.nd rfl (Or.inl rfl)) (pss_one (ps_asg (pe_op op_sub pe_int (pe_ix (r := rIxL K) ix_list (pv 4) (pv 5) (fun _ _ => rfl))) (pg_sub (pv 4) (pv 5) set_list)))) (pss_cons (ps_set (i := 6) sc_law.nd rfl (Or.inl rfl) (pe_lstQ (pe_lst (pa_cons (pe_callTy (r := rListQ K) call_listQ (by rfl) T.z_list (by decide +kernel) (pa_cons (pv 2) pa_nil)) (pa_cons (pe_callTy (r := rListQ K) call_listQ (by rfl) T.z_list (by decide +kernel) (pa_cons (pv 3) pa_nil)) pa_nil))))) (pss_cons (ps_set (i := 7) sc_law.nd rfl (Or.inl rfl) (pe_call G_changed (hr.mono (by decide)) (by rfl) T.g_changed T.F_changed.kp T.b_changed .nil passN (pa_cons (pe_ix (r := rIxL K) ix_list (pv 6) pe_int (fun _ _ => rfl)) (pa_cons (pe_ix (r := rIxL K) ix_list (pv 6) pe_int (fun _ _ => rfl)) pa_nil)))) (pss_cons (ps_if (PW.pt (pw_or (pt_not (pt_val (pe_callB (r := rIsi K) call_isi (by rfl) T.z_isinstance (by decide +kernel) (pa_cons (pv 7) (pa_cons (pe_bltn (v := V.ty "list") (u := .type "list") (by rfl) T.z_list (by decide +kernel) rfl) pa_nil))))) (pw_or (pt_cmpR (r := rNeD K) (op_neD hr.units) (pv 7) (pv 4) (nomark _)) (pw_or1 (pt_cmpR (r := rNeD K) (op_neD hr.units) (pv 6) (pe_lstQ (pe_lst (pa_cons (pv 2) (pa_cons (pv 3) pa_nil)))) (nomark _)))))) (pss_one (ps_ret pe_bl)) pss_nil) (pss_cons (ps_for PassesOwn.never rfl (pi_list (pv 7)) (pg_name (i := 8) sc_law.nd rfl (Or.inl rfl)) (pss_one (ps_if (pt_not (pt_val (pe_call G__law_whole (hr.mono (by decide)) (by rfl) T.g__law_whole T.F__law_whole.kp T.b__law_whole .nil pass0 (pa_cons (pv 8) pa_nil)))) (pss_one (ps_ret pe_bl)) pss_nil))) (pss_cons (ps_set (i := 9) sc_law.nd rfl (Or.inl rfl) (pe_op op_mod (pe_call G__law_cell_at (hr.mono (by decide)) (by rfl) T.g__law_cell_at T.F__law_cell_at.kp T.b__law_cell_at .nil pass0 (pa_cons (pv 0) (pa_cons pe_int pa_nil))) (pe_op op_pow pe_int pe_int))) (pss_cons (ps_set (i := 10) sc_law.nd rfl (Or.inl rfl) (pe_ix (r := rIxL K) ix_list (pe_lstQ (pe_lst (pa_cons (pe_op op_sub (pe_un un_neg pe_int) (pe_call G__law_draw (hr.mono (by decide)) (by rfl) T.g__law_draw T.F__law_draw.kp T.b__law_draw .nil pass0 (pa_cons (pv 0) (pa_cons pe_int (pa_cons pe_int pa_nil))))) (pa_cons (pv 1) (pa_cons (pe_op op_add (pe_op op_add (pv 1) pe_int) (pv 9)) pa_nil))))) (pe_call G__law_draw (hr.mono (by decide)) (by rfl) T.g__law_draw T.F__law_draw.kp T.b__law_draw .nil pass0 (pa_cons (pv 0) (pa_cons pe_int (pa_cons pe_int pa_nil)))) (fun _ _ => rfl))) (pss_cons (ps_expr (pe_bm PySem.F.plainAttrs_list PySem.F.slot_list_append PySem.F.type_list_append mt_append (pv 7) (pa_cons pe_int pa_nil))) (pss_cons (ps_set (i := 11) sc_law.nd rfl (Or.inl rfl) (pe_call G_changed (hr.mono (by decide)) (by rfl) T.g_changed T.F_changed.kp T.b_changed .nil passN (pa_cons (pe_ix (r := rIxL K) ix_list (pv 6) pe_int (fun _ _ => rfl)) (pa_cons (pe_lstQ (pe_lst pa_nil)) pa_nil)))) (pss_cons (ps_if (PW.pt (pw_or (pt_cmpR (r := rNeD K) (op_neD hr.units) (pv 6) (pe_lstQ (pe_lst (pa_cons (pv 2) (pa_cons (pv 3) pa_nil)))) (nomark _)) (pw_or1 (pt_cmpR (r := rNeD K) (op_neD hr.units) (pv 11) (pv 2) (nomark _))))) (pss_one (ps_ret pe_bl)) pss_nil) (pss_cons (ps_expr (pe_bm PySem.F.plainAttrs_list PySem.F.slot_list_append PySem.F.type_list_append mt_append (pv 11) (pa_cons pe_int pa_nil))) (pss_cons (ps_expr (pe_bm0 PySem.F.plainAttrs_list PySem.F.slot_list_pop PySem.F.type_list_pop mt_pop (pv 7))) (pss_cons (ps_if (PW.pt (pw_or (pt_cmpR (r := rNeD K) (op_neD hr.units) (pv 6) (pe_lstQ (pe_lst (pa_cons (pv 2) (pa_cons (pv 3) pa_nil)))) (nomark _)) (pw_or1 (pt_cmpR (r := rNeD K) (op_neD hr.units) (pv 7) (pv 4) (nomark _))))) (pss_one (ps_ret pe_bl)) pss_nil) (pss_cons (ps_set (i := 5) sc_law.nd rfl (Or.inl rfl) (pe_call G__law_draw (hr.mono (by decide)) (by rfl) T.g__law_draw T.F__law_draw.kp T.b__law_draw .nil pass0 (pa_cons (pv 0) (pa_cons pe_int (pa_cons (pe_op op_add (pe_callB (r := rLenQ K) call_lenQ (by rfl) T.z_len PySem.boot_len (pa_cons (pv 3) pa_nil)) pe_int) pa_nil))))) (pss_cons (ps_if (pt_not (pt_val (pe_call G__law_refused (hr.mono (by decide)) (by rfl) T.g__law_refused T.F__law_refused.kp T.b__law_refused .nil pass0 (pa_cons (pv 2) (pa_cons (pe_op op_cat (pe_op op_cat (pe_slice (r := rSlL K) sl_list (pv 3) po_none (po_some (pv 5))) (pe_lstQ (pe_lst (pa_cons (pv 10) pa_nil)))) (pe_slice (r := rSlL K) sl_list (pv 3) (po_some (pv 5)) po_none)) pa_nil))))) (pss_one (ps_ret pe_bl)) pss_nil) (pss_cons (ps_set (i := 12) sc_law.nd rfl (Or.inl rfl) (pe_lstQ (pe_lst (pa_cons (pe_call G_longest_run (hr.mono (by decide)) (by rfl) T.g_longest_run T.F_longest_run.kp T.b_longest_run .nil pass0 (pa_cons (pe_ix (r := rIxL K) ix_list (pv 6) pe_int (fun _ _ => rfl)) pa_nil)) (pa_cons (pe_call G_longest_run (hr.mono (by decide)) (by rfl) T.g_longest_run T.F_longest_run.kp T.b_longest_run .nil pass0 (pa_cons (pv 7) pa_nil)) pa_nil))))) (pss_cons (ps_if (PW.pt (pw_or (pt_cmpR (r := rNeD K) (op_neD hr.units) (pv 6) (pe_lstQ (pe_lst (pa_cons (pv 2) (pa_cons (pv 3) pa_nil)))) (nomark _)) (pw_or1 (pt_cmpR (r := rNeD K) (op_neD hr.units) (pv 7) (pv 4) (nomark _))))) (pss_one (ps_ret pe_bl)) pss_nil) (pss_one (ps_ret (pe_and (pe_call G__law_run_fits (hr.mono (by decide)) (by rfl) T.g__law_run_fits T.F__law_run_fits.kp T.b__law_run_fits .nil pass0 (pa_cons (pv 2) (pa_cons (pe_ix (r := rIxL K) ix_list (pv 12) pe_int (fun _ _ => rfl)) pa_nil))) (pe_one (pe_call G__law_run_fits (hr.mono (by decide)) (by rfl) T.g__law_run_fits T.F__law_run_fits.kp T.b__law_run_fits .nil pass0 (pa_cons (pv 4) (pa_cons (pe_ix (r := rIxL K) ix_list (pv 12) pe_int (fun _ _ => rfl)) pa_nil))))))))))))))))))))))))))))), ?_⟩
    -- 70
    refine o_seq ?_
    refine o_asg ?_
    obtain ⟨law_dr_3, h4, hm⟩ := bndE hm
    refine ⟨_, rfl, ?_⟩
    refine o_cons ?_
    refine o_c ?_
    refine o_cons ?_
    refine o_c ?_
    refine x_nil ?_
    refine ⟨_, _, _, _, law_dr_3, rfl, (O.ex.l hp_a_2), h4, ?_⟩
    refine O.retV fun H O => ?_
    -- 71
    obtain ⟨law_dr_5, h6, hm⟩ := bndE hm
    obtain ⟨many_9, h8, hm⟩ := bndE hm
    refine o_cut (fun σ H => ∃ (R_ : Hp), σ = [some (.ref a_2), some (.int many_9), none, none, none, none, none, none, none, none, none, none, none] ∧ Ex H0 R_ ∧ Own R_ H []) ?_ ?_
    · refine o_ifs ?_
      refine ⟨_, rfl, ?_⟩
      refine o_cons ?_
      refine o_c ?_
      refine o_cons ?_
      refine o_c ?_
      refine x_nil ?_
      refine ⟨_, _, _, _, law_dr_5, rfl, (O.ex.l hp_a_2), h6, ?_⟩
      refine O.retV fun H O => ?_
      refine o_c ?_
      refine k_eqI ?_
      refine ⟨_, rfl, ?_⟩
      refine iteS (c := (decide (law_dr_5 = (1 : Int)))) (fun h7 => ?_) (fun h7 => ?_)
      · have eJ8 : Ex H0 H0 := Ex.refl _
        replace hm := ifT h8 h7
        -- 72
        refine o_asg ?_
        refine ⟨_, rfl, _, _, rfl, rfl, ?_⟩
        have Oz := O
        cases Option.some.inj hm
        exact ⟨H0, rfl, eJ8, Oz⟩
      · have eJ8 : Ex H0 H0 := Ex.refl _
        replace hm := ifF h8 h7
        refine o_next ?_
        have Oz := O
        cases Option.some.inj hm
        exact ⟨H0, rfl, eJ8, Oz⟩
    rintro σ H ⟨H0, rfl, eJ_, O⟩
    replace hp_a_2 := eJ_.l hp_a_2
    replace eB := eB.trans eJ_
    -- 73
    refine o_seq ?_
    refine o_asg ?_
    obtain ⟨law_ro_10, h11, hm⟩ := bndE hm
    refine ⟨_, rfl, _, rfl, ?_⟩
    refine x_nil ?_
    refine ⟨_, _, _, law_ro_10, rfl, (O.ex.l hp_a_2), h11, ?_⟩
    refine O.retL fun p_12 H O => ?_
    -- 74
    refine o_seq ?_
    refine o_asg ?_
    obtain ⟨law_pl_13, h14, hm⟩ := bndE hm
    refine ⟨_, rfl, _, rfl, ?_⟩
    refine x_nil ?_
    refine ⟨_, _, _, law_pl_13, rfl, (O.ex.l hp_a_2), h14, ?_⟩
    refine O.retL fun p_15 H O => ?_
    -- 75
    refine o_seq ?_
    refine o_asg ?_
    refine ⟨_, rfl, ?_⟩
    refine x_nil ?_
    refine n_list O (SqL.of (O.mem (List.Mem.tail _ (List.Mem.head _)))) fun p_16 H O => ?_
    -- 76
    refine o_seq ?_
    refine o_for ?_
    refine ⟨_, rfl, ?_⟩
    obtain ⟨due_19, h20, hm⟩ := bndE hm
    refine ⟨_, rfl, ⟨_, (SqL.of (O.mem (List.Mem.tail _ (List.Mem.head _))))⟩, q_forL (f := V.int) (xs := law_pl_13) (fun r σ H => ∃ (R_ : Hp) (due_17 : List Int) (j_18 : Option V), σ = [some (.ref a_2), some (.int many_9), some (.ref p_12), some (.ref p_15), some (.ref p_16), j_18, none, none, none, none, none, none, none] ∧ Ex H0 R_ ∧ Own R_ H [(p_12, .lst (List.map V.int law_ro_10)), (p_15, .lst (List.map V.int law_pl_13)), (p_16, .lst (List.map V.int due_17))] ∧ loopM (fun at_23 s => m_law_L0 at_23 s) r due_17 = some due_19) ⟨H0, _, _, rfl, Ex.refl _, O.sel [2, 1, 0] (by decide) rfl, h20⟩ (by rintro r σ H ⟨H0, due_17, j_18, rfl, eJ_, O, hL⟩; replace hp_a_2 := eJ_.l hp_a_2; exact (SqL.of (O.mem (List.Mem.tail _ (List.Mem.head _))))) ?_ ?_⟩
    · rintro at_23 r σ H ⟨H0, due_17, j_18, rfl, eL24, O, hL⟩
      replace hp_a_2 := eL24.l hp_a_2
      replace eB := eB.trans eL24
      obtain ⟨s_, hm, h22⟩ := loopM_cons hL
      replace hm : m_law_L0 at_23 due_17 = some s_ := hm
      unfold m_law_L0 at hm
      -- 77
      refine o_sub ?_
      obtain ⟨e_25, h26, hm⟩ := bndE hm
      refine ⟨_, rfl, _, rfl, ?_⟩
      refine k_ixL (f := V.int) (SqL.of (O.mem (List.Mem.tail _ (List.Mem.tail _ (List.Mem.head _))))) h26 ?_
      obtain ⟨l_27, h28, hm⟩ := bndE hm
      refine ⟨_, _, rfl, rfl, _, rfl, _, rfl, ?_⟩
      refine k_setL (f := V.int) (O.mem (List.Mem.tail _ (List.Mem.tail _ (List.Mem.head _)))) (fun _ => O.put2) h28 fun H O => ?_
      have Oz := O
      obtain rfl := Option.some.inj hm
      exact ⟨H0, _, _, rfl, eL24, Oz, h22⟩
    rintro σ H ⟨H0, due_17, j_18, rfl, eJ_, O, hL⟩
    replace hp_a_2 := eJ_.l hp_a_2
    replace eB := eB.trans eJ_
    cases loopM_nil hL
    -- 78
    refine o_seq ?_
    refine o_asg ?_
    refine ⟨_, rfl, ?_⟩
    refine x_nil ?_
    refine n_list O (SqL.of (O.mem (List.Mem.head _))) fun p_29 H O => ?_
    refine ⟨_, rfl, ?_⟩
    refine x_nil ?_
    refine n_list O (SqL.of (O.mem (List.Mem.tail _ (List.Mem.tail _ (List.Mem.head _))))) fun p_30 H O => ?_
    refine x_nil ?_
    refine n_lstV O (by show 2 ≤ sizeLine; decide) fun p_31 H O => ?_
    replace O := O.sel (L' := [(p_29, .lst (List.map V.int law_ro_10)), (p_31, .lst [.ref p_29, .ref p_30]), (p_30, .lst (List.map V.int law_pl_13)), (p_12, .lst (List.map V.int law_ro_10)), (p_15, .lst (List.map V.int law_pl_13)), (p_16, .lst (List.map V.int due_19))]) [2, 0, 1, 3, 4, 5] (by decide) rfl
    obtain ⟨H0, O, e_, hp_p_29⟩ := O.frz
    replace hp_a_2 := e_.l hp_a_2
    replace eB := eB.trans e_
    replace O := O.sel (L' := [(p_30, .lst (List.map V.int law_pl_13)), (p_31, .lst [.ref p_29, .ref p_30]), (p_12, .lst (List.map V.int law_ro_10)), (p_15, .lst (List.map V.int law_pl_13)), (p_16, .lst (List.map V.int due_19))]) [1, 0, 2, 3, 4] (by decide) rfl
    obtain ⟨H0, O, e_, hp_p_30⟩ := O.frz
    replace hp_a_2 := e_.l hp_a_2
    replace hp_p_29 := e_ _ _ hp_p_29
    replace eB := eB.trans e_
    obtain ⟨H0, O, e_, hp_p_31⟩ := O.frz
    replace hp_a_2 := e_.l hp_a_2
    replace hp_p_29 := e_ _ _ hp_p_29
    replace hp_p_30 := e_ _ _ hp_p_30
    replace eB := eB.trans e_
    have hn_p_31 : (rL (rL rI)) (H0) (.ref p_31) ([law_ro_10, law_pl_13]) := ⟨_, _, rfl, hp_p_31, (.cons (gI hp_p_29) (.cons (gI hp_p_30) .nil))⟩
    -- 79
    refine o_seq ?_
    refine o_asg ?_
    obtain ⟨e_32, h33, hm⟩ := bndE hm
    refine ⟨_, rfl, ?_⟩
    refine o_c ?_
    refine k_ixN hn_p_31 O.ex h33 fun v_ hv_ => ?_
    obtain ⟨p_34, rfl, hp_p_34⟩ := fI hv_
    obtain ⟨e_35, h36, hm⟩ := bndE hm
    refine ⟨_, rfl, ?_⟩
    refine o_c ?_
    refine k_ixN hn_p_31 O.ex h36 fun v_ hv_ => ?_
    obtain ⟨p_37, rfl, hp_p_37⟩ := fI hv_
    obtain ⟨change_38, h39, hm⟩ := bndOE hm
    refine x_nil ?_
    refine ⟨_, _, _, _, .ok change_38, rfl, (O.ex _ _ hp_p_34), (O.ex _ _ hp_p_37), h39, ?_⟩
    refine RetR.ok ?_
    refine O.retL fun p_40 H O => ?_
    -- 80
    refine o_seq ?_
    refine o_ifs ?_
    refine x_or (c := (!true)) (e := ((!decide (change_38 = due_19)) || (!decide ([law_ro_10, law_pl_13] = [law_ro_10, law_pl_13])))) (d := ((!true) || ((!decide (change_38 = due_19)) || (!decide ([law_ro_10, law_pl_13] = [law_ro_10, law_pl_13]))))) O (fun Q1 k1 => ?_) (fun h43 => ⟨by rw [h43]; rfl, fun H O Q2 k2 => ?_⟩) (fun h43 => by rw [h43]; rfl) (fun H O => ?_)
    · refine ⟨_, rfl, _, _, _, _, true, rfl, .ty _, .base (.lst (O.mem (List.Mem.head _))), kit_ty (by decide +kernel), _, rfl, ?_⟩
      exact k1 _ O
    · refine x_or (c := (!decide (change_38 = due_19))) (e := (!decide ([law_ro_10, law_pl_13] = [law_ro_10, law_pl_13]))) (d := ((!decide (change_38 = due_19)) || (!decide ([law_ro_10, law_pl_13] = [law_ro_10, law_pl_13])))) O (fun Q1 k1 => ?_) (fun h42 => ⟨by rw [h42]; rfl, fun H O Q2 k2 => ?_⟩) (fun h42 => by rw [h42]; rfl) (fun H O => ?_)
      · refine ⟨_, rfl, _, rfl, ?_⟩
        refine k_neLI (SqL.of (O.mem (List.Mem.head _))) (SqL.of (O.mem (List.Mem.tail _ (List.Mem.tail _ (List.Mem.tail _ (List.Mem.head _)))))) ?_
        refine ⟨_, rfl, ?_⟩
        exact k1 _ O
      · refine ⟨_, rfl, _, rfl, _, rfl, ?_⟩
        refine x_nil ?_
        refine n_lstV O (by show 2 ≤ sizeLine; decide) fun p_41 H O => ?_
        refine k_neN (deL (deL deI)) (mL (mL mI)) (by decide) ((mL (mL mI)) _ _ _ _ O.ex hn_p_31) (Ex.refl _) ⟨_, _, rfl, O.mem (List.Mem.head _), (.cons (gI (O.mem (List.Mem.tail _ (List.Mem.tail _ (List.Mem.head _))))) (.cons (gI (O.mem (List.Mem.tail _ (List.Mem.tail _ (List.Mem.tail _ (List.Mem.head _)))))) .nil))⟩ (Ex.refl _) ?_
        refine ⟨_, rfl, ?_⟩
        replace O := O.tl
        exact k2 _ O
      exact k2 _ O
    refine iteS (c := ((!true) || ((!decide (change_38 = due_19)) || (!decide ([law_ro_10, law_pl_13] = [law_ro_10, law_pl_13]))))) (fun h44 => ?_) (fun h44 => ?_)
    · replace hm := ifT hm h44
      -- 81
      refine o_ret ?_
      refine o_c ?_
      obtain rfl := Option.some.inj hm
      exact RetV.goR k O eB
    · replace hm := ifF hm h44
      refine o_next ?_
      -- 82
      refine o_seq ?_
      refine o_for ?_
      refine ⟨_, rfl, ?_⟩
      obtain ⟨out_51, h47, h48⟩ := bndE hm
      refine ⟨_, rfl, ⟨_, (SqL.of (O.mem (List.Mem.head _)))⟩, q_forL (f := V.int) (xs := change_38) (fun r σ H => ∃ (R_ : Hp) (j_45 : Option V) (j_46 : Option V), σ = [some (.ref a_2), some (.int many_9), some (.ref p_12), some (.ref p_15), some (.ref p_16), j_45, some (.ref p_31), some (.ref p_40), j_46, none, none, none, none] ∧ Ex H0 R_ ∧ Own R_ H [(p_12, .lst (List.map V.int law_ro_10)), (p_15, .lst (List.map V.int law_pl_13)), (p_16, .lst (List.map V.int due_19)), (p_40, .lst (List.map V.int change_38))] ∧ loopF (fun bit_50 (_ : Unit) => m_law_L1 bit_50) r () = some out_51) ⟨H0, _, _, rfl, Ex.refl _, O.sel [1, 2, 3, 0] (by decide) rfl, h47⟩ (by rintro r σ H ⟨H0, j_45, j_46, rfl, eJ_, O, hL⟩; replace hp_a_2 := eJ_.l hp_a_2; replace hn_p_31 := (mL (mL mI)) _ _ _ _ eJ_ hn_p_31; exact (SqL.of (O.mem (List.Mem.tail _ (List.Mem.tail _ (List.Mem.tail _ (List.Mem.head _))))))) ?_ ?_⟩
      · rintro bit_50 r σ H ⟨H0, j_45, j_46, rfl, eL51, O, hL⟩
        replace hp_a_2 := eL51.l hp_a_2
        replace hn_p_31 := (mL (mL mI)) _ _ _ _ eL51 hn_p_31
        replace eB := eB.trans eL51
        obtain ⟨s_, hm, h49⟩ := loopF_cons hL
        replace hm : m_law_L1 bit_50 = some s_ := hm
        unfold m_law_L1 at hm
        -- 83
        refine o_ifs ?_
        obtain ⟨law_wh_52, h53, hm⟩ := bndE hm
        refine ⟨_, rfl, ?_⟩
        refine x_nil ?_
        refine ⟨_, law_wh_52, rfl, h53, ?_⟩
        refine O.retV fun H O => ?_
        refine ⟨_, rfl, ?_⟩
        refine iteS (c := (!law_wh_52)) (fun h54 => ?_) (fun h54 => ?_)
        · replace hm := ifT hm h54
          -- 84
          refine o_ret ?_
          refine o_c ?_
          obtain rfl := Option.some.inj hm
          obtain rfl := contRt h49
          obtain rfl := finRt h48
          exact RetV.goR k O eB
        · replace hm := ifF hm h54
          refine o_next ?_
          have Oz := O
          obtain rfl := Option.some.inj hm
          exact ⟨H0, _, _, rfl, eL51, Oz, h49⟩
      rintro σ H ⟨H0, j_45, j_46, rfl, eJ_, O, hL⟩
      replace hp_a_2 := eJ_.l hp_a_2
      replace hn_p_31 := (mL (mL mI)) _ _ _ _ eJ_ hn_p_31
      replace eB := eB.trans eJ_
      obtain rfl := loopF_nil hL
      replace hm := finNx h48
      -- 85
      refine o_seq ?_
      refine o_asg ?_
      obtain ⟨law_ce_55, h56, hm⟩ := bndE hm
      refine ⟨_, rfl, ?_⟩
      refine o_cons ?_
      refine o_c ?_
      refine x_nil ?_
      refine ⟨_, _, _, law_ce_55, rfl, (O.ex.l hp_a_2), h56, ?_⟩
      refine O.retV fun H O => ?_
      obtain ⟨t_57, h58, hm⟩ := bndE hm
      refine o_op ?_
      refine o_c ?_
      refine o_c ?_
      refine k_pow h58 ?_
      obtain ⟨t_59, h60, hm⟩ := bndE hm
      refine k_mod h60 ?_
      -- 86
      refine o_seq ?_
      refine o_asg ?_
      obtain ⟨law_dr_61, h62, hm⟩ := bndE hm
      refine ⟨_, rfl, _, rfl, ?_⟩
      refine o_cons ?_
      refine o_c ?_
      refine o_cons ?_
      refine o_c ?_
      refine x_nil ?_
      refine ⟨_, _, _, _, law_dr_61, rfl, (O.ex.l hp_a_2), h62, ?_⟩
      refine O.retV fun H O => ?_
      refine ⟨_, _, rfl, rfl, _, rfl, _, rfl, _, _, rfl, rfl, _, rfl, _, _, rfl, rfl, ?_⟩
      refine x_nil ?_
      refine n_lst (f := V.int) (xs := [((-(1 : Int)) - law_dr_61), many_9, ((many_9 + (1 : Int)) + t_59)]) O rfl (by show 3 ≤ sizeLine; decide) fun p_63 H O => ?_
      obtain ⟨law_dr_64, h65, hm⟩ := bndE hm
      refine ⟨_, rfl, ?_⟩
      refine o_cons ?_
      refine o_c ?_
      refine o_cons ?_
      refine o_c ?_
      refine x_nil ?_
      refine ⟨_, _, _, _, law_dr_64, rfl, (O.ex.l hp_a_2), h65, ?_⟩
      refine O.retV fun H O => ?_
      obtain ⟨e_66, h67, hm⟩ := bndE hm
      refine k_ixL (f := V.int) (SqL.of (O.mem (List.Mem.head _))) h67 ?_
      -- 87
      refine o_seq ?_
      refine o_drop ?_
      obtain ⟨l_68, h69, hm⟩ := bndE hm
      refine ⟨_, rfl, .inl ⟨rfl, _, (SqL.of (O.mem (List.Mem.tail _ (List.Mem.tail _ (List.Mem.tail _ (List.Mem.tail _ (List.Mem.head _)))))))⟩, ?_⟩
      refine o_cons ?_
      refine o_c ?_
      refine x_nil ?_
      refine k_app (f := V.int) (O.mem (List.Mem.tail _ (List.Mem.tail _ (List.Mem.tail _ (List.Mem.tail _ (List.Mem.head _)))))) (fun _ => O.put4) h69 fun H O => ?_
      -- 88
      refine o_seq ?_
      refine o_asg ?_
      obtain ⟨e_70, h71, hm⟩ := bndE hm
      refine ⟨_, rfl, ?_⟩
      refine o_c ?_
      refine k_ixN hn_p_31 O.ex h71 fun v_ hv_ => ?_
      obtain ⟨p_72, rfl, hp_p_72⟩ := fI hv_
      refine o_cons ?_
      refine x_nil ?_
      refine n_lst (f := V.int) (xs := ([] : List Int)) O rfl (Nat.zero_le _) fun p_73 H O => ?_
      obtain ⟨change_74, h75, hm⟩ := bndOE hm
      refine x_nil ?_
      refine ⟨_, _, _, _, .ok change_74, rfl, (O.ex _ _ hp_p_72), (O.mem (List.Mem.head _)), h75, ?_⟩
      refine RetR.ok ?_
      refine O.retL fun p_76 H O => ?_
      -- 89
      refine o_seq ?_
      refine o_ifs ?_
      refine x_or (c := (!decide ([law_ro_10, law_pl_13] = [law_ro_10, law_pl_13]))) (e := (!decide (change_74 = law_ro_10))) (d := ((!decide ([law_ro_10, law_pl_13] = [law_ro_10, law_pl_13])) || (!decide (change_74 = law_ro_10)))) O (fun Q1 k1 => ?_) (fun h78 => ⟨by rw [h78]; rfl, fun H O Q2 k2 => ?_⟩) (fun h78 => by rw [h78]; rfl) (fun H O => ?_)
      · refine ⟨_, rfl, _, rfl, _, rfl, ?_⟩
        refine x_nil ?_
        refine n_lstV O (by show 2 ≤ sizeLine; decide) fun p_77 H O => ?_
        refine k_neN (deL (deL deI)) (mL (mL mI)) (by decide) ((mL (mL mI)) _ _ _ _ O.ex hn_p_31) (Ex.refl _) ⟨_, _, rfl, O.mem (List.Mem.head _), (.cons (gI (O.mem (List.Mem.tail _ (List.Mem.tail _ (List.Mem.tail _ (List.Mem.tail _ (List.Mem.head _))))))) (.cons (gI (O.mem (List.Mem.tail _ (List.Mem.tail _ (List.Mem.tail _ (List.Mem.tail _ (List.Mem.tail _ (List.Mem.head _)))))))) .nil))⟩ (Ex.refl _) ?_
        refine ⟨_, rfl, ?_⟩
        replace O := O.tl
        exact k1 _ O
      · refine ⟨_, rfl, _, rfl, ?_⟩
        refine k_neLI (SqL.of (O.mem (List.Mem.head _))) (SqL.of (O.mem (List.Mem.tail _ (List.Mem.tail _ (List.Mem.tail _ (List.Mem.head _)))))) ?_
        refine ⟨_, rfl, ?_⟩
        exact k2 _ O
      refine iteS (c := ((!decide ([law_ro_10, law_pl_13] = [law_ro_10, law_pl_13])) || (!decide (change_74 = law_ro_10)))) (fun h79 => ?_) (fun h79 => ?_)
      · replace hm := ifT hm h79
        -- 90
        refine o_ret ?_
        refine o_c ?_
        obtain rfl := Option.some.inj hm
        exact RetV.goR k O eB
      · replace hm := ifF hm h79
        refine o_next ?_
        -- 91
        refine o_seq ?_
        refine o_drop ?_
        obtain ⟨l_80, h81, hm⟩ := bndE hm
        refine ⟨_, rfl, .inl ⟨rfl, _, (SqL.of (O.mem (List.Mem.head _)))⟩, ?_⟩
        refine o_cons ?_
        refine o_c ?_
        refine x_nil ?_
        refine k_app (f := V.int) (O.mem (List.Mem.head _)) (fun _ => O.put0) h81 fun H O => ?_
        -- 92
        refine o_seq ?_
        refine o_drop ?_
        obtain ⟨⟨e_82, l_83⟩, h84, hm⟩ := bndE hm
        refine ⟨_, rfl, .inl ⟨rfl, _, (SqL.of (O.mem (List.Mem.tail _ (List.Mem.tail _ (List.Mem.tail _ (List.Mem.tail _ (List.Mem.tail _ (List.Mem.tail _ (List.Mem.head _)))))))))⟩, ?_⟩
        refine k_pop (f := V.int) (O.mem (List.Mem.tail _ (List.Mem.tail _ (List.Mem.tail _ (List.Mem.tail _ (List.Mem.tail _ (List.Mem.tail _ (List.Mem.head _)))))))) (fun _ => O.put6) h84 fun H O => ?_
        -- 93
        refine o_seq ?_
        refine o_ifs ?_
        refine x_or (c := (!decide ([law_ro_10, law_pl_13] = [law_ro_10, law_pl_13]))) (e := (!decide (l_83 = due_19))) (d := ((!decide ([law_ro_10, law_pl_13] = [law_ro_10, law_pl_13])) || (!decide (l_83 = due_19)))) O (fun Q1 k1 => ?_) (fun h86 => ⟨by rw [h86]; rfl, fun H O Q2 k2 => ?_⟩) (fun h86 => by rw [h86]; rfl) (fun H O => ?_)
        · refine ⟨_, rfl, _, rfl, _, rfl, ?_⟩
          refine x_nil ?_
          refine n_lstV O (by show 2 ≤ sizeLine; decide) fun p_85 H O => ?_
          refine k_neN (deL (deL deI)) (mL (mL mI)) (by decide) ((mL (mL mI)) _ _ _ _ O.ex hn_p_31) (Ex.refl _) ⟨_, _, rfl, O.mem (List.Mem.head _), (.cons (gI (O.mem (List.Mem.tail _ (List.Mem.tail _ (List.Mem.tail _ (List.Mem.tail _ (List.Mem.head _))))))) (.cons (gI (O.mem (List.Mem.tail _ (List.Mem.tail _ (List.Mem.tail _ (List.Mem.tail _ (List.Mem.tail _ (List.Mem.head _)))))))) .nil))⟩ (Ex.refl _) ?_
          refine ⟨_, rfl, ?_⟩
          replace O := O.tl
          exact k1 _ O
        · refine ⟨_, rfl, _, rfl, ?_⟩
          refine k_neLI (SqL.of (O.mem (List.Mem.tail _ (List.Mem.tail _ (List.Mem.tail _ (List.Mem.tail _ (List.Mem.tail _ (List.Mem.tail _ (List.Mem.head _))))))))) (SqL.of (O.mem (List.Mem.tail _ (List.Mem.tail _ (List.Mem.tail _ (List.Mem.tail _ (List.Mem.tail _ (List.Mem.head _)))))))) ?_
          refine ⟨_, rfl, ?_⟩
          exact k2 _ O
        refine iteS (c := ((!decide ([law_ro_10, law_pl_13] = [law_ro_10, law_pl_13])) || (!decide (l_83 = due_19)))) (fun h87 => ?_) (fun h87 => ?_)
        · replace hm := ifT hm h87
          -- 94
          refine o_ret ?_
          refine o_c ?_
          obtain rfl := Option.some.inj hm
          exact RetV.goR k O eB
        · replace hm := ifF hm h87
          refine o_next ?_
          -- 95
          refine o_seq ?_
          refine o_asg ?_
          refine ⟨_, rfl, _, rfl, ?_⟩
          refine x_nil ?_
          refine n_len (SqL.of (O.mem (List.Mem.tail _ (List.Mem.tail _ (List.Mem.tail _ (List.Mem.tail _ (List.Mem.head _))))))) ?_
          obtain ⟨law_dr_88, h89, hm⟩ := bndE hm
          refine ⟨_, _, rfl, rfl, ?_⟩
          refine x_nil ?_
          refine ⟨_, _, _, _, law_dr_88, rfl, (O.ex.l hp_a_2), h89, ?_⟩
          refine O.retV fun H O => ?_
          -- 96
          refine o_seq ?_
          refine o_ifs ?_
          refine ⟨_, rfl, _, rfl, _, rfl, _, rfl, ?_⟩
          refine k_cut (f := V.int) O (SqL.of (O.mem (List.Mem.tail _ (List.Mem.tail _ (List.Mem.tail _ (List.Mem.tail _ (List.Mem.head _))))))) fun p_90 H O => ?_
          refine ⟨_, rfl, ?_⟩
          refine x_nil ?_
          refine n_lst (f := V.int) (xs := [e_66]) O rfl (by show 1 ≤ sizeLine; decide) fun p_91 H O => ?_
          obtain ⟨t_92, h93, hm⟩ := bndE hm
          refine k_cat (f := V.int) O (O.mem (List.Mem.tail _ (List.Mem.head _))) (O.mem (List.Mem.head _)) h93 fun p_94 H O => ?_
          refine ⟨_, rfl, _, rfl, _, rfl, ?_⟩
          refine x_np ?_
          refine k_cut (f := V.int) O (SqL.of (O.mem (List.Mem.tail _ (List.Mem.tail _ (List.Mem.tail _ (List.Mem.tail _ (List.Mem.tail _ (List.Mem.tail _ (List.Mem.tail _ (List.Mem.head _)))))))))) fun p_95 H O => ?_
          obtain ⟨t_96, h97, hm⟩ := bndE hm
          refine k_cat (f := V.int) O (O.mem (List.Mem.tail _ (List.Mem.head _))) (O.mem (List.Mem.head _)) h97 fun p_98 H O => ?_
          obtain ⟨law_re_99, h100, hm⟩ := bndE hm
          refine x_nil ?_
          refine ⟨_, _, _, _, law_re_99, rfl, (O.mem (List.Mem.tail _ (List.Mem.tail _ (List.Mem.tail _ (List.Mem.tail _ (List.Mem.tail _ (List.Mem.tail _ (List.Mem.tail _ (List.Mem.tail _ (List.Mem.head _)))))))))), (O.mem (List.Mem.head _)), h100, ?_⟩
          refine O.retV fun H O => ?_
          refine ⟨_, rfl, ?_⟩
          replace O := O.tl.tl.tl.tl.tl
          refine iteS (c := (!law_re_99)) (fun h101 => ?_) (fun h101 => ?_)
          · replace hm := ifT hm h101
            -- 97
            refine o_ret ?_
            refine o_c ?_
            obtain rfl := Option.some.inj hm
            exact RetV.goR k O eB
          · replace hm := ifF hm h101
            refine o_next ?_
            -- 98
            refine o_seq ?_
            refine o_asg ?_
            obtain ⟨e_102, h103, hm⟩ := bndE hm
            refine ⟨_, rfl, ?_⟩
            refine o_c ?_
            refine k_ixN hn_p_31 O.ex h103 fun v_ hv_ => ?_
            obtain ⟨p_104, rfl, hp_p_104⟩ := fI hv_
            obtain ⟨longes_105, h106, hm⟩ := bndE hm
            refine x_nil ?_
            refine ⟨_, _, longes_105, rfl, (O.ex _ _ hp_p_104), h106, ?_⟩
            refine O.retV fun H O => ?_
            obtain ⟨longes_107, h108, hm⟩ := bndE hm
            refine ⟨_, rfl, ?_⟩
            refine x_nil ?_
            refine ⟨_, _, longes_107, rfl, (O.mem (List.Mem.tail _ (List.Mem.tail _ (List.Mem.tail _ (List.Mem.tail _ (List.Mem.tail _ (List.Mem.tail _ (List.Mem.head _)))))))), h108, ?_⟩
            refine O.retV fun H O => ?_
            refine x_nil ?_
            refine n_lst (f := V.int) (xs := [longes_105, longes_107]) O rfl (by show 2 ≤ sizeLine; decide) fun p_109 H O => ?_
            -- 99
            refine o_seq ?_
            refine o_ifs ?_
            refine x_or (c := (!decide ([law_ro_10, law_pl_13] = [law_ro_10, law_pl_13]))) (e := (!decide (l_83 = due_19))) (d := ((!decide ([law_ro_10, law_pl_13] = [law_ro_10, law_pl_13])) || (!decide (l_83 = due_19)))) O (fun Q1 k1 => ?_) (fun h111 => ⟨by rw [h111]; rfl, fun H O Q2 k2 => ?_⟩) (fun h111 => by rw [h111]; rfl) (fun H O => ?_)
            · refine ⟨_, rfl, _, rfl, _, rfl, ?_⟩
              refine x_nil ?_
              refine n_lstV O (by show 2 ≤ sizeLine; decide) fun p_110 H O => ?_
              refine k_neN (deL (deL deI)) (mL (mL mI)) (by decide) ((mL (mL mI)) _ _ _ _ O.ex hn_p_31) (Ex.refl _) ⟨_, _, rfl, O.mem (List.Mem.head _), (.cons (gI (O.mem (List.Mem.tail _ (List.Mem.tail _ (List.Mem.tail _ (List.Mem.tail _ (List.Mem.tail _ (List.Mem.head _)))))))) (.cons (gI (O.mem (List.Mem.tail _ (List.Mem.tail _ (List.Mem.tail _ (List.Mem.tail _ (List.Mem.tail _ (List.Mem.tail _ (List.Mem.head _))))))))) .nil))⟩ (Ex.refl _) ?_
              refine ⟨_, rfl, ?_⟩
              replace O := O.tl
              exact k1 _ O
            · refine ⟨_, rfl, _, rfl, ?_⟩
              refine k_neLI (SqL.of (O.mem (List.Mem.tail _ (List.Mem.tail _ (List.Mem.tail _ (List.Mem.tail _ (List.Mem.tail _ (List.Mem.tail _ (List.Mem.tail _ (List.Mem.head _)))))))))) (SqL.of (O.mem (List.Mem.tail _ (List.Mem.tail _ (List.Mem.tail _ (List.Mem.tail _ (List.Mem.tail _ (List.Mem.tail _ (List.Mem.head _))))))))) ?_
              refine ⟨_, rfl, ?_⟩
              exact k2 _ O
            refine iteS (c := ((!decide ([law_ro_10, law_pl_13] = [law_ro_10, law_pl_13])) || (!decide (l_83 = due_19)))) (fun h112 => ?_) (fun h112 => ?_)
            · replace hm := ifT hm h112
              -- 100
              refine o_ret ?_
              refine o_c ?_
              obtain rfl := Option.some.inj hm
              exact RetV.goR k O eB
            · replace hm := ifF hm h112
              refine o_next ?_
              -- 101
              refine o_ret ?_
              obtain ⟨e_113, h114, hm⟩ := bndE hm
              obtain ⟨law_ru_115, h116, hm⟩ := bndE hm
              obtain ⟨c_122, h123, hm⟩ := bndE hm
              refine x_andV (c := law_ru_115) (e := c_122) (d := c_122) O (fun Q1 k1 => ?_) (fun h121 => ⟨rfl, fun H O Q2 k2 => ?_⟩) (fun h121 => Option.some.inj (ifF h123 h121)) (fun H O => ?_)
              · refine ⟨_, rfl, _, rfl, ?_⟩
                refine o_c ?_
                refine k_ixL (f := V.int) (SqL.of (O.mem (List.Mem.head _))) h114 ?_
                refine x_nil ?_
                refine ⟨_, _, _, law_ru_115, rfl, (O.mem (List.Mem.tail _ (List.Mem.tail _ (List.Mem.tail _ (List.Mem.tail _ (List.Mem.head _)))))), h116, ?_⟩
                refine O.retV fun H O => ?_
                exact k1 _ O
              · replace hm := ifT h123 h121
                obtain ⟨e_117, h118, hm⟩ := bndE hm
                obtain ⟨law_ru_119, h120, hm⟩ := bndE hm
                obtain rfl := Option.some.inj hm
                refine ⟨_, rfl, _, rfl, ?_⟩
                refine o_c ?_
                refine k_ixL (f := V.int) (SqL.of (O.mem (List.Mem.head _))) h118 ?_
                refine x_nil ?_
                refine ⟨_, _, _, law_ru_119, rfl, (O.mem (List.Mem.tail _ (List.Mem.tail _ (List.Mem.tail _ (List.Mem.tail _ (List.Mem.tail _ (List.Mem.tail _ (List.Mem.head _)))))))), h120, ?_⟩
                refine O.retV fun H O => ?_
                exact k2 _ O
              obtain rfl := Option.some.inj hm
              exact RetV.goR k O eB
end
theorem walk {l : PySem.W.OpenLaw} {q : Program} {loose : List Str} {XP : (Str → Option Value) → Heap → Prop} {YP : World → Heap → Prop} {d : DefRec} {K : Params → PySem.W.Frag} (M : ∀ ns : List Int, ns.length ≤ 63 → m_law ns = some true) (hn : l.most = some 63) (hdf : d.params.defaults = [])
    (hY : ∀ (w : World) (h : Heap), YP w h → (K w.params).In h)
    (F : ∀ (w : World) (mg : Str → Option Value) (fa : Addr) (h : Heap), (K w.params).In h → h.Ns mainGlobals mg → mg d.name = some (.ref fa) →
      ∃ fd : FuncData, (∀ (s : Shared) (u : Value), BindsTo s fd ⟨[u], []⟩ [("script", u)]) ∧ ∀ base : Heap, (K w.params).In base → base.Ns mainGlobals mg → FnOk l.prog w (K w.params) mg base CX0 3 fa fd ["script"] (sp_law (K w.params))) :
    PySem.W.WalkO q loose XP YP l.row.toRowW d [] (fun f vs => PySem.call f vs) :=
  L2.walk_of (n := 63) (k := 3) (x := "script") (CX := fun _ => CX0) (sp := fun w => sp_law (K w.params)) hn (by decide) hdf ⟨rfl, by decide, by decide⟩ hY F (fun _ _ a ns hl _ hS => ⟨ns, a, true, rfl, hS, M ns hl, fun _ _ => rfl⟩) fun _ _ _ _ _ z => z
theorem pack {K : PySem.W.Frag} {h : Heap} {mg : Str → Option Value} (X : K.In h) (G : h.Ns mainGlobals mg) {A_NoBits : Addr} (a_NoBits : PySem.W.nsIn K mainGlobals "NoBits" = some (some (.ref A_NoBits))) (e_NoBits : PySem.W.excIn K A_NoBits [.type "ValueError", .type "Exception", .type "BaseException", .type "object"] "ValueError.__new__" = true) (k_NoBits : PySem.W.keepIn K (.ref A_NoBits) = true) (s_NoBits : PySem.W.subIn K (.ref A_NoBits) (.type "BaseException") = some true) (t_NoBits : PySem.W.typeIn K (.ref A_NoBits) = some (.type "type")) (d_NoBits : PySem.W.hasDictIn K A_NoBits = true) (xp_NoBits_NoBits : PySem.W.subIn K (.ref A_NoBits) (.ref A_NoBits) = some true) :
  ∃ es : Eds, mg "NoBits" = some (.ref es.NoBits) ∧ ErrC K mg "NoBits" es.NoBits ∧ PySem.W.exmOne K (.ref es.NoBits) (.ref es.NoBits) = some true :=
  ⟨(⟨A_NoBits, A_NoBits, A_NoBits, A_NoBits, A_NoBits, A_NoBits, A_NoBits, A_NoBits, A_NoBits, A_NoBits, A_NoBits⟩ : Eds), PySem.W.mg_of X G a_NoBits, ⟨PySem.W.mg_of X G a_NoBits, e_NoBits, k_NoBits, s_NoBits, t_NoBits⟩, PySem.W.exm_ref s_NoBits d_NoBits t_NoBits xp_NoBits_NoBits⟩
end Bt

/-! Sums without carries, over Nat. -/
namespace Bt
open PySem L2
theorem bx (a b : Nat) : Builtin.bitXor (a : Int) (b : Int) = ((a ^^^ b : Nat) : Int) := Bits.bitXor_pp (Int.natCast_nonneg a) (Int.natCast_nonneg b)
theorem ba (a b : Nat) : Builtin.bitAnd (a : Int) (b : Int) = ((a &&& b : Nat) : Int) := PyProof.Rows.bitAnd_pp (Int.natCast_nonneg a) (Int.natCast_nonneg b)
theorem ba1 (a : Nat) : Builtin.bitAnd (a : Int) 1 = ((a % 2 : Nat) : Int) := by
  have h := ba a 1
  rw [Nat.and_one_is_mod] at h
  exact h
/-- the product without carries -/
def clm (a b : Nat) : Nat := if h : b = 0 then 0 else (if b % 2 = 1 then a else 0) ^^^ clm (2 * a) (b / 2)
termination_by b
decreasing_by omega
theorem clm_zero (a : Nat) : clm a 0 = 0 := by unfold clm; rfl
theorem clm_step (a b : Nat) : clm a b = (if b % 2 = 1 then a else 0) ^^^ clm (2 * a) (b / 2) := by
  by_cases h : b = 0
  · subst h
    rw [clm_zero]
    simp [clm_zero]
  · rw [clm]
    simp [h]
theorem xor4 (a b c d : Nat) : (a ^^^ b) ^^^ (c ^^^ d) = (a ^^^ c) ^^^ (b ^^^ d) := by
  rw [Nat.xor_assoc, Nat.xor_assoc, ← Nat.xor_assoc b c d, Nat.xor_comm b c, Nat.xor_assoc c b d]
theorem two_xor (a b : Nat) : 2 * (a ^^^ b) = (2 * a) ^^^ (2 * b) := by
  have h1 := Nat.xor_div_two (a := 2 * a) (b := 2 * b)
  have h2 := Nat.xor_mod_two_eq_one (a := 2 * a) (b := 2 * b)
  rw [show 2 * a / 2 = a from by omega, show 2 * b / 2 = b from by omega] at h1
  have h3 : ¬ (2 * a ^^^ 2 * b) % 2 = 1 := by rw [h2]; omega
  omega
theorem two_xor1 (k : Nat) : (2 * k) ^^^ 1 = 2 * k + 1 := by
  have h1 := Nat.xor_div_two (a := 2 * k) (b := 1)
  have h2 := Nat.xor_mod_two_eq_one (a := 2 * k) (b := 1)
  rw [show 2 * k / 2 = k from by omega, show 1 / 2 = 0 from rfl, Nat.xor_zero] at h1
  have h3 : (2 * k ^^^ 1) % 2 = 1 := by rw [h2]; omega
  omega
theorem clm_xor_right : ∀ (n : Nat) (a b c : Nat), b + c ≤ n → clm a (b ^^^ c) = clm a b ^^^ clm a c
  | 0, a, b, c, h => by
    obtain ⟨rfl, rfl⟩ : b = 0 ∧ c = 0 := by omega
    simp [clm_zero]
  | n + 1, a, b, c, h => by
    by_cases h0 : b = 0 ∧ c = 0
    · obtain ⟨rfl, rfl⟩ := h0
      simp [clm_zero]
    rw [clm_step a (b ^^^ c), clm_step a b, clm_step a c, Nat.xor_div_two, clm_xor_right n (2 * a) (b / 2) (c / 2) (by omega), xor4]
    congr 1
    have hm := Nat.xor_mod_two_eq_one (a := b) (b := c)
    by_cases h1 : b % 2 = 1 <;> by_cases h2 : c % 2 = 1
    · rw [if_neg (by rw [hm]; simp [h1, h2]), if_pos h1, if_pos h2, Nat.xor_self]
    · rw [if_pos (by rw [hm]; simp [h1, h2]), if_pos h1, if_neg h2, Nat.xor_zero]
    · rw [if_pos (by rw [hm]; simp [h1, h2]), if_neg h1, if_pos h2, Nat.zero_xor]
    · rw [if_neg (by rw [hm]; simp [h1, h2]), if_neg h1, if_neg h2, Nat.xor_zero]
theorem clm_xr (a b c : Nat) : clm a (b ^^^ c) = clm a b ^^^ clm a c := clm_xor_right _ a b c (Nat.le_refl _)
theorem clm_two : ∀ (n a b : Nat), b ≤ n → clm (2 * a) b = 2 * clm a b
  | 0, a, b, h => by
    obtain rfl : b = 0 := by omega
    rw [clm_zero, clm_zero]
  | n + 1, a, b, h => by
    by_cases h0 : b = 0
    · subst h0; rw [clm_zero, clm_zero]
    rw [clm_step (2 * a) b, clm_step a b, clm_two n (2 * a) (b / 2) (by omega), two_xor]
    congr 1
    by_cases h1 : b % 2 = 1
    · rw [if_pos h1, if_pos h1]
    · rw [if_neg h1, if_neg h1]
theorem clm_tl (a b : Nat) : clm (2 * a) b = 2 * clm a b := clm_two b a b (Nat.le_refl _)
theorem clm_xl : ∀ (n a b c : Nat), c ≤ n → clm (a ^^^ b) c = clm a c ^^^ clm b c
  | 0, a, b, c, h => by
    obtain rfl : c = 0 := by omega
    simp [clm_zero]
  | n + 1, a, b, c, h => by
    by_cases h0 : c = 0
    · subst h0; simp [clm_zero]
    rw [clm_step (a ^^^ b) c, clm_step a c, clm_step b c, two_xor, clm_xl n (2 * a) (2 * b) (c / 2) (by omega), xor4]
    congr 1
    by_cases h1 : c % 2 = 1
    · rw [if_pos h1, if_pos h1, if_pos h1]
    · rw [if_neg h1, if_neg h1, if_neg h1, Nat.xor_zero]
theorem clm_xl' (a b c : Nat) : clm (a ^^^ b) c = clm a c ^^^ clm b c := clm_xl c a b c (Nat.le_refl _)
theorem clm_tr (a b : Nat) : clm a (2 * b) = 2 * clm a b := by
  rw [clm_step a (2 * b), if_neg (by omega), Nat.zero_xor, show 2 * b / 2 = b from by omega, clm_tl]
theorem zero_clm : ∀ (n b : Nat), b ≤ n → clm 0 b = 0
  | 0, b, h => by
    obtain rfl : b = 0 := by omega
    exact clm_zero 0
  | n + 1, b, h => by
    by_cases h0 : b = 0
    · subst h0; exact clm_zero 0
    rw [clm_step, zero_clm n (b / 2) (by omega)]
    split <;> rfl
theorem clm_zl (b : Nat) : clm 0 b = 0 := zero_clm b b (Nat.le_refl _)
theorem one_clm : ∀ (n b : Nat), b ≤ n → clm 1 b = b
  | 0, b, h => by
    obtain rfl : b = 0 := by omega
    exact clm_zero 1
  | n + 1, b, h => by
    by_cases h0 : b = 0
    · subst h0; exact clm_zero 1
    rw [clm_step, clm_tl 1, one_clm n (b / 2) (by omega)]
    by_cases h1 : b % 2 = 1
    · rw [if_pos h1]
      rw [Nat.xor_comm, two_xor1]
      omega
    · rw [if_neg h1, Nat.zero_xor]
      omega
theorem clm_ol (b : Nat) : clm 1 b = b := one_clm b b (Nat.le_refl _)
theorem clm_or (a : Nat) : clm a 1 = a := by
  rw [clm_step, if_pos rfl, show 1 / 2 = 0 from rfl, clm_zero, Nat.xor_zero]
theorem split_bit (b : Nat) : b = (2 * (b / 2)) ^^^ (b % 2) := by
  rcases Nat.mod_two_eq_zero_or_one b with h | h
  · rw [h, Nat.xor_zero]; omega
  · rw [h, two_xor1]
    omega
theorem clm_cm : ∀ (n a b : Nat), b ≤ n → clm a b = clm b a
  | 0, a, b, h => by
    obtain rfl : b = 0 := by omega
    rw [clm_zero, clm_zl]
  | n + 1, a, b, h => by
    by_cases h0 : b = 0
    · subst h0; rw [clm_zero, clm_zl]
    have e := split_bit b
    have ih := clm_cm n a (b / 2) (by omega)
    have h1 : clm a b = 2 * clm a (b / 2) ^^^ clm a (b % 2) := by
      conv => lhs; rw [e]
      rw [clm_xr, clm_tr]
    have h2 : clm b a = 2 * clm (b / 2) a ^^^ clm (b % 2) a := by
      conv => lhs; rw [e]
      rw [clm_xl', clm_tl]
    rw [h1, h2, ih]
    congr 1
    rcases Nat.mod_two_eq_zero_or_one b with q | q
    · rw [q, clm_zero, clm_zl]
    · rw [q, clm_or, clm_ol]
theorem clm_comm (a b : Nat) : clm a b = clm b a := clm_cm b a b (Nat.le_refl _)
/-- the same, power by power -/
def pws (a b : Nat) : Nat → Nat
  | 0 => 0
  | n + 1 => pws a b n ^^^ (if b / 2 ^ n % 2 = 1 then a * 2 ^ n else 0)
theorem pws_shift (a b : Nat) : ∀ n : Nat, pws a b (n + 1) = (if b % 2 = 1 then a else 0) ^^^ pws (2 * a) (b / 2) n
  | 0 => by simp [pws]
  | n + 1 => by
    have ih := pws_shift a b n
    show pws a b (n + 1) ^^^ _ = _ ^^^ (pws (2 * a) (b / 2) n ^^^ _)
    rw [ih, Nat.xor_assoc]
    have e1 : b / 2 ^ (n + 1) = b / 2 / 2 ^ n := by rw [Nat.div_div_eq_div_mul, Nat.pow_succ, Nat.mul_comm]
    have e2 : a * 2 ^ (n + 1) = 2 * a * 2 ^ n := by rw [Nat.pow_succ]; ac_rfl
    rw [e1, e2]
theorem pws_clm : ∀ (n a b : Nat), b < 2 ^ n → pws a b n = clm a b
  | 0, a, b, h => by
    obtain rfl : b = 0 := by simp at h; omega
    rw [clm_zero]; rfl
  | n + 1, a, b, h => by
    rw [pws_shift, clm_step, pws_clm n (2 * a) (b / 2) (by rw [Nat.pow_succ] at h; omega)]
end Bt
namespace Bt
open PySem L2
theorem shrN (a k : Nat) : shrG (a : Int) (k : Int) = some ((a / 2 ^ k : Nat) : Int) := by
  rw [shrG_ok (by omega), Int.toNat_natCast, Int.natCast_ediv, Int.natCast_pow]; rfl
theorem shlN {a n : Nat} (k : Nat) (h : a < 2 ^ n) (hn : n + k ≤ 90000000) : shlG (a : Int) (k : Int) = some ((a * 2 ^ k : Nat) : Int) := by
  rw [shlG_ok (n := n) (by omega) (by omega) (by omega), Int.toNat_natCast, Int.natCast_mul, Int.natCast_pow]; rfl
theorem emod_nat {z m : Int} (hm : 0 < m) : ∃ n : Nat, z % m = (n : Int) ∧ (n : Int) < m := by
  obtain ⟨n, hn⟩ := Int.eq_ofNat_of_zero_le (Int.emod_nonneg z (by omega : m ≠ 0))
  exact ⟨n, hn, by rw [← hn]; exact Int.emod_lt_of_pos z hm⟩
theorem testBit_div (x k : Nat) : x.testBit k = decide (x / 2 ^ k % 2 = 1) := by
  rw [Nat.testBit_eq_decide_div_mod_eq]
end Bt

/-! The laws' own draw: the same text in all of them. -/
namespace Bt
open PySem L2
theorem draw_ok (ns : List Int) (k many : Int) (hk : 0 ≤ k) (hk2 : k ≤ 1000000000) (hm : 0 < many) : ∃ v, m__law_draw ns k many = some v ∧ 0 ≤ v ∧ v < many := by
  have hc : ∃ c, (ifB (decide ((0 : Int) < (List.length ns : Int))) (bnd (modG k (List.length ns : Int)) fun t => bnd (atI ns t) fun e => some e) (some (0 : Int))) = some c := by
    by_cases h : (0 : Int) < (List.length ns : Int)
    · rw [decide_eq_true h, ifB_t, modG_ok h, bnd_some]
      obtain ⟨x, hx, _⟩ := atI_mem (xs := ns) (i := k % (ns.length : Int)) (Int.emod_nonneg _ (by omega)) (Int.emod_lt_of_pos _ h)
      exact ⟨x, by rw [hx]; rfl⟩
    · rw [decide_eq_false h]
      exact ⟨0, rfl⟩
  obtain ⟨c, hc⟩ := hc
  refine ⟨(((c % 1000003 + 31 * k * k + 1) * 48271 % 999983) * 7919 % 524287) % many, ?_, Int.emod_nonneg _ (by omega), Int.emod_lt_of_pos _ hm⟩
  unfold m__law_draw
  rw [bnd_of hc, mulG_ok (a := 40) (b := 40) (by omega) (by omega) (by omega), bnd_some, ltv_eq, modG_ok hm, bnd_some]
end Bt

namespace Bt
open PySem L2
def Bits (xs : List Int) : Prop := ∀ b ∈ xs, b = 0 ∨ b = 1
theorem Bits.app {xs ys : List Int} (h : Bits xs) (k : Bits ys) : Bits (xs ++ ys) := fun b hb => by
  rcases List.mem_append.mp hb with q | q
  · exact h b q
  · exact k b q
theorem Bits.one {b : Int} (h : b = 0 ∨ b = 1) : Bits [b] := fun c hc => by rw [List.mem_singleton.mp hc]; exact h
theorem Bits.drop {xs : List Int} (h : Bits xs) (n : Nat) : Bits (xs.drop n) := fun b hb => h b (List.mem_of_mem_drop hb)
theorem Bits.rep {b : Int} (h : b = 0 ∨ b = 1) (n : Nat) : Bits (List.replicate n b) := fun c hc => by rw [List.eq_of_mem_replicate hc]; exact h
def ci (qs : List Nat) : List Int := qs.map fun (q : Nat) => (q : Int)
theorem ci_of : ∀ (l : List Int) (m : Nat), (∀ y ∈ l, ∃ n : Nat, y = (n : Int) ∧ n < m) → ∃ D, l = ci D ∧ ∀ d ∈ D, d < m
  | [], _, _ => ⟨[], rfl, fun _ h => (nomatch h)⟩
  | y :: r, m, h => by
    obtain ⟨n, rfl, hn⟩ := h y (List.Mem.head _)
    obtain ⟨D, rfl, hD⟩ := ci_of r m fun z hz => h z (List.Mem.tail _ hz)
    refine ⟨n :: D, rfl, fun d hd => ?_⟩
    rcases List.mem_cons.mp hd with rfl | hd
    · exact hn
    · exact hD d hd
theorem ci_len (D : List Nat) : (ci D).length = D.length := by simp [ci]
theorem ci_mem {D : List Nat} {x : Int} (h : x ∈ ci D) : ∃ d ∈ D, x = (d : Int) := by
  obtain ⟨d, hd, rfl⟩ := List.mem_map.mp h
  exact ⟨d, hd, rfl⟩
theorem cut_mem {α : Type} {xs : List α} {lo hi : Option Int} {x : α} (h : x ∈ cutL xs lo hi) : x ∈ xs := by
  unfold cutL at h
  exact List.mem_of_mem_drop (List.mem_of_mem_take h)
theorem cut_len {α : Type} (xs : List α) (lo hi : Option Int) : (cutL xs lo hi).length ≤ xs.length := by
  unfold cutL
  rw [List.length_take, List.length_drop]
  omega
theorem draw2 (ns : List Int) (k : Int) (hk : 0 ≤ k) (hk2 : k ≤ 1000000000) : ∃ v, m__law_draw ns k 2 = some v ∧ (v = 0 ∨ v = 1) := by
  obtain ⟨v, h1, h2, h3⟩ := draw_ok ns k 2 hk hk2 (by decide)
  exact ⟨v, h1, by omega⟩
end Bt

/-! The laws' own row of bits, the kind with a truth. -/
namespace Bt
open PySem L2
theorem row_ok (ns : List Int) (many : Int) (h0 : 0 ≤ many) (h1 : many ≤ 1000) : ∃ row, m__law_row ns many = some row ∧ Bits row ∧ row.length = many := by
  unfold m__law_row
  obtain ⟨slow, e1, s1, s2⟩ := draw_ok ns 1 2 (by decide) (by decide) (by decide)
  rw [e1, bnd_some, ltv_eq, rng1_ok (by omega) (by omega), bnd_some]
  obtain ⟨out, e2, hb, hl⟩ := loopM_rng (f := fun k s => m__law_row_L0 ns (decide (slow = 0)) k s) (hi := many) (fun i s => 0 ≤ i ∧ Bits s ∧ (s.length : Int) = i) (fun i s hi ⟨h0, hb, hl⟩ => by
    unfold m__law_row_L0
    obtain ⟨bit, e3, hbit⟩ := draw2 ns (7 + i) (by omega) (by omega)
    rw [e3, bnd_some]
    have hc : ∃ c : Bool, (ifB (decide (slow = 0)) (bnd (ifB (decide ((0 : Int) < i)) (bnd (m__law_draw ns (((3 : Int) * i) + (5 : Int)) (5 : Int)) fun law_dr_22 => some (decide ((0 : Int) < law_dr_22))) (some false)) fun c_26 => some c_26) (some false)) = some c ∧ (c = true → 0 < i) := by
      by_cases a : slow = 0
      · rw [decide_eq_true a, ifB_t]
        by_cases b : 0 < i
        · rw [decide_eq_true b, ifB_t]
          obtain ⟨v, e4, _, _⟩ := draw_ok ns (3 * i + 5) 5 (by omega) (by omega) (by omega)
          rw [e4]
          exact ⟨_, rfl, fun _ => b⟩
        · rw [decide_eq_false b, ifB_f]
          exact ⟨false, rfl, fun q => nomatch q⟩
      · rw [decide_eq_false a, ifB_f]
        exact ⟨false, rfl, fun q => nomatch q⟩
    obtain ⟨c, e5, hc⟩ := hc
    rw [bnd_of e5]
    have hd : ∃ d, (ifB c (bnd (atI s (i - (1 : Int))) fun e => some e) (some bit)) = some d ∧ (d = 0 ∨ d = 1) := by
      cases c with
      | true =>
        have := hc rfl
        obtain ⟨x, e6, hx⟩ := atI_mem (xs := s) (i := i - 1) (by omega) (by omega)
        exact ⟨x, by rw [ifB_t, e6]; rfl, hb x hx⟩
      | false => exact ⟨bit, rfl, hbit⟩
    obtain ⟨d, e6, hd⟩ := hd
    rw [bnd_of e6, appG_ok (by omega), bnd_some]
    exact ⟨_, rfl, by omega, hb.app (Bits.one hd), by simp; omega⟩) _ 0 [] rfl h0 ⟨by omega, fun _ q => (nomatch q), rfl⟩
  rw [e2, bnd_some]
  exact ⟨out, rfl, hl.1, hl.2⟩
end Bt

set_option maxRecDepth 100000
namespace Bt
open PySem L2
def Suf (p : List Int) (n : Nat) (b : Int) : Prop := ∃ t : List Int, p = t ++ List.replicate n b
def Win (p : List Int) (i n : Nat) (b : Int) : Prop := (p.drop i).take n = List.replicate n b ∧ i + n ≤ p.length
/-- the longest run so far -/
structure LR (p : List Int) (best run : Nat) (last : Int) : Prop where
  suf : Suf p run last
  max : ¬ Suf p (run + 1) last
  one : 1 ≤ run
  le : run ≤ best
  hit : ∃ i b, Win p i best b
  no : ∀ i b, ¬ Win p i (best + 1) b
theorem win_app {p : List Int} {i n : Nat} {b : Int} (x : Int) (h : Win p i n b) : Win (p ++ [x]) i n b := by
  obtain ⟨h1, h2⟩ := h
  refine ⟨?_, by rw [List.length_append]; omega⟩
  rw [List.drop_append_of_le_length (by omega), List.take_append_of_le_length (by rw [List.length_drop]; omega)]
  exact h1
theorem win_sub {p : List Int} {i n m : Nat} {b : Int} (h : Win p i n b) (hm : m ≤ n) : Win p i m b := by
  obtain ⟨h1, h2⟩ := h
  refine ⟨?_, by omega⟩
  have := congrArg (List.take m) h1
  rw [List.take_take, List.take_replicate, Nat.min_eq_left hm] at this
  exact this
theorem win_back {p : List Int} {i n : Nat} {b x : Int} (h : Win (p ++ [x]) i n b) (hl : i + n ≤ p.length) : Win p i n b := by
  obtain ⟨h1, h2⟩ := h
  rw [List.drop_append_of_le_length (by omega), List.take_append_of_le_length (by rw [List.length_drop]; omega)] at h1
  exact ⟨h1, hl⟩
theorem suf_sub {p : List Int} {n m : Nat} {b : Int} (h : Suf p n b) (hm : m ≤ n) : Suf p m b := by
  obtain ⟨t, rfl⟩ := h
  refine ⟨t ++ List.replicate (n - m) b, ?_⟩
  rw [List.append_assoc, List.replicate_append_replicate, show n - m + m = n by omega]
theorem suf_win {p : List Int} {n : Nat} {b : Int} (h : Suf p n b) : ∃ i, Win p i n b := by
  obtain ⟨t, rfl⟩ := h
  refine ⟨t.length, ?_, by simp⟩
  rw [List.drop_left]
  exact List.take_of_length_le (by simp)
theorem win_suf {p : List Int} {i n : Nat} {b : Int} (h : Win p i n b) (e : i + n = p.length) : Suf p n b := by
  obtain ⟨h1, h2⟩ := h
  refine ⟨p.take i, ?_⟩
  rw [List.take_of_length_le (by rw [List.length_drop]; omega)] at h1
  rw [← h1, List.take_append_drop]
theorem suf_last {p : List Int} {n : Nat} {b x : Int} (h : Suf (p ++ [x]) (n + 1) b) : b = x ∧ Suf p n b := by
  obtain ⟨t, e⟩ := h
  rw [List.replicate_succ', ← List.append_assoc] at e
  have h1 := List.append_inj_left' e rfl
  have h2 := List.append_inj_right' e rfl
  exact ⟨(List.singleton_inj.mp h2).symm, t, h1⟩
theorem suf_more {p : List Int} {n : Nat} {b : Int} (h : Suf p n b) : Suf (p ++ [b]) (n + 1) b := by
  obtain ⟨t, rfl⟩ := h
  exact ⟨t, by rw [List.append_assoc, List.replicate_succ']⟩
theorem lr_step {p : List Int} {best run : Nat} {last b : Int} (h : LR p best run last) (best' run' : Nat) (hr : run' = if b = last then run + 1 else 1) (hb : best' = if run' > best then run' else best) : LR (p ++ [b]) best' run' b := by
  have hs : Suf (p ++ [b]) run' b ∧ ¬ Suf (p ++ [b]) (run' + 1) b ∧ 1 ≤ run' := by
    by_cases c : b = last
    · subst c
      rw [if_pos rfl] at hr
      subst hr
      exact ⟨suf_more h.suf, fun q => h.max (suf_last q).2, by omega⟩
    · rw [if_neg c] at hr
      subst hr
      refine ⟨⟨p, rfl⟩, fun q => ?_, by omega⟩
      have h1 := (suf_last q).2
      obtain ⟨t, e⟩ := suf_sub h.suf h.one
      subst e
      exact c (suf_last (p := t) (n := 0) h1).1
  obtain ⟨h1, h2, h3⟩ := hs
  have hge : run' ≤ best' ∧ best ≤ best' := by
    rw [hb]
    by_cases c : run' > best
    · rw [if_pos c]; omega
    · rw [if_neg c]; omega
  refine ⟨h1, h2, h3, hge.1, ?_, fun i c w => ?_⟩
  · rw [hb]
    by_cases c : run' > best
    · rw [if_pos c]
      obtain ⟨i, w⟩ := suf_win h1
      exact ⟨i, b, w⟩
    · rw [if_neg c]
      obtain ⟨i, c, w⟩ := h.hit
      exact ⟨i, c, win_app b w⟩
  · have hl := w.2
    rw [List.length_append, List.length_singleton] at hl
    by_cases e : i + (best' + 1) ≤ p.length
    · exact h.no i c (win_sub (win_back w e) (by omega))
    · have s := win_suf w (by rw [List.length_append, List.length_singleton]; omega)
      have := (suf_last s).1
      subst this
      exact h2 (suf_sub s (by omega))
theorem lr_one (b : Int) : LR [b] 1 1 b :=
  ⟨⟨[], rfl⟩, fun ⟨t, e⟩ => by
    have := congrArg List.length e
    simp at this, Nat.le_refl 1, Nat.le_refl 1, ⟨0, b, rfl, by simp⟩, fun i c w => by
    have := w.2
    simp at this⟩
theorem run_step (b : Int) (best run : Nat) (last : Int) : m_longest_run_L0 b best run last = some (((if (if b = last then run + 1 else 1) > best then (if b = last then run + 1 else 1) else best : Nat) : Int), (((if b = last then run + 1 else 1) : Nat) : Int), b) := by
  unfold m_longest_run_L0
  rw [ltv_eq, ifB_dec]
  by_cases c : b = last
  · rw [if_pos c, if_pos c]
    by_cases d : run + 1 > best
    · rw [if_pos (show (run : Int) + 1 > (best : Int) by omega), if_pos d]; rfl
    · rw [if_neg (show ¬ (run : Int) + 1 > (best : Int) by omega), if_neg d]; rfl
  · rw [if_neg c, if_neg c]
    by_cases d : 1 > best
    · rw [if_pos (show (1 : Int) > (best : Int) by omega), if_pos d]; rfl
    · rw [if_neg (show ¬ (1 : Int) > (best : Int) by omega), if_neg d]; rfl
theorem run_loop : ∀ (r p : List Int) (best run : Nat) (last : Int), LR p best run last → ∃ (best' run' : Nat) (last' : Int), loopM (fun x s => m_longest_run_L0 x s.1 s.2.1 s.2.2) r ((best : Int), (run : Int), last) = some ((best' : Int), (run' : Int), last') ∧ LR (p ++ r) best' run' last'
  | [], p, best, run, last, h => ⟨best, run, last, rfl, by rw [List.append_nil]; exact h⟩
  | b :: r, p, best, run, last, h => by
    have h1 := lr_step (b := b) h _ _ rfl rfl
    obtain ⟨b', r', l', e, h2⟩ := run_loop r (p ++ [b]) _ _ b h1
    refine ⟨b', r', l', ?_, by rw [List.append_assoc] at h2; exact h2⟩
    rw [loopM_go (run_step b best run last)]
    exact e
/-- what the longest run is -/
theorem longest_ok (xs : List Int) (hb : Bits xs) : ∃ n : Nat, m_longest_run xs = some (n : Int) ∧ ((n = 0 ∧ xs = []) ∨ (1 ≤ n ∧ (∃ i b, Win xs i n b) ∧ ∀ i b, ¬ Win xs i (n + 1) b)) := by
  unfold m_longest_run
  rw [ltv_eq]
  cases xs with
  | nil => exact ⟨0, rfl, .inl ⟨rfl, rfl⟩⟩
  | cons b r =>
    have h0 := hb b (List.Mem.head _)
    have e0 : m_longest_run_L0 b 0 0 (-1) = some (1, 1, b) := by
      unfold m_longest_run_L0
      rw [ltv_eq, decide_eq_false (show ¬ b = -1 by omega)]
      rfl
    obtain ⟨n, run, last, e, h⟩ := run_loop r [b] 1 1 b (lr_one b)
    refine ⟨n, ?_, .inr ⟨Nat.le_trans h.one h.le, h.hit, h.no⟩⟩
    have e' : loopM (fun x s => m_longest_run_L0 x s.1 s.2.1 s.2.2) r ((1 : Int), (1 : Int), b) = some ((n : Int), (run : Int), last) := e
    rw [loopM_go (s' := ((1 : Int), (1 : Int), b)) e0, e']
    rfl
/-! the law's own look at it -/
theorem sum_bits : ∀ {xs : List Int}, Bits xs → 0 ≤ xs.sum ∧ xs.sum ≤ xs.length
  | [], _ => by simp
  | x :: r, h => by
    have ih := sum_bits (xs := r) fun b hb => h b (List.Mem.tail _ hb)
    have hx := h x (List.Mem.head _)
    simp only [List.sum_cons, List.length_cons]
    omega
theorem sum_all : ∀ {xs : List Int}, Bits xs → (xs.sum = 0 → xs = List.replicate xs.length 0) ∧ (xs.sum = xs.length → xs = List.replicate xs.length 1)
  | [], _ => ⟨fun _ => rfl, fun _ => rfl⟩
  | x :: r, h => by
    have hr : Bits r := fun b hb => h b (List.Mem.tail _ hb)
    have hx := h x (List.Mem.head _)
    have h1 := sum_bits hr
    obtain ⟨h2, h3⟩ := sum_all hr
    rw [List.sum_cons, List.length_cons, List.replicate_succ, List.replicate_succ]
    refine ⟨fun e => ?_, fun e => ?_⟩
    · have hx0 : x = 0 := by omega
      rw [← h2 (by omega), hx0]
    · have hx1 : x = 1 := by omega
      rw [← h3 (by omega), hx1]
theorem sum_mod {w : List Int} (hb : Bits w) (h0 : w ≠ []) (h : w.sum % w.length = 0) : ∃ b, w = List.replicate w.length b := by
  obtain ⟨h1, h2⟩ := sum_bits hb
  obtain ⟨h3, h4⟩ := sum_all hb
  have hl : 0 < w.length := List.length_pos_iff.mpr h0
  by_cases c : w.sum = w.length
  · exact ⟨1, h4 c⟩
  · rw [Int.emod_eq_of_lt h1 (by omega)] at h
    exact ⟨0, h3 h⟩
theorem sum_rep (n : Nat) (b : Int) : (List.replicate n b).sum = n * b := by
  induction n with
  | zero => simp
  | succ n ih =>
    rw [List.replicate_succ, List.sum_cons, ih]
    rw [Int.natCast_succ, Int.add_mul, Int.one_mul, Int.add_comm]
theorem cut_win (xs : List Int) (i n : Nat) (h : i + n ≤ xs.length) : cutL xs (some (i : Int)) (some ((i : Int) + (n : Int))) = (xs.drop i).take n := by
  unfold cutL
  rw [show (i : Int) + (n : Int) = ((i + n : Nat) : Int) by omega, HT.sIx_nat, HT.sIx_nat, Nat.min_eq_left (show i ≤ xs.length by omega), Nat.min_eq_left h, Nat.add_sub_cancel_left]
theorem fits_ok (xs : List Int) (hb : Bits xs) (hz : xs.length ≤ 1000) : ∃ n, m_longest_run xs = some n ∧ m__law_run_fits xs n = some true := by
  obtain ⟨n, e, h⟩ := longest_ok xs hb
  refine ⟨n, e, ?_⟩
  have hn : n ≤ xs.length := by
    rcases h with ⟨h, _⟩ | ⟨_, ⟨i, b, w⟩, _⟩
    · omega
    · have := w.2; omega
  unfold m__law_run_fits m__law_whole
  rw [bnd_some, decide_eq_false (show ¬ (n : Int) < 0 by omega), decide_eq_false (show ¬ (xs.length : Int) < (n : Int) by omega), show ((!(true && (!false))) || (false || false)) = false from rfl, ifB_f, ltv_eq, rng1_ok (by omega) (by omega), bnd_some]
  have hL0 : ∀ (k : Nat) (hit : Bool), k + n ≤ xs.length → ∃ hit', m__law_run_fits_L0 xs n k hit = some hit' ∧ (hit = true → hit' = true) ∧ ((1 ≤ n ∧ ∃ b, Win xs k n b) → hit' = true) := fun k hit hk => by
    unfold m__law_run_fits_L0
    by_cases c : 0 < n
    · rw [decide_eq_true (show (0 : Int) < (n : Int) by omega), ifB_t, cut_win xs k n hk, modG_ok (by omega), bnd_some, bnd_some]
      by_cases d : ((xs.drop k).take n).sum % (n : Int) = 0
      · exact ⟨true, by rw [decide_eq_true d, ifB_t], fun _ => rfl, fun _ => rfl⟩
      · refine ⟨hit, by rw [decide_eq_false d, ifB_f], fun q => q, fun ⟨_, b, w⟩ => ?_⟩
        rw [w.1, sum_rep] at d
        exact absurd (Int.mul_emod_right _ _) d
    · rw [decide_eq_false (show ¬ (0 : Int) < (n : Int) by omega), ifB_f, bnd_some, ifB_f]
      exact ⟨hit, rfl, fun q => q, fun ⟨q, _⟩ => absurd q (by omega)⟩
  obtain ⟨out, e2, j, h1, h2⟩ := loopM_rng (f := fun k s => m__law_run_fits_L0 xs n k s) (hi := (xs.length : Int) - n + 1) (fun k s => ∃ j : Nat, k = (j : Int) ∧ ((n = 0 ∨ ∃ i b, i < j ∧ Win xs i n b) → s = true)) (fun k s hk ⟨j, h1, h2⟩ => by
    subst h1
    obtain ⟨s', e3, h3, h4⟩ := hL0 j s (by omega)
    refine ⟨s', e3, j + 1, by omega, fun q => ?_⟩
    rcases q with q | ⟨i, b, hi, w⟩
    · exact h3 (h2 (.inl q))
    · by_cases c : i = j
      · subst c
        by_cases d : n = 0
        · exact h3 (h2 (.inl d))
        · exact h4 ⟨by omega, b, w⟩
      · exact h3 (h2 (.inr ⟨i, b, by omega, w⟩))) _ 0 (decide ((n : Int) = 0)) rfl (by omega) ⟨0, rfl, fun q => by
      rcases q with q | ⟨i, b, hi, _⟩
      · exact decide_eq_true (by omega)
      · omega⟩
  have hout : out = true := by
    refine h2 ?_
    rcases h with ⟨h, _⟩ | ⟨_, ⟨i, b, w⟩, _⟩
    · exact .inl h
    · have := w.2
      exact .inr ⟨i, b, by omega, w⟩
  rw [e2, bnd_some, rng1_ok (by omega) (by omega), bnd_some, loopF_unit (fun k hk => by
    have hk := mem_rangeI hk
    obtain ⟨j, rfl⟩ := Int.eq_ofNat_of_zero_le hk.1
    unfold m__law_run_fits_L1
    have hl : j + (n + 1) ≤ xs.length := by omega
    rw [show (j : Int) + (n : Int) + 1 = (j : Int) + ((n + 1 : Nat) : Int) by omega, cut_win xs j (n + 1) hl, modG_ok (by omega), bnd_some]
    have hd : ¬ ((xs.drop j).take (n + 1)).sum % ((n : Int) + 1) = 0 := fun q => by
      have hwl : ((xs.drop j).take (n + 1)).length = n + 1 := by rw [List.length_take, List.length_drop]; omega
      obtain ⟨b, eb⟩ := sum_mod (w := (xs.drop j).take (n + 1)) (fun c hc => hb c (List.mem_of_mem_drop (List.mem_of_mem_take hc))) (fun z => by rw [z] at hwl; simp at hwl) (by rw [hwl]; exact q)
      rw [hwl] at eb
      rcases h with ⟨_, h⟩ | ⟨_, _, h⟩
      · subst h
        simp at hl
      · exact h j b ⟨eb, hl⟩
    rw [decide_eq_false hd, ifB_f]), fin_nx, hout]
/-! the changes -/
theorem xor1 {b : Int} (h : b = 0 ∨ b = 1) : Builtin.bitXor b 1 = 1 - b := by
  rcases h with rfl | rfl <;> decide
theorem set_bits {l : List Int} (h : Bits l) {p : Nat} {b : Int} (hb : b = 0 ∨ b = 1) : Bits (l.set p b) := fun c hc => by
  rcases List.mem_or_eq_of_mem_set hc with q | q
  · exact h c q
  · rw [q]; exact hb
theorem both_loops (n : Nat) : ∀ (P : List Nat) (l : List Int) (post : List Int), Bits l → l.length = n → (∀ p ∈ P, p < n) →
    ∃ l', loopM (fun a s => m_law_L0 a s) (ci P) l = some l' ∧ Bits l' ∧ l'.length = n ∧ loopF (fun a s => m_changed_L0 a s) (ci P ++ post) l = loopF (fun a s => m_changed_L0 a s) post l'
  | [], l, post, hb, hl, _ => ⟨l, rfl, hb, hl, rfl⟩
  | p :: P, l, post, hb, hl, h => by
    have hp := h p (List.Mem.head _)
    have hx := hb _ (List.getElem_mem (show p < l.length by omega))
    have ha : atI l (p : Int) = some l[p] := by
      rw [atI_ok (by omega) (by omega), Int.toNat_natCast, List.getElem?_eq_getElem (by omega)]
    have h1 : m_law_L0 p l = some (l.set p (1 - l[p])) := by
      unfold m_law_L0
      rw [ha, bnd_some, setG_ok (by omega) (by omega), bnd_some, Int.toNat_natCast]
    have h2 : m_changed_L0 p l = some (.nx (l.set p (1 - l[p]))) := by
      unfold m_changed_L0
      rw [decide_eq_false (show ¬ (p : Int) < 0 by omega), decide_eq_false (show ¬ (l.length : Int) ≤ (p : Int) by omega), Bool.or_false, ifB_f, ha, bnd_some, setG_ok (by omega) (by omega), bnd_some, Int.toNat_natCast, xor1 hx]
    obtain ⟨l', e1, e2, e3, e4⟩ := both_loops n P (l.set p (1 - l[p])) post (set_bits hb (by omega)) (by rw [List.length_set]; exact hl) fun z hz => h z (List.Mem.tail _ hz)
    refine ⟨l', ?_, e2, e3, ?_⟩
    · show loopM _ ((p : Int) :: ci P) _ = _
      rw [loopM_go h1, e1]
    · show loopF _ ((p : Int) :: (ci P ++ post)) _ = _
      rw [loopF_go h2, e4]
theorem places_ok (ns : List Int) (hn : ns.length ≤ 63) (many : Nat) (hm : many ≤ 1000) : ∃ P : List Nat, m__law_places ns many = some (ci P) ∧ (∀ p ∈ P, p < many) ∧ P.length ≤ 200 := by
  unfold m__law_places
  by_cases c : 0 < many
  · have hc := cut_len ns none (some (24 : Int))
    rw [decide_eq_true (show (0 : Int) < (many : Int) by omega), ifB_t, rng1_ok (by omega) (by omega), bnd_some]
    obtain ⟨out, e2, h0, P, rfl, h1, h2⟩ := loopM_rng (f := fun k s => m__law_places_L0 ns many k s) (hi := (cutL ns none (some (24 : Int))).length) (fun i s => 0 ≤ i ∧ ∃ P : List Nat, s = ci P ∧ (∀ p ∈ P, p < many) ∧ (P.length : Int) ≤ 2 * i) (fun i s hi ⟨h0, P, e, h1, h2⟩ => by
      subst e
      unfold m__law_places_L0
      obtain ⟨d, e3, d0, d1⟩ := draw_ok ns (100 + i) many (by omega) (by omega) (by omega)
      obtain ⟨p, rfl⟩ := Int.eq_ofNat_of_zero_le d0
      obtain ⟨x, hx, _⟩ := atI_mem (xs := ns) (i := i) h0 (by omega)
      have ea : ci P ++ [(p : Int)] = ci (P ++ [p]) := by simp [ci]
      have hP : ∀ q ∈ P ++ [p], q < many := fun q hq => by
        rcases List.mem_append.mp hq with hq | hq
        · exact h1 q hq
        · rw [List.mem_singleton.mp hq]; omega
      rw [e3, bnd_some, appG_ok (by rw [ci_len]; omega), bnd_some, hx, bnd_some, ea]
      by_cases q : x % 3 = 1
      · have hl : (ci (P ++ [p])).length = P.length + 1 := by rw [ci_len]; simp
        obtain ⟨d2, e4, f0, f1⟩ := draw_ok ns (200 + i) ((ci (P ++ [p])).length : Int) (by omega) (by omega) (by omega)
        obtain ⟨y, hy, my⟩ := atI_mem (xs := ci (P ++ [p])) (i := d2) f0 f1
        obtain ⟨z, hz, rfl⟩ := ci_mem my
        rw [decide_eq_true q, ifB_t, e4, bnd_some, hy, bnd_some, appG_ok (by omega), bnd_some]
        refine ⟨_, rfl, by omega, P ++ [p] ++ [z], by simp [ci], fun w hw => ?_, by simp; omega⟩
        rcases List.mem_append.mp hw with hw | hw
        · exact hP w hw
        · rw [List.mem_singleton.mp hw]; exact hP z hz
      · rw [decide_eq_false q, ifB_f]
        exact ⟨_, rfl, by omega, P ++ [p], rfl, hP, by simp; omega⟩) _ 0 [] rfl (by omega) ⟨by omega, [], rfl, fun _ h => (nomatch h), by simp⟩
    rw [e2, bnd_some, bnd_some]
    exact ⟨P, rfl, h1, by omega⟩
  · rw [decide_eq_false (show ¬ (0 : Int) < (many : Int) by omega), ifB_f, bnd_some]
    exact ⟨[], rfl, fun _ h => (nomatch h), by decide⟩
theorem cut_nat {α : Type} (xs : List α) (n : Nat) : cutL xs none (some (n : Int)) = xs.take n := by
  unfold cutL
  rw [show HT.sIx xs.length 0 none = 0 from rfl, HT.sIx_nat, List.drop_zero, Nat.sub_zero]
  by_cases h : n ≤ xs.length
  · rw [Nat.min_eq_left h]
  · rw [Nat.min_eq_right (by omega), List.take_of_length_le (Nat.le_refl _), List.take_of_length_le (by omega)]
theorem cut_from {α : Type} (xs : List α) (n : Nat) (h : n ≤ xs.length) : cutL xs (some (n : Int)) none = xs.drop n := by
  unfold cutL
  rw [HT.sIx_nat, show HT.sIx xs.length xs.length none = xs.length from rfl, Nat.min_eq_left h]
  exact List.take_of_length_le (by rw [List.length_drop]; exact Nat.le_refl _)
theorem law_true (ns : List Int) (hn : ns.length ≤ 63) : m_law ns = some true := by
  unfold m_law
  obtain ⟨a, e1, h1, h2⟩ := draw_ok ns 0 61 (by decide) (by decide) (by decide)
  obtain ⟨b, e2, h3, h4⟩ := draw_ok ns 2 6 (by decide) (by decide) (by decide)
  obtain ⟨a, rfl⟩ := Int.eq_ofNat_of_zero_le h1
  obtain ⟨m, e3, hm⟩ : ∃ m : Nat, (ifB (decide (b = (1 : Int))) (some ((a : Int) + (340 : Int))) (some (a : Int))) = some (m : Int) ∧ m ≤ 400 := by
    by_cases c : b = 1
    · exact ⟨a + 340, by rw [decide_eq_true c, ifB_t]; rfl, by omega⟩
    · exact ⟨a, by rw [decide_eq_false c, ifB_f], by omega⟩
  rw [e1, bnd_some, e2, bnd_some]
  show bnd (ifB (decide (b = (1 : Int))) (some ((a : Int) + (340 : Int))) (some (a : Int))) _ = _
  rw [bnd_of e3]
  obtain ⟨row, e4, hb, hl⟩ := row_ok ns m (by omega) (by omega)
  have hl' : row.length = m := by omega
  obtain ⟨P, e5, hP, hlP⟩ := places_ok ns hn m (by omega)
  obtain ⟨due, e6, hbd, hld, e7⟩ := both_loops m P row [] hb hl' hP
  rw [List.append_nil] at e7
  have ec : m_changed row (ci P) = some (.ok due) := by
    unfold m_changed
    rw [e7]
    rfl
  rw [e4, bnd_some, e5, bnd_some, e6, bnd_some]
  show bndO (m_changed row (ci P)) _ = _
  rw [ec, bndO_ok, decide_eq_true rfl, decide_eq_true rfl]
  show fin _ _ = _
  rw [loopF_unit (fun _ _ => rfl), fin_nx]
  obtain ⟨c, e8⟩ : ∃ c, m__law_cell_at ns 4 = some c := by
    unfold m__law_cell_at
    by_cases q : (4 : Int) < (ns.length : Int)
    · obtain ⟨x, hx, _⟩ := atI_mem (xs := ns) (i := 4) (by decide) q
      exact ⟨x, by rw [decide_eq_true q, ifB_t, hx, bnd_some]⟩
    · exact ⟨0, by rw [decide_eq_false q, ifB_f]⟩
  have ep : powG 10 20 = some (10 ^ (20 : Int).toNat) := grd_of (by decide)
  obtain ⟨d, e9, d0, d1⟩ := draw_ok ns 3 400 (by decide) (by decide) (by decide)
  obtain ⟨w, e10, w0, w1⟩ := draw_ok ns 5 3 (by decide) (by decide) (by decide)
  rw [e8, bnd_some, ep, bnd_some, modG_ok (by decide), bnd_some, e9, bnd_some, e10, bnd_some]
  have hM : 0 ≤ c % (10 : Int) ^ (20 : Int).toNat := Int.emod_nonneg _ (by decide)
  generalize c % (10 : Int) ^ (20 : Int).toNat = M at hM
  obtain ⟨far, e11, hfar⟩ : ∃ far : Int, atI ([((-(1 : Int)) - d), (m : Int), (((m : Int) + (1 : Int)) + M)]) w = some far ∧ (far < 0 ∨ (m : Int) ≤ far) := by
    have hw : w = 0 ∨ w = 1 ∨ w = 2 := by omega
    rcases hw with rfl | rfl | rfl
    · exact ⟨_, rfl, by omega⟩
    · exact ⟨_, rfl, by omega⟩
    · exact ⟨_, rfl, by omega⟩
  have ec0 : m_changed row [] = some (.ok row) := rfl
  rw [e11, bnd_some, appG_ok (by omega), bnd_some, show atI [row, ci P] (0 : Int) = some row from rfl, bnd_some, ec0, bndO_ok, decide_eq_true (rfl : row = row), show ((!true) || (!true)) = false from rfl, ifB_f, appG_ok (by omega), bnd_some, popL_ok, bnd_some]
  dsimp only
  rw [decide_eq_true (rfl : due = due), show ((!true) || (!true)) = false from rfl, ifB_f]
  obtain ⟨at_, e12, a0, a1⟩ := draw_ok ns 6 ((ci P).length + 1 : Int) (by decide) (by decide) (by omega)
  obtain ⟨at_, rfl⟩ := Int.eq_ofNat_of_zero_le a0
  rw [ci_len] at a1
  rw [e12, bnd_some, cut_nat, catG_ok (by simp [ci_len]; omega), bnd_some, cut_from _ _ (by rw [ci_len]; omega), catG_ok (by simp [ci_len]; omega), bnd_some]
  have er : m_changed row ((ci P).take at_ ++ [far] ++ (ci P).drop at_) = some (.er .NoBits) := by
    have ea : (ci P).take at_ ++ [far] ++ (ci P).drop at_ = ci (P.take at_) ++ (far :: (ci P).drop at_) := by
      rw [List.append_assoc]
      simp [ci, List.map_take]
    obtain ⟨l', _, _, hl3, e13⟩ := both_loops m (P.take at_) row (far :: (ci P).drop at_) hb hl' fun p hp => hP p (List.mem_of_mem_take hp)
    unfold m_changed
    rw [ea, e13]
    have ef : m_changed_L0 far l' = some (.rt (.er .NoBits)) := by
      unfold m_changed_L0
      have : (decide (far < (0 : Int)) || decide ((List.length l' : Int) ≤ far)) = true := by
        rw [Bool.or_eq_true, decide_eq_true_eq, decide_eq_true_eq]
        omega
      rw [this, ifB_t]
    show fin (bnd (m_changed_L0 far l') _) _ = _
    rw [ef]
    rfl
  have eR : m__law_refused row ((ci P).take at_ ++ [far] ++ (ci P).drop at_) = some true := by
    unfold m__law_refused
    rw [er]
    rfl
  rw [eR, bnd_some, Bool.not_true, ifB_f]
  obtain ⟨n1, g1, g2⟩ := fits_ok row hb (by omega)
  obtain ⟨n2, g3, g4⟩ := fits_ok due hbd (by omega)
  rw [bnd_some, g1, bnd_some, g3, bnd_some, ifB_f, show atI [n1, n2] (0 : Int) = some n1 from rfl, bnd_some, g2, bnd_some, ifB_t, show atI [n1, n2] (1 : Int) = some n2 from rfl, bnd_some, g4]
  rfl
end Bt

open PySem PySem.W PyProof.Rows in
set_option maxRecDepth 100000 in
set_option maxHeartbeats 0 in
theorem PySem.Challenge.cw_bitrail_k03_bits_changed_holds : PySem.Challenge.rw_bitrail_k03_bits_changed.Holds := by
  w_on; o_law; k_head; (case hw => w_witness2)
  k_fill
  refine Bt.walk Bt.law_true (l := PySem.Challenge.rw_bitrail_k03_bits_changed) rfl rfl (fun w h Y => PySem.W.kIn_of Y) ?F
  case F =>
    intro w mg fa h KX G hmg
    obtain ⟨f_changed, fd_changed, F_changed, g_changed⟩ : ∃ f fd, L2.Fun _ "changed" "changed" Bt.s_changed f fd ∧ mg "changed" = some (.ref f) := by
      refine' Bt.def_mk KX G ?a ?l ?c ?k
      (case a => k_is)
      (case l => k_is)
      (case c => k_is)
      (case k => k_is)
    obtain ⟨f_longest_run, fd_longest_run, F_longest_run, g_longest_run⟩ : ∃ f fd, L2.Fun _ "longest_run" "longest_run" Bt.s_longest_run f fd ∧ mg "longest_run" = some (.ref f) := by
      refine' Bt.def_mk KX G ?a ?l ?c ?k
      (case a => k_is)
      (case l => k_is)
      (case c => k_is)
      (case k => k_is)
    obtain ⟨f__law_cell_at, fd__law_cell_at, F__law_cell_at, g__law_cell_at⟩ : ∃ f fd, L2.Fun _ "_law_cell_at" "_law_cell_at" Bt.s__law_cell_at f fd ∧ mg "_law_cell_at" = some (.ref f) := by
      refine' Bt.def_mk KX G ?a ?l ?c ?k
      (case a => k_is)
      (case l => k_is)
      (case c => k_is)
      (case k => k_is)
    obtain ⟨f__law_draw, fd__law_draw, F__law_draw, g__law_draw⟩ : ∃ f fd, L2.Fun _ "_law_draw" "_law_draw" Bt.s__law_draw f fd ∧ mg "_law_draw" = some (.ref f) := by
      refine' Bt.def_mk KX G ?a ?l ?c ?k
      (case a => k_is)
      (case l => k_is)
      (case c => k_is)
      (case k => k_is)
    obtain ⟨f__law_row, fd__law_row, F__law_row, g__law_row⟩ : ∃ f fd, L2.Fun _ "_law_row" "_law_row" Bt.s__law_row f fd ∧ mg "_law_row" = some (.ref f) := by
      refine' Bt.def_mk KX G ?a ?l ?c ?k
      (case a => k_is)
      (case l => k_is)
      (case c => k_is)
      (case k => k_is)
    obtain ⟨f__law_places, fd__law_places, F__law_places, g__law_places⟩ : ∃ f fd, L2.Fun _ "_law_places" "_law_places" Bt.s__law_places f fd ∧ mg "_law_places" = some (.ref f) := by
      refine' Bt.def_mk KX G ?a ?l ?c ?k
      (case a => k_is)
      (case l => k_is)
      (case c => k_is)
      (case k => k_is)
    obtain ⟨f__law_whole, fd__law_whole, F__law_whole, g__law_whole⟩ : ∃ f fd, L2.Fun _ "_law_whole" "_law_whole" Bt.s__law_whole f fd ∧ mg "_law_whole" = some (.ref f) := by
      refine' Bt.def_mk KX G ?a ?l ?c ?k
      (case a => k_is)
      (case l => k_is)
      (case c => k_is)
      (case k => k_is)
    obtain ⟨f__law_run_fits, fd__law_run_fits, F__law_run_fits, g__law_run_fits⟩ : ∃ f fd, L2.Fun _ "_law_run_fits" "_law_run_fits" Bt.s__law_run_fits f fd ∧ mg "_law_run_fits" = some (.ref f) := by
      refine' Bt.def_mk KX G ?a ?l ?c ?k
      (case a => k_is)
      (case l => k_is)
      (case c => k_is)
      (case k => k_is)
    obtain ⟨f__law_refused, fd__law_refused, F__law_refused, g__law_refused⟩ : ∃ f fd, L2.Fun _ "_law_refused" "_law_refused" Bt.s__law_refused f fd ∧ mg "_law_refused" = some (.ref f) := by
      refine' Bt.def_mk KX G ?a ?l ?c ?k
      (case a => k_is)
      (case l => k_is)
      (case c => k_is)
      (case k => k_is)
    obtain ⟨f_law, fd_law, F_law, g_law⟩ : ∃ f fd, L2.Fun _ "law" "law" Bt.s_law f fd ∧ mg "law" = some (.ref f) := by
      refine' Bt.def_mk KX G ?a ?l ?c ?k
      (case a => k_is)
      (case l => k_is)
      (case c => k_is)
      (case k => k_is)
    have z_bool : mg "bool" = none := PySem.W.mg_none_of KX G (by k_is)
    have z_int : mg "int" = none := PySem.W.mg_none_of KX G (by k_is)
    have z_isinstance : mg "isinstance" = none := PySem.W.mg_none_of KX G (by k_is)
    have z_len : mg "len" = none := PySem.W.mg_none_of KX G (by k_is)
    have z_list : mg "list" = none := PySem.W.mg_none_of KX G (by k_is)
    have z_max : mg "max" = none := PySem.W.mg_none_of KX G (by k_is)
    have z_range : mg "range" = none := PySem.W.mg_none_of KX G (by k_is)
    have z_sum : mg "sum" = none := PySem.W.mg_none_of KX G (by k_is)
    obtain ⟨es, n_NoBits, e_NoBits, x_NoBits_NoBits⟩ : ∃ es : Bt.Eds, mg "NoBits" = some (.ref es.NoBits) ∧ Bt.ErrC _ mg "NoBits" es.NoBits ∧ PySem.W.exmOne _ (.ref es.NoBits) (.ref es.NoBits) = some true := by
      refine' Bt.pack KX G ?a_NoBits ?e_NoBits ?k_NoBits ?s_NoBits ?t_NoBits ?d_NoBits ?xp_NoBits_NoBits
      (case a_NoBits => k_is)
      (case e_NoBits => first | k_exc | k_is | decide +kernel)
      (case k_NoBits => k_is)
      (case s_NoBits => k_is)
      (case t_NoBits => k_is)
      (case d_NoBits => k_is)
      (case xp_NoBits_NoBits => k_is)
    cases hmg.symm.trans g_law
    refine ⟨fd_law, ?_, fun base _ _ => Bt.ok_law (ad := ⟨f_changed, fd_changed, f_longest_run, fd_longest_run, f__law_cell_at, fd__law_cell_at, f__law_draw, fd__law_draw, f__law_row, fd__law_row, f__law_places, fd__law_places, f__law_whole, fd__law_whole, f__law_run_fits, fd__law_run_fits, f__law_refused, fd__law_refused, fa, fd_law, es⟩) ⟨F_changed, g_changed, F_changed.binds (ps := ["bits", "places"]) fun _ _ _ _ _ _ us hl => match us, hl with | [_, _], _ => rfl, F_longest_run, g_longest_run, F_longest_run.binds (ps := ["bits"]) fun _ _ _ _ _ _ us hl => match us, hl with | [_], _ => rfl, F__law_cell_at, g__law_cell_at, F__law_cell_at.binds (ps := ["script", "k"]) fun _ _ _ _ _ _ us hl => match us, hl with | [_, _], _ => rfl, F__law_draw, g__law_draw, F__law_draw.binds (ps := ["script", "k", "many"]) fun _ _ _ _ _ _ us hl => match us, hl with | [_, _, _], _ => rfl, F__law_row, g__law_row, F__law_row.binds (ps := ["script", "many"]) fun _ _ _ _ _ _ us hl => match us, hl with | [_, _], _ => rfl, F__law_places, g__law_places, F__law_places.binds (ps := ["script", "many"]) fun _ _ _ _ _ _ us hl => match us, hl with | [_, _], _ => rfl, F__law_whole, g__law_whole, F__law_whole.binds (ps := ["found"]) fun _ _ _ _ _ _ us hl => match us, hl with | [_], _ => rfl, F__law_run_fits, g__law_run_fits, F__law_run_fits.binds (ps := ["bits", "size"]) fun _ _ _ _ _ _ us hl => match us, hl with | [_, _], _ => rfl, F__law_refused, g__law_refused, F__law_refused.binds (ps := ["bits", "places"]) fun _ _ _ _ _ _ us hl => match us, hl with | [_, _], _ => rfl, F_law, g_law, F_law.binds (ps := ["script"]) fun _ _ _ _ _ _ us hl => match us, hl with | [_], _ => rfl, z_bool, z_int, z_isinstance, z_len, z_list, z_max, z_range, z_sum, e_NoBits, x_NoBits_NoBits⟩⟩
    obtain ⟨oc, od, kV, doc, pm, an, cdv, ct, osl, rfl, lk, hcd⟩ := F_law.ex
    exact fun s u => .of_eq rfl
