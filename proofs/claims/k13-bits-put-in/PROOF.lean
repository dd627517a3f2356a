import PyProof.Rows.All
import Wide.All
import OpenK.AllK
import Wide.FinOn
import HandS.ForMost
import HandS.Exc
import HandS.TryOnly
import HandS.ExcOwn
import HandS.WordsExc
import HandS.IsInst
import HandS.Wide
import HandS.WideBits
import HandS.Flow
import HandS.Evl
import PySem.Challenge.RW_bitrail_k13_bits_put_in
set_option Elab.async false
set_option linter.all false
set_option maxRecDepth 100000
set_option maxHeartbeats 4000000
/-! The base of all proofs over bitrail: owned cells over a frame, and the readings' steps, one a construct. -/
namespace Bt
open PySem L2

/-! ### owned cells -/
abbrev Cell := Addr × HO
abbrev Ex (H H' : Hp) : Prop := ∀ a o, H a = some o → H' a = some o
theorem Ex.refl (H : Hp) : Ex H H := fun _ _ h => h
theorem Ex.trans {H H1 H2 : Hp} (a : Ex H H1) (b : Ex H1 H2) : Ex H H2 := fun x o h => b x o (a x o h)
theorem Ex.new {H : Hp} {p : Addr} {o : HO} (h : H p = none) : Ex H (upd H p o) := fun a u e => by
  rw [upd_ne (ne_of_none e h)]
  exact e
theorem Ex.back {H H' : Hp} {p : Addr} (e : Ex H H') (h : H' p = none) : H p = none := by
  cases h1 : H p with
  | none => rfl
  | some o =>
    rw [e p o h1] at h
    cases h
theorem Ex.rd {H H' : Hp} {a : Addr} {u : HO} (e : Ex H H') (h : Rd H a u) : Rd H' a u := by
  rcases h with h | ⟨o, h⟩
  · exact Or.inl (e a _ h)
  · exact Or.inr ⟨o, e a _ h⟩
theorem Ex.l {K : PySem.W.Frag} {H H' : Hp} {a : Addr} {xs : List V} (e : Ex H H') (h : SqL K H a xs) : SqL K H' a xs := by
  rcases h with h | h
  · exact Or.inl (e.rd h)
  · exact Or.inr h
theorem Ex.t {K : PySem.W.Frag} {H H' : Hp} {a : Addr} {xs : List V} (e : Ex H H') (h : SqT K H a xs) : SqT K H' a xs := by
  rcases h with h | h
  · exact Or.inl (e.rd h)
  · exact Or.inr h

/-- H holds the frame R, and beside it the cells L, at unlike places that R does not know -/
structure Own (R H : Hp) (L : List Cell) : Prop where
  ex : Ex R H
  at_ : ∀ c ∈ L, H c.1 = some c.2
  fr : ∀ c ∈ L, R c.1 = none
  nd : (L.map (·.1)).Nodup

section
variable {R H H' : Hp} {L L' A B C : List Cell} {a p q : Addr} {o o' : HO}
theorem Own.start (H : Hp) : Own H H [] := ⟨Ex.refl H, fun _ h => (nomatch h), fun _ h => (nomatch h), List.Pairwise.nil⟩
theorem Own.mem (O : Own R H L) (h : (a, o) ∈ L) : H a = some o := O.at_ _ h
theorem Own.g0 {c1 : Cell} (O : Own R H (c1 :: L)) : H c1.1 = some c1.2 := O.at_ _ (List.Mem.head _)
theorem Own.tl {c1 : Cell} (O : Own R H (c1 :: L)) : Own R H L :=
  ⟨O.ex, fun c h => O.at_ c (List.Mem.tail _ h), fun c h => O.fr c (List.Mem.tail _ h), (List.nodup_cons.mp O.nd).2⟩
theorem Own.ext (O : Own R H L) (e : Ex H H') : Own R H' L := ⟨O.ex.trans e, fun c h => e _ _ (O.at_ c h), O.fr, O.nd⟩
theorem Own.notin (O : Own R H L) (h : H p = none) : p ∉ L.map (·.1) := fun m => by
  obtain ⟨c, hc, e⟩ := List.mem_map.mp m
  have := O.at_ c hc
  rw [e, h] at this
  cases this
theorem Own.ext1 (O : Own R H L) (e : Ex H H') (h : H p = none) (h' : H' p = some o) : Own R H' ((p, o) :: L) :=
  ⟨O.ex.trans e, fun c hc => by
    rcases List.mem_cons.mp hc with rfl | hc
    · exact h'
    · exact e _ _ (O.at_ c hc), fun c hc => by
    rcases List.mem_cons.mp hc with rfl | hc
    · exact O.ex.back h
    · exact O.fr c hc, List.nodup_cons.mpr ⟨O.notin h, O.nd⟩⟩
theorem Own.new (O : Own R H L) (h : H p = none) : Own R (upd H p o) ((p, o) :: L) := O.ext1 (Ex.new h) h upd_same
/-- more cells, owned over H -/
theorem Own.app (O : Own R H L) (N : Own H H' A) : Own R H' (A ++ L) :=
  ⟨O.ex.trans N.ex, fun c hc => by
    rcases List.mem_append.mp hc with hc | hc
    · exact N.at_ c hc
    · exact N.ex _ _ (O.at_ c hc), fun c hc => by
    rcases List.mem_append.mp hc with hc | hc
    · exact O.ex.back (N.fr c hc)
    · exact O.fr c hc, by
    rw [List.map_append]
    refine List.nodup_append.mpr ⟨N.nd, O.nd, fun x hx y hy e => ?_⟩
    subst e
    obtain ⟨c, hc, e⟩ := List.mem_map.mp hx
    have := N.fr c hc
    rw [e] at this
    exact O.notin this hy⟩
theorem Own.put (O : Own R H (A ++ (p, o) :: B)) : Own R (upd H p o') (A ++ (p, o') :: B) := by
  have nd := O.nd
  rw [List.map_append, List.map_cons] at nd
  have nA : p ∉ A.map (·.1) := fun m => by
    have := (List.nodup_append.mp nd).2.2
    exact this _ m p (List.Mem.head _) rfl
  have nB : p ∉ B.map (·.1) := (List.nodup_cons.mp (List.nodup_append.mp nd).2.1).1
  have hp : R p = none := O.fr (p, o) (by simp)
  refine ⟨fun b u e => ?_, fun c hc => ?_, fun c hc => ?_, by rw [List.map_append, List.map_cons]; exact nd⟩
  · rw [upd_ne (ne_of_none e hp)]
    exact O.ex _ _ e
  · rcases List.mem_append.mp hc with hA | hc
    · rw [upd_ne (fun e : c.1 = p => nA (by rw [← e]; exact List.mem_map_of_mem hA))]
      exact O.at_ c (List.mem_append.mpr (Or.inl hA))
    · rcases List.mem_cons.mp hc with rfl | hB
      · exact upd_same
      · rw [upd_ne (fun e : c.1 = p => nB (by rw [← e]; exact List.mem_map_of_mem hB))]
        exact O.at_ c (List.mem_append.mpr (Or.inr (List.mem_cons_of_mem _ hB)))
  · rcases List.mem_append.mp hc with hA | hc
    · exact O.fr c (List.mem_append.mpr (Or.inl hA))
    · rcases List.mem_cons.mp hc with rfl | hB
      · exact hp
      · exact O.fr c (List.mem_append.mpr (Or.inr (List.mem_cons_of_mem _ hB)))
theorem Own.put0 (O : Own R H ((p, o) :: B)) : Own R (upd H p o') ((p, o') :: B) := Own.put (A := []) O
theorem Own.put1 {c1 : Cell} (O : Own R H (c1 :: (p, o) :: B)) : Own R (upd H p o') (c1 :: (p, o') :: B) := Own.put (A := [c1]) O
theorem Own.put2 {c1 c2 : Cell} (O : Own R H (c1 :: c2 :: (p, o) :: B)) : Own R (upd H p o') (c1 :: c2 :: (p, o') :: B) := Own.put (A := [c1, c2]) O
theorem Own.put3 {c1 c2 c3 : Cell} (O : Own R H (c1 :: c2 :: c3 :: (p, o) :: B)) : Own R (upd H p o') (c1 :: c2 :: c3 :: (p, o') :: B) := Own.put (A := [c1, c2, c3]) O
theorem Own.put4 {c1 c2 c3 c4 : Cell} (O : Own R H (c1 :: c2 :: c3 :: c4 :: (p, o) :: B)) : Own R (upd H p o') (c1 :: c2 :: c3 :: c4 :: (p, o') :: B) := Own.put (A := [c1, c2, c3, c4]) O
theorem Own.put5 {c1 c2 c3 c4 c5 : Cell} (O : Own R H (c1 :: c2 :: c3 :: c4 :: c5 :: (p, o) :: B)) : Own R (upd H p o') (c1 :: c2 :: c3 :: c4 :: c5 :: (p, o') :: B) := Own.put (A := [c1, c2, c3, c4, c5]) O
theorem Own.put6 {c1 c2 c3 c4 c5 c6 : Cell} (O : Own R H (c1 :: c2 :: c3 :: c4 :: c5 :: c6 :: (p, o) :: B)) : Own R (upd H p o') (c1 :: c2 :: c3 :: c4 :: c5 :: c6 :: (p, o') :: B) := Own.put (A := [c1, c2, c3, c4, c5, c6]) O
theorem Own.perm (O : Own R H L) (e : L.Perm L') : Own R H L' :=
  ⟨O.ex, fun c h => O.at_ c (e.mem_iff.mpr h), fun c h => O.fr c (e.mem_iff.mpr h), (e.map _).nodup_iff.mp O.nd⟩
/-- fewer cells -/
theorem Own.sub (O : Own R H L) (e : L'.Sublist L) : Own R H L' :=
  ⟨O.ex, fun c h => O.at_ c (e.subset h), fun c h => O.fr c (e.subset h), List.Nodup.sublist (e.map _) O.nd⟩
/-- THE FRAME: what is done to some of the cells, the others being its frame -/
theorem Own.focus (O : Own R H (A ++ B)) : ∃ R', Own R' H A ∧ Ex R R' ∧ (∀ c ∈ B, R' c.1 = some c.2) ∧ ∀ H' A', Own R' H' A' → Own R H' (A' ++ B) := by
  have nd := O.nd
  rw [List.map_append] at nd
  obtain ⟨ndA, ndB, dis⟩ := List.nodup_append.mp nd
  refine ⟨fun b => if b ∈ A.map (·.1) then none else H b, ⟨fun b u e => ?_, fun c h => O.at_ c (List.mem_append.mpr (Or.inl h)), fun c h => if_pos (List.mem_map_of_mem h), ndA⟩, fun b u e => ?_, fun c hc => ?_, fun H' A' O' => ?_⟩
  · by_cases hb : b ∈ A.map (·.1)
    · rw [if_pos hb] at e; cases e
    · rw [if_neg hb] at e; exact e
  · have hb : b ∉ A.map (·.1) := fun m => by
      obtain ⟨c, hc, e1⟩ := List.mem_map.mp m
      have := O.fr c (List.mem_append.mpr (Or.inl hc))
      rw [e1, e] at this
      cases this
    show (if b ∈ A.map (·.1) then none else H b) = some u
    rw [if_neg hb]
    exact O.ex _ _ e
  · have hb : c.1 ∉ A.map (·.1) := fun m => dis _ m _ (List.mem_map_of_mem hc) rfl
    show (if c.1 ∈ A.map (·.1) then none else H c.1) = some c.2
    rw [if_neg hb]
    exact O.at_ c (List.mem_append.mpr (Or.inr hc))
  · have hB : ∀ c ∈ B, (if c.1 ∈ A.map (·.1) then none else H c.1) = some c.2 := fun c hc => by
      have hb : c.1 ∉ A.map (·.1) := fun m => dis _ m _ (List.mem_map_of_mem hc) rfl
      rw [if_neg hb]
      exact O.at_ c (List.mem_append.mpr (Or.inr hc))
    have hR : ∀ b u, R b = some u → (if b ∈ A.map (·.1) then none else H b) = some u := fun b u e => by
      have hb : b ∉ A.map (·.1) := fun m => by
        obtain ⟨c, hc, e1⟩ := List.mem_map.mp m
        have := O.fr c (List.mem_append.mpr (Or.inl hc))
        rw [e1, e] at this
        cases this
      rw [if_neg hb]
      exact O.ex _ _ e
    refine ⟨fun b u e => O'.ex _ _ (hR b u e), fun c hc => ?_, fun c hc => ?_, ?_⟩
    · rcases List.mem_append.mp hc with hc | hc
      · exact O'.at_ c hc
      · exact O'.ex _ _ (hB c hc)
    · rcases List.mem_append.mp hc with hc | hc
      · cases e : R c.1 with
        | none => rfl
        | some u =>
          have := O'.fr c hc
          rw [hR _ _ e] at this
          cases this
      · exact O.fr c (List.mem_append.mpr (Or.inr hc))
    · rw [List.map_append]
      refine List.nodup_append.mpr ⟨O'.nd, ndB, fun x hx y hy e => ?_⟩
      subst e
      obtain ⟨c, hc, e⟩ := List.mem_map.mp hx
      obtain ⟨d, hd, e2⟩ := List.mem_map.mp hy
      have h1 := O'.fr c hc
      have h2 := hB d hd
      rw [e2, ← e, h1] at h2
      cases h2
/-- the frame may be what is there now: all else is kept -/
theorem Own.over (O : Own R H L) : Own H H [] := Own.start H
end

/-! ### what a call hands back: a value; a new list; a new tuple -/
def RetV (v : V) (H : Hp) (Q : VK) : Prop := ∀ H', Ex H H' → Q v H'
def RetL (xs : List V) (H : Hp) (Q : VK) : Prop := ∀ p H', H p = none → Ex H H' → H' p = some (.lst xs) → Q (.ref p) H'
def RetT (xs : List V) (H : Hp) (Q : VK) : Prop := ∀ p H', H p = none → Ex H H' → H' p = some (.tup xs) → Q (.ref p) H'
/-- any new cells, as D says -/
def RetN (D : V → List Cell → Prop) (H : Hp) (Q : VK) : Prop := ∀ v H' L, Own H H' L → D v L → Q v H'
section
variable {R H : Hp} {L : List Cell} {Q : VK} {v : V} {xs : List V}
theorem Own.retV (O : Own R H L) (k : ∀ H', Own R H' L → Q v H') : RetV v H Q := fun H' e => k H' (O.ext e)
theorem Own.retL (O : Own R H L) (k : ∀ p H', Own R H' ((p, .lst xs) :: L) → Q (.ref p) H') : RetL xs H Q := fun p H' h e h' => k p H' (O.ext1 e h h')
theorem Own.retT (O : Own R H L) (k : ∀ p H', Own R H' ((p, .tup xs) :: L) → Q (.ref p) H') : RetT xs H Q := fun p H' h e h' => k p H' (O.ext1 e h h')
theorem Own.retN {D : V → List Cell → Prop} (O : Own R H L) (k : ∀ v H' N, Own R H' (N ++ L) → D v N → Q v H') : RetN D H Q := fun v H' N o d => k v H' N (O.app o) d
/-- the end of a def that started at H: what it hands back is new -/
theorem RetV.go {H0 H : Hp} {L : List Cell} {v : V} {Q : VK} (k : RetV v H0 Q) (O : Own H0 H L) : Q v H := k H O.ex
theorem RetL.go {H0 H : Hp} {L : List Cell} {xs : List V} {Q : VK} {p : Addr} (k : RetL xs H0 Q) (O : Own H0 H L) (h : (p, HO.lst xs) ∈ L) : Q (.ref p) H := k p H (O.fr _ h) O.ex (O.at_ _ h)
theorem RetT.go {H0 H : Hp} {L : List Cell} {xs : List V} {Q : VK} {p : Addr} (k : RetT xs H0 Q) (O : Own H0 H L) (h : (p, HO.tup xs) ∈ L) : Q (.ref p) H := k p H (O.fr _ h) O.ex (O.at_ _ h)
theorem RetN.go {H0 H : Hp} {L N : List Cell} {D : V → List Cell → Prop} {Q : VK} {v : V} (k : RetN D H0 Q) (O : Own H0 H L) (e : N.Sublist L) (d : D v N) : Q v H := k v H N (O.sub e) d
end

end Bt

set_option Elab.async false
set_option linter.all false
set_option maxRecDepth 100000
set_option maxHeartbeats 4000000
/-! The mirror's words (partial functions: none where the program would stop), and the steps that join a reading with its mirror. -/
namespace Bt
open PySem L2

/-! ### the mirror's words -/
section
variable {α β γ S R T : Type}
def ltv (a : α) (f : α → Option β) : Option β := f a
theorem ltvE {a : α} {f : α → Option β} {r : β} (h : ltv a f = some r) : ∃ x, a = x ∧ f x = some r := ⟨a, rfl, h⟩
def bnd (a : Option α) (f : α → Option β) : Option β := match a with
  | some x => f x
  | none => none
theorem bndE {a : Option α} {f : α → Option β} {r : β} (h : bnd a f = some r) : ∃ x, a = some x ∧ f x = some r := by
  cases a with
  | none => cases h
  | some x => exact ⟨x, rfl, h⟩
def ifB (c : Bool) (a b : α) : α := match c with
  | true => a
  | false => b
theorem ifT {c : Bool} {a b r : α} (h : ifB c a b = r) (hc : c = true) : a = r := by subst hc; exact h
theorem ifF {c : Bool} {a b r : α} (h : ifB c a b = r) (hc : c = false) : b = r := by subst hc; exact h
inductive Fl (S R : Type) where
  | nx (s : S)
  | rt (r : R)
  | bk (s : S)
def finK (rest : S → Option R) : Fl S R → Option R
  | .nx s => rest s
  | .rt r => some r
  | .bk _ => none
def fin (a : Option (Fl S R)) (rest : S → Option R) : Option R := bnd a (finK rest)
def floK (rest : S → Option (Fl T R)) : Fl S R → Option (Fl T R)
  | .nx s => rest s
  | .rt r => some (.rt r)
  | .bk _ => none
def flo (a : Option (Fl S R)) (rest : S → Option (Fl T R)) : Option (Fl T R) := bnd a (floK rest)
theorem finRt {rest : S → Option R} {v r : R} (h : finK rest (.rt v) = some r) : v = r := Option.some.inj h
theorem floRt {rest : S → Option (Fl T R)} {v : R} {fl : Fl T R} (h : floK rest (.rt v) = some fl) : Fl.rt v = fl := Option.some.inj h
def loopM (f : α → S → Option S) : List α → S → Option S
  | [], s => some s
  | x :: r, s => bnd (f x s) (loopM f r)
theorem loopM_nil {f : α → S → Option S} {s out : S} (h : loopM f [] s = some out) : out = s := (Option.some.inj h).symm
theorem loopM_cons {f : α → S → Option S} {x : α} {r : List α} {s out : S} (h : loopM f (x :: r) s = some out) : ∃ s', f x s = some s' ∧ loopM f r s' = some out := bndE h
def contF (go : S → Option (Fl S R)) : Fl S R → Option (Fl S R)
  | .nx s => go s
  | .rt r => some (.rt r)
  | .bk s => some (.nx s)
def loopF (f : α → S → Option (Fl S R)) : List α → S → Option (Fl S R)
  | [], s => some (.nx s)
  | x :: r, s => bnd (f x s) (contF (loopF f r))
theorem loopF_nil {f : α → S → Option (Fl S R)} {s : S} {out : Fl S R} (h : loopF f [] s = some out) : Fl.nx s = out := Option.some.inj h
theorem loopF_cons {f : α → S → Option (Fl S R)} {x : α} {r : List α} {s : S} {out : Fl S R} (h : loopF f (x :: r) s = some out) : ∃ fl, f x s = some fl ∧ contF (loopF f r) fl = some out := bndE h
theorem contRt {go : S → Option (Fl S R)} {v : R} {out : Fl S R} (h : contF go (.rt v) = some out) : Fl.rt v = out := Option.some.inj h
theorem contBk {go : S → Option (Fl S R)} {s : S} {out : Fl S R} (h : contF go (.bk s) = some out) : Fl.nx s = out := Option.some.inj h
def whileM (c : S → Option Bool) (f : S → Option S) : Nat → S → Option S
  | 0, _ => none
  | n + 1, s => bnd (c s) fun b => ifB b (bnd (f s) (whileM c f n)) (some s)
theorem whileM_zero {c : S → Option Bool} {f : S → Option S} {s out : S} (h : whileM c f 0 s = some out) : False := nomatch h
theorem whileM_succ {c : S → Option Bool} {f : S → Option S} {n : Nat} {s out : S} (h : whileM c f (n + 1) s = some out) : ∃ b, c s = some b ∧ ifB b (bnd (f s) (whileM c f n)) (some s) = some out := bndE h
def whileF (c : S → Option Bool) (f : S → Option (Fl S R)) : Nat → S → Option (Fl S R)
  | 0, _ => none
  | n + 1, s => bnd (c s) fun b => ifB b (bnd (f s) (contF (whileF c f n))) (some (.nx s))
theorem whileF_succ {c : S → Option Bool} {f : S → Option (Fl S R)} {n : Nat} {s : S} {out : Fl S R} (h : whileF c f (n + 1) s = some out) : ∃ b, c s = some b ∧ ifB b (bnd (f s) (contF (whileF c f n))) (some (.nx s)) = some out := bndE h
/-- a comprehension: what is kept, in order -/
def compM (f : α → Option β) : List α → List β → Option (List β)
  | [], acc => some acc
  | x :: r, acc => bnd (f x) fun y => if acc.length < 16777216 then compM f r (acc ++ [y]) else none
theorem compM_cons {f : α → Option β} {x : α} {r : List α} {acc out : List β} (h : compM f (x :: r) acc = some out) : ∃ y, f x = some y ∧ acc.length < 16777216 ∧ compM f r (acc ++ [y]) = some out := by
  obtain ⟨y, h1, h2⟩ := bndE (show bnd (f x) (fun y => if acc.length < 16777216 then compM f r (acc ++ [y]) else none) = some out from h)
  by_cases c : acc.length < 16777216
  · rw [if_pos c] at h2
    exact ⟨y, h1, c, h2⟩
  · rw [if_neg c] at h2
    cases h2
theorem compM_nil {f : α → Option β} {acc out : List β} (h : compM f [] acc = some out) : out = acc := (Option.some.inj h).symm
/-- .. with a test -/
def compT (c : α → Option Bool) (f : α → Option β) : List α → List β → Option (List β)
  | [], acc => some acc
  | x :: r, acc => bnd (c x) fun b => ifB b (bnd (f x) fun y => if acc.length < 16777216 then compT c f r (acc ++ [y]) else none) (compT c f r acc)
theorem compT_nil {c : α → Option Bool} {f : α → Option β} {acc out : List β} (h : compT c f [] acc = some out) : out = acc := (Option.some.inj h).symm
theorem compT_cons {c : α → Option Bool} {f : α → Option β} {x : α} {r : List α} {acc out : List β} (h : compT c f (x :: r) acc = some out) :
    ∃ b, c x = some b ∧ ifB b (bnd (f x) fun y => if acc.length < 16777216 then compT c f r (acc ++ [y]) else none) (compT c f r acc) = some out := bndE h
theorem compT_yes {c : α → Option Bool} {f : α → Option β} {x : α} {r : List α} {acc out : List β} (h : (bnd (f x) fun y => if acc.length < 16777216 then compT c f r (acc ++ [y]) else none) = some out) :
    ∃ y, f x = some y ∧ acc.length < 16777216 ∧ compT c f r (acc ++ [y]) = some out := by
  obtain ⟨y, h1, h2⟩ := bndE h
  by_cases c : acc.length < 16777216
  · rw [if_pos c] at h2
    exact ⟨y, h1, c, h2⟩
  · rw [if_neg c] at h2
    cases h2
end
section
variable {α : Type}
def grd (c : Prop) [Decidable c] (a : α) : Option α := if c then some a else none
theorem grdE {c : Prop} [Decidable c] {a r : α} (h : grd c a = some r) : c ∧ a = r := by
  unfold grd at h
  by_cases hc : c
  · rw [if_pos hc] at h
    exact ⟨hc, Option.some.inj h⟩
  · rw [if_neg hc] at h
    cases h
theorem grd_of {c : Prop} [Decidable c] {a : α} (h : c) : grd c a = some a := if_pos h
def appG (xs : List α) (y : α) : Option (List α) := grd (xs.length < 16777216) (xs ++ [y])
def catG (xs ys : List α) : Option (List α) := grd (xs.length + ys.length ≤ 16777216) (xs ++ ys)
def repL (xs : List α) : Nat → List α
  | 0 => []
  | n + 1 => xs ++ repL xs n
def repG (xs : List α) (k : Int) : Option (List α) := grd (-(2 ^ 63) ≤ k ∧ k < 2 ^ 63 ∧ xs.length * k.toNat ≤ 16777216) (List.flatten (List.replicate k.toNat xs))
def setG (xs : List α) (i : Int) (y : α) : Option (List α) := match ixN xs.length i with
  | some j => some (xs.set j y)
  | none => none
def cutL (xs : List α) (lo hi : Option Int) : List α := (xs.drop (HT.sIx xs.length 0 lo)).take (HT.sIx xs.length xs.length hi - HT.sIx xs.length 0 lo)
def rangeI (lo hi : Int) : List Int := (List.range (hi - lo).toNat).map fun (i : Nat) => lo + (i : Int)
def rng1 (hi : Int) : Option (List Int) := grd (-(2 ^ 62) ≤ hi ∧ hi < 2 ^ 62) (rangeI 0 hi)
def rng2 (lo hi : Int) : Option (List Int) := grd (-(2 ^ 62) ≤ lo ∧ lo < 2 ^ 62 ∧ -(2 ^ 62) ≤ hi ∧ hi < 2 ^ 62) (rangeI lo hi)
end
def modG (i j : Int) : Option Int := grd (0 < j) (i % j)
def fdivG (i j : Int) : Option Int := grd (0 < j ∧ j.natAbs.log2 < 9000) (i / j)
def mulG (i j : Int) : Option Int := grd (i.natAbs.log2 + j.natAbs.log2 < 1000000) (i * j)
def shlG (i j : Int) : Option Int := grd (0 ≤ j ∧ (Builtin.Int.intBits i : Int) + j ≤ 2 ^ 27) (i * 2 ^ j.toNat)
def shrG (i j : Int) : Option Int := grd (0 ≤ j) (i / 2 ^ j.toNat)
def powG (i j : Int) : Option Int := grd (0 ≤ j ∧ j ≤ 1000000 ∧ i.natAbs < 2 ^ 64) (i ^ j.toNat)

/-! ### the steps -/
section
variable {K : PySem.W.Frag} {σ : St} {H R : Hp} {L : List Cell} {Q : VK} {i j t : Int} {x y z v : V} {a b p q : Addr} {α : Type} {f : α → V} {xs ys zs : List α} {xs' ys' : List Int}
theorem k_mul (h : mulG i j = some t) (k : Q (.int t) H) : rI CMulW (fun i j => .int (i * j)) (.int i) (.int j) H Q := by
  obtain ⟨c, rfl⟩ := grdE h
  exact ⟨_, _, rfl, rfl, c, k⟩
theorem k_mod (h : modG i j = some t) (k : Q (.int t) H) : rI (fun _ j => 0 < j) (fun i j => .int (i % j)) (.int i) (.int j) H Q := by
  obtain ⟨c, rfl⟩ := grdE h
  exact ⟨_, _, rfl, rfl, c, k⟩
theorem k_fdiv (h : fdivG i j = some t) (k : Q (.int t) H) : rI CDivW (fun i j => .int (i / j)) (.int i) (.int j) H Q := by
  obtain ⟨c, rfl⟩ := grdE h
  exact ⟨_, _, rfl, rfl, c, k⟩
theorem k_shl (h : shlG i j = some t) (k : Q (.int t) H) : rI CShl (fun i j => .int (i * 2 ^ j.toNat)) (.int i) (.int j) H Q := by
  obtain ⟨c, rfl⟩ := grdE h
  exact ⟨_, _, rfl, rfl, c, k⟩
theorem k_shr (h : shrG i j = some t) (k : Q (.int t) H) : rI (fun _ j => 0 ≤ j) (fun i j => .int (i / 2 ^ j.toNat)) (.int i) (.int j) H Q := by
  obtain ⟨c, rfl⟩ := grdE h
  exact ⟨_, _, rfl, rfl, c, k⟩
theorem k_pow (h : powG i j = some t) (k : Q (.int t) H) : rI CPow (fun i j => .int (i ^ j.toNat)) (.int i) (.int j) H Q := by
  obtain ⟨c, rfl⟩ := grdE h
  exact ⟨_, _, rfl, rfl, c, k⟩
theorem dec_int (i j : Int) : decide (V.int i = V.int j) = decide (i = j) := by
  by_cases h : i = j
  · subst h; simp
  · have : ¬ V.int i = V.int j := fun e => h (V.int.inj e)
    simp [h, this]
theorem dec_bl (i j : Bool) : decide (V.bl i = V.bl j) = decide (i = j) := by
  by_cases h : i = j
  · subst h; simp
  · have : ¬ V.bl i = V.bl j := fun e => h (V.bl.inj e)
    simp [h, this]
theorem dec_str (i j : Str) : decide (V.str i = V.str j) = decide (i = j) := by
  by_cases h : i = j
  · subst h; simp
  · have : ¬ V.str i = V.str j := fun e => h (V.str.inj e)
    simp [h, this]
theorem k_eqI (k : Q (.bl (decide (i = j))) H) : rEq (.int i) (.int j) H Q := ⟨rfl, by rw [dec_int]; exact k⟩
theorem k_neI (k : Q (.bl (!decide (i = j))) H) : rNe (.int i) (.int j) H Q := ⟨rfl, by rw [dec_int]; exact k⟩
theorem k_eqB {c d : Bool} (k : Q (.bl (decide (c = d))) H) : rEq (.bl c) (.bl d) H Q := ⟨rfl, by rw [dec_bl]; exact k⟩
theorem k_neB {c d : Bool} (k : Q (.bl (!decide (c = d))) H) : rNe (.bl c) (.bl d) H Q := ⟨rfl, by rw [dec_bl]; exact k⟩
theorem k_eqS {c d : Str} (k : Q (.bl (decide (c = d))) H) : rEq (.str c) (.str d) H Q := ⟨rfl, by rw [dec_str]; exact k⟩
theorem k_neS {c d : Str} (k : Q (.bl (!decide (c = d))) H) : rNe (.str c) (.str d) H Q := ⟨rfl, by rw [dec_str]; exact k⟩
/-! deep == of flat lists -/
theorem dpI : ∀ (ns : List Int), DpAll K H (ns.map V.int) (ns.map PyData.int)
  | [] => .nil
  | n :: r => .cons (.int n) (dpI r)
theorem dpB : ∀ (ns : List Bool), DpAll K H (ns.map V.bl) (ns.map PyData.bool)
  | [] => .nil
  | n :: r => .cons (.bl n) (dpB r)
theorem dpS : ∀ (ns : List Str), DpAll K H (ns.map V.str) (ns.map PyData.str)
  | [] => .nil
  | n :: r => .cons (.str n) (dpS r)

theorem sh_I (ns : List Int) : SeqAt.shaped (.list (ns.map PyData.int)) = true := by
  have h1 : ∀ ns : List Int, PyData.canLayAll0 (ns.map PyData.int) = true := fun ns => by
    induction ns with
    | nil => rfl
    | cons n r ih => simpa [PyData.canLayAll0, PyData.canLay0] using ih
  have h2 : ∀ ns : List Int, PyData.depthAll (ns.map PyData.int) = 0 := fun ns => by
    induction ns with
    | nil => rfl
    | cons n r ih => simpa [PyData.depthAll, PyData.depth] using ih
  simp [SeqAt.shaped, PyData.canLay0, h1, PyData.depth, h2]
theorem sh_B (ns : List Bool) : SeqAt.shaped (.list (ns.map PyData.bool)) = true := by
  have h1 : ∀ ns : List Bool, PyData.canLayAll0 (ns.map PyData.bool) = true := fun ns => by
    induction ns with
    | nil => rfl
    | cons n r ih => simpa [PyData.canLayAll0, PyData.canLay0] using ih
  have h2 : ∀ ns : List Bool, PyData.depthAll (ns.map PyData.bool) = 0 := fun ns => by
    induction ns with
    | nil => rfl
    | cons n r ih => simpa [PyData.depthAll, PyData.depth] using ih
  simp [SeqAt.shaped, PyData.canLay0, h1, PyData.depth, h2]
theorem ev_I : ∀ (ns ms : List Int), PyData.eqv (.list (ns.map PyData.int)) (.list (ms.map PyData.int)) = decide (ns = ms) := by
  have h : ∀ (ns ms : List Int), PyData.eqvAll (ns.map PyData.int) (ms.map PyData.int) = decide (ns = ms) := fun ns => by
    induction ns with
    | nil => intro ms; cases ms <;> simp [PyData.eqvAll]
    | cons n r ih =>
      intro ms
      cases ms with
      | nil => simp [PyData.eqvAll]
      | cons m s =>
        simp only [List.map_cons, PyData.eqvAll, PyData.eqv, ih, List.cons.injEq, Bool.decide_and]
        rw [Bool.beq_eq_decide_eq]
  exact fun ns ms => by simpa only [PyData.eqv] using h ns ms
theorem k_eqLI (ha : SqL K H a (xs'.map V.int)) (hb : SqL K H b (ys'.map V.int)) (k : Q (.bl (decide (xs' = ys'))) H) : rEqD K (.ref a) (.ref b) H Q :=
  ⟨_, _, .lst ha (dpI _), .lst hb (dpI _), sh_I _, sh_I _, by rw [ev_I]; exact k⟩
theorem k_neLI (ha : SqL K H a (xs'.map V.int)) (hb : SqL K H b (ys'.map V.int)) (k : Q (.bl (!decide (xs' = ys'))) H) : rNeD K (.ref a) (.ref b) H Q :=
  ⟨_, _, .lst ha (dpI _), .lst hb (dpI _), sh_I _, sh_I _, by rw [ev_I]; exact k⟩
/-! lists -/
theorem k_len (h : SqL K H a (xs.map f)) (k : Q (.int (xs.length : Int)) H) : ∃ p ys, [V.ref a] = [V.ref p] ∧ (SqL K H p ys ∨ SqT K H p ys) ∧ Q (.int ys.length) H :=
  ⟨a, _, rfl, .inl h, by rw [List.length_map]; exact k⟩
theorem k_list (O : Own R H L) {ys : List V} (h : SqL K H a ys) (k : ∀ p H', Own R H' ((p, .lst ys) :: L) → Q (.ref p) H') : ∃ p ys, [V.ref a] = [V.ref p] ∧ (SqL K H p ys ∨ SqT K H p ys) ∧ ∀ l, H l = none → Q (.ref l) (upd H l (.lst ys)) :=
  ⟨a, _, rfl, .inl h, fun l hl => k l _ (O.new hl)⟩
theorem k_sum (h : SqL K H a (xs'.map V.int)) (k : Q (.int xs'.sum) H) : rSum K [.ref a] H Q := ⟨a, _, rfl, h, k⟩
theorem k_new {zs : List V} (O : Own R H L) (k : ∀ p H', Own R H' ((p, .lst zs) :: L) → Q (.ref p) H') : ∀ p, H p = none → Q (.ref p) (upd H p (.lst zs)) := fun p hp => k p _ (O.new hp)
theorem k_newT {zs : List V} (O : Own R H L) (k : ∀ p H', Own R H' ((p, .tup zs) :: L) → Q (.ref p) H') : ∀ p, H p = none → Q (.ref p) (upd H p (.tup zs)) := fun p hp => k p _ (O.new hp)
theorem at_map {xs : List α} {i : Int} {x : α} (h : atI xs i = some x) (f : α → V) : atI (xs.map f) i = some (f x) := by
  unfold atI at h ⊢
  rw [List.length_map]
  cases e : ixN xs.length i with
  | none => rw [e] at h; cases h
  | some j =>
    rw [e] at h
    show (xs.map f)[j]? = some (f x)
    rw [List.getElem?_map, (show xs[j]? = some x from h)]
    rfl
theorem k_ixL {x : α} (hs : SqL K H a (xs.map f)) (h : atI xs i = some x) (k : Q (f x) H) : rIxL K (.ref a) (.int i) H Q := ⟨a, _, i, _, rfl, rfl, hs, at_map h f, k⟩
theorem map_snoc (xs : List α) (x : α) (f : α → V) : xs.map f ++ [f x] = (xs ++ [x]).map f := by rw [List.map_append]; rfl
theorem k_app {x : α} {g : HO → List Cell} (hl : H a = some (.lst (xs.map f))) (hp : ∀ o', Own R (upd H a o') (g o')) (h : appG xs x = some ys) (k : ∀ H', Own R H' (g (.lst (ys.map f))) → Q .non H') : rAppend (.ref a) [f x] H Q := by
  obtain ⟨c, rfl⟩ := grdE h
  refine ⟨a, _, _, rfl, rfl, hl, by rw [List.length_map]; exact c, ?_⟩
  rw [map_snoc]
  exact k _ (hp _)
theorem map_cut (xs : List α) (lo hi : Option Int) (f : α → V) : cutV (xs.map f) lo hi = (cutL xs lo hi).map f := by
  unfold cutV cutL
  rw [List.length_map, ← List.map_drop, ← List.map_take]
theorem k_cut {lo hi : Option Int} (O : Own R H L) (hs : SqL K H a (xs.map f)) (k : ∀ p H', Own R H' ((p, .lst ((cutL xs lo hi).map f)) :: L) → Q (.ref p) H') : rSlL K (.ref a) lo hi H Q :=
  ⟨a, _, rfl, hs, fun p hp => by rw [map_cut]; exact k p _ (O.new hp)⟩
theorem k_cat {ys zs : List α} (O : Own R H L) (h1 : H a = some (.lst (xs.map f))) (h2 : H b = some (.lst (ys.map f))) (h : catG xs ys = some zs) (k : ∀ p H', Own R H' ((p, .lst (zs.map f)) :: L) → Q (.ref p) H') : rCat (.ref a) (.ref b) H Q := by
  obtain ⟨c, rfl⟩ := grdE h
  exact ⟨a, b, _, _, rfl, rfl, h1, h2, by rw [List.length_map, List.length_map]; exact c, fun p hp => by rw [← List.map_append]; exact k p _ (O.new hp)⟩
theorem k_setL {x : α} {g : HO → List Cell} {QH : Hp → Prop} (hl : H a = some (.lst (xs.map f))) (hp : ∀ o', Own R (upd H a o') (g o')) (h : setG xs i x = some ys) (k : ∀ H', Own R H' (g (.lst (ys.map f))) → QH H') : rSetL (.ref a) (.int i) (f x) H QH := by
  unfold setG at h
  cases e : ixN xs.length i with
  | none => rw [e] at h; cases h
  | some j =>
    rw [e] at h
    cases h
    refine ⟨a, _, i, j, rfl, rfl, hl, by rw [List.length_map]; exact e, ?_⟩
    have e2 : (xs.map f).set j (f x) = (xs.set j x).map f := by rw [List.map_set]
    rw [e2]
    exact k _ (hp _)
/-! tests with two sides: what the one is asked for, the other is not seen -/
theorem x_and {c d e : Bool} {tt uu : TT} {QB : Bool → Hp → Prop} (O : Own R H L) (h1 : ∀ Q1 : Bool → Hp → Prop, (∀ H', Own R H' L → Q1 c H') → tt σ H Q1) (h2 : c = true → e = d ∧ ∀ H', Own R H' L → ∀ Q2 : Bool → Hp → Prop, (∀ H'', Own R H'' L → Q2 e H'') → uu σ H' Q2)
    (h3 : c = false → false = d) (k : ∀ H', Own R H' L → QB d H') : tAnd tt uu σ H QB := by
  refine h1 _ fun H' O' => ?_
  cases c with
  | true =>
    obtain ⟨e1, g2⟩ := h2 rfl
    subst e1
    exact g2 H' O' QB k
  | false =>
    rw [← h3 rfl] at k
    exact k H' O'
theorem x_or {c d e : Bool} {tt uu : TT} {QB : Bool → Hp → Prop} (O : Own R H L) (h1 : ∀ Q1 : Bool → Hp → Prop, (∀ H', Own R H' L → Q1 c H') → tt σ H Q1) (h2 : c = false → e = d ∧ ∀ H', Own R H' L → ∀ Q2 : Bool → Hp → Prop, (∀ H'', Own R H'' L → Q2 e H'') → uu σ H' Q2)
    (h3 : c = true → true = d) (k : ∀ H', Own R H' L → QB d H') : tOr tt uu σ H QB := by
  refine h1 _ fun H' O' => ?_
  cases c with
  | false =>
    obtain ⟨e1, g2⟩ := h2 rfl
    subst e1
    exact g2 H' O' QB k
  | true =>
    rw [← h3 rfl] at k
    exact k H' O'
theorem x_andV {c d e : Bool} {tt uu : TE} (O : Own R H L) (h1 : ∀ Q1 : VK, (∀ H', Own R H' L → Q1 (.bl c) H') → tt σ H Q1) (h2 : c = true → e = d ∧ ∀ H', Own R H' L → ∀ Q2 : VK, (∀ H'', Own R H'' L → Q2 (.bl e) H'') → uu σ H' Q2)
    (h3 : c = false → false = d) (k : ∀ H', Own R H' L → Q (.bl d) H') : tAndV tt uu σ H Q := by
  refine h1 _ fun H' O' => ⟨_, rfl, ?_⟩
  cases c with
  | true =>
    obtain ⟨e1, g2⟩ := h2 rfl
    subst e1
    exact g2 H' O' Q k
  | false =>
    rw [← h3 rfl] at k
    exact k H' O'
theorem x_orV {c d e : Bool} {tt uu : TE} (O : Own R H L) (h1 : ∀ Q1 : VK, (∀ H', Own R H' L → Q1 (.bl c) H') → tt σ H Q1) (h2 : c = false → e = d ∧ ∀ H', Own R H' L → ∀ Q2 : VK, (∀ H'', Own R H'' L → Q2 (.bl e) H'') → uu σ H' Q2)
    (h3 : c = true → true = d) (k : ∀ H', Own R H' L → Q (.bl d) H') : tOrV tt uu σ H Q := by
  refine h1 _ fun H' O' => ⟨_, rfl, ?_⟩
  cases c with
  | false =>
    obtain ⟨e1, g2⟩ := h2 rfl
    subst e1
    exact g2 H' O' Q k
  | true =>
    rw [← h3 rfl] at k
    exact k H' O'
/-- a < b < c -/
theorem x_chain {r r' : R2} {c d e : Bool} {ta tb tc : TE} (O : Own R H L) (h1 : ∀ Q1 : VK, (∀ H', Own R H' L → Q1 x H') → ta σ H Q1) (h2 : ∀ H', Own R H' L → ∀ Q1 : VK, (∀ H', Own R H' L → Q1 y H') → tb σ H' Q1) (h3 : ∀ H' (Q1 : VK), Q1 (.bl c) H' → r x y H' Q1)
    (h4 : c = true → e = d ∧ ∀ H', Own R H' L → ∀ Q1 : VK, (∀ H', Own R H' L → Q1 z H') → tc σ H' Q1) (h5 : ∀ H' (Q1 : VK), Q1 (.bl e) H' → r' y z H' Q1) (h6 : c = false → false = d) (k : ∀ H', Own R H' L → Q (.bl d) H') : tChain r r' ta tb tc σ H Q := by
  refine h1 _ fun H1 O1 => h2 H1 O1 _ fun H2 O2 => h3 H2 _ ⟨c, rfl, ?_⟩
  cases c with
  | true =>
    obtain ⟨e1, g4⟩ := h4 rfl
    subst e1
    exact g4 H2 O2 _ fun H3 O3 => h5 H3 _ (k H3 O3)
  | false =>
    rw [← h6 rfl] at k
    exact k H2 O2
/-- a if c else b, a value -/
theorem x_if {c : Bool} {tt : TT} {ta tb : TE} (O : Own R H L) (h1 : ∀ Q1 : Bool → Hp → Prop, (∀ H', Own R H' L → Q1 c H') → tt σ H Q1) (h2 : c = true → x = v ∧ ∀ H', Own R H' L → ∀ Q2 : VK, (∀ H'', Own R H'' L → Q2 x H'') → ta σ H' Q2)
    (h3 : c = false → y = v ∧ ∀ H', Own R H' L → ∀ Q2 : VK, (∀ H'', Own R H'' L → Q2 y H'') → tb σ H' Q2) (k : ∀ H', Own R H' L → Q v H') : tIf tt ta tb σ H Q := by
  refine h1 _ fun H' O' => ?_
  cases c with
  | true =>
    obtain ⟨e1, g2⟩ := h2 rfl
    subst e1
    exact g2 H' O' Q k
  | false =>
    obtain ⟨e1, g3⟩ := h3 rfl
    subst e1
    exact g3 H' O' Q k
theorem iteS {c : Bool} {A B : Prop} (h1 : c = true → A) (h2 : c = false → B) : if c = true then A else B := by
  cases c with
  | true => rw [if_pos rfl]; exact h1 rfl
  | false => rw [if_neg Bool.false_ne_true]; exact h2 rfl
/-! loops -/
theorem k_forL {g : TG} {tb : TS} {D : Ends} (J : List α → St → Hp → Prop) (h0 : J xs σ H) (hl : ∀ r σ H, J r σ H → SqL K H a (xs.map f))
    (hs : ∀ x r σ H, J (x :: r) σ H → g (f x) σ H fun σ2 H2 => tb { D with nx := J r, ct := J r, bk := D.nx } σ2 H2) (hd : ∀ σ H, J [] σ H → D.nx σ H) :
    ∃ W : Nat → Nat → St → Hp → Prop, (∃ m, W 0 m σ H) ∧ ∀ i m σ H, W i m σ H →
      ((Itl K a).stop i H ∧ D.nx σ H) ∨ ((Itl K a).go i H ∧ ∃ N : St → Hp → Prop, (∀ σ' H', N σ' H' → ∃ m', m' < m ∧ W (i + 1) m' σ' H') ∧ ∀ x H', (Itl K a).yld i H x H' → g x σ H' fun σ2 H2 => tb { D with nx := N, ct := N, bk := D.nx } σ2 H2) := by
  refine for_list (xs := xs.map f) (fun i σ H => J (xs.drop i) σ H) h0 (fun i σ H _ => hl _ σ H) (fun i x σ H hi hJ => ?_) fun σ H hJ => ?_
  · rw [List.getElem?_map] at hi
    cases e : xs[i]? with
    | none => rw [e] at hi; cases hi
    | some y =>
      rw [e] at hi
      cases hi
      have e2 : xs.drop i = y :: xs.drop (i + 1) := by
        obtain ⟨h1, h2⟩ := List.getElem?_eq_some_iff.mp e
        rw [← h2]
        exact List.drop_eq_getElem_cons h1
      rw [e2] at hJ
      exact hs y _ σ H hJ
  · rw [List.length_map, List.drop_length] at hJ
    exact hd σ H hJ
theorem k_forR {lo : Int} {n : Nat} {g : TG} {tb : TS} {D : Ends} (J : List Int → St → Hp → Prop) (h0 : J ((List.range n).map fun (i : Nat) => lo + (i : Int)) σ H)
    (hs : ∀ x r σ H, J (x :: r) σ H → g (.int x) σ H fun σ2 H2 => tb { D with nx := J r, ct := J r, bk := D.nx } σ2 H2) (hd : ∀ σ H, J [] σ H → D.nx σ H) :
    ∃ W : Nat → Nat → St → Hp → Prop, (∃ m, W 0 m σ H) ∧ ∀ i m σ H, W i m σ H →
      ((Itr lo n).stop i H ∧ D.nx σ H) ∨ ((Itr lo n).go i H ∧ ∃ N : St → Hp → Prop, (∀ σ' H', N σ' H' → ∃ m', m' < m ∧ W (i + 1) m' σ' H') ∧ ∀ x H', (Itr lo n).yld i H x H' → g x σ H' fun σ2 H2 => tb { D with nx := N, ct := N, bk := D.nx } σ2 H2) := by
  refine for_range (fun i σ H => J (((List.range n).map fun (i : Nat) => lo + (i : Int)).drop i) σ H) h0 (fun i σ H hi hJ => ?_) fun σ H hJ => ?_
  · have e2 : ((List.range n).map fun (i : Nat) => lo + (i : Int)).drop i = (lo + (i : Int)) :: ((List.range n).map fun (i : Nat) => lo + (i : Int)).drop (i + 1) := by
      have h1 : i < ((List.range n).map fun (i : Nat) => lo + (i : Int)).length := by simpa using hi
      rw [List.drop_eq_getElem_cons h1]
      simp
    rw [e2] at hJ
    exact hs _ _ σ H hJ
  · have e : ((List.range n).map fun (i : Nat) => lo + (i : Int)).drop n = [] := List.drop_eq_nil_of_le (by simp)
    rw [e] at hJ
    exact hd σ H hJ
theorem k_rng1 {RJ : It → Hp → Prop} (h : rng1 j = some xs') (k : xs' = ((List.range j.toNat).map fun (i : Nat) => (0 : Int) + (i : Int)) → RJ (Itr 0 j.toNat) H) : ∃ j' : Int, [V.int j] = [V.int j'] ∧ -(2 ^ 62) ≤ j' ∧ j' < 2 ^ 62 ∧ RJ (Itr 0 j'.toNat) H := by
  obtain ⟨⟨c1, c2⟩, rfl⟩ := grdE h
  exact ⟨j, rfl, c1, c2, k (by unfold rangeI; rw [Int.sub_zero])⟩
theorem k_rng2 {RJ : It → Hp → Prop} (h : rng2 i j = some xs') (k : xs' = ((List.range (j - i).toNat).map fun (n : Nat) => i + (n : Int)) → RJ (Itr i (j - i).toNat) H) :
    ∃ i' j' : Int, [V.int i, V.int j] = [V.int i', V.int j'] ∧ (-(2 ^ 62) ≤ i' ∧ i' < 2 ^ 62 ∧ -(2 ^ 62) ≤ j' ∧ j' < 2 ^ 62) ∧ RJ (Itr i' (j' - i').toNat) H := by
  obtain ⟨c, rfl⟩ := grdE h
  exact ⟨i, j, rfl, c, k rfl⟩
/-- while: J, by the turns that the mirror still has -/
theorem k_while {tc : TT} {tb : TS} {D : Ends} (J : Nat → St → Hp → Prop) (n : Nat) (h0 : J n σ H)
    (hs : ∀ n σ H, J n σ H → tc σ H fun b H1 => if b = true then ∃ N : St → Hp → Prop, (∀ σ' H', N σ' H' → ∃ m', m' < n ∧ J m' σ' H') ∧ tb { D with nx := N, ct := N, bk := D.nx } σ H1 else D.nx σ H1) : tWhile tc tb D σ H :=
  ⟨J, ⟨n, h0⟩, hs⟩
/-! comprehensions -/
theorem k_lcL {g : TG} {te : TE} {vs : List Nat} {D : Addr} {Qd : Hp → Prop} (J : List α → Hp → Prop) (h0 : J xs (upd H D (.lst []))) (hl : ∀ r H, J r H → SqL K H a (xs.map f))
    (hs : ∀ x r H, J (x :: r) H → g (f x) (wipe σ vs) H fun σ2 H2 => wipe σ2 vs = wipe σ vs ∧ te σ2 H2 fun y H4 => ∃ acc, H4 D = some (.lst acc) ∧ acc.length < sizeLine ∧ J r (upd H4 D (.lst (acc ++ [y])))) (hd : ∀ H, J [] H → Qd H) :
    ∃ W : Nat → Nat → Hp → Prop, (∃ m, W 0 m (upd H D (.lst []))) ∧ ∀ i m H, W i m H →
      ((Itl K a).stop i H ∧ Qd H) ∨ ((Itl K a).go i H ∧ ∃ Nx : Hp → Prop, (∀ H', Nx H' → ∃ m', m' < m ∧ W (i + 1) m' H') ∧ ∀ x H', (Itl K a).yld i H x H' → g x (wipe σ vs) H' fun σ2 H2 => wipe σ2 vs = wipe σ vs ∧ tYes σ2 H2 fun b H3 =>
        if b = true then te σ2 H3 fun y H4 => ∃ acc, H4 D = some (.lst acc) ∧ acc.length < sizeLine ∧ Nx (upd H4 D (.lst (acc ++ [y]))) else Nx H3) := by
  refine lc_list (xs := xs.map f) (fun i H => J (xs.drop i) H) h0 (fun i H _ => hl _ H) (fun i x H hi hJ => ?_) fun H hJ => ?_
  · rw [List.getElem?_map] at hi
    cases e : xs[i]? with
    | none => rw [e] at hi; cases hi
    | some y =>
      rw [e] at hi
      cases hi
      have e2 : xs.drop i = y :: xs.drop (i + 1) := by
        obtain ⟨h1, h2⟩ := List.getElem?_eq_some_iff.mp e
        rw [← h2]
        exact List.drop_eq_getElem_cons h1
      rw [e2] at hJ
      exact hs y _ H hJ
  · rw [List.length_map, List.drop_length] at hJ
    exact hd H hJ
theorem k_lcR {lo : Int} {n : Nat} {g : TG} {te : TE} {vs : List Nat} {D : Addr} {Qd : Hp → Prop} (J : List Int → Hp → Prop) (h0 : J ((List.range n).map fun (i : Nat) => lo + (i : Int)) (upd H D (.lst [])))
    (hs : ∀ x r H, J (x :: r) H → g (.int x) (wipe σ vs) H fun σ2 H2 => wipe σ2 vs = wipe σ vs ∧ te σ2 H2 fun y H4 => ∃ acc, H4 D = some (.lst acc) ∧ acc.length < sizeLine ∧ J r (upd H4 D (.lst (acc ++ [y])))) (hd : ∀ H, J [] H → Qd H) :
    ∃ W : Nat → Nat → Hp → Prop, (∃ m, W 0 m (upd H D (.lst []))) ∧ ∀ i m H, W i m H →
      ((Itr lo n).stop i H ∧ Qd H) ∨ ((Itr lo n).go i H ∧ ∃ Nx : Hp → Prop, (∀ H', Nx H' → ∃ m', m' < m ∧ W (i + 1) m' H') ∧ ∀ x H', (Itr lo n).yld i H x H' → g x (wipe σ vs) H' fun σ2 H2 => wipe σ2 vs = wipe σ vs ∧ tYes σ2 H2 fun b H3 =>
        if b = true then te σ2 H3 fun y H4 => ∃ acc, H4 D = some (.lst acc) ∧ acc.length < sizeLine ∧ Nx (upd H4 D (.lst (acc ++ [y]))) else Nx H3) := by
  refine lc_range (fun i H => J (((List.range n).map fun (i : Nat) => lo + (i : Int)).drop i) H) h0 (fun i H hi hJ => ?_) fun H hJ => ?_
  · have e2 : ((List.range n).map fun (i : Nat) => lo + (i : Int)).drop i = (lo + (i : Int)) :: ((List.range n).map fun (i : Nat) => lo + (i : Int)).drop (i + 1) := by
      have h1 : i < ((List.range n).map fun (i : Nat) => lo + (i : Int)).length := by simpa using hi
      rw [List.drop_eq_getElem_cons h1]
      simp
    rw [e2] at hJ
    exact hs _ _ H hJ
  · have e : ((List.range n).map fun (i : Nat) => lo + (i : Int)).drop n = [] := List.drop_eq_nil_of_le (by simp)
    rw [e] at hJ
    exact hd H hJ
end
end Bt

set_option Elab.async false
set_option linter.all false
set_option maxRecDepth 100000
set_option maxHeartbeats 4000000
/-! More steps. -/
namespace Bt
open PySem L2
/-- a name of the module that holds a value -/
def Gv (mg : Str → Option Value) (x : Str) (v : V) : Prop := ∃ u, mg x = some u ∧ RelV v u
theorem pe_gv {X : Cx} {x : Str} {v : V} {pos : Pos} (hg : Gl X x) (h : Gv X.mg x v) (hd : (x == ("__debug__" : Str)) = false := by decide) : PE X (.Name x pos) (tC v) := by
  obtain ⟨u, h1, h2⟩ := h
  exact pe_glob hg h1 h2 hd
section
variable {α S T R' : Type}
theorem finNx {rest : S → Option R'} {s : S} {r : R'} (h : finK rest (.nx s) = some r) : rest s = some r := h
theorem floNx {rest : S → Option (Fl T R')} {s : S} {fl : Fl T R'} (h : floK rest (.nx s) = some fl) : rest s = some fl := h
end
section
variable {K : PySem.W.Frag} {σ : St} {H R : Hp} {L L' : List Cell} {Q : VK} {a b p : Addr} {α : Type} {f : α → V} {xs ys zs : List α}
/-- some of the cells, by their places -/
theorem Own.sel (O : Own R H L) (is : List Nat) (hd : is.Nodup) (e : is.map (fun i => L[i]?) = L'.map some) : Own R H L' := by
  have hm : ∀ c ∈ L', c ∈ L := fun c hc => by
    have h1 : some c ∈ is.map (fun i => L[i]?) := by rw [e]; exact List.mem_map_of_mem hc
    obtain ⟨i, _, h2⟩ := List.mem_map.mp h1
    exact List.mem_of_getElem? h2
  refine ⟨O.ex, fun c h => O.at_ c (hm c h), fun c h => O.fr c (hm c h), ?_⟩
  clear hm
  induction is generalizing L' with
  | nil =>
    cases L' with
    | nil => exact List.Pairwise.nil
    | cons c r => simp at e
  | cons i is ih =>
    cases L' with
    | nil => simp at e
    | cons c r =>
      simp only [List.map_cons, List.cons.injEq] at e
      obtain ⟨e1, e2⟩ := e
      obtain ⟨n1, n2⟩ := List.nodup_cons.mp hd
      refine List.nodup_cons.mpr ⟨fun m => ?_, ih n2 e2⟩
      obtain ⟨d, hdm, ed⟩ := List.mem_map.mp m
      have h1 : some d ∈ is.map (fun i => L[i]?) := by rw [e2]; exact List.mem_map_of_mem hdm
      obtain ⟨j, hj, h2⟩ := List.mem_map.mp h1
      have g1 : (L.map (·.1))[i]? = some c.1 := by rw [List.getElem?_map, e1]; rfl
      have g2 : (L.map (·.1))[j]? = some c.1 := by
        rw [List.getElem?_map, h2]
        exact congrArg some ed
      have : i = j := nd_ix O.nd g1 g2
      subst this
      exact n1 hj
theorem a_set {v v' : V} {nx : St → Hp → Prop} {i : Nat} (e : v = v') (k : nx (σ.set i (some v')) H) : nx (σ.set i (some v)) H := by rw [e]; exact k
theorem k_newM {zs : List V} (O : Own R H L) (e : xs.map f = zs) (k : ∀ p H', Own R H' ((p, .lst (xs.map f)) :: L) → Q (.ref p) H') : ∀ p, H p = none → Q (.ref p) (upd H p (.lst zs)) := by
  subst e
  exact fun p hp => k p _ (O.new hp)
theorem k_rep {k : Int} (O : Own R H L) (h1 : H a = some (.lst (xs.map f))) (h : repG xs k = some zs) (q : ∀ p H', Own R H' ((p, .lst (zs.map f)) :: L) → Q (.ref p) H') : rRep (.ref a) (.int k) H Q := by
  obtain ⟨⟨c1, c2, c3⟩, rfl⟩ := grdE h
  refine ⟨a, k, _, rfl, rfl, h1, c1, c2, by rw [List.length_map]; exact c3, fun p hp => ?_⟩
  have e : ∀ n : Nat, (List.replicate n (xs.map f)).flatten = (List.replicate n xs).flatten.map f := fun n => by
    induction n with
    | zero => rfl
    | succ n ih => rw [List.replicate_succ, List.flatten_cons, ih, List.replicate_succ, List.flatten_cons, List.map_append]
  first
    | (rw [e]; exact q p _ (O.new hp))
    | (show Q (.ref p) _; simpa only [e] using q p _ (O.new hp))
end
end Bt
namespace Bt
open PySem L2
/-! readings under a name of their own, so that what follows stands as an argument -/
@[irreducible] def rNewL (xs : List V) (H : Hp) (Q : VK) : Prop := xs.length ≤ sizeLine ∧ ∀ p, H p = none → Q (.ref p) (upd H p (.lst xs))
@[irreducible] def rNewT (xs : List V) (H : Hp) (Q : VK) : Prop := xs.length ≤ sizeLine ∧ ∀ p, H p = none → Q (.ref p) (upd H p (.tup xs))
@[irreducible] def rLenQ (K : PySem.W.Frag) (xs : List V) (H : Hp) (Q : VK) : Prop := ∃ p ys, xs = [V.ref p] ∧ (SqL K H p ys ∨ SqT K H p ys) ∧ Q (.int ys.length) H
@[irreducible] def rListQ (K : PySem.W.Frag) (xs : List V) (H : Hp) (Q : VK) : Prop := ∃ p ys, xs = [V.ref p] ∧ (SqL K H p ys ∨ SqT K H p ys) ∧ ∀ l, H l = none → Q (.ref l) (upd H l (.lst ys))
section
variable {X : Cx}
theorem pe_lstQ {es : List Expr} {t : TA} {pos : Pos} (h : PE X (.List es pos) (tLst t)) : PE X (.List es pos) (fun σ H Q => t σ H fun xs H1 => rNewL xs H1 Q) := by
  unfold rNewL
  exact h
theorem pe_tupQ {es : List Expr} {k : Nat} {t : TA} {pos : Pos} (h : PE X (.Tuple es k pos) (tTup t)) : PE X (.Tuple es k pos) (fun σ H Q => t σ H fun xs H1 => rNewT xs H1 Q) := by
  unfold rNewT
  exact h
theorem call_lenQ : CallR X (.builtin "len") (rLenQ X.K) := by
  have e : rLenQ X.K = fun xs H Q => ∃ p ys, xs = [V.ref p] ∧ (SqL X.K H p ys ∨ SqT X.K H p ys) ∧ Q (.int ys.length) H := by
    funext xs H Q
    unfold rLenQ
    rfl
  rw [e]
  exact call_len_seq
theorem call_listQ : CallR X (.type "list") (rListQ X.K) := by
  have e : rListQ X.K = fun xs H Q => ∃ p ys, xs = [V.ref p] ∧ (SqL X.K H p ys ∨ SqT X.K H p ys) ∧ ∀ l, H l = none → Q (.ref l) (upd H l (.lst ys)) := by
    funext xs H Q
    unfold rListQ
    rfl
  rw [e]
  exact call_list_of
end
section
variable {K : PySem.W.Frag} {σ : St} {H R : Hp} {L L' : List Cell} {Q : VK} {a b p : Addr} {α : Type} {f : α → V} {xs ys zs : List α}
theorem x_nil {QA : List V → Hp → Prop} (h : QA [] H) : tNil σ H QA := h
theorem x_np {QO : Option Int → Hp → Prop} (h : QO none H) : tNoPart σ H QO := h
theorem n_lst {zs : List V} (O : Own R H L) (e : xs.map f = zs) (hz : zs.length ≤ sizeLine) (k : ∀ p H', Own R H' ((p, .lst (xs.map f)) :: L) → Q (.ref p) H') : rNewL zs H Q := by
  subst e
  unfold rNewL
  exact ⟨hz, fun p hp => k p _ (O.new hp)⟩
theorem n_len (h : SqL K H a (xs.map f)) (k : Q (.int (xs.length : Int)) H) : rLenQ K [.ref a] H Q := by
  unfold rLenQ
  exact ⟨a, _, rfl, .inl h, by rw [List.length_map]; exact k⟩
theorem n_list {ys : List V} (O : Own R H L) (h : SqL K H a ys) (k : ∀ p H', Own R H' ((p, .lst ys) :: L) → Q (.ref p) H') : rListQ K [.ref a] H Q := by
  unfold rListQ
  exact ⟨a, _, rfl, .inl h, fun l hl => k l _ (O.new hl)⟩
theorem rng1E {j : Int} {xs : List Int} (h : rng1 j = some xs) : -(2 ^ 62) ≤ j ∧ j < 2 ^ 62 ∧ ((List.range j.toNat).map fun (i : Nat) => (0 : Int) + (i : Int)) = xs := by
  obtain ⟨⟨c1, c2⟩, rfl⟩ := grdE h
  exact ⟨c1, c2, by unfold rangeI; rw [Int.sub_zero]⟩
theorem rng2E {i j : Int} {xs : List Int} (h : rng2 i j = some xs) : (-(2 ^ 62) ≤ i ∧ i < 2 ^ 62 ∧ -(2 ^ 62) ≤ j ∧ j < 2 ^ 62) ∧ ((List.range (j - i).toNat).map fun (n : Nat) => i + (n : Int)) = xs := by
  obtain ⟨c, rfl⟩ := grdE h
  exact ⟨c, rfl⟩
end
end Bt
namespace Bt
open PySem L2
/-! a reading opened by one step, by its head -/
section
variable {K : PySem.W.Frag} {σ : St} {H : Hp} {Q : VK} {D : Ends} {t u ts : TS} {te ta tb tl : TE} {tr : TA} {c : TT} {v : V} {i : Nat} {r : R2} {QB : Bool → Hp → Prop} {QA : List V → Hp → Prop} {QO : Option Int → Hp → Prop} {R : It → Hp → Prop}
theorem o_seq {n b k : St → Hp → Prop} {w : VK} (h : t (Ends.mk (u (Ends.mk n w b k)) w b k) σ H) : tSeq t u (Ends.mk n w b k) σ H := h
theorem o_asg {n b k : St → Hp → Prop} {w : VK} (h : te σ H fun x H1 => n (σ.set i (some x)) H1) : tAsg te (gName i) (Ends.mk n w b k) σ H := h
theorem o_drop {n b k : St → Hp → Prop} {w : VK} (h : te σ H fun _ H1 => n σ H1) : tDrop te (Ends.mk n w b k) σ H := h
theorem o_ret {n b k : St → Hp → Prop} {w : VK} (h : te σ H w) : tRet te (Ends.mk n w b k) σ H := h
theorem o_ifs {n b k : St → Hp → Prop} {w : VK} (h : c σ H fun z H1 => if z = true then t (Ends.mk n w b k) σ H1 else u (Ends.mk n w b k) σ H1) : tIfS c t u (Ends.mk n w b k) σ H := h
theorem o_next {n b k : St → Hp → Prop} {w : VK} (h : n σ H) : tNext (Ends.mk n w b k) σ H := h
theorem o_brk {n b k : St → Hp → Prop} {w : VK} (h : b σ H) : tBreak (Ends.mk n w b k) σ H := h
theorem o_cont {n b k : St → Hp → Prop} {w : VK} (h : k σ H) : tCont (Ends.mk n w b k) σ H := h
theorem o_retN {n b k : St → Hp → Prop} {w : VK} (h : w .non H) : tRetN (Ends.mk n w b k) σ H := h
theorem o_cut {n b k : St → Hp → Prop} {w : VK} (Mid : St → Hp → Prop) (h1 : t (Ends.mk Mid w b k) σ H) (h2 : ∀ σ' H', Mid σ' H' → u (Ends.mk n w b k) σ' H') : Evl.tCut t u (Ends.mk n w b k) σ H := ⟨Mid, h1, h2⟩
theorem o_op (h : ta σ H fun x H1 => tb σ H1 fun y H2 => r x y H2 Q) : tOp r ta tb σ H Q := h
theorem o_un {r : V → Hp → VK → Prop} (h : ta σ H fun x H1 => r x H1 Q) : tUn r ta σ H Q := h
theorem o_c (h : Q v H) : tC v σ H Q := h
theorem o_test (h : te σ H fun x H' => ∃ k, x = .bl k ∧ QB k H') : tTest te σ H QB := h
theorem o_B (h : te σ H fun x H' => ∃ k, x = .bl k ∧ QB k H') : tB te σ H QB := h
theorem o_not (h : c σ H fun b H1 => QB (!b) H1) : tNot c σ H QB := h
theorem o_notV (h : te σ H fun x H1 => ∃ c, x = .bl c ∧ Q (.bl (!c)) H1) : tNotV te σ H Q := h
theorem o_cons (h : ta σ H fun x H1 => tr σ H1 fun xs H2 => QA (x :: xs) H2) : tCons ta tr σ H QA := h
theorem o_cb {r : List V → Hp → VK → Prop} (h : tr σ H fun vs H1 => r vs H1 Q) : tCB r tr σ H Q := h
theorem o_call {sp : Sp} {dvs : List V} {E : XK} (h : tr σ H fun vs H1 => sp (vs ++ dvs) H1 Q E) : tCall sp dvs E tr σ H Q := h
theorem o_bm {T : String} {r : V → List V → Hp → VK → Prop} (h : te σ H fun x H1 => tyV K T x H1 ∧ tr σ H1 fun xs H2 => r x xs H2 Q) : tBM K T r te tr σ H Q := h
theorem o_sl {r : V → Option Int → Option Int → Hp → VK → Prop} {t1 t2 : TO} (h : te σ H fun x H1 => t1 σ H1 fun l H2 => t2 σ H2 fun u H3 => r x l u H3 Q) : tSl r te t1 t2 σ H Q := h
theorem o_part (h : te σ H fun x H1 => ∃ i, x = .int i ∧ QO (some i) H1) : tPart te σ H QO := h
theorem o_for {wi : TI} {g : TG} {n b k : St → Hp → Prop} {w : VK} (h : wi σ H fun J H1 => ∃ W : Nat → Nat → St → Hp → Prop, (∃ m, W 0 m σ H1) ∧ ∀ i m σ H, W i m σ H →
    (J.stop i H ∧ n σ H) ∨ (J.go i H ∧ ∃ N : St → Hp → Prop, (∀ σ' H', N σ' H' → ∃ m', m' < m ∧ W (i + 1) m' σ' H') ∧ ∀ x H', J.yld i H x H' → g x σ H' fun σ2 H2 => ts (Ends.mk N w n N) σ2 H2)) : tFor wi g ts (Ends.mk n w b k) σ H := h
theorem o_il (h : tl σ H fun x H1 => ∃ a, x = .ref a ∧ (∃ xs, SqL K H1 a xs) ∧ R (Itl K a) H1) : iList K tl σ H R := h
theorem o_ir1 (h : tr σ H fun vs H1 => ∃ j : Int, vs = [.int j] ∧ -(2 ^ 62) ≤ j ∧ j < 2 ^ 62 ∧ R (Itr 0 j.toNat) H1) : iRng1 tr σ H R := h
theorem o_ir2 (h : tr σ H fun vs H1 => ∃ i j : Int, vs = [.int i, .int j] ∧ (-(2 ^ 62) ≤ i ∧ i < 2 ^ 62 ∧ -(2 ^ 62) ≤ j ∧ j < 2 ^ 62) ∧ R (Itr i (j - i).toNat) H1) : iRng2 tr σ H R := h
theorem o_sub {to ti : TE} {tset : TSet} {n b k : St → Hp → Prop} {w : VK} (h : te σ H fun x H1 => to σ H1 fun o H2 => ti σ H2 fun i H3 => tset o i x H3 fun H4 => n σ H4) : tAsg te (gSub to ti tset) (Ends.mk n w b k) σ H := h
/-! the loops once more, their ends apart -/
variable {α : Type} {f : α → V} {xs : List α} {a : Addr} {g : TG} {n b k : St → Hp → Prop} {w : VK}
theorem q_forL {j : Nat} (J : List α → St → Hp → Prop) (h0 : J xs σ H) (hl : ∀ r σ H, J r σ H → SqL K H a (xs.map f))
    (hs : ∀ x r σ H, J (x :: r) σ H → ts (Ends.mk (J r) w n (J r)) (σ.set j (some (f x))) H) (hd : ∀ σ H, J [] σ H → n σ H) :
    ∃ W : Nat → Nat → St → Hp → Prop, (∃ m, W 0 m σ H) ∧ ∀ i m σ H, W i m σ H →
      ((Itl K a).stop i H ∧ n σ H) ∨ ((Itl K a).go i H ∧ ∃ N : St → Hp → Prop, (∀ σ' H', N σ' H' → ∃ m', m' < m ∧ W (i + 1) m' σ' H') ∧ ∀ x H', (Itl K a).yld i H x H' → gName j x σ H' fun σ2 H2 => ts (Ends.mk N w n N) σ2 H2) :=
  k_forL (D := Ends.mk n w (fun _ _ => False) fun _ _ => False) (g := gName j) (tb := ts) J h0 hl hs hd
theorem q_forR {j : Nat} {lo : Int} {m : Nat} (J : List Int → St → Hp → Prop) (h0 : J ((List.range m).map fun (i : Nat) => lo + (i : Int)) σ H)
    (hs : ∀ x r σ H, J (x :: r) σ H → ts (Ends.mk (J r) w n (J r)) (σ.set j (some (.int x))) H) (hd : ∀ σ H, J [] σ H → n σ H) :
    ∃ W : Nat → Nat → St → Hp → Prop, (∃ m, W 0 m σ H) ∧ ∀ i m' σ H, W i m' σ H →
      ((Itr lo m).stop i H ∧ n σ H) ∨ ((Itr lo m).go i H ∧ ∃ N : St → Hp → Prop, (∀ σ' H', N σ' H' → ∃ m'', m'' < m' ∧ W (i + 1) m'' σ' H') ∧ ∀ x H', (Itr lo m).yld i H x H' → gName j x σ H' fun σ2 H2 => ts (Ends.mk N w n N) σ2 H2) :=
  k_forR (D := Ends.mk n w (fun _ _ => False) fun _ _ => False) (g := gName j) (tb := ts) J h0 hs hd
end
end Bt
namespace Bt
open PySem L2
/-! what the head tells of a def -/
theorem def_mk {K : PySem.W.Frag} {h : Heap} {mg : Str → Option Value} {name qual : Str} {st : Stmt} {f : Addr} {od an : Option Addr} {sl : Array (Option Value)} {oc kV dc pm cd ct : Value} (X : K.In h) (G : h.Ns mainGlobals mg)
    (a : PySem.W.nsIn K mainGlobals name = some (some (.ref f))) (l : K.lookup f = some ⟨oc, od, .func (PySem.W.fnOf name qual (defArgs st) (defBody st) (defScope st) .none kV dc pm an cd ct), sl⟩) (c : PySem.W.codeIn K cd qual = true) (k : PySem.W.keepIn K (.ref f) = true) :
    ∃ f fd, Fun K name qual st f fd ∧ mg name = some (.ref f) := ⟨f, _, fun_mk l c k, PySem.W.mg_of X G a⟩
theorem gv_int {K : PySem.W.Frag} {h : Heap} {mg : Str → Option Value} {x : Str} {i : Int} {t : Tok} (X : K.In h) (G : h.Ns mainGlobals mg) (a : PySem.W.nsIn K mainGlobals x = some (some (.int i t))) : Gv mg x (.int i) := ⟨_, PySem.W.mg_of X G a, _, rfl⟩
end Bt

set_option linter.all false
set_option maxRecDepth 100000
set_option maxHeartbeats 1000000
/-! Plain facts about the mirror's words. -/
namespace Bt
open PySem L2
section
variable {α β S R : Type}
theorem bnd_some {a : α} {f : α → Option β} : bnd (some a) f = f a := rfl
theorem bnd_of {a : Option α} {x : α} {f : α → Option β} (h : a = some x) : bnd a f = f x := by rw [h]; rfl
theorem ltv_eq {a : α} {f : α → Option β} : ltv a f = f a := rfl
theorem ifB_t {a b : α} : ifB true a b = a := rfl
theorem ifB_f {a b : α} : ifB false a b = b := rfl
theorem ifB_dec {c : Prop} [Decidable c] {a b : α} : ifB (decide c) a b = if c then a else b := by
  by_cases h : c
  · rw [if_pos h, decide_eq_true h]; rfl
  · rw [if_neg h, decide_eq_false h]; rfl
theorem ifB_ite {c : Bool} {a b : α} : ifB c a b = if c = true then a else b := by cases c <;> rfl
theorem fin_nx {s : S} {rest : S → Option R} : fin (some (.nx s)) rest = rest s := rfl
theorem fin_rt {r : R} {rest : S → Option R} : fin (some (.rt r)) rest = some r := rfl
theorem loopM_ok {f : α → S → Option S} (I : List α → S → Prop) (hs : ∀ x r s, I (x :: r) s → ∃ s', f x s = some s' ∧ I r s') : ∀ (xs : List α) (s : S), I xs s → ∃ out, loopM f xs s = some out ∧ I [] out
  | [], s, h => ⟨s, rfl, h⟩
  | x :: r, s, h => by
    obtain ⟨s', h1, h2⟩ := hs x r s h
    obtain ⟨out, h3, h4⟩ := loopM_ok I hs r s' h2
    exact ⟨out, by show bnd (f x s) (loopM f r) = some out; rw [h1]; exact h3, h4⟩
theorem loopF_ok {f : α → S → Option (Fl S R)} (I : List α → S → Prop) (hs : ∀ x r s, I (x :: r) s → ∃ s', f x s = some (.nx s') ∧ I r s') : ∀ (xs : List α) (s : S), I xs s → ∃ out, loopF f xs s = some (.nx out) ∧ I [] out
  | [], s, h => ⟨s, rfl, h⟩
  | x :: r, s, h => by
    obtain ⟨s', h1, h2⟩ := hs x r s h
    obtain ⟨out, h3, h4⟩ := loopF_ok I hs r s' h2
    exact ⟨out, by show bnd (f x s) (contF (loopF f r)) = some (.nx out); rw [h1]; exact h3, h4⟩
/-- a search that finds nothing -/
theorem loopF_unit {f : α → Unit → Option (Fl Unit R)} {xs : List α} (h : ∀ x ∈ xs, f x () = some (.nx ())) : loopF f xs () = some (.nx ()) := by
  induction xs with
  | nil => rfl
  | cons x r ih =>
    show bnd (f x ()) (contF (loopF f r)) = some (.nx ())
    rw [h x (List.Mem.head _)]
    exact ih fun y hy => h y (List.Mem.tail _ hy)
theorem compM_ok {f : α → Option β} {g : α → β} : ∀ (xs : List α) (acc : List β), (∀ x ∈ xs, f x = some (g x)) → acc.length + xs.length ≤ 16777216 → compM f xs acc = some (acc ++ xs.map g)
  | [], acc, _, _ => by simp [compM]
  | x :: r, acc, h, hz => by
    have hl : acc.length < 16777216 := by simp only [List.length_cons] at hz; omega
    have ih := compM_ok r (acc ++ [g x]) (fun y hy => h y (List.Mem.tail _ hy)) (by simp only [List.length_append, List.length_cons, List.length_nil] at hz ⊢; omega)
    show bnd (f x) (fun y => if acc.length < 16777216 then compM f r (acc ++ [y]) else none) = _
    rw [h x (List.Mem.head _), bnd_some, if_pos hl, ih]
    simp
/-- the elements' property alone -/
theorem compM_all {f : α → Option β} {P : β → Prop} : ∀ (xs : List α) (acc : List β), (∀ x ∈ xs, ∃ y, f x = some y ∧ P y) → acc.length + xs.length ≤ 16777216 → (∀ y ∈ acc, P y) → ∃ out, compM f xs acc = some out ∧ out.length = acc.length + xs.length ∧ ∀ y ∈ out, P y
  | [], acc, _, _, ha => ⟨acc, rfl, by simp, ha⟩
  | x :: r, acc, h, hz, ha => by
    obtain ⟨y, h1, h2⟩ := h x (List.Mem.head _)
    have hl : acc.length < 16777216 := by simp only [List.length_cons] at hz; omega
    obtain ⟨out, h3, h4, h5⟩ := compM_all r (acc ++ [y]) (fun y hy => h y (List.Mem.tail _ hy)) (by simp only [List.length_append, List.length_cons, List.length_nil] at hz ⊢; omega) (fun z hz => by
      rcases List.mem_append.mp hz with q | q
      · exact ha z q
      · rw [List.mem_singleton.mp q]; exact h2)
    refine ⟨out, ?_, by rw [h4]; simp only [List.length_append, List.length_cons, List.length_nil]; omega, h5⟩
    show bnd (f x) (fun y => if acc.length < 16777216 then compM f r (acc ++ [y]) else none) = _
    rw [h1, bnd_some, if_pos hl, h3]
theorem appG_ok {xs : List α} {y : α} (h : xs.length < 16777216) : appG xs y = some (xs ++ [y]) := grd_of h
theorem catG_ok {xs ys : List α} (h : xs.length + ys.length ≤ 16777216) : catG xs ys = some (xs ++ ys) := grd_of h
theorem ixN_nat' {n : Nat} {i : Int} (h0 : 0 ≤ i) (h1 : i < n) : ixN n i = some i.toNat := by
  unfold ixN
  rw [if_pos h0, if_pos h1]
theorem atI_ok {xs : List α} {i : Int} (h0 : 0 ≤ i) (h1 : i < xs.length) : atI xs i = xs[i.toNat]? := by
  unfold atI
  rw [ixN_nat' h0 h1]
  rfl
theorem atI_mem {xs : List α} {i : Int} (h0 : 0 ≤ i) (h1 : i < xs.length) : ∃ x, atI xs i = some x ∧ x ∈ xs := by
  have hn : i.toNat < xs.length := by omega
  exact ⟨xs[i.toNat], by rw [atI_ok h0 h1]; exact List.getElem?_eq_getElem hn, List.getElem_mem hn⟩
theorem setG_ok {xs : List α} {i : Int} {y : α} (h0 : 0 ≤ i) (h1 : i < xs.length) : setG xs i y = some (xs.set i.toNat y) := by
  unfold setG
  rw [ixN_nat' h0 h1]
theorem repG_ok {xs : List α} {k : Int} (h0 : 0 ≤ k) (h1 : k ≤ 1000000) (h2 : xs.length * k.toNat ≤ 16777216) : repG xs k = some (List.replicate k.toNat xs).flatten := grd_of ⟨by omega, by omega, h2⟩
end
theorem modG_ok {i j : Int} (h : 0 < j) : modG i j = some (i % j) := grd_of h
theorem log2_small {n k : Nat} (h : n < 2 ^ k) : n.log2 ≤ k := by
  by_cases h0 : n = 0
  · subst h0; rw [show Nat.log2 0 = 0 from by decide]; exact Nat.zero_le _
  · exact Nat.le_of_lt ((Nat.log2_lt h0).mpr h)
theorem mulG_ok {i j : Int} {a b : Nat} (h1 : i.natAbs < 2 ^ a) (h2 : j.natAbs < 2 ^ b) (h : a + b < 1000000) : mulG i j = some (i * j) := by
  refine grd_of ?_
  have := log2_small h1
  have := log2_small h2
  omega
theorem fdivG_ok {i j : Int} {b : Nat} (h : 0 < j) (h2 : j.natAbs < 2 ^ b) (hb : b < 9000) : fdivG i j = some (i / j) := by
  refine grd_of ⟨h, ?_⟩
  have := log2_small h2
  omega
theorem shrG_ok {i j : Int} (h : 0 ≤ j) : shrG i j = some (i / 2 ^ j.toNat) := grd_of h
theorem rng1_ok {j : Int} (h : j ≤ 1000000) (h0 : -1000000 ≤ j) : rng1 j = some (rangeI 0 j) := grd_of ⟨by omega, by omega⟩
theorem rng2_ok {i j : Int} (h : j ≤ 1000000) (h0 : -1000000 ≤ j) (h1 : -1000000 ≤ i) (h2 : i ≤ 1000000) : rng2 i j = some (rangeI i j) := grd_of ⟨by omega, by omega, by omega, by omega⟩
theorem mem_rangeI {i j x : Int} (h : x ∈ rangeI i j) : i ≤ x ∧ x < j := by
  unfold rangeI at h
  obtain ⟨n, hn, rfl⟩ := List.mem_map.mp h
  have := List.mem_range.mp hn
  omega
theorem rangeI_length (i j : Int) : (rangeI i j).length = (j - i).toNat := by simp [rangeI]
theorem rangeI_cons {i j : Int} (h : i < j) : rangeI i j = i :: rangeI (i + 1) j := by
  unfold rangeI
  have e : (j - i).toNat = (j - (i + 1)).toNat + 1 := by omega
  rw [e, List.range_succ_eq_map]
  simp only [List.map_cons, List.map_map]
  congr 1
  · simp
  · refine List.map_congr_left fun n _ => ?_
    simp only [Function.comp]
    omega
theorem rangeI_nil {i j : Int} (h : j ≤ i) : rangeI i j = [] := by
  unfold rangeI
  rw [show (j - i).toNat = 0 from by omega]
  rfl
/-- a loop over a range: the invariant by the number ahead -/
theorem loopM_rng {S : Type} {f : Int → S → Option S} (I : Int → S → Prop) {hi : Int} (hs : ∀ i s, i < hi → I i s → ∃ s', f i s = some s' ∧ I (i + 1) s') : ∀ (n : Nat) (lo : Int) (s : S), (hi - lo).toNat = n → lo ≤ hi → I lo s → ∃ out, loopM f (rangeI lo hi) s = some out ∧ I hi out
  | 0, lo, s, e, h, h0 => by
    have : lo = hi := by omega
    subst this
    rw [rangeI_nil (Int.le_refl _)]
    exact ⟨s, rfl, h0⟩
  | n + 1, lo, s, e, h, h0 => by
    rw [rangeI_cons (by omega)]
    obtain ⟨s', h1, h2⟩ := hs lo s (by omega) h0
    obtain ⟨out, h3, h4⟩ := loopM_rng I hs n (lo + 1) s' (by omega) (by omega) h2
    exact ⟨out, by show bnd (f lo s) _ = _; rw [h1]; exact h3, h4⟩
theorem loopF_rng {S R : Type} {f : Int → S → Option (Fl S R)} (I : Int → S → Prop) {hi : Int} (hs : ∀ i s, i < hi → I i s → ∃ s', f i s = some (.nx s') ∧ I (i + 1) s') : ∀ (n : Nat) (lo : Int) (s : S), (hi - lo).toNat = n → lo ≤ hi → I lo s → ∃ out, loopF f (rangeI lo hi) s = some (.nx out) ∧ I hi out
  | 0, lo, s, e, h, h0 => by
    have : lo = hi := by omega
    subst this
    rw [rangeI_nil (Int.le_refl _)]
    exact ⟨s, rfl, h0⟩
  | n + 1, lo, s, e, h, h0 => by
    rw [rangeI_cons (by omega)]
    obtain ⟨s', h1, h2⟩ := hs lo s (by omega) h0
    obtain ⟨out, h3, h4⟩ := loopF_rng I hs n (lo + 1) s' (by omega) (by omega) h2
    exact ⟨out, by show bnd (f lo s) _ = _; rw [h1]; exact h3, h4⟩
end Bt

set_option Elab.async false
set_option linter.all false
set_option maxRecDepth 100000
set_option maxHeartbeats 4000000
namespace Bt
open PySem L2
def top (i : Nat) : Stmt := PySem.Challenge.pw_bitrail_k13_bits_put_in.main.body.getD i (.Pass ⟨0, 0, 0, 0⟩)
abbrev s_put_in : Stmt := top 1
abbrev s__law_draw : Stmt := top 3
abbrev s__law_row : Stmt := top 4
abbrev s__law_wire : Stmt := top 5
abbrev s__law_good : Stmt := top 6
abbrev s_law : Stmt := top 7
structure Ad where
  f_put_in : Addr
  fd_put_in : FuncData
  f__law_draw : Addr
  fd__law_draw : FuncData
  f__law_row : Addr
  fd__law_row : FuncData
  f__law_wire : Addr
  fd__law_wire : FuncData
  f__law_good : Addr
  fd__law_good : FuncData
  f_law : Addr
  fd_law : FuncData
structure Txt (K : PySem.W.Frag) (mg : Str → Option Value) (ad : Ad) : Prop where
  F_put_in : Fun K "put_in" "put_in" s_put_in ad.f_put_in ad.fd_put_in
  g_put_in : mg "put_in" = some (.ref ad.f_put_in)
  b_put_in : Binds K ad.fd_put_in ["bits"] []
  F__law_draw : Fun K "_law_draw" "_law_draw" s__law_draw ad.f__law_draw ad.fd__law_draw
  g__law_draw : mg "_law_draw" = some (.ref ad.f__law_draw)
  b__law_draw : Binds K ad.fd__law_draw ["script", "k", "many"] []
  F__law_row : Fun K "_law_row" "_law_row" s__law_row ad.f__law_row ad.fd__law_row
  g__law_row : mg "_law_row" = some (.ref ad.f__law_row)
  b__law_row : Binds K ad.fd__law_row ["script", "many"] []
  F__law_wire : Fun K "_law_wire" "_law_wire" s__law_wire ad.f__law_wire ad.fd__law_wire
  g__law_wire : mg "_law_wire" = some (.ref ad.f__law_wire)
  b__law_wire : Binds K ad.fd__law_wire ["bits"] []
  F__law_good : Fun K "_law_good" "_law_good" s__law_good ad.f__law_good ad.fd__law_good
  g__law_good : mg "_law_good" = some (.ref ad.f__law_good)
  b__law_good : Binds K ad.fd__law_good ["bits"] []
  F_law : Fun K "law" "law" s_law ad.f_law ad.fd_law
  g_law : mg "law" = some (.ref ad.f_law)
  b_law : Binds K ad.fd_law ["script"] []
  z_bool : mg "bool" = none
  z_int : mg "int" = none
  z_isinstance : mg "isinstance" = none
  z_len : mg "len" = none
  z_list : mg "list" = none
  z_range : mg "range" = none
  z_sum : mg "sum" = none
section
variable {P : Program} {w : World} {K : PySem.W.Frag} {mg : Str → Option Value} {base : Heap}
def m_put_in_L0  (bit_15 : Int) (wire_6 : List Int) (run_7 : Int) (last_8 : Int) : Option ((List Int) × Int × Int) :=
  ltv ((ifB (decide (bit_15 = last_8)) (run_7 + (1 : Int)) (1 : Int))) fun run_18 =>
  bnd (appG wire_6 bit_15) fun l_20 =>
  ifB (decide (run_18 = (5 : Int))) (
    ltv ((Builtin.bitXor bit_15 (1 : Int))) fun last_23 =>
    bnd (appG l_20 last_23) fun l_25 =>
    some (l_25, (1 : Int), last_23)) (
    some (l_20, run_18, bit_15))
def m_put_in (bits_1 : List Int) : Option (List Int) :=
  ltv ((-(1 : Int))) fun last_4 =>
  bnd (loopM (fun bit_15 s => m_put_in_L0 bit_15 s.1 s.2.1 s.2.2) bits_1 (([] : List Int), (0 : Int), last_4)) fun (wire_10, run_11, last_12) =>
  some wire_10
def sp_put_in (K : PySem.W.Frag) : Sp := fun vs H Q _ => ∃ (bits_1 : List Int) (a_2 : Addr) (r : List Int), vs = [.ref a_2] ∧ H a_2 = some (.lst (List.map V.int bits_1)) ∧ m_put_in bits_1 = some r ∧ RetL (List.map V.int r) H Q
abbrev N_put_in : List Str := ["bits", "wire", "run", "last", "bit"]
theorem sc_put_in : FnScope N_put_in ["bits"] (defScope s_put_in) := ⟨rfl, rfl, rfl, by decide +kernel, rfl, by decide +kernel, by decide +kernel⟩
theorem ok_put_in {ad : Ad} (T : Txt K mg ad) : FnOk P w K mg base CX0 1 ad.f_put_in ad.fd_put_in ["bits"] (sp_put_in K) := by
  refine T.F_put_in.ok sc_put_in (fun vs H Q E h => ?_) (fun cdv A outer s H vs Q E hr h => ?_)
  · obtain ⟨_, _, _, rfl, _⟩ := h
    rfl
  · obtain ⟨bits_1, a_2, r, rfl, hp_a_2, hm, k⟩ := h
    unfold m_put_in at hm
    obtain ⟨H0, hH0⟩ : ∃ H0 : Hp, H0 = H := ⟨H, rfl⟩
    have O : Own H0 H [] := by rw [hH0]; exact Own.start H
    rw [← hH0] at k hp_a_2
    clear hH0
    refine ⟨_, (pss_cons (ps_set (i := 1) sc_put_in.nd rfl (Or.inl rfl) (pe_lstQ (pe_lst pa_nil))) (pss_cons (ps_set (i := 2) sc_put_in.nd rfl (Or.inl rfl) pe_int) (pss_cons (ps_set (i := 3) sc_put_in.nd rfl (Or.inl rfl) (pe_un un_neg pe_int)) (pss_cons (ps_for PassesOwn.never rfl (pi_list (pv 0)) (pg_name (i := 4) sc_put_in.nd rfl (Or.inl rfl)) (pss_cons (ps_set (i := 2) sc_put_in.nd rfl (Or.inl rfl) (pe_ifExp (pt_cmpR op_eq (pv 4) (pv 3) (nomark _)) (pe_op op_add (pv 2) pe_int) pe_int)) (pss_cons (ps_set (i := 3) sc_put_in.nd rfl (Or.inl rfl) (pv 4)) (pss_cons (ps_expr (pe_bm PySem.F.plainAttrs_list PySem.F.slot_list_append PySem.F.type_list_append mt_append (pv 1) (pa_cons (pv 4) pa_nil))) (pss_one (ps_if (pt_cmpR op_eq (pv 2) pe_int (nomark _)) (pss_cons (ps_set (i := 3) sc_put_in.nd rfl (Or.inl rfl) (pe_op op_xor (pv 4) pe_int)) (pss_cons (ps_set (i := 2) sc_put_in.nd rfl (Or.inl rfl) pe_int) (pss_one (ps_expr (pe_bm PySem.F.plainAttrs_list PySem.F.slot_list_append PySem.F.type_list_append mt_append (pv 1) (pa_cons (pv 3) pa_nil)))))) pss_nil)))))) (pss_one (ps_ret (pv 1))))))), ?_⟩
    -- 3
    refine o_seq ?_
    refine o_asg ?_
    refine x_nil ?_
    refine n_lst (f := V.int) (xs := ([] : List Int)) O rfl (Nat.zero_le _) fun p_3 H O => ?_
    -- 4
    refine o_seq ?_
    refine o_asg ?_
    refine o_c ?_
    -- 5
    refine o_seq ?_
    refine o_asg ?_
    refine ⟨_, rfl, ?_⟩
    obtain ⟨last_4, h5, hm⟩ := ltvE hm
    refine a_set (congrArg V.int h5) ?_
    -- 6
    refine o_seq ?_
    refine o_for ?_
    refine ⟨_, rfl, ?_⟩
    obtain ⟨⟨wire_10, run_11, last_12⟩, h13, hm⟩ := bndE hm
    refine ⟨_, rfl, ⟨_, (SqL.of (O.ex _ _ hp_a_2))⟩, q_forL (f := V.int) (xs := bits_1) (fun r σ H => ∃ (wire_6 : List Int) (run_7 : Int) (last_8 : Int) (j_9 : Option V), σ = [some (.ref a_2), some (.ref p_3), some (.int run_7), some (.int last_8), j_9] ∧ Own H0 H [(p_3, .lst (List.map V.int wire_6))] ∧ loopM (fun bit_15 s => m_put_in_L0 bit_15 s.1 s.2.1 s.2.2) r (wire_6, run_7, last_8) = some (wire_10, run_11, last_12)) ⟨_, _, _, _, rfl, O, h13⟩ (by rintro r σ H ⟨wire_6, run_7, last_8, j_9, rfl, O, hL⟩; exact (SqL.of (O.ex _ _ hp_a_2))) ?_ ?_⟩
    · rintro bit_15 r σ H ⟨wire_6, run_7, last_8, j_9, rfl, O, hL⟩
      obtain ⟨s_, hm, hL⟩ := loopM_cons hL
      replace hm : m_put_in_L0 bit_15 wire_6 run_7 last_8 = some s_ := hm
      unfold m_put_in_L0 at hm
      -- 7
      refine o_seq ?_
      refine o_asg ?_
      refine x_if (c := (decide (bit_15 = last_8))) (x := .int (run_7 + (1 : Int))) (y := .int (1 : Int)) (v := .int (ifB (decide (bit_15 = last_8)) (run_7 + (1 : Int)) (1 : Int))) O (fun Q1 k1 => ?_) (fun h17 => ⟨by rw [h17]; rfl, fun H O Q2 k2 => ?_⟩) (fun h17 => ⟨by rw [h17]; rfl, fun H O Q2 k2 => ?_⟩) (fun H O => ?_)
      · refine ⟨_, rfl, _, rfl, ?_⟩
        refine k_eqI ?_
        refine ⟨_, rfl, ?_⟩
        exact k1 _ O
      · refine ⟨_, rfl, _, _, rfl, rfl, ?_⟩
        exact k2 _ O
      · refine o_c ?_
        exact k2 _ O
      obtain ⟨run_18, h19, hm⟩ := ltvE hm
      refine a_set (congrArg V.int h19) ?_
      -- 8
      refine o_seq ?_
      refine o_asg ?_
      refine ⟨_, rfl, ?_⟩
      -- 9
      refine o_seq ?_
      refine o_drop ?_
      obtain ⟨l_20, h21, hm⟩ := bndE hm
      refine ⟨_, rfl, .inl ⟨rfl, _, (SqL.of (O.mem (List.Mem.head _)))⟩, _, rfl, ?_⟩
      refine x_nil ?_
      refine k_app (f := V.int) (O.mem (List.Mem.head _)) (fun _ => O.put0) h21 fun H O => ?_
      -- 10
      refine o_ifs ?_
      refine ⟨_, rfl, ?_⟩
      refine o_c ?_
      refine k_eqI ?_
      refine ⟨_, rfl, ?_⟩
      refine iteS (c := (decide (run_18 = (5 : Int)))) (fun h22 => ?_) (fun h22 => ?_)
      · replace hm := ifT hm h22
        -- 11
        refine o_seq ?_
        refine o_asg ?_
        refine ⟨_, rfl, _, _, rfl, rfl, ?_⟩
        obtain ⟨last_23, h24, hm⟩ := ltvE hm
        refine a_set (congrArg V.int h24) ?_
        -- 12
        refine o_seq ?_
        refine o_asg ?_
        refine o_c ?_
        -- 13
        refine o_drop ?_
        obtain ⟨l_25, h26, hm⟩ := bndE hm
        refine ⟨_, rfl, .inl ⟨rfl, _, (SqL.of (O.mem (List.Mem.head _)))⟩, _, rfl, ?_⟩
        refine x_nil ?_
        refine k_app (f := V.int) (O.mem (List.Mem.head _)) (fun _ => O.put0) h26 fun H O => ?_
        obtain rfl := Option.some.inj hm
        exact ⟨_, _, _, _, rfl, O, hL⟩
      · replace hm := ifF hm h22
        refine o_next ?_
        obtain rfl := Option.some.inj hm
        exact ⟨_, _, _, _, rfl, O, hL⟩
    rintro σ H ⟨wire_6, run_7, last_8, j_9, rfl, O, hL⟩
    cases loopM_nil hL
    -- 14
    refine o_ret ?_
    refine ⟨_, rfl, ?_⟩
    obtain rfl := Option.some.inj hm
    exact RetL.go k O (List.Mem.head _)
def m__law_draw (script_1 : List Int) (k_3 : Int) (many_4 : Int) : Option Int :=
  bnd (ifB (decide ((0 : Int) < (List.length script_1 : Int))) (bnd (modG k_3 (List.length script_1 : Int)) fun t_5 =>
  bnd (atI script_1 t_5) fun e_7 => some e_7) ( some (0 : Int))) fun z_10 =>
  bnd (mulG ((31 : Int) * k_3) k_3) fun t_12 =>
  ltv ((((z_10 % (1000003 : Int)) + t_12) + (1 : Int))) fun seed_14 =>
  bnd (modG ((((seed_14 * (48271 : Int)) % (999983 : Int)) * (7919 : Int)) % (524287 : Int)) many_4) fun t_16 =>
  some t_16
def sp__law_draw (K : PySem.W.Frag) : Sp := fun vs H Q _ => ∃ (script_1 : List Int) (a_2 : Addr) (k_3 : Int) (many_4 : Int) (r : Int), vs = [.ref a_2, .int k_3, .int many_4] ∧ SqL K H a_2 (List.map V.int script_1) ∧ m__law_draw script_1 k_3 many_4 = some r ∧ RetV (.int r) H Q
abbrev N__law_draw : List Str := ["script", "k", "many", "cell", "seed"]
theorem sc__law_draw : FnScope N__law_draw ["script", "k", "many"] (defScope s__law_draw) := ⟨rfl, rfl, rfl, by decide +kernel, rfl, by decide +kernel, by decide +kernel⟩
theorem ok__law_draw {ad : Ad} (T : Txt K mg ad) : FnOk P w K mg base CX0 1 ad.f__law_draw ad.fd__law_draw ["script", "k", "many"] (sp__law_draw K) := by
  refine T.F__law_draw.ok sc__law_draw (fun vs H Q E h => ?_) (fun cdv A outer s H vs Q E hr h => ?_)
  · obtain ⟨_, _, _, _, _, rfl, _⟩ := h
    rfl
  · obtain ⟨script_1, a_2, k_3, many_4, r, rfl, hp_a_2, hm, k⟩ := h
    unfold m__law_draw at hm
    obtain ⟨H0, hH0⟩ : ∃ H0 : Hp, H0 = H := ⟨H, rfl⟩
    have O : Own H0 H [] := by rw [hH0]; exact Own.start H
    rw [← hH0] at k hp_a_2
    clear hH0
    refine ⟨_, (pss_cons (ps_set (i := 3) sc__law_draw.nd rfl (Or.inl rfl) (pe_ifExp (pt_cmpR op_gt (pe_callB call_lenQ (by rfl) T.z_len PySem.boot_len (pa_cons (pv 0) pa_nil)) pe_int (nomark _)) (pe_ix ix_list (pv 0) (pe_op op_mod (pv 1) (pe_callB call_lenQ (by rfl) T.z_len PySem.boot_len (pa_cons (pv 0) pa_nil))) (fun _ _ => rfl)) pe_int)) (pss_cons (ps_set (i := 4) sc__law_draw.nd rfl (Or.inl rfl) (pe_op op_add (pe_op op_add (pe_op op_mod (pv 3) pe_int) (pe_op op_mulW (pe_op op_mul pe_int (pv 1)) (pv 1))) pe_int)) (pss_one (ps_ret (pe_op op_mod (pe_op op_mod (pe_op op_mul (pe_op op_mod (pe_op op_mul (pv 4) pe_int) pe_int) pe_int) pe_int) (pv 2)))))), ?_⟩
    -- 17
    refine o_seq ?_
    refine o_asg ?_
    obtain ⟨z_10, h11, hm⟩ := bndE hm
    refine x_if (c := decide ((0 : Int) < (List.length script_1 : Int))) (x := .int z_10) (y := .int z_10) (v := .int z_10) O (fun Q1 k1 => ?_) (fun h9 => ⟨rfl, fun H O Q2 k2 => ?_⟩) (fun h9 => ⟨rfl, fun H O Q2 k2 => ?_⟩) (fun H O => ?_)
    · refine ⟨_, rfl, ?_⟩
      refine x_nil ?_
      refine n_len (O.ex.l hp_a_2) ?_
      refine ⟨_, _, rfl, rfl, _, rfl, ?_⟩
      exact k1 _ O
    · replace hm := ifT h11 h9
      obtain ⟨t_5, h6, hm⟩ := bndE hm
      obtain ⟨e_7, h8, hm⟩ := bndE hm
      obtain rfl := Option.some.inj hm
      refine ⟨_, rfl, _, rfl, _, rfl, ?_⟩
      refine x_nil ?_
      refine n_len (O.ex.l hp_a_2) ?_
      refine k_mod h6 ?_
      refine k_ixL (f := V.int) (O.ex.l hp_a_2) h8 ?_
      exact k2 _ O
    · replace hm := ifF h11 h9
      obtain rfl := Option.some.inj hm
      refine o_c ?_
      exact k2 _ O
    -- 18
    refine o_seq ?_
    refine o_asg ?_
    obtain ⟨t_12, h13, hm⟩ := bndE hm
    refine ⟨_, rfl, _, _, rfl, rfl, (by show (0 : Int) < 1000003; decide), _, rfl, _, _, rfl, rfl, .inl ⟨by decide, by decide⟩, _, rfl, ?_⟩
    refine k_mul h13 ?_
    refine ⟨_, _, rfl, rfl, _, _, rfl, rfl, ?_⟩
    obtain ⟨seed_14, h15, hm⟩ := ltvE hm
    refine a_set (congrArg V.int h15) ?_
    -- 19
    refine o_ret ?_
    obtain ⟨t_16, h17, hm⟩ := bndE hm
    refine ⟨_, rfl, _, _, rfl, rfl, .inr ⟨by decide, by decide⟩, _, _, rfl, rfl, (by show (0 : Int) < 999983; decide), _, _, rfl, rfl, .inr ⟨by decide, by decide⟩, _, _, rfl, rfl, (by show (0 : Int) < 524287; decide), _, rfl, ?_⟩
    refine k_mod h17 ?_
    obtain rfl := Option.some.inj hm
    exact RetV.go k O
def m__law_row_L0 (script_1 : List Int) (law_dr_5 : Int) (k_15 : Int) (bits_9 : List Int) : Option ((List Int)) :=
  bnd (m__law_draw script_1 ((7 : Int) + k_15) (2 : Int)) fun law_dr_17 =>
  bnd (ifB (decide ((0 : Int) < law_dr_5)) (bnd (ifB (decide ((0 : Int) < k_15)) (bnd (m__law_draw script_1 (((3 : Int) * k_15) + (5 : Int)) ((2 : Int) + ((2 : Int) * law_dr_5))) fun law_dr_19 => some (decide ((0 : Int) < law_dr_19))) (some false)) fun c_22 => some c_22) (some false)) fun c_25 =>
  bnd (ifB c_25 (
    bnd (atI bits_9 (k_15 - (1 : Int))) fun e_29 =>
    some e_29) (
    some law_dr_17)) fun bit_32 =>
  bnd (appG bits_9 bit_32) fun l_33 =>
  some l_33
def m__law_row (script_1 : List Int) (many_3 : Int) : Option (List Int) :=
  bnd (m__law_draw script_1 (1 : Int) (4 : Int)) fun law_dr_5 =>
  bnd (rng1 many_3) fun rg_7 =>
  bnd (loopM (fun k_15 s => m__law_row_L0 script_1 law_dr_5 k_15 s) rg_7 ([] : List Int)) fun bits_12 =>
  some bits_12
def sp__law_row (K : PySem.W.Frag) : Sp := fun vs H Q _ => ∃ (script_1 : List Int) (a_2 : Addr) (many_3 : Int) (r : List Int), vs = [.ref a_2, .int many_3] ∧ SqL K H a_2 (List.map V.int script_1) ∧ m__law_row script_1 many_3 = some r ∧ RetL (List.map V.int r) H Q
abbrev N__law_row : List Str := ["script", "many", "bits", "slow", "k", "bit"]
theorem sc__law_row : FnScope N__law_row ["script", "many"] (defScope s__law_row) := ⟨rfl, rfl, rfl, by decide +kernel, rfl, by decide +kernel, by decide +kernel⟩
theorem ok__law_row {ad : Ad} (T : Txt K mg ad) : FnOk P w K mg base CX0 2 ad.f__law_row ad.fd__law_row ["script", "many"] (sp__law_row K) := by
  have G__law_draw := ok__law_draw (P := P) (w := w) (base := base) T
  refine T.F__law_row.ok sc__law_row (fun vs H Q E h => ?_) (fun cdv A outer s H vs Q E hr h => ?_)
  · obtain ⟨_, _, _, _, rfl, _⟩ := h
    rfl
  · obtain ⟨script_1, a_2, many_3, r, rfl, hp_a_2, hm, k⟩ := h
    unfold m__law_row at hm
    obtain ⟨H0, hH0⟩ : ∃ H0 : Hp, H0 = H := ⟨H, rfl⟩
    have O : Own H0 H [] := by rw [hH0]; exact Own.start H
    rw [← hH0] at k hp_a_2
    clear hH0
    refine ⟨_, (pss_cons (ps_set (i := 2) sc__law_row.nd rfl (Or.inl rfl) (pe_lstQ (pe_lst pa_nil))) (pss_cons (ps_set (i := 3) sc__law_row.nd rfl (Or.inl rfl) (pe_call G__law_draw (hr.mono (by decide)) (by rfl) T.g__law_draw T.F__law_draw.kp T.b__law_draw .nil pass0 (pa_cons (pv 0) (pa_cons pe_int (pa_cons pe_int pa_nil))))) (pss_cons (ps_for PassesOwn.never rfl (pi_range1 (by rfl) T.z_range (pa_cons (pv 1) pa_nil)) (pg_name (i := 4) sc__law_row.nd rfl (Or.inl rfl)) (pss_cons (ps_set (i := 5) sc__law_row.nd rfl (Or.inl rfl) (pe_call G__law_draw (hr.mono (by decide)) (by rfl) T.g__law_draw T.F__law_draw.kp T.b__law_draw .nil pass0 (pa_cons (pv 0) (pa_cons (pe_op op_add pe_int (pv 4)) (pa_cons pe_int pa_nil))))) (Evl.pss_cut (ps_if (PW.pt (pw_and (pt_cmpR op_gt (pv 3) pe_int (nomark _)) (pw_and (pt_cmpR op_gt (pv 4) pe_int (nomark _)) (pw_and1 (pt_cmpR op_gt (pe_call G__law_draw (hr.mono (by decide)) (by rfl) T.g__law_draw T.F__law_draw.kp T.b__law_draw .nil pass0 (pa_cons (pv 0) (pa_cons (pe_op op_add (pe_op op_mul pe_int (pv 4)) pe_int) (pa_cons (pe_op op_add pe_int (pe_op op_mul pe_int (pv 3))) pa_nil)))) pe_int (nomark _)))))) (pss_one (ps_set (i := 5) sc__law_row.nd rfl (Or.inl rfl) (pe_ix ix_list (pv 2) (pe_op op_sub (pv 4) pe_int) (fun _ _ => rfl)))) pss_nil) (pss_one (ps_expr (pe_bm PySem.F.plainAttrs_list PySem.F.slot_list_append PySem.F.type_list_append mt_append (pv 2) (pa_cons (pv 5) pa_nil))))))) (pss_one (ps_ret (pv 2)))))), ?_⟩
    -- 21
    refine o_seq ?_
    refine o_asg ?_
    refine x_nil ?_
    refine n_lst (f := V.int) (xs := ([] : List Int)) O rfl (Nat.zero_le _) fun p_4 H O => ?_
    -- 22
    refine o_seq ?_
    refine o_asg ?_
    obtain ⟨law_dr_5, h6, hm⟩ := bndE hm
    refine ⟨_, rfl, ?_⟩
    refine o_cons ?_
    refine o_c ?_
    refine o_cons ?_
    refine o_c ?_
    refine x_nil ?_
    refine ⟨_, _, _, _, law_dr_5, rfl, (O.ex.l hp_a_2), h6, ?_⟩
    refine O.retV fun H O => ?_
    -- 23
    refine o_seq ?_
    refine o_for ?_
    obtain ⟨rg_7, h8, hm⟩ := bndE hm
    refine ⟨_, rfl, ?_⟩
    refine x_nil ?_
    obtain ⟨c1, c2, rfl⟩ := rng1E h8
    obtain ⟨bits_12, h13, hm⟩ := bndE hm
    refine ⟨_, rfl, c1, c2, q_forR (fun r σ H => ∃ (bits_9 : List Int) (j_10 : Option V) (j_11 : Option V), σ = [some (.ref a_2), some (.int many_3), some (.ref p_4), some (.int law_dr_5), j_10, j_11] ∧ Own H0 H [(p_4, .lst (List.map V.int bits_9))] ∧ loopM (fun k_15 s => m__law_row_L0 script_1 law_dr_5 k_15 s) r bits_9 = some bits_12) ⟨_, _, _, rfl, O, h13⟩ ?_ ?_⟩
    · rintro k_15 r σ H ⟨bits_9, j_10, j_11, rfl, O, hL⟩
      obtain ⟨s_, hm, hL⟩ := loopM_cons hL
      replace hm : m__law_row_L0 script_1 law_dr_5 k_15 bits_9 = some s_ := hm
      unfold m__law_row_L0 at hm
      -- 24
      refine o_seq ?_
      refine o_asg ?_
      obtain ⟨law_dr_17, h18, hm⟩ := bndE hm
      refine ⟨_, rfl, _, rfl, _, _, rfl, rfl, ?_⟩
      refine o_cons ?_
      refine o_c ?_
      refine x_nil ?_
      refine ⟨_, _, _, _, law_dr_17, rfl, (O.ex.l hp_a_2), h18, ?_⟩
      refine O.retV fun H O => ?_
      -- 25
      obtain ⟨c_25, h26, hm⟩ := bndE hm
      obtain ⟨bit_32, h28, hm⟩ := bndE hm
      refine o_cut (fun σ H => ∃ (j_31 : Option V), σ = [some (.ref a_2), some (.int many_3), some (.ref p_4), some (.int law_dr_5), j_31, some (.int bit_32)] ∧ Own H0 H [(p_4, .lst (List.map V.int bits_9))]) ?_ ?_
      · refine o_ifs ?_
        refine x_and (c := decide ((0 : Int) < law_dr_5)) (e := c_25) (d := c_25) O (fun Q1 k1 => ?_) (fun h24 => ⟨rfl, fun H O Q2 k2 => ?_⟩) (fun h24 => Option.some.inj (ifF h26 h24)) (fun H O => ?_)
        · refine ⟨_, rfl, _, _, rfl, rfl, _, rfl, ?_⟩
          exact k1 _ O
        · replace hm := ifT h26 h24
          obtain ⟨c_22, h23, hm⟩ := bndE hm
          obtain rfl := Option.some.inj hm
          refine x_and (c := decide ((0 : Int) < k_15)) (e := c_22) (d := c_22) O (fun Q1 k1 => ?_) (fun h21 => ⟨rfl, fun H O Q2 k2 => ?_⟩) (fun h21 => Option.some.inj (ifF h23 h21)) (fun H O => ?_)
          · refine ⟨_, rfl, _, _, rfl, rfl, _, rfl, ?_⟩
            exact k1 _ O
          · replace hm := ifT h23 h21
            obtain ⟨law_dr_19, h20, hm⟩ := bndE hm
            obtain rfl := Option.some.inj hm
            refine ⟨_, rfl, _, rfl, _, _, rfl, rfl, .inl ⟨by decide, by decide⟩, _, _, rfl, rfl, _, rfl, _, _, rfl, rfl, .inl ⟨by decide, by decide⟩, _, _, rfl, rfl, ?_⟩
            refine x_nil ?_
            refine ⟨_, _, _, _, law_dr_19, rfl, (O.ex.l hp_a_2), h20, ?_⟩
            refine O.retV fun H O => ?_
            refine ⟨_, _, rfl, rfl, _, rfl, ?_⟩
            exact k2 _ O
          exact k2 _ O
        refine iteS (c := c_25) (fun h27 => ?_) (fun h27 => ?_)
        · replace hm := ifT h28 h27
          -- 26
          refine o_asg ?_
          obtain ⟨e_29, h30, hm⟩ := bndE hm
          refine ⟨_, rfl, _, rfl, _, _, rfl, rfl, ?_⟩
          refine k_ixL (f := V.int) (SqL.of (O.mem (List.Mem.head _))) h30 ?_
          obtain rfl := Option.some.inj hm
          exact ⟨_, rfl, O⟩
        · replace hm := ifF h28 h27
          refine o_next ?_
          obtain rfl := Option.some.inj hm
          exact ⟨_, rfl, O⟩
      rintro σ H ⟨j_31, rfl, O⟩
      -- 27
      refine o_drop ?_
      obtain ⟨l_33, h34, hm⟩ := bndE hm
      refine ⟨_, rfl, .inl ⟨rfl, _, (SqL.of (O.mem (List.Mem.head _)))⟩, _, rfl, ?_⟩
      refine x_nil ?_
      refine k_app (f := V.int) (O.mem (List.Mem.head _)) (fun _ => O.put0) h34 fun H O => ?_
      obtain rfl := Option.some.inj hm
      exact ⟨_, _, _, rfl, O, hL⟩
    rintro σ H ⟨bits_9, j_10, j_11, rfl, O, hL⟩
    cases loopM_nil hL
    -- 28
    refine o_ret ?_
    refine ⟨_, rfl, ?_⟩
    obtain rfl := Option.some.inj hm
    exact RetL.go k O (List.Mem.head _)
def m__law_wire_L0  (bit_9 : Int) (wire_4 : List Int) : Option ((List Int)) :=
  bnd (appG wire_4 bit_9) fun l_11 =>
  ifB (decide ((4 : Int) < (List.length l_11 : Int)) && (decide (((List.sum (cutL l_11 (some ((List.length l_11 : Int) - (5 : Int))) none)) % (5 : Int)) = (0 : Int)))) (
    bnd (appG l_11 ((1 : Int) - bit_9)) fun l_16 =>
    some l_16) (
    some l_11)
def m__law_wire (bits_1 : List Int) : Option (List Int) :=
  bnd (loopM (fun bit_9 s => m__law_wire_L0 bit_9 s) bits_1 ([] : List Int)) fun wire_6 =>
  some wire_6
def sp__law_wire (K : PySem.W.Frag) : Sp := fun vs H Q _ => ∃ (bits_1 : List Int) (a_2 : Addr) (r : List Int), vs = [.ref a_2] ∧ H a_2 = some (.lst (List.map V.int bits_1)) ∧ m__law_wire bits_1 = some r ∧ RetL (List.map V.int r) H Q
abbrev N__law_wire : List Str := ["bits", "wire", "bit"]
theorem sc__law_wire : FnScope N__law_wire ["bits"] (defScope s__law_wire) := ⟨rfl, rfl, rfl, by decide +kernel, rfl, by decide +kernel, by decide +kernel⟩
theorem ok__law_wire {ad : Ad} (T : Txt K mg ad) : FnOk P w K mg base CX0 1 ad.f__law_wire ad.fd__law_wire ["bits"] (sp__law_wire K) := by
  refine T.F__law_wire.ok sc__law_wire (fun vs H Q E h => ?_) (fun cdv A outer s H vs Q E hr h => ?_)
  · obtain ⟨_, _, _, rfl, _⟩ := h
    rfl
  · obtain ⟨bits_1, a_2, r, rfl, hp_a_2, hm, k⟩ := h
    unfold m__law_wire at hm
    obtain ⟨H0, hH0⟩ : ∃ H0 : Hp, H0 = H := ⟨H, rfl⟩
    have O : Own H0 H [] := by rw [hH0]; exact Own.start H
    rw [← hH0] at k hp_a_2
    clear hH0
    refine ⟨_, (pss_cons (ps_set (i := 1) sc__law_wire.nd rfl (Or.inl rfl) (pe_lstQ (pe_lst pa_nil))) (pss_cons (ps_for PassesOwn.never rfl (pi_list (pv 0)) (pg_name (i := 2) sc__law_wire.nd rfl (Or.inl rfl)) (pss_cons (ps_expr (pe_bm PySem.F.plainAttrs_list PySem.F.slot_list_append PySem.F.type_list_append mt_append (pv 1) (pa_cons (pv 2) pa_nil))) (pss_one (ps_if (PW.pt (pw_and (pt_cmpR op_gt (pe_callB call_lenQ (by rfl) T.z_len PySem.boot_len (pa_cons (pv 1) pa_nil)) pe_int (nomark _)) (pw_and1 (pt_cmpR op_eq (pe_op op_mod (pe_callB (cr_sum rfl) (by rfl) T.z_sum (by decide +kernel) (pa_cons (pe_slice sl_list (pv 1) (po_some (pe_op op_sub (pe_callB call_lenQ (by rfl) T.z_len PySem.boot_len (pa_cons (pv 1) pa_nil)) pe_int)) po_none) pa_nil)) pe_int) pe_int (nomark _))))) (pss_one (ps_expr (pe_bm PySem.F.plainAttrs_list PySem.F.slot_list_append PySem.F.type_list_append mt_append (pv 1) (pa_cons (pe_op op_sub pe_int (pv 2)) pa_nil)))) pss_nil)))) (pss_one (ps_ret (pv 1))))), ?_⟩
    -- 30
    refine o_seq ?_
    refine o_asg ?_
    refine x_nil ?_
    refine n_lst (f := V.int) (xs := ([] : List Int)) O rfl (Nat.zero_le _) fun p_3 H O => ?_
    -- 31
    refine o_seq ?_
    refine o_for ?_
    refine ⟨_, rfl, ?_⟩
    obtain ⟨wire_6, h7, hm⟩ := bndE hm
    refine ⟨_, rfl, ⟨_, (SqL.of (O.ex _ _ hp_a_2))⟩, q_forL (f := V.int) (xs := bits_1) (fun r σ H => ∃ (wire_4 : List Int) (j_5 : Option V), σ = [some (.ref a_2), some (.ref p_3), j_5] ∧ Own H0 H [(p_3, .lst (List.map V.int wire_4))] ∧ loopM (fun bit_9 s => m__law_wire_L0 bit_9 s) r wire_4 = some wire_6) ⟨_, _, rfl, O, h7⟩ (by rintro r σ H ⟨wire_4, j_5, rfl, O, hL⟩; exact (SqL.of (O.ex _ _ hp_a_2))) ?_ ?_⟩
    · rintro bit_9 r σ H ⟨wire_4, j_5, rfl, O, hL⟩
      obtain ⟨s_, hm, hL⟩ := loopM_cons hL
      replace hm : m__law_wire_L0 bit_9 wire_4 = some s_ := hm
      unfold m__law_wire_L0 at hm
      -- 32
      refine o_seq ?_
      refine o_drop ?_
      obtain ⟨l_11, h12, hm⟩ := bndE hm
      refine ⟨_, rfl, .inl ⟨rfl, _, (SqL.of (O.mem (List.Mem.head _)))⟩, _, rfl, ?_⟩
      refine x_nil ?_
      refine k_app (f := V.int) (O.mem (List.Mem.head _)) (fun _ => O.put0) h12 fun H O => ?_
      -- 33
      refine o_ifs ?_
      refine x_and (c := decide ((4 : Int) < (List.length l_11 : Int))) (e := (decide (((List.sum (cutL l_11 (some ((List.length l_11 : Int) - (5 : Int))) none)) % (5 : Int)) = (0 : Int)))) (d := (decide ((4 : Int) < (List.length l_11 : Int)) && (decide (((List.sum (cutL l_11 (some ((List.length l_11 : Int) - (5 : Int))) none)) % (5 : Int)) = (0 : Int))))) O (fun Q1 k1 => ?_) (fun h14 => ⟨by rw [h14]; rfl, fun H O Q2 k2 => ?_⟩) (fun h14 => by rw [h14]; rfl) (fun H O => ?_)
      · refine ⟨_, rfl, ?_⟩
        refine x_nil ?_
        refine n_len (SqL.of (O.mem (List.Mem.head _))) ?_
        refine ⟨_, _, rfl, rfl, _, rfl, ?_⟩
        exact k1 _ O
      · refine ⟨_, rfl, _, rfl, ?_⟩
        refine x_nil ?_
        refine n_len (SqL.of (O.mem (List.Mem.head _))) ?_
        refine ⟨_, _, rfl, rfl, _, rfl, ?_⟩
        refine x_np ?_
        refine k_cut (f := V.int) O (SqL.of (O.mem (List.Mem.head _))) fun p_13 H O => ?_
        refine x_nil ?_
        refine k_sum (SqL.of (O.mem (List.Mem.head _))) ?_
        refine ⟨_, _, rfl, rfl, (by show (0 : Int) < 5; decide), ?_⟩
        refine o_c ?_
        refine k_eqI ?_
        refine ⟨_, rfl, ?_⟩
        replace O := O.tl
        exact k2 _ O
      refine iteS (c := (decide ((4 : Int) < (List.length l_11 : Int)) && (decide (((List.sum (cutL l_11 (some ((List.length l_11 : Int) - (5 : Int))) none)) % (5 : Int)) = (0 : Int))))) (fun h15 => ?_) (fun h15 => ?_)
      · replace hm := ifT hm h15
        -- 34
        refine o_drop ?_
        obtain ⟨l_16, h17, hm⟩ := bndE hm
        refine ⟨_, rfl, .inl ⟨rfl, _, (SqL.of (O.mem (List.Mem.head _)))⟩, _, rfl, _, _, rfl, rfl, ?_⟩
        refine x_nil ?_
        refine k_app (f := V.int) (O.mem (List.Mem.head _)) (fun _ => O.put0) h17 fun H O => ?_
        obtain rfl := Option.some.inj hm
        exact ⟨_, _, rfl, O, hL⟩
      · replace hm := ifF hm h15
        refine o_next ?_
        obtain rfl := Option.some.inj hm
        exact ⟨_, _, rfl, O, hL⟩
    rintro σ H ⟨wire_4, j_5, rfl, O, hL⟩
    cases loopM_nil hL
    -- 35
    refine o_ret ?_
    refine ⟨_, rfl, ?_⟩
    obtain rfl := Option.some.inj hm
    exact RetL.go k O (List.Mem.head _)
def m__law_good_L0  (bit_18 : Int) : Option (Fl (Unit) (Bool)) :=
  ifB ((!true) || false) (
    some (.rt false)) (
    some (.nx ()))
def m__law_good (bits_1 : List Int) : Option Bool :=
  bnd (m_put_in bits_1) fun put_in_4 =>
  bnd (ifB (!true) (some true) (bnd (m__law_wire bits_1) fun law_wi_7 => some ((!decide (put_in_4 = law_wi_7)) || (!decide (bits_1 = bits_1))))) fun c_12 =>
  ifB c_12 (
    some false) (
    fin (loopF (fun bit_18 (_ : Unit) => m__law_good_L0 bit_18) put_in_4 ()) fun _ =>
    bnd (appG put_in_4 (0 : Int)) fun l_23 =>
    ifB (!decide (bits_1 = bits_1)) (
      some false) (
      bnd (appG bits_1 (1 : Int)) fun l_26 =>
      bnd (catG put_in_4 ([(0 : Int)])) fun t_29 =>
      bnd (ifB (decide (l_23 = t_29)) (bnd (m_put_in bits_1) fun put_in_33 => some (decide (put_in_33 = put_in_4))) (some false)) fun c_37 =>
      some c_37))
def sp__law_good (K : PySem.W.Frag) : Sp := fun vs H Q _ => ∃ (bits_1 : List Int) (a_2 : Addr) (r : Bool), vs = [.ref a_2] ∧ H a_2 = some (.lst (List.map V.int bits_1)) ∧ m__law_good bits_1 = some r ∧ RetV (.bl r) H Q
abbrev N__law_good : List Str := ["bits", "handed", "found", "bit", "kept"]
theorem sc__law_good : FnScope N__law_good ["bits"] (defScope s__law_good) := ⟨rfl, rfl, rfl, by decide +kernel, rfl, by decide +kernel, by decide +kernel⟩
theorem ok__law_good {ad : Ad} (T : Txt K mg ad) : FnOk P w K mg base CX0 2 ad.f__law_good ad.fd__law_good ["bits"] (sp__law_good K) := by
  have G__law_wire := ok__law_wire (P := P) (w := w) (base := base) T
  have G_put_in := ok_put_in (P := P) (w := w) (base := base) T
  refine T.F__law_good.ok sc__law_good (fun vs H Q E h => ?_) (fun cdv A outer s H vs Q E hr h => ?_)
  · obtain ⟨_, _, _, rfl, _⟩ := h
    rfl
  · obtain ⟨bits_1, a_2, r, rfl, hp_a_2, hm, k⟩ := h
    unfold m__law_good at hm
    obtain ⟨H0, hH0⟩ : ∃ H0 : Hp, H0 = H := ⟨H, rfl⟩
    have O : Own H0 H [] := by rw [hH0]; exact Own.start H
    rw [← hH0] at k hp_a_2
    clear hH0
    refine ⟨_, (pss_cons (ps_set (i := 1) sc__law_good.nd rfl (Or.inl rfl) (pe_callTy call_listQ (by rfl) T.z_list (by decide +kernel) (pa_cons (pv 0) pa_nil))) (pss_cons (ps_set (i := 2) sc__law_good.nd rfl (Or.inl rfl) (pe_call G_put_in (hr.mono (by decide)) (by rfl) T.g_put_in T.F_put_in.kp T.b_put_in .nil pass0 (pa_cons (pv 1) pa_nil))) (pss_cons (ps_if (PW.pt (pw_or (pt_not (pt_val (pe_callB call_isi (by rfl) T.z_isinstance (by decide +kernel) (pa_cons (pv 2) (pa_cons (pe_bltn (v := V.ty "list") (u := .type "list") (by rfl) T.z_list (by decide +kernel) rfl) pa_nil))))) (pw_or (pt_cmpR (op_neD hr.units) (pv 2) (pe_call G__law_wire (hr.mono (by decide)) (by rfl) T.g__law_wire T.F__law_wire.kp T.b__law_wire .nil pass0 (pa_cons (pv 0) pa_nil)) (nomark _)) (pw_or1 (pt_cmpR (op_neD hr.units) (pv 1) (pv 0) (nomark _)))))) (pss_one (ps_ret pe_bl)) pss_nil) (pss_cons (ps_for PassesOwn.never rfl (pi_list (pv 2)) (pg_name (i := 3) sc__law_good.nd rfl (Or.inl rfl)) (pss_one (ps_if (PW.pt (pw_or (pt_not (pt_val (pe_callB call_isi (by rfl) T.z_isinstance (by decide +kernel) (pa_cons (pv 3) (pa_cons (pe_bltn (v := V.ty "int") (u := .type "int") (by rfl) T.z_int (by decide +kernel) rfl) pa_nil))))) (pw_or1 (pt_val (pe_callB call_isi (by rfl) T.z_isinstance (by decide +kernel) (pa_cons (pv 3) (pa_cons (pe_bltn (v := V.ty "bool") (u := .type "bool") (by rfl) T.z_bool (by decide +kernel) rfl) pa_nil))))))) (pss_one (ps_ret pe_bl)) pss_nil))) (pss_cons (ps_set (i := 4) sc__law_good.nd rfl (Or.inl rfl) (pe_callTy call_listQ (by rfl) T.z_list (by decide +kernel) (pa_cons (pv 2) pa_nil))) (pss_cons (ps_expr (pe_bm PySem.F.plainAttrs_list PySem.F.slot_list_append PySem.F.type_list_append mt_append (pv 2) (pa_cons pe_int pa_nil))) (pss_cons (ps_if (pt_cmpR (op_neD hr.units) (pv 1) (pv 0) (nomark _)) (pss_one (ps_ret pe_bl)) pss_nil) (pss_cons (ps_expr (pe_bm PySem.F.plainAttrs_list PySem.F.slot_list_append PySem.F.type_list_append mt_append (pv 1) (pa_cons pe_int pa_nil))) (pss_one (ps_ret (pe_and (pe_cmpR (op_eqD hr.units) (pv 2) (pe_op op_cat (pv 4) (pe_lstQ (pe_lst (pa_cons pe_int pa_nil)))) (nomark _)) (pe_one (pe_cmpR (op_eqD hr.units) (pe_call G_put_in (hr.mono (by decide)) (by rfl) T.g_put_in T.F_put_in.kp T.b_put_in .nil pass0 (pa_cons (pe_callTy call_listQ (by rfl) T.z_list (by decide +kernel) (pa_cons (pv 0) pa_nil)) pa_nil)) (pv 4) (nomark _)))))))))))))), ?_⟩
    -- 37
    refine o_seq ?_
    refine o_asg ?_
    refine ⟨_, rfl, ?_⟩
    refine x_nil ?_
    refine n_list O (SqL.of (O.ex _ _ hp_a_2)) fun p_3 H O => ?_
    -- 38
    refine o_seq ?_
    refine o_asg ?_
    obtain ⟨put_in_4, h5, hm⟩ := bndE hm
    refine ⟨_, rfl, ?_⟩
    refine x_nil ?_
    refine ⟨_, _, put_in_4, rfl, (O.mem (List.Mem.head _)), h5, ?_⟩
    refine O.retL fun p_6 H O => ?_
    -- 39
    refine o_seq ?_
    refine o_ifs ?_
    obtain ⟨c_12, h13, hm⟩ := bndE hm
    refine x_or (c := (!true)) (e := c_12) (d := c_12) O (fun Q1 k1 => ?_) (fun h11 => ⟨rfl, fun H O Q2 k2 => ?_⟩) (fun h11 => Option.some.inj (ifT h13 h11)) (fun H O => ?_)
    · refine ⟨_, rfl, _, _, _, _, true, rfl, .ty _, .base (.lst (O.mem (List.Mem.head _))), kit_ty (by decide +kernel), _, rfl, ?_⟩
      exact k1 _ O
    · replace hm := ifF h13 h11
      obtain ⟨law_wi_7, h8, hm⟩ := bndE hm
      obtain rfl := Option.some.inj hm
      refine x_or (c := (!decide (put_in_4 = law_wi_7))) (e := (!decide (bits_1 = bits_1))) (d := ((!decide (put_in_4 = law_wi_7)) || (!decide (bits_1 = bits_1)))) O (fun Q1 k1 => ?_) (fun h10 => ⟨by rw [h10]; rfl, fun H O Q2 k2 => ?_⟩) (fun h10 => by rw [h10]; rfl) (fun H O => ?_)
      · refine ⟨_, rfl, _, rfl, ?_⟩
        refine x_nil ?_
        refine ⟨_, _, law_wi_7, rfl, (O.ex _ _ hp_a_2), h8, ?_⟩
        refine O.retL fun p_9 H O => ?_
        refine k_neLI (SqL.of (O.mem (List.Mem.tail _ (List.Mem.head _)))) (SqL.of (O.mem (List.Mem.head _))) ?_
        refine ⟨_, rfl, ?_⟩
        replace O := O.tl
        exact k1 _ O
      · refine ⟨_, rfl, _, rfl, ?_⟩
        refine k_neLI (SqL.of (O.mem (List.Mem.tail _ (List.Mem.head _)))) (SqL.of (O.ex _ _ hp_a_2)) ?_
        refine ⟨_, rfl, ?_⟩
        exact k2 _ O
      exact k2 _ O
    refine iteS (c := c_12) (fun h14 => ?_) (fun h14 => ?_)
    · replace hm := ifT hm h14
      -- 40
      refine o_ret ?_
      refine o_c ?_
      obtain rfl := Option.some.inj hm
      exact RetV.go k O
    · replace hm := ifF hm h14
      refine o_next ?_
      -- 41
      refine o_seq ?_
      refine o_for ?_
      refine ⟨_, rfl, ?_⟩
      obtain ⟨out_19, h16, h17⟩ := bndE hm
      refine ⟨_, rfl, ⟨_, (SqL.of (O.mem (List.Mem.head _)))⟩, q_forL (f := V.int) (xs := put_in_4) (fun r σ H => ∃ (j_15 : Option V), σ = [some (.ref a_2), some (.ref p_3), some (.ref p_6), j_15, none] ∧ Own H0 H [(p_3, .lst (List.map V.int bits_1)), (p_6, .lst (List.map V.int put_in_4))] ∧ loopF (fun bit_18 (_ : Unit) => m__law_good_L0 bit_18) r () = some out_19) ⟨_, rfl, O.sel [1, 0] (by decide) rfl, h16⟩ (by rintro r σ H ⟨j_15, rfl, O, hL⟩; exact (SqL.of (O.mem (List.Mem.tail _ (List.Mem.head _))))) ?_ ?_⟩
      · rintro bit_18 r σ H ⟨j_15, rfl, O, hL⟩
        obtain ⟨s_, hm, hL⟩ := loopF_cons hL
        replace hm : m__law_good_L0 bit_18 = some s_ := hm
        unfold m__law_good_L0 at hm
        -- 42
        refine o_ifs ?_
        refine x_or (c := (!true)) (e := false) (d := ((!true) || false)) O (fun Q1 k1 => ?_) (fun h20 => ⟨by rw [h20]; rfl, fun H O Q2 k2 => ?_⟩) (fun h20 => by rw [h20]; rfl) (fun H O => ?_)
        · refine ⟨_, rfl, _, _, _, _, true, rfl, .ty _, .base (.int _), kit_ty (by decide +kernel), _, rfl, ?_⟩
          exact k1 _ O
        · refine ⟨_, rfl, _, _, _, _, false, rfl, .ty _, .base (.int _), kit_ty (by decide +kernel), _, rfl, ?_⟩
          exact k2 _ O
        refine iteS (c := ((!true) || false)) (fun h21 => ?_) (fun h21 => ?_)
        · replace hm := ifT hm h21
          -- 43
          refine o_ret ?_
          refine o_c ?_
          obtain rfl := Option.some.inj hm
          obtain rfl := contRt hL
          obtain rfl := finRt h17
          exact RetV.go k O
        · replace hm := ifF hm h21
          refine o_next ?_
          obtain rfl := Option.some.inj hm
          exact ⟨_, rfl, O, hL⟩
      rintro σ H ⟨j_15, rfl, O, hL⟩
      obtain rfl := loopF_nil hL
      replace hm := finNx h17
      -- 44
      refine o_seq ?_
      refine o_asg ?_
      refine ⟨_, rfl, ?_⟩
      refine x_nil ?_
      refine n_list O (SqL.of (O.mem (List.Mem.tail _ (List.Mem.head _)))) fun p_22 H O => ?_
      -- 45
      refine o_seq ?_
      refine o_drop ?_
      obtain ⟨l_23, h24, hm⟩ := bndE hm
      refine ⟨_, rfl, .inl ⟨rfl, _, (SqL.of (O.mem (List.Mem.tail _ (List.Mem.tail _ (List.Mem.head _)))))⟩, ?_⟩
      refine o_cons ?_
      refine o_c ?_
      refine x_nil ?_
      refine k_app (f := V.int) (O.mem (List.Mem.tail _ (List.Mem.tail _ (List.Mem.head _)))) (fun _ => O.put2) h24 fun H O => ?_
      -- 46
      refine o_seq ?_
      refine o_ifs ?_
      refine ⟨_, rfl, _, rfl, ?_⟩
      refine k_neLI (SqL.of (O.mem (List.Mem.tail _ (List.Mem.head _)))) (SqL.of (O.ex _ _ hp_a_2)) ?_
      refine ⟨_, rfl, ?_⟩
      refine iteS (c := (!decide (bits_1 = bits_1))) (fun h25 => ?_) (fun h25 => ?_)
      · replace hm := ifT hm h25
        -- 47
        refine o_ret ?_
        refine o_c ?_
        obtain rfl := Option.some.inj hm
        exact RetV.go k O
      · replace hm := ifF hm h25
        refine o_next ?_
        -- 48
        refine o_seq ?_
        refine o_drop ?_
        obtain ⟨l_26, h27, hm⟩ := bndE hm
        refine ⟨_, rfl, .inl ⟨rfl, _, (SqL.of (O.mem (List.Mem.tail _ (List.Mem.head _))))⟩, ?_⟩
        refine o_cons ?_
        refine o_c ?_
        refine x_nil ?_
        refine k_app (f := V.int) (O.mem (List.Mem.tail _ (List.Mem.head _))) (fun _ => O.put1) h27 fun H O => ?_
        -- 49
        refine o_ret ?_
        obtain ⟨t_29, h30, hm⟩ := bndE hm
        obtain ⟨c_37, h38, hm⟩ := bndE hm
        refine x_andV (c := (decide (l_23 = t_29))) (e := c_37) (d := c_37) O (fun Q1 k1 => ?_) (fun h36 => ⟨rfl, fun H O Q2 k2 => ?_⟩) (fun h36 => Option.some.inj (ifF h38 h36)) (fun H O => ?_)
        · refine ⟨_, rfl, _, rfl, ?_⟩
          refine o_cons ?_
          refine o_c ?_
          refine x_nil ?_
          refine n_lst (f := V.int) (xs := [(0 : Int)]) O rfl (by show 1 ≤ sizeLine; decide) fun p_28 H O => ?_
          refine k_cat (f := V.int) O (O.mem (List.Mem.tail _ (List.Mem.head _))) (O.mem (List.Mem.head _)) h30 fun p_31 H O => ?_
          refine k_eqLI (SqL.of (O.mem (List.Mem.tail _ (List.Mem.tail _ (List.Mem.tail _ (List.Mem.tail _ (List.Mem.head _))))))) (SqL.of (O.mem (List.Mem.head _))) ?_
          replace O := O.tl.tl
          exact k1 _ O
        · replace hm := ifT h38 h36
          obtain ⟨put_in_33, h34, hm⟩ := bndE hm
          obtain rfl := Option.some.inj hm
          refine ⟨_, rfl, ?_⟩
          refine x_nil ?_
          refine n_list O (SqL.of (O.ex _ _ hp_a_2)) fun p_32 H O => ?_
          refine x_nil ?_
          refine ⟨_, _, put_in_33, rfl, (O.mem (List.Mem.head _)), h34, ?_⟩
          refine O.retL fun p_35 H O => ?_
          refine ⟨_, rfl, ?_⟩
          refine k_eqLI (SqL.of (O.mem (List.Mem.head _))) (SqL.of (O.mem (List.Mem.tail _ (List.Mem.tail _ (List.Mem.head _))))) ?_
          replace O := O.tl.tl
          exact k2 _ O
        obtain rfl := Option.some.inj hm
        exact RetV.go k O
def m_law (script_1 : List Int) : Option Bool :=
  bnd (m__law_draw script_1 (0 : Int) (61 : Int)) fun law_dr_3 =>
  bnd (m__law_draw script_1 (2 : Int) (5 : Int)) fun law_dr_5 =>
  bnd (ifB (decide (law_dr_5 = (1 : Int))) (
    some (law_dr_3 + (260 : Int))) (
    some law_dr_3)) fun many_9 =>
  bnd (m__law_row script_1 many_9) fun law_ro_10 =>
  bnd (m__law_good law_ro_10) fun law_go_13 =>
  bnd (ifB law_go_13 (bnd (m__law_draw script_1 (3 : Int) (2 : Int)) fun law_dr_15 =>
  bnd (repG ([law_dr_15]) many_9) fun t_18 =>
  bnd (m__law_good t_18) fun law_go_21 => some law_go_21) (some false)) fun c_24 =>
  some c_24
def sp_law (K : PySem.W.Frag) : Sp := fun vs H Q _ => ∃ (script_1 : List Int) (a_2 : Addr) (r : Bool), vs = [.ref a_2] ∧ SqL K H a_2 (List.map V.int script_1) ∧ m_law script_1 = some r ∧ RetV (.bl r) H Q
abbrev N_law : List Str := ["script", "many"]
theorem sc_law : FnScope N_law ["script"] (defScope s_law) := ⟨rfl, rfl, rfl, by decide +kernel, rfl, by decide +kernel, by decide +kernel⟩
theorem ok_law {ad : Ad} (T : Txt K mg ad) : FnOk P w K mg base CX0 3 ad.f_law ad.fd_law ["script"] (sp_law K) := by
  have G__law_draw := ok__law_draw (P := P) (w := w) (base := base) T
  have G__law_good := ok__law_good (P := P) (w := w) (base := base) T
  have G__law_row := ok__law_row (P := P) (w := w) (base := base) T
  refine T.F_law.ok sc_law (fun vs H Q E h => ?_) (fun cdv A outer s H vs Q E hr h => ?_)
  · obtain ⟨_, _, _, rfl, _⟩ := h
    rfl
  · obtain ⟨script_1, a_2, r, rfl, hp_a_2, hm, k⟩ := h
    unfold m_law at hm
    obtain ⟨H0, hH0⟩ : ∃ H0 : Hp, H0 = H := ⟨H, rfl⟩
    have O : Own H0 H [] := by rw [hH0]; exact Own.start H
    rw [← hH0] at k hp_a_2
    clear hH0
    refine ⟨_, (pss_cons (ps_set (i := 1) sc_law.nd rfl (Or.inl rfl) (pe_call G__law_draw (hr.mono (by decide)) (by rfl) T.g__law_draw T.F__law_draw.kp T.b__law_draw .nil pass0 (pa_cons (pv 0) (pa_cons pe_int (pa_cons pe_int pa_nil))))) (Evl.pss_cut (ps_if (pt_cmpR op_eq (pe_call G__law_draw (hr.mono (by decide)) (by rfl) T.g__law_draw T.F__law_draw.kp T.b__law_draw .nil pass0 (pa_cons (pv 0) (pa_cons pe_int (pa_cons pe_int pa_nil)))) pe_int (nomark _)) (pss_one (ps_set (i := 1) sc_law.nd rfl (Or.inl rfl) (pe_op op_add (pv 1) pe_int))) pss_nil) (pss_one (ps_ret (pe_and (pe_call G__law_good (hr.mono (by decide)) (by rfl) T.g__law_good T.F__law_good.kp T.b__law_good .nil pass0 (pa_cons (pe_call G__law_row (hr.mono (by decide)) (by rfl) T.g__law_row T.F__law_row.kp T.b__law_row .nil pass0 (pa_cons (pv 0) (pa_cons (pv 1) pa_nil))) pa_nil)) (pe_one (pe_call G__law_good (hr.mono (by decide)) (by rfl) T.g__law_good T.F__law_good.kp T.b__law_good .nil pass0 (pa_cons (pe_op op_rep (pe_lstQ (pe_lst (pa_cons (pe_call G__law_draw (hr.mono (by decide)) (by rfl) T.g__law_draw T.F__law_draw.kp T.b__law_draw .nil pass0 (pa_cons (pv 0) (pa_cons pe_int (pa_cons pe_int pa_nil)))) pa_nil))) (pv 1)) pa_nil)))))))), ?_⟩
    -- 51
    refine o_seq ?_
    refine o_asg ?_
    obtain ⟨law_dr_3, h4, hm⟩ := bndE hm
    refine ⟨_, rfl, ?_⟩
    refine o_cons ?_
    refine o_c ?_
    refine o_cons ?_
    refine o_c ?_
    refine x_nil ?_
    refine ⟨_, _, _, _, law_dr_3, rfl, (O.ex.l hp_a_2), h4, ?_⟩
    refine O.retV fun H O => ?_
    -- 52
    obtain ⟨law_dr_5, h6, hm⟩ := bndE hm
    obtain ⟨many_9, h8, hm⟩ := bndE hm
    refine o_cut (fun σ H => σ = [some (.ref a_2), some (.int many_9)] ∧ Own H0 H []) ?_ ?_
    · refine o_ifs ?_
      refine ⟨_, rfl, ?_⟩
      refine o_cons ?_
      refine o_c ?_
      refine o_cons ?_
      refine o_c ?_
      refine x_nil ?_
      refine ⟨_, _, _, _, law_dr_5, rfl, (O.ex.l hp_a_2), h6, ?_⟩
      refine O.retV fun H O => ?_
      refine o_c ?_
      refine k_eqI ?_
      refine ⟨_, rfl, ?_⟩
      refine iteS (c := (decide (law_dr_5 = (1 : Int)))) (fun h7 => ?_) (fun h7 => ?_)
      · replace hm := ifT h8 h7
        -- 53
        refine o_asg ?_
        refine ⟨_, rfl, _, _, rfl, rfl, ?_⟩
        obtain rfl := Option.some.inj hm
        exact ⟨rfl, O⟩
      · replace hm := ifF h8 h7
        refine o_next ?_
        obtain rfl := Option.some.inj hm
        exact ⟨rfl, O⟩
    rintro σ H ⟨rfl, O⟩
    -- 54
    refine o_ret ?_
    obtain ⟨law_ro_10, h11, hm⟩ := bndE hm
    obtain ⟨law_go_13, h14, hm⟩ := bndE hm
    obtain ⟨c_24, h25, hm⟩ := bndE hm
    refine x_andV (c := law_go_13) (e := c_24) (d := c_24) O (fun Q1 k1 => ?_) (fun h23 => ⟨rfl, fun H O Q2 k2 => ?_⟩) (fun h23 => Option.some.inj (ifF h25 h23)) (fun H O => ?_)
    · refine ⟨_, rfl, _, rfl, ?_⟩
      refine x_nil ?_
      refine ⟨_, _, _, law_ro_10, rfl, (O.ex.l hp_a_2), h11, ?_⟩
      refine O.retL fun p_12 H O => ?_
      refine x_nil ?_
      refine ⟨_, _, law_go_13, rfl, (O.mem (List.Mem.head _)), h14, ?_⟩
      refine O.retV fun H O => ?_
      replace O := O.tl
      exact k1 _ O
    · replace hm := ifT h25 h23
      obtain ⟨law_dr_15, h16, hm⟩ := bndE hm
      obtain ⟨t_18, h19, hm⟩ := bndE hm
      obtain ⟨law_go_21, h22, hm⟩ := bndE hm
      obtain rfl := Option.some.inj hm
      refine ⟨_, rfl, ?_⟩
      refine o_cons ?_
      refine o_c ?_
      refine o_cons ?_
      refine o_c ?_
      refine x_nil ?_
      refine ⟨_, _, _, _, law_dr_15, rfl, (O.ex.l hp_a_2), h16, ?_⟩
      refine O.retV fun H O => ?_
      refine x_nil ?_
      refine n_lst (f := V.int) (xs := [law_dr_15]) O rfl (by show 1 ≤ sizeLine; decide) fun p_17 H O => ?_
      refine ⟨_, rfl, ?_⟩
      refine k_rep (f := V.int) O (O.mem (List.Mem.head _)) h19 fun p_20 H O => ?_
      refine x_nil ?_
      refine ⟨_, _, law_go_21, rfl, (O.mem (List.Mem.head _)), h22, ?_⟩
      refine O.retV fun H O => ?_
      replace O := O.tl.tl
      exact k2 _ O
    obtain rfl := Option.some.inj hm
    exact RetV.go k O
end
theorem walk {l : PySem.W.OpenLaw} {q : Program} {loose : List Str} {XP : (Str → Option Value) → Heap → Prop} {YP : World → Heap → Prop} {d : DefRec} {K : Params → PySem.W.Frag} (M : ∀ ns : List Int, ns.length ≤ 63 → m_law ns = some true) (hn : l.most = some 63) (hdf : d.params.defaults = [])
    (hY : ∀ (w : World) (h : Heap), YP w h → (K w.params).In h)
    (F : ∀ (w : World) (mg : Str → Option Value) (fa : Addr) (h : Heap), (K w.params).In h → h.Ns mainGlobals mg → mg d.name = some (.ref fa) →
      ∃ fd : FuncData, (∀ (s : Shared) (u : Value), BindsTo s fd ⟨[u], []⟩ [("script", u)]) ∧ ∀ base : Heap, (K w.params).In base → base.Ns mainGlobals mg → FnOk l.prog w (K w.params) mg base CX0 3 fa fd ["script"] (sp_law (K w.params))) :
    PySem.W.WalkO q loose XP YP l.row.toRowW d [] (fun f vs => PySem.call f vs) :=
  L2.walk_of (n := 63) (k := 3) (x := "script") (CX := fun _ => CX0) (sp := fun w => sp_law (K w.params)) hn (by decide) hdf ⟨rfl, by decide, by decide⟩ hY F (fun _ _ a ns hl _ hS => ⟨ns, a, true, rfl, hS, M ns hl, fun _ _ => rfl⟩) fun _ _ _ _ _ z => z
end Bt

/-! The laws' own draw: the same text in all of them. -/
namespace Bt
open PySem L2
theorem draw_ok (ns : List Int) (k many : Int) (hk : 0 ≤ k) (hk2 : k ≤ 1000000000) (hm : 0 < many) : ∃ v, m__law_draw ns k many = some v ∧ 0 ≤ v ∧ v < many := by
  have hc : ∃ c, (ifB (decide ((0 : Int) < (List.length ns : Int))) (bnd (modG k (List.length ns : Int)) fun t => bnd (atI ns t) fun e => some e) (some (0 : Int))) = some c := by
    by_cases h : (0 : Int) < (List.length ns : Int)
    · rw [decide_eq_true h, ifB_t, modG_ok h, bnd_some]
      obtain ⟨x, hx, _⟩ := atI_mem (xs := ns) (i := k % (ns.length : Int)) (Int.emod_nonneg _ (by omega)) (Int.emod_lt_of_pos _ h)
      exact ⟨x, by rw [hx]; rfl⟩
    · rw [decide_eq_false h]
      exact ⟨0, rfl⟩
  obtain ⟨c, hc⟩ := hc
  refine ⟨(((c % 1000003 + 31 * k * k + 1) * 48271 % 999983) * 7919 % 524287) % many, ?_, Int.emod_nonneg _ (by omega), Int.emod_lt_of_pos _ hm⟩
  unfold m__law_draw
  rw [bnd_of hc, mulG_ok (a := 40) (b := 40) (by omega) (by omega) (by omega), bnd_some, ltv_eq, modG_ok hm, bnd_some]
end Bt

namespace Bt
open PySem L2
def Bits (xs : List Int) : Prop := ∀ b ∈ xs, b = 0 ∨ b = 1
theorem Bits.app {xs ys : List Int} (h : Bits xs) (k : Bits ys) : Bits (xs ++ ys) := fun b hb => by
  rcases List.mem_append.mp hb with q | q
  · exact h b q
  · exact k b q
theorem Bits.one {b : Int} (h : b = 0 ∨ b = 1) : Bits [b] := fun c hc => by rw [List.mem_singleton.mp hc]; exact h
theorem Bits.drop {xs : List Int} (h : Bits xs) (n : Nat) : Bits (xs.drop n) := fun b hb => h b (List.mem_of_mem_drop hb)
theorem Bits.rep {b : Int} (h : b = 0 ∨ b = 1) (n : Nat) : Bits (List.replicate n b) := fun c hc => by rw [List.eq_of_mem_replicate hc]; exact h
theorem sum_bits : ∀ {xs : List Int}, Bits xs → 0 ≤ xs.sum ∧ xs.sum ≤ xs.length
  | [], _ => by simp
  | x :: r, h => by
    have ih := sum_bits (xs := r) fun b hb => h b (List.Mem.tail _ hb)
    have hx := h x (List.Mem.head _)
    simp only [List.sum_cons, List.length_cons]
    omega
theorem sum_rep (n : Nat) (b : Int) : (List.replicate n b).sum = n * b := by
  induction n with
  | zero => simp
  | succ n ih =>
    rw [List.replicate_succ, List.sum_cons, ih]
    rw [Int.natCast_succ, Int.add_mul, Int.one_mul, Int.add_comm]
/-- the wire ends with n alike ones, b, and no more -/
def Ends' (wire : List Int) (n : Nat) (b : Int) : Prop := ∃ t : List Int, wire = t ++ List.replicate n b ∧ ∀ u x, t = u ++ [x] → x ≠ b
/-- the wire so far -/
def WInv (wire : List Int) (run last : Int) : Prop :=
  (wire = [] ∧ run = 0 ∧ last = -1) ∨ (∃ n : Nat, Ends' wire n last ∧ run = n ∧ 1 ≤ n ∧ n ≤ 4 ∧ (last = 0 ∨ last = 1))
theorem xor1 {b : Int} (h : b = 0 ∨ b = 1) : Builtin.bitXor b 1 = 1 - b := by
  rcases h with rfl | rfl <;> decide
theorem cut5 (w : List Int) (h : 5 ≤ w.length) : cutL w (some ((w.length : Int) - 5)) none = w.drop (w.length - 5) := by
  have e : HT.sIx w.length 0 (some ((w.length : Int) - 5)) = w.length - 5 := by
    have : ((w.length : Int) - 5) = ((w.length - 5 : Nat) : Int) := by omega
    rw [this, HT.sIx_nat]
    omega
  unfold cutL
  rw [e]
  have e2 : HT.sIx w.length w.length none = w.length := rfl
  rw [e2]
  exact List.take_of_length_le (by simp)
/-- the law's own look at the last five -/
theorem looks (w : List Int) (n : Nat) (b : Int) (hb : b = 0 ∨ b = 1) (hw : Bits w) (e : Ends' w n b) (h1 : 1 ≤ n) (h5 : n ≤ 5) :
    ((decide ((4 : Int) < (List.length w : Int))) && (decide (((List.sum (cutL w (some ((List.length w : Int) - (5 : Int))) none)) % (5 : Int)) = (0 : Int)))) = decide (n = 5) := by
  obtain ⟨t, rfl, ht⟩ := e
  by_cases hl : 5 ≤ (t ++ List.replicate n b).length
  · rw [cut5 _ hl, decide_eq_true (by omega), Bool.true_and]
    have hlen : (t ++ List.replicate n b).length = t.length + n := by simp
    rw [hlen] at hl ⊢
    by_cases h : n = 5
    · subst h
      rw [Nat.add_sub_cancel, List.drop_left, sum_rep]
      rw [decide_eq_true rfl, decide_eq_true (by omega)]
    · have ht0 : t ≠ [] := fun q => by subst q; simp at hl; omega
      obtain ⟨u, x, rfl⟩ : ∃ u x, t = u ++ [x] := ⟨t.dropLast, t.getLast ht0, (List.dropLast_concat_getLast ht0).symm⟩
      have hx := ht u x rfl
      have hx2 : x = 0 ∨ x = 1 := hw x (by simp)
      have e1 : (u ++ [x] ++ List.replicate n b).drop ((u ++ [x]).length + n - 5) = u.drop (u.length + 1 + n - 5) ++ ([x] ++ List.replicate n b) := by
        rw [List.append_assoc, List.length_append, List.length_singleton]
        rw [List.drop_append_of_le_length (by omega)]
      rw [e1, List.sum_append, List.sum_append, sum_rep]
      have hu := sum_bits (xs := u.drop (u.length + 1 + n - 5)) (fun c hc => hw c (by
        have := List.mem_of_mem_drop hc
        simp [this]))
      have hlu : (u.drop (u.length + 1 + n - 5)).length = 4 - n := by
        rw [List.length_drop]
        simp only [List.length_append, List.length_singleton] at hl
        omega
      rw [hlu] at hu
      have hs : [x].sum = x := by simp
      rw [hs]
      rw [decide_eq_false h, decide_eq_false]
      rcases hb with rfl | rfl <;> rcases hx2 with rfl | rfl <;> omega
  · have hlen : (t ++ List.replicate n b).length = t.length + n := by simp
    rw [hlen] at hl ⊢
    rw [decide_eq_false (by omega), Bool.false_and, decide_eq_false (by omega)]
theorem ends_more {wire : List Int} {n : Nat} {b : Int} (e : Ends' wire n b) : Ends' (wire ++ [b]) (n + 1) b := by
  obtain ⟨t, rfl, ht⟩ := e
  exact ⟨t, by rw [List.append_assoc, List.replicate_succ'], ht⟩
theorem ends_new {wire : List Int} {b : Int} (h : ∀ u x, wire = u ++ [x] → x ≠ b) : Ends' (wire ++ [b]) 1 b := ⟨wire, rfl, h⟩
theorem ends_last {wire : List Int} {n : Nat} {b : Int} (e : Ends' wire n b) (h1 : 1 ≤ n) : ∀ u x, wire = u ++ [x] → x = b := fun u x q => by
  obtain ⟨t, rfl, _⟩ := e
  obtain ⟨m, rfl⟩ : ∃ m, n = m + 1 := ⟨n - 1, by omega⟩
  rw [List.replicate_succ', ← List.append_assoc] at q
  exact (List.append_inj_right' q rfl |> List.singleton_inj.mp).symm
/-- one turn of both -/
theorem turn {b : Int} {wire : List Int} {run last : Int} (hb : b = 0 ∨ b = 1) (hw : Bits wire) (I : WInv wire run last) (hz : wire.length ≤ 100000) :
    ∃ w' r' l', m_put_in_L0 b wire run last = some (w', r', l') ∧ m__law_wire_L0 b wire = some w' ∧ WInv w' r' l' ∧ Bits w' ∧ w'.length ≤ wire.length + 2 := by
  obtain ⟨n, e, h1, h5, hr⟩ : ∃ n : Nat, Ends' (wire ++ [b]) n b ∧ 1 ≤ n ∧ n ≤ 5 ∧ ifB (decide (b = last)) (run + 1) 1 = (n : Int) := by
    rcases I with ⟨rfl, rfl, rfl⟩ | ⟨n, e, rfl, h1, h4, hl⟩
    · refine ⟨1, ends_new (fun u x q => by simp at q), by omega, by omega, ?_⟩
      rw [decide_eq_false (by omega)]; rfl
    · by_cases q : b = last
      · subst q
        exact ⟨n + 1, ends_more e, by omega, by omega, by rw [decide_eq_true rfl]; rfl⟩
      · refine ⟨1, ends_new (fun u x z => ?_), by omega, by omega, by rw [decide_eq_false q]; rfl⟩
        rw [ends_last e h1 u x z]
        exact fun z => q z.symm
  have hw1 : Bits (wire ++ [b]) := hw.app (Bits.one hb)
  have hk := looks (wire ++ [b]) n b hb hw1 e h1 h5
  have hb' : 1 - b = 0 ∨ 1 - b = 1 := by omega
  unfold m_put_in_L0 m__law_wire_L0
  rw [ltv_eq, appG_ok (by omega), bnd_some, bnd_some, hr, hk]
  by_cases h : n = 5
  · subst h
    rw [decide_eq_true (show ((5 : Nat) : Int) = 5 from rfl), ifB_t, decide_eq_true rfl, ifB_t, ltv_eq, xor1 hb]
    rw [appG_ok (by simp; omega), bnd_some, bnd_some]
    refine ⟨_, _, _, rfl, rfl, .inr ⟨1, ends_new (fun u x q => ?_), rfl, by omega, by omega, hb'⟩, hw1.app (Bits.one hb'), by simp⟩
    rw [ends_last e h1 u x q]
    omega
  · rw [decide_eq_false (show ¬ ((n : Nat) : Int) = 5 by omega), ifB_f, decide_eq_false h, ifB_f]
    exact ⟨_, _, _, rfl, rfl, .inr ⟨n, e, rfl, h1, by omega, hb⟩, hw1, by simp⟩
theorem both : ∀ (bits wire : List Int) (run last : Int), Bits bits → Bits wire → WInv wire run last → wire.length + 2 * bits.length ≤ 100000 →
    ∃ w' r' l', loopM (fun x s => m_put_in_L0 x s.1 s.2.1 s.2.2) bits (wire, run, last) = some (w', r', l') ∧ loopM (fun x s => m__law_wire_L0 x s) bits wire = some w' ∧ w'.length ≤ wire.length + 2 * bits.length
  | [], wire, run, last, _, _, _, _ => ⟨wire, run, last, rfl, rfl, by simp⟩
  | b :: r, wire, run, last, hb, hw, I, hz => by
    simp only [List.length_cons] at hz
    obtain ⟨w', r', l', h1, h2, I', hw', hl⟩ := turn (hb b (List.Mem.head _)) hw I (by omega)
    obtain ⟨w2, r2, l2, h3, h4, h5⟩ := both r w' r' l' (fun c hc => hb c (List.Mem.tail _ hc)) hw' I' (by omega)
    refine ⟨w2, r2, l2, ?_, ?_, by simp only [List.length_cons]; omega⟩
    · show bnd (m_put_in_L0 b wire run last) _ = _
      rw [h1]
      exact h3
    · show bnd (m__law_wire_L0 b wire) _ = _
      rw [h2]
      exact h4
theorem wires (bits : List Int) (h : Bits bits) (hz : bits.length ≤ 1000) : ∃ w, m_put_in bits = some w ∧ m__law_wire bits = some w ∧ w.length ≤ 2000 := by
  obtain ⟨w, r, l, h1, h2, h3⟩ := both bits [] 0 (-1) h (fun _ q => nomatch q) (.inl ⟨rfl, rfl, rfl⟩) (by simp; omega)
  refine ⟨w, ?_, ?_, by simp at h3; omega⟩
  · unfold m_put_in
    rw [ltv_eq, h1, bnd_some]
  · unfold m__law_wire
    rw [h2, bnd_some]
theorem good_ok (bits : List Int) (h : Bits bits) (hz : bits.length ≤ 1000) : m__law_good bits = some true := by
  obtain ⟨w, h1, h2, h3⟩ := wires bits h hz
  unfold m__law_good
  rw [h1, bnd_some, h2]
  simp only [bnd_some, Bool.not_true, ifB_f, decide_true, Bool.or_false]
  rw [loopF_unit (fun _ _ => rfl), fin_nx, appG_ok (by omega), bnd_some, appG_ok (by omega), bnd_some, catG_ok (by simp; omega)]
  simp [bnd_some, ifB_t]
theorem draw2 (ns : List Int) (k : Int) (hk : 0 ≤ k) (hk2 : k ≤ 1000000000) : ∃ v, m__law_draw ns k 2 = some v ∧ (v = 0 ∨ v = 1) := by
  obtain ⟨v, h1, h2, h3⟩ := draw_ok ns k 2 hk hk2 (by decide)
  exact ⟨v, h1, by omega⟩
theorem row_ok (ns : List Int) (many : Int) (h0 : 0 ≤ many) (h1 : many ≤ 1000) : ∃ row, m__law_row ns many = some row ∧ Bits row ∧ row.length = many := by
  unfold m__law_row
  obtain ⟨slow, e1, s1, s2⟩ := draw_ok ns 1 4 (by decide) (by decide) (by decide)
  rw [e1, bnd_some, rng1_ok (by omega) (by omega), bnd_some]
  obtain ⟨out, e2, hb, hl⟩ := loopM_rng (f := fun k s => m__law_row_L0 ns slow k s) (hi := many) (fun i s => 0 ≤ i ∧ Bits s ∧ (s.length : Int) = i) (fun i s hi ⟨h0, hb, hl⟩ => by
    unfold m__law_row_L0
    obtain ⟨bit, e3, hbit⟩ := draw2 ns (7 + i) (by omega) (by omega)
    rw [e3, bnd_some]
    have hc : ∃ c : Bool, (ifB (decide ((0 : Int) < slow)) (bnd (ifB (decide ((0 : Int) < i)) (bnd (m__law_draw ns (((3 : Int) * i) + (5 : Int)) ((2 : Int) + ((2 : Int) * slow))) fun law_dr_19 => some (decide ((0 : Int) < law_dr_19))) (some false)) fun c_23 => some c_23) (some false)) = some c ∧ (c = true → 0 < i) := by
      by_cases a : 0 < slow
      · rw [decide_eq_true a, ifB_t]
        by_cases b : 0 < i
        · rw [decide_eq_true b, ifB_t]
          obtain ⟨v, e4, _, _⟩ := draw_ok ns (3 * i + 5) (2 + 2 * slow) (by omega) (by omega) (by omega)
          rw [e4]
          exact ⟨_, rfl, fun _ => b⟩
        · rw [decide_eq_false b, ifB_f]
          exact ⟨false, rfl, fun q => nomatch q⟩
      · rw [decide_eq_false a, ifB_f]
        exact ⟨false, rfl, fun q => nomatch q⟩
    obtain ⟨c, e5, hc⟩ := hc
    rw [bnd_of e5]
    have hd : ∃ d, (ifB c (bnd (atI s (i - (1 : Int))) fun e => some e) (some bit)) = some d ∧ (d = 0 ∨ d = 1) := by
      cases c with
      | true =>
        have := hc rfl
        obtain ⟨x, e6, hx⟩ := atI_mem (xs := s) (i := i - 1) (by omega) (by omega)
        exact ⟨x, by rw [ifB_t, e6]; rfl, hb x hx⟩
      | false => exact ⟨bit, rfl, hbit⟩
    obtain ⟨d, e6, hd⟩ := hd
    rw [bnd_of e6, appG_ok (by omega), bnd_some]
    exact ⟨_, rfl, by omega, hb.app (Bits.one hd), by simp; omega⟩) _ 0 [] rfl h0 ⟨by omega, fun _ q => (nomatch q), rfl⟩
  rw [e2, bnd_some]
  exact ⟨out, rfl, hl.1, hl.2⟩
theorem law_true (ns : List Int) (hn : ns.length ≤ 63) : m_law ns = some true := by
  unfold m_law
  obtain ⟨many, e1, h1, h2⟩ := draw_ok ns 0 61 (by decide) (by decide) (by decide)
  obtain ⟨five, e2, _, _⟩ := draw_ok ns 2 5 (by decide) (by decide) (by decide)
  rw [e1, bnd_some, e2, bnd_some]
  obtain ⟨m, e3, h3, h4⟩ : ∃ m, (ifB (decide (five = (1 : Int))) (some (many + (260 : Int))) (some many)) = some m ∧ 0 ≤ m ∧ m ≤ 1000 := by
    by_cases c : five = 1
    · exact ⟨_, by rw [decide_eq_true c, ifB_t], by omega, by omega⟩
    · exact ⟨_, by rw [decide_eq_false c, ifB_f], by omega, by omega⟩
  rw [bnd_of e3]
  obtain ⟨row, e4, hb, hl⟩ := row_ok ns m h3 h4
  obtain ⟨v, e5, hv⟩ := draw2 ns 3 (by decide) (by decide)
  rw [e4, bnd_some, good_ok row hb (by omega), bnd_some, ifB_t, e5, bnd_some, repG_ok h3 (by omega) (by simp; omega), bnd_some, good_ok, bnd_some, bnd_some]
  · intro b hb
    obtain ⟨l, hl, hb⟩ := List.mem_flatten.mp hb
    rw [List.eq_of_mem_replicate hl] at hb
    rw [List.mem_singleton.mp hb]
    exact hv
  · simp
    omega
end Bt

open PySem PySem.W PyProof.Rows in
set_option maxRecDepth 100000 in
set_option maxHeartbeats 0 in
theorem PySem.Challenge.cw_bitrail_k13_bits_put_in_holds : PySem.Challenge.rw_bitrail_k13_bits_put_in.Holds := by
  w_on; o_law; k_head; (case hw => w_witness2)
  k_fill
  refine Bt.walk Bt.law_true (l := PySem.Challenge.rw_bitrail_k13_bits_put_in) rfl rfl (fun w h Y => PySem.W.kIn_of Y) ?F
  case F =>
    intro w mg fa h KX G hmg
    obtain ⟨f_put_in, fd_put_in, F_put_in, g_put_in⟩ : ∃ f fd, L2.Fun _ "put_in" "put_in" Bt.s_put_in f fd ∧ mg "put_in" = some (.ref f) := by
      refine' Bt.def_mk KX G ?a ?l ?c ?k
      (case a => k_is)
      (case l => k_is)
      (case c => k_is)
      (case k => k_is)
    obtain ⟨f__law_draw, fd__law_draw, F__law_draw, g__law_draw⟩ : ∃ f fd, L2.Fun _ "_law_draw" "_law_draw" Bt.s__law_draw f fd ∧ mg "_law_draw" = some (.ref f) := by
      refine' Bt.def_mk KX G ?a ?l ?c ?k
      (case a => k_is)
      (case l => k_is)
      (case c => k_is)
      (case k => k_is)
    obtain ⟨f__law_row, fd__law_row, F__law_row, g__law_row⟩ : ∃ f fd, L2.Fun _ "_law_row" "_law_row" Bt.s__law_row f fd ∧ mg "_law_row" = some (.ref f) := by
      refine' Bt.def_mk KX G ?a ?l ?c ?k
      (case a => k_is)
      (case l => k_is)
      (case c => k_is)
      (case k => k_is)
    obtain ⟨f__law_wire, fd__law_wire, F__law_wire, g__law_wire⟩ : ∃ f fd, L2.Fun _ "_law_wire" "_law_wire" Bt.s__law_wire f fd ∧ mg "_law_wire" = some (.ref f) := by
      refine' Bt.def_mk KX G ?a ?l ?c ?k
      (case a => k_is)
      (case l => k_is)
      (case c => k_is)
      (case k => k_is)
    obtain ⟨f__law_good, fd__law_good, F__law_good, g__law_good⟩ : ∃ f fd, L2.Fun _ "_law_good" "_law_good" Bt.s__law_good f fd ∧ mg "_law_good" = some (.ref f) := by
      refine' Bt.def_mk KX G ?a ?l ?c ?k
      (case a => k_is)
      (case l => k_is)
      (case c => k_is)
      (case k => k_is)
    obtain ⟨f_law, fd_law, F_law, g_law⟩ : ∃ f fd, L2.Fun _ "law" "law" Bt.s_law f fd ∧ mg "law" = some (.ref f) := by
      refine' Bt.def_mk KX G ?a ?l ?c ?k
      (case a => k_is)
      (case l => k_is)
      (case c => k_is)
      (case k => k_is)
    have z_bool : mg "bool" = none := PySem.W.mg_none_of KX G (by k_is)
    have z_int : mg "int" = none := PySem.W.mg_none_of KX G (by k_is)
    have z_isinstance : mg "isinstance" = none := PySem.W.mg_none_of KX G (by k_is)
    have z_len : mg "len" = none := PySem.W.mg_none_of KX G (by k_is)
    have z_list : mg "list" = none := PySem.W.mg_none_of KX G (by k_is)
    have z_range : mg "range" = none := PySem.W.mg_none_of KX G (by k_is)
    have z_sum : mg "sum" = none := PySem.W.mg_none_of KX G (by k_is)
    cases hmg.symm.trans g_law
    refine ⟨fd_law, ?_, fun base _ _ => Bt.ok_law (ad := ⟨f_put_in, fd_put_in, f__law_draw, fd__law_draw, f__law_row, fd__law_row, f__law_wire, fd__law_wire, f__law_good, fd__law_good, fa, fd_law⟩) ⟨F_put_in, g_put_in, F_put_in.binds (ps := ["bits"]) fun _ _ _ _ _ _ us hl => match us, hl with | [_], _ => rfl, F__law_draw, g__law_draw, F__law_draw.binds (ps := ["script", "k", "many"]) fun _ _ _ _ _ _ us hl => match us, hl with | [_, _, _], _ => rfl, F__law_row, g__law_row, F__law_row.binds (ps := ["script", "many"]) fun _ _ _ _ _ _ us hl => match us, hl with | [_, _], _ => rfl, F__law_wire, g__law_wire, F__law_wire.binds (ps := ["bits"]) fun _ _ _ _ _ _ us hl => match us, hl with | [_], _ => rfl, F__law_good, g__law_good, F__law_good.binds (ps := ["bits"]) fun _ _ _ _ _ _ us hl => match us, hl with | [_], _ => rfl, F_law, g_law, F_law.binds (ps := ["script"]) fun _ _ _ _ _ _ us hl => match us, hl with | [_], _ => rfl, z_bool, z_int, z_isinstance, z_len, z_list, z_range, z_sum⟩⟩
    obtain ⟨oc, od, kV, doc, pm, an, cdv, ct, osl, rfl, lk, hcd⟩ := F_law.ex
    exact fun s u => .of_eq rfl
